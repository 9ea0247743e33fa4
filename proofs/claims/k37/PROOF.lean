import PyProof.Rows.All
import Wide.All
import OpenK.AllK
import Wide.FinOn
import KE.KStateDown
import Lean
import HandS.ForExc
import HandS.More
import HandS.Words
import HandS.WordsExc
import HandS.Defaults
import HandS.Wide
import HandS.Comp
import HandS.Iter
import HandS.Flow
import HandS.Style
import HandS.Head0
import HandS.Head1
import HandS.Head2
import HandS.HeadEnd
import HandS.HeadHook1
import HandS.HeadHook2
import PyProof.Rows.TupAdd
import HandS.TupMul
import HandS.IsInst
import HandS.Conv
import HandS.Text
import PyProof.ReprRoads
import HandS.TupAny
import HandS.Deep
import HandS.SortKw
import KE.DatumOrd
import KE.GoesMore
import HandS.ExcInit
import HandS.ExcIs
import HandS.ExcField
import HandS.CallSlots
import KE.KExcIs
import KE.GoesEnum
import HandS.MakeKw
import HandS.Small
import KE.DataAny
import HandS.MakeKwOnly
import HandS.Set
import HandS.Strs
import HandS.ListItems
import KE.DataCmp
import HandS.WordsDict
import KE.SortData
import HandS.TupSets
import PySem.Challenge.RW_leastjournal_k37_plans_of_any_value
set_option Elab.async false
set_option linter.all false
set_option maxRecDepth 100000
set_option maxHeartbeats 4000000
namespace Lf
open PySem PySem.Spec L2
/-- a value: tuples are trees; ob i: the i-th mutable object of the store; scr: the script -/
inductive U where
  | non | bl (b : Bool) | int (i : Int) | str (x : Str) | tup (xs : List U) | ob (i : Nat) | scr (ns : List Int) | raw (v : V)
/-- an exception: its class's name, its fields -/
structure Ex where
  cls : Str
  fs : List (Str × U)
inductive O where
  | lst (xs : List U)
  | dic (kvs : List (U × U))
  | ins (C : Str) (fs : List (Str × U))
  | exc (C : Str) (fs : List (Str × U))
  | lk (kvs : List (U × U))
abbrev Sto := List O
inductive R (α : Type) where
  | no
  | ok (a : α) (T : Sto)
  | ex (e : Ex) (T : Sto)
abbrev M (α : Type) := Sto → R α
def R.bind {α β : Type} : R α → (α → M β) → R β
  | .no, _ => .no
  | .ok a T, k => k a T
  | .ex e T, _ => .ex e T
@[simp] theorem R.bind_no {α β : Type} (k : α → M β) : R.bind (.no : R α) k = .no := rfl
@[simp] theorem R.bind_ok {α β : Type} (a : α) (T : Sto) (k : α → M β) : R.bind (.ok a T) k = k a T := rfl
@[simp] theorem R.bind_ex {α β : Type} (e : Ex) (T : Sto) (k : α → M β) : R.bind (.ex e T : R α) k = .ex e T := rfl
/-- the locals by slot -/
abbrev Lo := List (Option U)
/-- a list that nobody writes: known whole, or a constant of the module -/
def RF (K : PySem.W.Frag) (H : Hp) (a : Addr) (xs : List V) : Prop :=
  (∃ o, H a = some (.frz o (.lst xs))) ∨
    ∃ (o : Obj) (its : Array Value) (n : Nat), K.lookup a = some o ∧ o.cls = .type "list" ∧ o.dict = none ∧ o.data = .seq its n ∧ its.size ≤ sizeLine ∧ Vals xs its.toList
theorem RF.sq {K : PySem.W.Frag} {H : Hp} {a : Addr} {xs : List V} (h : RF K H a xs) : SqL K H a xs := by
  rcases h with ⟨o, h⟩ | h
  · exact .inl (.inr ⟨o, h⟩)
  · exact .inr h
mutual
inductive RV (K : PySem.W.Frag) (ρ : List Addr) (H : Hp) : U → V → Prop
  | non : RV K ρ H .non .non
  | bl (b : Bool) : RV K ρ H (.bl b) (.bl b)
  | int (i : Int) : RV K ρ H (.int i) (.int i)
  | str (x : Str) : RV K ρ H (.str x) (.str x)
  | tup {a : Addr} {vs : List V} {us : List U} : SqT K H a vs → RVs K ρ H us vs → RV K ρ H (.tup us) (.ref a)
  | ob {i : Nat} {a : Addr} : ρ[i]? = some a → RV K ρ H (.ob i) (.ref a)
  | scr {a : Addr} {ns : List Int} : RF K H a (ns.map V.int) → RV K ρ H (.scr ns) (.ref a)
  | raw (v : V) : RV K ρ H (.raw v) v
inductive RVs (K : PySem.W.Frag) (ρ : List Addr) (H : Hp) : List U → List V → Prop
  | nil : RVs K ρ H [] []
  | cons {u : U} {v : V} {us : List U} {vs : List V} : RV K ρ H u v → RVs K ρ H us vs → RVs K ρ H (u :: us) (v :: vs)
end
section
variable {K : PySem.W.Frag} {ρ ρ' : List Addr} {H H' : Hp}
mutual
theorem RV.mono (h1 : ∀ (i : Nat) (a : Addr), ρ[i]? = some a → ρ'[i]? = some a) (h2 : ∀ a vs, SqT K H a vs → SqT K H' a vs) (h3 : ∀ a vs, RF K H a vs → RF K H' a vs) : ∀ {u : U} {v : V}, RV K ρ H u v → RV K ρ' H' u v
  | _, _, .non => .non
  | _, _, .bl b => .bl b
  | _, _, .int i => .int i
  | _, _, .str x => .str x
  | _, _, .tup a r => .tup (h2 _ _ a) (RVs.mono h1 h2 h3 r)
  | _, _, .ob e => .ob (h1 _ _ e)
  | _, _, .scr e => .scr (h3 _ _ e)
  | _, _, .raw v => .raw v
theorem RVs.mono (h1 : ∀ (i : Nat) (a : Addr), ρ[i]? = some a → ρ'[i]? = some a) (h2 : ∀ a vs, SqT K H a vs → SqT K H' a vs) (h3 : ∀ a vs, RF K H a vs → RF K H' a vs) : ∀ {us : List U} {vs : List V}, RVs K ρ H us vs → RVs K ρ' H' us vs
  | _, _, .nil => .nil
  | _, _, .cons r s => .cons (RV.mono h1 h2 h3 r) (RVs.mono h1 h2 h3 s)
end
theorem RVs.length : ∀ {us : List U} {vs : List V}, RVs K ρ H us vs → us.length = vs.length
  | _, _, .nil => rfl
  | _, _, .cons _ r => congrArg Nat.succ (RVs.length r)
theorem RVs.get : ∀ {us : List U} {vs : List V} {i : Nat} {u : U}, RVs K ρ H us vs → us[i]? = some u → ∃ v, vs[i]? = some v ∧ RV K ρ H u v
  | _, _, _, _, .nil, e => by simp at e
  | _, _, 0, u, .cons r _, e => by
    simp only [List.getElem?_cons_zero, Option.some.injEq] at e
    subst e
    exact ⟨_, rfl, r⟩
  | _, _, i + 1, u, .cons _ t, e => by
    obtain ⟨v, h1, h2⟩ := RVs.get (i := i) (u := u) t (by simpa using e)
    exact ⟨v, by simpa using h1, h2⟩
theorem RVs.set {u : U} {v : V} (r : RV K ρ H u v) : ∀ {us : List U} {vs : List V} (i : Nat), RVs K ρ H us vs → RVs K ρ H (us.set i u) (vs.set i v)
  | _, _, _, .nil => .nil
  | _, _, 0, .cons _ t => .cons r t
  | _, _, i + 1, .cons q t => .cons q (RVs.set r i t)
theorem RVs.append : ∀ {us ws : List U} {vs xs : List V}, RVs K ρ H us vs → RVs K ρ H ws xs → RVs K ρ H (us ++ ws) (vs ++ xs)
  | _, _, _, _, .nil, s => s
  | _, _, _, _, .cons r t, s => .cons r (RVs.append t s)
theorem RVs.take : ∀ {us : List U} {vs : List V} (n : Nat), RVs K ρ H us vs → RVs K ρ H (us.take n) (vs.take n)
  | _, _, 0, _ => .nil
  | _, _, _ + 1, .nil => .nil
  | _, _, n + 1, .cons r t => .cons r (RVs.take n t)
theorem RVs.drop : ∀ {us : List U} {vs : List V} (n : Nat), RVs K ρ H us vs → RVs K ρ H (us.drop n) (vs.drop n)
  | _, _, 0, r => r
  | _, _, _ + 1, .nil => .nil
  | _, _, n + 1, .cons _ t => RVs.drop n t
theorem RVs.reverse : ∀ {us : List U} {vs : List V}, RVs K ρ H us vs → RVs K ρ H us.reverse vs.reverse
  | _, _, .nil => .nil
  | _, _, .cons r t => by
    rw [List.reverse_cons, List.reverse_cons]
    exact RVs.append (RVs.reverse t) (.cons r .nil)
theorem RVs.ints : ∀ ns : List Int, RVs K ρ H (ns.map U.int) (ns.map V.int)
  | [] => .nil
  | n :: ns => .cons (.int n) (RVs.ints ns)
end
/-- a key of a dict -/
def kU : Key → U
  | .inl i => .int i
  | .inr x => .str x
/-- a caught exception at a, its dict at d -/
def ExK (a C d : Addr) : HO := .ext fun h => ∃ (oe : Obj) (vs : Array Value), h.get? a = some oe ∧ Zc (.ref C) (some d) oe ∧ oe.data = .fields vs
/-- an exception that has no fields -/
def ExN (a C : Addr) : HO := .ext fun h => ∃ (oe : Obj) (vs : Array Value), h.get? a = some oe ∧ Zc (.ref C) none oe ∧ oe.data = .fields vs
/-- an object of the store at an address -/
def RO (K : PySem.W.Frag) (ρ : List Addr) (H : Hp) : O → Addr → Prop
  | .lst xs, a => ∃ vs, H a = some (.lst vs) ∧ RVs K ρ H xs vs
  | .dic kvs, a => (∃ ks, H a = some (.dK ks) ∧ Paired (fun (p : U × U) (q : Key × V) => p.1 = kU q.1 ∧ RV K ρ H p.2 q.2) kvs ks) ∨
      ∃ k0 ks, H a = some (.dT (k0 :: ks)) ∧ Paired (fun (p : U × U) (q : List Key × V) => p.1 = .tup (q.1.map kU) ∧ RV K ρ H p.2 q.2) kvs (k0 :: ks)
  | .ins C fs, a => ∃ dx gs, H a = some (.ins (He.ga K C) dx gs) ∧ Paired (fun (p : Str × U) (q : Str × V) => p.1 = q.1 ∧ RV K ρ H p.2 q.2) fs gs
  | .exc C fs, a => (∃ d gs, H a = some (ExK a (He.ga K C) d) ∧ H d = some (.xd gs) ∧ Paired (fun (p : Str × U) (q : Str × V) => p.1 = q.1 ∧ RV K ρ H p.2 q.2) fs gs) ∨ (fs = [] ∧ H a = some (ExN a (He.ga K C)))
  | .lk kvs, a => ∃ od ks, H a = some (.frz od (.dK ks)) ∧ Paired (fun (p : U × U) (q : Key × V) => p.1 = kU q.1 ∧ RV K ρ H p.2 q.2) kvs ks
/-- what may stand at an object's address -/
def Live : HO → Prop
  | .lst _ => True
  | .dK _ => True
  | .dT _ => True
  | .ins _ _ _ => True
  | .ext _ => True
  | .frz _ (.dK _) => True
  | _ => False
theorem RO.live {K : PySem.W.Frag} {ρ : List Addr} {H : Hp} {o : O} {a : Addr} (h : RO K ρ H o a) : ∃ x, H a = some x ∧ Live x := by
  cases o with
  | lst xs => obtain ⟨vs, e, _⟩ := h; exact ⟨_, e, trivial⟩
  | dic kvs =>
    rcases h with ⟨ks, e, _⟩ | ⟨k0, ks, e, _⟩
    · exact ⟨_, e, trivial⟩
    · exact ⟨_, e, trivial⟩
  | ins C fs => obtain ⟨dx, gs, e, _⟩ := h; exact ⟨_, e, trivial⟩
  | lk kvs => obtain ⟨od, ks, e, _⟩ := h; exact ⟨_, e, trivial⟩
  | exc C fs =>
    rcases h with ⟨d, gs, e, _⟩ | ⟨_, e⟩
    · exact ⟨_, e, trivial⟩
    · exact ⟨_, e, trivial⟩
structure RS (K : PySem.W.Frag) (ρ : List Addr) (H : Hp) (T : Sto) : Prop where
  len : ρ.length = T.length
  nd : ρ.Nodup
  at_ : ∀ (i : Nat) (o : O) (a : Addr), T[i]? = some o → ρ[i]? = some a → RO K ρ H o a
structure RE (K : PySem.W.Frag) (ρ : List Addr) (H : Hp) (η : Lo) (σ : St) : Prop where
  len : η.length = σ.length
  at_ : ∀ (i : Nat) (u : U), η[i]? = some (some u) → ∃ v, σ[i]? = some (some v) ∧ RV K ρ H u v
/-- the abstract heap grows: what is no object of the store stays -/
structure Gr (K : PySem.W.Frag) (ρ : List Addr) (H : Hp) (ρ' : List Addr) (H' : Hp) : Prop where
  pre : ∀ (i : Nat) (a : Addr), ρ[i]? = some a → ρ'[i]? = some a
  sq : ∀ a vs, SqT K H a vs → SqT K H' a vs
  rf : ∀ a vs, RF K H a vs → RF K H' a vs
  kp : ∀ a o, a ∉ ρ → H a = some o → H' a = some o
  nw : ∀ a ∈ ρ', a ∉ ρ → H a = none
  xd : ∀ a gs, H a = some (.xd gs) → H' a = some (.xd gs)
  fz : ∀ a o u, H a = some (.frz o (.dK u)) → H' a = some (.frz o (.dK u))
/-- no locked dict stands there -/
def NF (H : Hp) (a : Addr) : Prop := ∀ o u, H a ≠ some (.frz o (.dK u))
theorem nf_lst {H : Hp} {a : Addr} {vs : List V} (h : H a = some (.lst vs)) : NF H a := fun _ _ z => by rw [h] at z; cases z
theorem nf_ins {H : Hp} {a C dx : Addr} {gs : List (Str × V)} (h : H a = some (.ins C dx gs)) : NF H a := fun _ _ z => by rw [h] at z; cases z
theorem nf_dK {H : Hp} {a : Addr} {ks : List (Key × V)} (h : H a = some (.dK ks)) : NF H a := fun _ _ z => by rw [h] at z; cases z
theorem nf_dT {H : Hp} {a : Addr} {ks : List (List Key × V)} (h : H a = some (.dT ks)) : NF H a := fun _ _ z => by rw [h] at z; cases z
theorem nf_none {H : Hp} {a : Addr} (h : H a = none) : NF H a := fun _ _ z => by rw [h] at z; cases z
theorem fz_upd {H : Hp} {a b : Addr} {x : HO} {o : Obj} {u : List (Key × V)} (h : NF H b) (q : H a = some (.frz o (.dK u))) : upd H b x a = some (.frz o (.dK u)) := by
  rw [upd_ne ?_]
  · exact q
  · rintro rfl
    exact h _ _ q
section
variable {K : PySem.W.Frag} {ρ ρ' ρ1 ρ2 : List Addr} {H H' H1 H2 : Hp} {T : Sto}
theorem Gr.refl : Gr K ρ H ρ H := ⟨fun _ _ e => e, fun _ _ e => e, fun _ _ e => e, fun _ _ _ e => e, fun _ h n => absurd h n, fun _ _ e => e, fun _ _ _ e => e⟩
theorem Gr.trans (g : Gr K ρ H ρ1 H1) (k : Gr K ρ1 H1 ρ2 H2) : Gr K ρ H ρ2 H2 where
  pre := fun i a e => k.pre i a (g.pre i a e)
  sq := fun a vs e => k.sq a vs (g.sq a vs e)
  rf := fun a vs e => k.rf a vs (g.rf a vs e)
  kp := fun a o n e => k.kp a o (fun h => by
    have := g.nw a h n
    rw [e] at this
    cases this) (g.kp a o n e)
  nw := fun a h n => by
    by_cases m : a ∈ ρ1
    · exact g.nw a m n
    · have e := k.nw a h m
      cases q : H a with
      | none => rfl
      | some o =>
        rw [g.kp a o n q] at e
        cases e
  xd := fun a gs e => k.xd a gs (g.xd a gs e)
  fz := fun a o u e => k.fz a o u (g.fz a o u e)
theorem RV.gr {u : U} {v : V} (r : RV K ρ H u v) (g : Gr K ρ H ρ' H') : RV K ρ' H' u v := r.mono g.pre g.sq g.rf
theorem RVs.gr {us : List U} {vs : List V} (r : RVs K ρ H us vs) (g : Gr K ρ H ρ' H') : RVs K ρ' H' us vs := r.mono g.pre g.sq g.rf
theorem RE.gr {η : Lo} {σ : St} (r : RE K ρ H η σ) (g : Gr K ρ H ρ' H') : RE K ρ' H' η σ :=
  ⟨r.len, fun i u e => let ⟨v, h1, h2⟩ := r.at_ i u e; ⟨v, h1, h2.gr g⟩⟩
theorem RE.set {η : Lo} {σ : St} {u : U} {v : V} (r : RE K ρ H η σ) (i : Nat) (h : RV K ρ H u v) : RE K ρ H (η.set i (some u)) (σ.set i (some v)) := by
  refine ⟨by rw [List.length_set, List.length_set]; exact r.len, fun j w e => ?_⟩
  by_cases hj : i = j
  · subst hj
    rw [List.getElem?_set] at e
    simp only [if_pos] at e
    split at e
    · rename_i hl
      cases e
      exact ⟨v, by rw [List.getElem?_set_self (by rw [← r.len]; exact hl)], h⟩
    · cases e
  · rw [List.getElem?_set_ne hj] at e
    obtain ⟨x, h1, h2⟩ := r.at_ j w e
    exact ⟨x, by rw [List.getElem?_set_ne hj]; exact h1, h2⟩
theorem RO.gr {o : O} {a : Addr} (h : RO K ρ H o a) (g : Gr K ρ H ρ' H') (e : H' a = H a) : RO K ρ' H' o a := by
  cases o with
  | lst xs => obtain ⟨vs, e1, r⟩ := h; exact ⟨vs, e.trans e1, r.gr g⟩
  | dic kvs =>
    rcases h with ⟨ks, e1, r⟩ | ⟨k0, ks, e1, r⟩
    · exact .inl ⟨ks, e.trans e1, Paired.mapP r fun _ _ z => ⟨z.1, z.2.gr g⟩⟩
    · exact .inr ⟨k0, ks, e.trans e1, Paired.mapP r fun _ _ z => ⟨z.1, z.2.gr g⟩⟩
  | ins C fs => obtain ⟨dx, gs, e1, r⟩ := h; exact ⟨dx, gs, e.trans e1, Paired.mapP r fun _ _ z => ⟨z.1, z.2.gr g⟩⟩
  | lk kvs => obtain ⟨od, ks, e1, r⟩ := h; exact ⟨od, ks, e.trans e1, Paired.mapP r fun _ _ z => ⟨z.1, z.2.gr g⟩⟩
  | exc C fs =>
    rcases h with ⟨d, gs, e1, e2, r⟩ | ⟨e1, e2⟩
    · exact .inl ⟨d, gs, e.trans e1, g.xd d gs e2, Paired.mapP r fun _ _ z => ⟨z.1, z.2.gr g⟩⟩
    · exact .inr ⟨e1, e.trans e2⟩
theorem RO.mono0 {o : O} {a : Addr} (h : RO K ρ H o a) (h2 : ∀ a vs, SqT K H a vs → SqT K H' a vs) (h3 : ∀ a vs, RF K H a vs → RF K H' a vs) (h4 : ∀ a gs, H a = some (.xd gs) → H' a = some (.xd gs)) (e : H' a = H a) : RO K ρ H' o a := by
  have h1 : ∀ (i : Nat) (a : Addr), ρ[i]? = some a → ρ[i]? = some a := fun _ _ e => e
  cases o with
  | lst xs => obtain ⟨vs, e1, r⟩ := h; exact ⟨vs, e.trans e1, r.mono h1 h2 h3⟩
  | dic kvs =>
    rcases h with ⟨ks, e1, r⟩ | ⟨k0, ks, e1, r⟩
    · exact .inl ⟨ks, e.trans e1, Paired.mapP r fun _ _ z => ⟨z.1, z.2.mono h1 h2 h3⟩⟩
    · exact .inr ⟨k0, ks, e.trans e1, Paired.mapP r fun _ _ z => ⟨z.1, z.2.mono h1 h2 h3⟩⟩
  | ins C fs => obtain ⟨dx, gs, e1, r⟩ := h; exact ⟨dx, gs, e.trans e1, Paired.mapP r fun _ _ z => ⟨z.1, z.2.mono h1 h2 h3⟩⟩
  | lk kvs => obtain ⟨od, ks, e1, r⟩ := h; exact ⟨od, ks, e.trans e1, Paired.mapP r fun _ _ z => ⟨z.1, z.2.mono h1 h2 h3⟩⟩
  | exc C fs =>
    rcases h with ⟨d, gs, e1, e2, r⟩ | ⟨e1, e2⟩
    · exact .inl ⟨d, gs, e.trans e1, h4 d gs e2, Paired.mapP r fun _ _ z => ⟨z.1, z.2.mono h1 h2 h3⟩⟩
    · exact .inr ⟨e1, e.trans e2⟩
theorem RS.get (s : RS K ρ H T) {i : Nat} {o : O} (e : T[i]? = some o) : ∃ a, ρ[i]? = some a ∧ RO K ρ H o a := by
  have hi : i < ρ.length := by rw [s.len]; exact (List.getElem?_eq_some_iff.mp e).1
  exact ⟨ρ[i], by simp [hi], s.at_ i o _ e (by simp [hi])⟩
theorem RS.has (s : RS K ρ H T) {a : Addr} (h : a ∈ ρ) : ∃ (i : Nat) (o : O), T[i]? = some o ∧ ρ[i]? = some a ∧ RO K ρ H o a := by
  obtain ⟨i, hi, e⟩ := List.mem_iff_getElem.mp h
  have hi' : i < T.length := by rw [← s.len]; exact hi
  exact ⟨i, T[i], by simp [hi'], by simp [hi, e], s.at_ i _ _ (by simp [hi']) (by simp [hi, e])⟩
theorem RS.live (s : RS K ρ H T) {a : Addr} (h : a ∈ ρ) : ∃ x, H a = some x ∧ Live x := by
  obtain ⟨_, _, _, _, r⟩ := s.has h
  exact r.live
/-- a live place is changed to a live one, or a free one filled: tuples and the script stay -/
theorem sq_upd {a b : Addr} {x : HO} {vs : List V} (h : H b = none ∨ ∃ y, H b = some y ∧ Live y) (q : SqT K H a vs) : SqT K (upd H b x) a vs := by
  rcases q with (q | ⟨o, q⟩) | q
  · refine .inl (.inl ?_)
    rw [upd_ne ?_]
    · exact q
    · rintro rfl
      rcases h with h | ⟨y, h, l⟩
      · rw [h] at q; cases q
      · rw [h] at q; cases q; exact l
  · refine .inl (.inr ⟨o, ?_⟩)
    rw [upd_ne ?_]
    · exact q
    · rintro rfl
      rcases h with h | ⟨y, h, l⟩
      · rw [h] at q; cases q
      · rw [h] at q; cases q; exact l
  · exact .inr q
theorem rf_upd {a b : Addr} {x : HO} {vs : List V} (h : H b = none ∨ ∃ y, H b = some y ∧ Live y) (q : RF K H a vs) : RF K (upd H b x) a vs := by
  rcases q with ⟨o, q⟩ | q
  · refine .inl ⟨o, ?_⟩
    rw [upd_ne ?_]
    · exact q
    · rintro rfl
      rcases h with h | ⟨y, h, l⟩
      · rw [h] at q; cases q
      · rw [h] at q; cases q; exact l
  · exact .inr q
theorem xd_upd {a b : Addr} {x : HO} {gs : List (Str × V)} (h : H b = none ∨ ∃ y, H b = some y ∧ Live y) (q : H a = some (.xd gs)) : upd H b x a = some (.xd gs) := by
  rw [upd_ne ?_]
  · exact q
  · rintro rfl
    rcases h with h | ⟨y, h, l⟩
    · rw [h] at q; cases q
    · rw [h] at q; cases q; exact l
/-- a place that is no object of the store is filled -/
theorem Gr.fill {p : Addr} {x : HO} (n : H p = none) : Gr K ρ H ρ (upd H p x) :=
  ⟨fun _ _ e => e, fun _ _ q => sq_upd (.inl n) q, fun _ _ q => rf_upd (.inl n) q, fun a o _ e => by rw [upd_ne (ne_of_none e n)]; exact e, fun _ h k => absurd h k, fun _ _ q => xd_upd (.inl n) q, fun _ _ _ q => fz_upd (nf_none n) q⟩
theorem Gr.new {p : Addr} {x : HO} (n : H p = none) : Gr K ρ H (ρ ++ [p]) (upd H p x) :=
  ⟨fun i a e => by rw [List.getElem?_append_left (List.getElem?_eq_some_iff.mp e).1]; exact e, fun _ _ q => sq_upd (.inl n) q, fun _ _ q => rf_upd (.inl n) q, fun a o _ e => by rw [upd_ne (ne_of_none e n)]; exact e, fun a h k => by
    rcases List.mem_append.mp h with h | h
    · exact absurd h k
    · rw [List.mem_singleton.mp h]; exact n, fun _ _ q => xd_upd (.inl n) q, fun _ _ _ q => fz_upd (nf_none n) q⟩
theorem Gr.put {i : Nat} {a : Addr} {x : HO} (s : RS K ρ H T) (e : ρ[i]? = some a) (hf : NF H a := by first | exact nf_lst ‹_› | exact nf_ins ‹_› | exact nf_dK ‹_›) : Gr K ρ H ρ (upd H a x) := by
  have hm : a ∈ ρ := List.mem_of_getElem? e
  have l := s.live hm
  refine ⟨fun _ _ e => e, fun _ _ q => sq_upd (.inr l) q, fun _ _ q => rf_upd (.inr l) q, fun b o n q => ?_, fun _ h k => absurd h k, fun _ _ q => xd_upd (.inr l) q, fun _ _ _ q => fz_upd hf q⟩
  rw [upd_ne (fun z => n (by rw [z]; exact hm))]
  exact q
theorem RS.fill (s : RS K ρ H T) {p : Addr} {x : HO} (n : H p = none) : RS K ρ (upd H p x) T := by
  refine ⟨s.len, s.nd, fun i o a e1 e2 => ?_⟩
  obtain ⟨y, hy, _⟩ := s.live (List.mem_of_getElem? e2)
  exact (s.at_ i o a e1 e2).gr (Gr.fill n) (by rw [upd_ne (ne_of_none hy n)])
theorem RS.new (s : RS K ρ H T) {p : Addr} {x : HO} {o : O} (n : H p = none) (r : RO K (ρ ++ [p]) (upd H p x) o p) : RS K (ρ ++ [p]) (upd H p x) (T ++ [o]) := by
  have np : p ∉ ρ := fun h => by
    obtain ⟨y, hy, _⟩ := s.live h
    rw [n] at hy
    cases hy
  refine ⟨by rw [List.length_append, List.length_append, s.len]; rfl, ?_, fun i u a e1 e2 => ?_⟩
  · rw [List.nodup_append]
    exact ⟨s.nd, by simp, fun a ha b hb => by rw [List.mem_singleton.mp hb]; rintro rfl; exact np ha⟩
  · by_cases hi : i < ρ.length
    · rw [List.getElem?_append_left hi] at e2
      rw [List.getElem?_append_left (by rw [← s.len]; exact hi)] at e1
      obtain ⟨y, hy, _⟩ := s.live (List.mem_of_getElem? e2)
      exact (s.at_ i u a e1 e2).gr (Gr.new n) (by rw [upd_ne (ne_of_none hy n)])
    · have hl : i = ρ.length := by
        have := (List.getElem?_eq_some_iff.mp e2).1
        rw [List.length_append, List.length_singleton] at this
        omega
      subst hl
      rw [List.getElem?_append_right (Nat.le_refl _), Nat.sub_self] at e2
      rw [s.len, List.getElem?_append_right (Nat.le_refl _), Nat.sub_self] at e1
      cases e1
      cases e2
      exact r
theorem RS.put (s : RS K ρ H T) {i : Nat} {a : Addr} {x : HO} {o : O} (e : ρ[i]? = some a) (r : RO K ρ (upd H a x) o a) : RS K ρ (upd H a x) (T.set i o) := by
  refine ⟨by rw [List.length_set]; exact s.len, s.nd, fun j u b e1 e2 => ?_⟩
  have hi := (List.getElem?_eq_some_iff.mp e).1
  by_cases hj : i = j
  · subst hj
    rw [List.getElem?_set_self (by rw [← s.len]; exact hi)] at e1
    cases e1
    rw [e] at e2
    cases e2
    exact r
  · rw [List.getElem?_set_ne hj] at e1
    have l := s.live (List.mem_of_getElem? e)
    refine (s.at_ j u b e1 e2).mono0 (fun _ _ q => sq_upd (.inr l) q) (fun _ _ q => rf_upd (.inr l) q) (fun _ _ q => xd_upd (.inr l) q) ?_
    rw [upd_ne]
    rintro rfl
    have hjl := (List.getElem?_eq_some_iff.mp e2).1
    exact hj ((List.getElem_inj s.nd).mp ((List.getElem?_eq_some_iff.mp e).2.trans (List.getElem?_eq_some_iff.mp e2).2.symm))
end
abbrev Rel (α β : Type) := List Addr → Hp → α → β → Prop
/-- the wish E about exceptions is met by e -/
def XR (K : PySem.W.Frag) (ρ : List Addr) (H : Hp) (E : XK) (e : Ex) (T : Sto) : Prop :=
  ∀ (ρ' : List Addr) (H' : Hp) (d : Addr) (gs : List (Str × V)), Gr K ρ H ρ' H' → RS K ρ' H' T → H' d = some (.xd gs) → Paired (fun (p : Str × U) (q : Str × V) => p.1 = q.1 ∧ RV K ρ' H' p.2 q.2) e.fs gs →
    E (.ref (He.ga K e.cls)) (some d) H'
def OK {α β : Type} (K : PySem.W.Frag) (ρ : List Addr) (H : Hp) (E : XK) (rel : Rel α β) (r : R α) (Q : β → Hp → Prop) : Prop :=
  match r with
  | .no => False
  | .ok a T => ∀ (ρ' : List Addr) (H' : Hp) (b : β), Gr K ρ H ρ' H' → RS K ρ' H' T → rel ρ' H' a b → Q b H'
  | .ex e T => XR K ρ H E e T
section
variable {K : PySem.W.Frag} {ρ ρ' : List Addr} {H H' : Hp} {T : Sto} {E : XK} {α β γ δ : Type} {rel : Rel α β} {rel2 : Rel γ δ}
theorem XR.gr {e : Ex} (h : XR K ρ H E e T) (g : Gr K ρ H ρ' H') : XR K ρ' H' E e T := fun ρ2 H2 d gs g2 s q r => h ρ2 H2 d gs (g.trans g2) s q r
theorem OK.gr {r : R α} {Q : β → Hp → Prop} (h : OK K ρ H E rel r Q) (g : Gr K ρ H ρ' H') : OK K ρ' H' E rel r Q := by
  cases r with
  | no => exact h
  | ok a T => exact fun ρ2 H2 b g2 s q => h ρ2 H2 b (g.trans g2) s q
  | ex e T => exact XR.gr h g
theorem OK.bind {r : R α} {k : α → M γ} {Q : δ → Hp → Prop} (h : OK K ρ H E rel2 (r.bind k) Q) :
    OK K ρ H E rel r (fun b H1 => ∃ (ρ1 : List Addr) (T1 : Sto) (a : α), Gr K ρ H ρ1 H1 ∧ RS K ρ1 H1 T1 ∧ rel ρ1 H1 a b ∧ OK K ρ1 H1 E rel2 (k a T1) Q) := by
  cases r with
  | no => exact h
  | ok a T => exact fun ρ1 H1 b g s q => ⟨ρ1, T, a, g, s, q, OK.gr h g⟩
  | ex e T => exact h
theorem OK.mono {r : R α} {Q Q' : β → Hp → Prop} (h : OK K ρ H E rel r Q) (i : ∀ b H, Q b H → Q' b H) : OK K ρ H E rel r Q' := by
  cases r with
  | no => exact h
  | ok a T => exact fun ρ1 H1 b g s q => i _ _ (h ρ1 H1 b g s q)
  | ex e T => exact h
end
abbrev rV (K : PySem.W.Frag) : Rel U V := fun ρ H u v => RV K ρ H u v
abbrev rVs (K : PySem.W.Frag) : Rel (List U) (List V) := fun ρ H us vs => RVs K ρ H us vs
abbrev rB : Rel Bool Bool := fun _ _ a b => a = b
end Lf
set_option Elab.async false
set_option linter.all false
set_option maxRecDepth 100000
set_option maxHeartbeats 4000000
namespace Lf
open PySem PySem.Spec L2
abbrev FxE := Lo → M U
abbrev FxT := Lo → M Bool
abbrev FxA := Lo → M (List U)
structure FE (X : Cx) (E : XK) (e : Expr) (F : FxE) : Prop where
  ex : ∃ t : TE, PE X e t ∧ ∀ (σ : L2.St) (H : Hp) (ρ : List Addr) (T : Sto) (η : Lo) (Q : V → Hp → Prop), RS X.K ρ H T → RE X.K ρ H η σ → OK X.K ρ H E (rV X.K) (F η T) Q → t σ H Q
structure FT (X : Cx) (E : XK) (e : Expr) (F : FxT) : Prop where
  ex : ∃ t : TT, PT X e t ∧ ∀ (σ : L2.St) (H : Hp) (ρ : List Addr) (T : Sto) (η : Lo) (Q : Bool → Hp → Prop), RS X.K ρ H T → RE X.K ρ H η σ → OK X.K ρ H E rB (F η T) Q → t σ H Q
structure FW (X : Cx) (E : XK) (e : Expr) (F : FxT) : Prop where
  ex : ∃ t : TT, PW X e t ∧ ∀ (σ : L2.St) (H : Hp) (ρ : List Addr) (T : Sto) (η : Lo) (Q : Bool → Hp → Prop), RS X.K ρ H T → RE X.K ρ H η σ → OK X.K ρ H E rB (F η T) Q → t σ H Q
structure FA (X : Cx) (E : XK) (es : List Expr) (F : FxA) : Prop where
  ex : ∃ t : TA, PA X es t ∧ ∀ (σ : L2.St) (H : Hp) (ρ : List Addr) (T : Sto) (η : Lo) (Q : List V → Hp → Prop), RS X.K ρ H T → RE X.K ρ H η σ → OK X.K ρ H E (rVs X.K) (F η T) Q → t σ H Q
def fVar (i : Nat) : FxE := fun η T => match η[i]? with
  | some (some u) => .ok u T
  | _ => .no
def fC (u : U) : FxE := fun _ T => .ok u T
def fBin (g : U → U → M U) (Fa Fb : FxE) : FxE := fun η T => (Fa η T).bind fun u T1 => (Fb η T1).bind fun v T2 => g u v T2
def fUn (g : U → M U) (Fa : FxE) : FxE := fun η T => (Fa η T).bind fun u T1 => g u T1
def fNil : FxA := fun _ T => .ok [] T
def fCons (Fa : FxE) (Fr : FxA) : FxA := fun η T => (Fa η T).bind fun u T1 => (Fr η T1).bind fun us T2 => .ok (u :: us) T2
def fCall (g : List U → M U) (Fa : FxA) : FxE := fun η T => (Fa η T).bind fun us T1 => g us T1
def fTup (Fa : FxA) : FxE := fun η T => (Fa η T).bind fun us T1 => if us.length ≤ 16777216 then .ok (.tup us) T1 else .no
/-- a new object -/
def nw (o : O) : M U := fun T => .ok (.ob T.length) (T ++ [o])
def fLst (Fa : FxA) : FxE := fun η T => (Fa η T).bind fun us T1 => if us.length ≤ 16777216 then nw (.lst us) T1 else .no
def fIfE (Fc : FxT) (Fa Fb : FxE) : FxE := fun η T => (Fc η T).bind fun b T1 => if b = true then Fa η T1 else Fb η T1
def tru (T : Sto) : U → Option Bool
  | .non => some false
  | .bl b => some b
  | .int i => some (i != 0)
  | .str y => if y.length ≤ 16777216 then some ((y.length : Int) != 0) else none
  | .tup xs => some (!xs.isEmpty)
  | .scr ns => some (!ns.isEmpty)
  | .ob i => match T[i]? with
    | some (.lst xs) => some (!xs.isEmpty)
    | _ => none
  | .raw _ => none
def fTru (Fa : FxE) : FxT := fun η T => (Fa η T).bind fun u T1 => match tru T1 u with
  | some b => .ok b T1
  | none => .no
def fBl (Fa : FxE) : FxT := fun η T => (Fa η T).bind fun u T1 => match u with
  | .bl b => .ok b T1
  | _ => .no
def fAnd (Fa Fb : FxT) : FxT := fun η T => (Fa η T).bind fun b T1 => if b = true then Fb η T1 else .ok false T1
def fOr (Fa Fb : FxT) : FxT := fun η T => (Fa η T).bind fun b T1 => if b = true then .ok true T1 else Fb η T1
def fNot (Fa : FxT) : FxT := fun η T => (Fa η T).bind fun b T1 => .ok (!b) T1
def fAndV (Fa Fb : FxE) : FxE := fun η T => (Fa η T).bind fun u T1 => match u with
  | .bl true => Fb η T1
  | .bl false => .ok (.bl false) T1
  | _ => .no
def fOrV (Fa Fb : FxE) : FxE := fun η T => (Fa η T).bind fun u T1 => match u with
  | .bl true => .ok (.bl true) T1
  | .bl false => Fb η T1
  | _ => .no
def fNotV (Fa : FxE) : FxE := fun η T => (Fa η T).bind fun u T1 => match tru T1 u with
  | some b => .ok (.bl (!b)) T1
  | none => .no
def fChain (g h : U → U → M U) (Fa Fb Fc : FxE) : FxE := fun η T => (Fa η T).bind fun u T1 => (Fb η T1).bind fun v T2 => (g u v T2).bind fun z T3 => match z with
  | .bl true => (Fc η T3).bind fun x T4 => h v x T4
  | .bl false => .ok (.bl false) T3
  | _ => .no
section
variable {X : Cx} {E : XK} {ρ : List Addr} {H : Hp} {T : Sto}
/-- a result that changes nothing -/
theorem okV {u : U} {v : V} {Q : V → Hp → Prop} (s : RS X.K ρ H T) (h : OK X.K ρ H E (rV X.K) (.ok u T) Q) (r : RV X.K ρ H u v) : Q v H := h ρ H v Gr.refl s r
theorem okB {b : Bool} {Q : Bool → Hp → Prop} (s : RS X.K ρ H T) (h : OK X.K ρ H E rB (.ok b T) Q) : Q b H := h ρ H b Gr.refl s rfl
theorem okNew {us : List U} {vs : List V} {Q : V → Hp → Prop} (s : RS X.K ρ H T) (h : OK X.K ρ H E (rV X.K) (nw (.lst us) T) Q) (r : RVs X.K ρ H us vs) {p : Addr} (n : H p = none) : Q (.ref p) (upd H p (.lst vs)) :=
  h (ρ ++ [p]) _ (.ref p) (Gr.new n) (s.new n ⟨vs, upd_same, r.gr (Gr.new n)⟩) (.ob (by rw [← s.len, List.getElem?_append_right (Nat.le_refl _), Nat.sub_self]; rfl))
theorem okTup {us : List U} {vs : List V} {Q : V → Hp → Prop} (s : RS X.K ρ H T) (h : OK X.K ρ H E (rV X.K) (.ok (.tup us) T) Q) (r : RVs X.K ρ H us vs) {p : Addr} (n : H p = none) : Q (.ref p) (upd H p (.tup vs)) :=
  h ρ _ (.ref p) (Gr.fill n) (s.fill n) (.tup (SqT.of upd_same) (r.gr (Gr.fill n)))
end
section
variable {X : Cx} {E : XK} {a b c : Expr} {es : List Expr} {pos : Pos} {Fa Fb Fc : FxE} {Fr : FxA} {Ga Gb : FxT}
theorem fe_var (i : Nat) {x : Str} {pos : Pos} (hN : X.N[i]? = some x := by rfl) (hv : Vis X.env.scope x := by first | exact Or.inl rfl | exact Or.inr (Or.inl rfl) | exact Or.inr (Or.inr rfl)) (hd : (x == ("__debug__" : Str)) = false := by decide)
    (hcd : (x == ("__classdict__" : Str)) = false := by decide) : FE X E (.Name x pos) (fVar i) := by
  refine ⟨_, pe_var hN hv hd hcd, fun σ H ρ T η Q s r h => ?_⟩
  unfold fVar at h
  split at h
  · rename_i u e
    obtain ⟨v, h1, h2⟩ := r.at_ i u e
    exact ⟨v, h1, okV s h h2⟩
  · exact False.elim h
theorem fe_int {i j pos} : FE X E (.Constant (.int i) j pos) (fC (.int i)) := ⟨_, pe_int, fun _ _ _ _ _ _ s _ h => okV s h (.int i)⟩
theorem fe_bl {k j pos} : FE X E (.Constant (.bool k) j pos) (fC (.bl k)) := ⟨_, pe_bl, fun _ _ _ _ _ _ s _ h => okV s h (.bl k)⟩
theorem fe_non {j pos} : FE X E (.Constant .none j pos) (fC .non) := ⟨_, pe_non, fun _ _ _ _ _ _ s _ h => okV s h .non⟩
theorem fe_str {x j pos} : FE X E (.Constant (.str x) j pos) (fC (.str x)) := ⟨_, pe_str, fun _ _ _ _ _ _ s _ h => okV s h (.str x)⟩
/-- a two-place operation -/
def FOp (X : Cx) (E : XK) (f : Value → Value → Sem Value) (g : U → U → M U) : Prop :=
  ∃ r : R2, OpR X f r ∧ ∀ (ρ : List Addr) (H : Hp) (T : Sto) (u w : U) (x y : V) (Q : V → Hp → Prop), RS X.K ρ H T → RV X.K ρ H u x → RV X.K ρ H w y → OK X.K ρ H E (rV X.K) (g u w T) Q → r x y H Q
theorem fe_op {op : Operator} {g : U → U → M U} (ho : FOp X E (binaryOp op) g) (ha : FE X E a Fa) (hb : FE X E b Fb) : FE X E (.BinOp a op b pos) (fBin g Fa Fb) := by
  obtain ⟨r, h1, h2⟩ := ho
  obtain ⟨ta, ka, qa⟩ := ha
  obtain ⟨tb, kb, qb⟩ := hb
  refine ⟨_, pe_op h1 ka kb, fun σ H ρ T η Q s re h => ?_⟩
  refine qa σ H ρ T η _ s re (OK.mono (OK.bind h) fun x H1 ⟨ρ1, T1, u, g1, s1, r1, k1⟩ => ?_)
  refine qb σ H1 ρ1 T1 η _ s1 (re.gr g1) (OK.mono (OK.bind k1) fun y H2 ⟨ρ2, T2, w, g2, s2, r2, k2⟩ => ?_)
  exact h2 ρ2 H2 T2 u w x y Q s2 (RV.gr r1 g2) r2 k2
theorem fe_cmp {op : CmpOp} {g : U → U → M U} (ho : FOp X E (compareOp op) g) (ha : FE X E a Fa) (hb : FE X E b Fb) (hm : behindInMarks op b = false := by first | exact nomark _ | rfl) : FE X E (.Compare a [op] [b] pos) (fBin g Fa Fb) := by
  obtain ⟨r, h1, h2⟩ := ho
  obtain ⟨ta, ka, qa⟩ := ha
  obtain ⟨tb, kb, qb⟩ := hb
  refine ⟨_, pe_cmpR h1 ka kb hm, fun σ H ρ T η Q s re h => ?_⟩
  refine qa σ H ρ T η _ s re (OK.mono (OK.bind h) fun x H1 ⟨ρ1, T1, u, g1, s1, r1, k1⟩ => ?_)
  refine qb σ H1 ρ1 T1 η _ s1 (re.gr g1) (OK.mono (OK.bind k1) fun y H2 ⟨ρ2, T2, w, g2, s2, r2, k2⟩ => ?_)
  exact h2 ρ2 H2 T2 u w x y Q s2 (RV.gr r1 g2) r2 k2
theorem ft_cmp {op : CmpOp} {g : U → U → M U} (ho : FOp X E (compareOp op) g) (ha : FE X E a Fa) (hb : FE X E b Fb) (hm : behindInMarks op b = false := by first | exact nomark _ | rfl) : FT X E (.Compare a [op] [b] pos) (fBl (fBin g Fa Fb)) := by
  obtain ⟨r, h1, h2⟩ := ho
  obtain ⟨ta, ka, qa⟩ := ha
  obtain ⟨tb, kb, qb⟩ := hb
  refine ⟨_, pt_cmpR h1 ka kb hm, fun σ H ρ T η Q s re h => ?_⟩
  have h' := OK.bind (rel := rV X.K) h
  refine qa σ H ρ T η _ s re (OK.mono (OK.bind h') fun x H1 ⟨ρ1, T1, u, g1, s1, r1, k1⟩ => ?_)
  refine qb σ H1 ρ1 T1 η _ s1 (re.gr g1) (OK.mono (OK.bind k1) fun y H2 ⟨ρ2, T2, w, g2, s2, r2, k2⟩ => ?_)
  refine h2 ρ2 H2 T2 u w x y _ s2 (RV.gr r1 g2) r2 (OK.mono k2 fun z H3 ⟨ρ3, T3, uz, g3, s3, r3, k3⟩ => ?_)
  cases uz with
  | bl k => cases r3; exact ⟨k, rfl, okB s3 k3⟩
  | _ => exact False.elim k3
theorem fe_chain {op op' : CmpOp} {g g' : U → U → M U} (ho : FOp X E (compareOp op) g) (ho' : FOp X E (compareOp op') g') (ha : FE X E a Fa) (hb : FE X E b Fb) (hc : FE X E c Fc)
    (hm : lastMarks [op, op'] [b, c] = false := by rfl) : FE X E (.Compare a [op, op'] [b, c] pos) (fChain g g' Fa Fb Fc) := by
  obtain ⟨r, h1, h2⟩ := ho
  obtain ⟨r', h1', h2'⟩ := ho'
  obtain ⟨ta, ka, qa⟩ := ha
  obtain ⟨tb, kb, qb⟩ := hb
  obtain ⟨tc, kc, qc⟩ := hc
  refine ⟨_, pe_chain h1 h1' ka kb kc hm, fun σ H ρ T η Q s re h => ?_⟩
  refine qa σ H ρ T η _ s re (OK.mono (OK.bind h) fun x H1 ⟨ρ1, T1, u, g1, s1, r1, k1⟩ => ?_)
  refine qb σ H1 ρ1 T1 η _ s1 (re.gr g1) (OK.mono (OK.bind k1) fun y H2 ⟨ρ2, T2, w, g2, s2, r2, k2⟩ => ?_)
  refine h2 ρ2 H2 T2 u w x y _ s2 (RV.gr r1 g2) r2 (OK.mono (OK.bind k2) fun z H3 ⟨ρ3, T3, uz, g3, s3, r3, k3⟩ => ?_)
  cases uz with
  | bl k =>
    cases r3
    refine ⟨k, rfl, ?_⟩
    cases k with
    | true =>
      refine qc σ H3 ρ3 T3 η _ s3 (re.gr (g1.trans (g2.trans g3))) (OK.mono (OK.bind k3) fun q H4 ⟨ρ4, T4, uq, g4, s4, r4, k4⟩ => ?_)
      exact h2' ρ4 H4 T4 w uq y q _ s4 (RV.gr r2 (g3.trans g4)) r4 k4
    | false => exact okV s3 k3 (.bl false)
  | _ => exact False.elim k3
theorem tru_of {K : PySem.W.Frag} {ρ : List Addr} {H : Hp} {T : Sto} {u : U} {x : V} {k : Bool} (s : RS K ρ H T) (r : RV K ρ H u x) (e : tru T u = some k) : TruV K x H k := by
  cases r with
  | non => cases e; rfl
  | bl b => cases e; rfl
  | int i => cases e; rfl
  | str y =>
    have e : (if y.length ≤ 16777216 then some ((y.length : Int) != 0) else none) = some k := e
    split at e
    · rename_i hl
      cases e
      exact ⟨by rw [sizeLine_eq]; exact hl, rfl⟩
    · cases e
  | tup a rs =>
    cases e
    refine .inr (.inl ⟨_, a, ?_⟩)
    cases rs <;> rfl
  | scr h =>
    cases e
    exact .inl ⟨_, h.sq, by rw [List.isEmpty_map]⟩
  | ob q =>
    rename_i i a
    have e : (match T[i]? with
      | some (.lst xs) => some (!xs.isEmpty)
      | _ => none) = some k := e
    split at e
    · rename_i xs q2
      cases e
      obtain ⟨a, e1, vs, e2, rs⟩ := s.get q2
      rw [q] at e1
      cases e1
      refine .inl ⟨vs, SqL.of e2, ?_⟩
      cases rs <;> rfl
    · cases e
  | raw v => cases e
theorem ft_tru (ha : FE X E a Fa) (he : ∀ whole, isTrue a X.env whole = (do let v ← whole; standAt a.pos; holding [v] (truthy v)) := by intro _; rfl) : FT X E a (fTru Fa) := by
  obtain ⟨ta, ka, qa⟩ := ha
  refine ⟨_, pt_truth ka he, fun σ H ρ T η Q s re h => ?_⟩
  refine qa σ H ρ T η _ s re (OK.mono (OK.bind h) fun x H1 ⟨ρ1, T1, u, g1, s1, r1, k1⟩ => ?_)
  split at k1
  · rename_i k e
    exact ⟨k, tru_of s1 r1 e, okB s1 k1⟩
  · exact False.elim k1
theorem ft_not (ha : FT X E a Ga) : FT X E (.UnaryOp .Not a pos) (fNot Ga) := by
  obtain ⟨ta, ka, qa⟩ := ha
  refine ⟨_, pt_not ka, fun σ H ρ T η Q s re h => ?_⟩
  refine qa σ H ρ T η _ s re (OK.mono (OK.bind h) fun x H1 ⟨ρ1, T1, u, g1, s1, r1, k1⟩ => ?_)
  cases r1
  exact okB s1 k1
theorem fw_or1 (ha : FT X E a Ga) : FW X E (.BoolOp .Or [a] pos) Ga := let ⟨ta, ka, qa⟩ := ha; ⟨ta, pw_or1 ka, qa⟩
theorem fw_or {b : Expr} {rest : List Expr} (ha : FT X E a Ga) (hb : FW X E (.BoolOp .Or (b :: rest) pos) Gb) : FW X E (.BoolOp .Or (a :: b :: rest) pos) (fOr Ga Gb) := by
  obtain ⟨ta, ka, qa⟩ := ha
  obtain ⟨tb, kb, qb⟩ := hb
  refine ⟨_, pw_or ka kb, fun σ H ρ T η Q s re h => ?_⟩
  refine qa σ H ρ T η _ s re (OK.mono (OK.bind h) fun x H1 ⟨ρ1, T1, u, g1, s1, r1, k1⟩ => ?_)
  cases r1
  cases x with
  | true => exact okB s1 k1
  | false => exact qb σ H1 ρ1 T1 η Q s1 (re.gr g1) k1
theorem ft_w (h : FW X E a Ga) : FT X E a Ga := let ⟨ta, ka, qa⟩ := h; ⟨ta, ka.pt, qa⟩
/-- as values -/
theorem fe_one {op} (h : FE X E a Fa) : FE X E (.BoolOp op [a] pos) Fa := let ⟨ta, ka, qa⟩ := h; ⟨ta, pe_one ka, qa⟩
theorem fe_and {b : Expr} {rest : List Expr} (ha : FE X E a Fa) (hb : FE X E (.BoolOp .And (b :: rest) pos) Fb) : FE X E (.BoolOp .And (a :: b :: rest) pos) (fAndV Fa Fb) := by
  obtain ⟨ta, ka, qa⟩ := ha
  obtain ⟨tb, kb, qb⟩ := hb
  refine ⟨_, pe_and ka kb, fun σ H ρ T η Q s re h => ?_⟩
  refine qa σ H ρ T η _ s re (OK.mono (OK.bind h) fun x H1 ⟨ρ1, T1, u, g1, s1, r1, k1⟩ => ?_)
  cases u with
  | bl k =>
    cases r1
    refine ⟨k, rfl, ?_⟩
    cases k with
    | true => exact qb σ H1 ρ1 T1 η Q s1 (re.gr g1) k1
    | false => exact okV s1 k1 (.bl false)
  | _ => exact False.elim k1
theorem fe_not (ha : FE X E a Fa) : FE X E (.UnaryOp .Not a pos) (fNotV Fa) := by
  obtain ⟨ta, ka, qa⟩ := ha
  refine ⟨_, pe_notT ka, fun σ H ρ T η Q s re h => ?_⟩
  refine qa σ H ρ T η _ s re (OK.mono (OK.bind h) fun x H1 ⟨ρ1, T1, u, g1, s1, r1, k1⟩ => ?_)
  split at k1
  · rename_i k e
    exact ⟨k, tru_of s1 r1 e, okV s1 k1 (.bl _)⟩
  · exact False.elim k1
theorem fe_if {c : Expr} {Gc : FxT} (hc : FT X E c Gc) (ha : FE X E a Fa) (hb : FE X E b Fb) : FE X E (.IfExp c a b pos) (fIfE Gc Fa Fb) := by
  obtain ⟨tc, kc, qc⟩ := hc
  obtain ⟨ta, ka, qa⟩ := ha
  obtain ⟨tb, kb, qb⟩ := hb
  refine ⟨_, pe_ifExp kc ka kb, fun σ H ρ T η Q s re h => ?_⟩
  refine qc σ H ρ T η _ s re (OK.mono (OK.bind h) fun x H1 ⟨ρ1, T1, u, g1, s1, r1, k1⟩ => ?_)
  cases r1
  cases x with
  | true => exact qa σ H1 ρ1 T1 η Q s1 (re.gr g1) k1
  | false => exact qb σ H1 ρ1 T1 η Q s1 (re.gr g1) k1
theorem fa_nil : FA X E [] fNil := ⟨_, pa_nil, fun _ _ _ _ _ _ s _ h => h _ _ _ Gr.refl s .nil⟩
theorem fa_cons {e : Expr} {es : List Expr} (ha : FE X E e Fa) (hr : FA X E es Fr) (hs : starEach (e :: es) X.env = (false, eval e X.env) :: starEach es X.env := by rfl) : FA X E (e :: es) (fCons Fa Fr) := by
  obtain ⟨ta, ka, qa⟩ := ha
  obtain ⟨tr, kr, qr⟩ := hr
  refine ⟨_, pa_cons ka kr hs, fun σ H ρ T η Q s re h => ?_⟩
  refine qa σ H ρ T η _ s re (OK.mono (OK.bind h) fun x H1 ⟨ρ1, T1, u, g1, s1, r1, k1⟩ => ?_)
  refine qr σ H1 ρ1 T1 η _ s1 (re.gr g1) (OK.mono (OK.bind k1) fun xs H2 ⟨ρ2, T2, us, g2, s2, r2, k2⟩ => ?_)
  exact k2 _ _ _ Gr.refl s2 (.cons (RV.gr r1 g2) r2)
theorem fe_tup {es : List Expr} {k : Nat} (h : FA X E es Fr) : FE X E (.Tuple es k pos) (fTup Fr) := by
  obtain ⟨tr, kr, qr⟩ := h
  refine ⟨_, pe_tup kr, fun σ H ρ T η Q s re h => ?_⟩
  refine qr σ H ρ T η _ s re (OK.mono (OK.bind h) fun xs H1 ⟨ρ1, T1, us, g1, s1, r1, k1⟩ => ?_)
  split at k1
  · rename_i hl
    exact ⟨by rw [← RVs.length r1, sizeLine_eq]; exact hl, fun p n => okTup s1 k1 r1 n⟩
  · exact False.elim k1
theorem fe_lst {es : List Expr} (h : FA X E es Fr) : FE X E (.List es pos) (fLst Fr) := by
  obtain ⟨tr, kr, qr⟩ := h
  refine ⟨_, pe_lst kr, fun σ H ρ T η Q s re h => ?_⟩
  refine qr σ H ρ T η _ s re (OK.mono (OK.bind h) fun xs H1 ⟨ρ1, T1, us, g1, s1, r1, k1⟩ => ?_)
  split at k1
  · rename_i hl
    exact ⟨by rw [← RVs.length r1, sizeLine_eq]; exact hl, fun p n => okNew s1 k1 r1 n⟩
  · exact False.elim k1
/-- a one-place operation -/
def FUn (X : Cx) (E : XK) (f : Value → Sem Value) (g : U → M U) : Prop :=
  ∃ r : V → Hp → VK → Prop, UnR X f r ∧ ∀ (ρ : List Addr) (H : Hp) (T : Sto) (u : U) (x : V) (Q : V → Hp → Prop), RS X.K ρ H T → RV X.K ρ H u x → OK X.K ρ H E (rV X.K) (g u T) Q → r x H Q
theorem fe_un {op : UnaryOp} {g : U → M U} (ho : FUn X E (unaryOp op) g) (ha : FE X E a Fa) : FE X E (.UnaryOp op a pos) (fUn g Fa) := by
  obtain ⟨r, h1, h2⟩ := ho
  obtain ⟨ta, ka, qa⟩ := ha
  refine ⟨_, pe_un h1 ka, fun σ H ρ T η Q s re h => ?_⟩
  exact qa σ H ρ T η _ s re (OK.mono (OK.bind h) fun x H1 ⟨ρ1, T1, u, g1, s1, r1, k1⟩ => h2 ρ1 H1 T1 u x Q s1 r1 k1)
/-- a call of a built-in value -/
def FCall (X : Cx) (E : XK) (f : Value) (g : List U → M U) : Prop :=
  ∃ r : List V → Hp → VK → Prop, CallR X f r ∧ ∀ (ρ : List Addr) (H : Hp) (T : Sto) (us : List U) (xs : List V) (Q : V → Hp → Prop), RS X.K ρ H T → RVs X.K ρ H us xs → OK X.K ρ H E (rV X.K) (g us T) Q → r xs H Q
theorem fe_callB {id : String} {x : Str} {p : Pos} {e : Expr} {es : List Expr} {g : List U → M U} (hc : FCall X E (.builtin id) g) (hg : Gl X x) (hm : X.mg x = none) (hv : bootBuiltins x = some (.builtin id)) (ha : FA X E (e :: es) Fr) (hn : x ≠ "__name__" := by decide)
    (hdb : (x == ("__debug__" : Str)) = false := by decide) (he : starEach (e :: es) X.env = (false, eval e X.env) :: starEach es X.env := by rfl) (hpl : (backTo pos (starEach es X.env)).any (·.1) = false := by rfl) : FE X E (.Call (.Name x p) (e :: es) [] pos) (fCall g Fr) := by
  obtain ⟨r, h1, h2⟩ := hc
  obtain ⟨tr, kr, qr⟩ := ha
  refine ⟨_, pe_callB h1 hg hm hv kr hn hdb he hpl, fun σ H ρ T η Q s re h => ?_⟩
  exact qr σ H ρ T η _ s re (OK.mono (OK.bind h) fun xs H1 ⟨ρ1, T1, us, g1, s1, r1, k1⟩ => h2 ρ1 H1 T1 us xs Q s1 r1 k1)
theorem fe_callTy {id : String} {x : Str} {p : Pos} {e : Expr} {es : List Expr} {g : List U → M U} (hc : FCall X E (.type id) g) (hg : Gl X x) (hm : X.mg x = none) (hv : bootBuiltins x = some (.type id)) (ha : FA X E (e :: es) Fr) (hn : x ≠ "__name__" := by decide)
    (hdb : (x == ("__debug__" : Str)) = false := by decide) (he : starEach (e :: es) X.env = (false, eval e X.env) :: starEach es X.env := by rfl) (hpl : (backTo pos (starEach es X.env)).any (·.1) = false := by rfl) : FE X E (.Call (.Name x p) (e :: es) [] pos) (fCall g Fr) := by
  obtain ⟨r, h1, h2⟩ := hc
  obtain ⟨tr, kr, qr⟩ := ha
  refine ⟨_, pe_callTy h1 hg hm hv kr hn hdb he hpl, fun σ H ρ T η Q s re h => ?_⟩
  exact qr σ H ρ T η _ s re (OK.mono (OK.bind h) fun xs H1 ⟨ρ1, T1, us, g1, s1, r1, k1⟩ => h2 ρ1 H1 T1 us xs Q s1 r1 k1)
end
end Lf
set_option Elab.async false
set_option linter.all false
set_option maxRecDepth 100000
set_option maxHeartbeats 4000000
namespace Lf
open PySem PySem.Spec L2
theorem sz16 : (sizeLine : Nat) = 16777216 := sizeLine_eq
/-- data: scalars, tuples, lists of such (lists through the store), n deep at most -/
def dats (f : U → Option PyData) : List U → Option (List PyData)
  | [] => some []
  | u :: us => match f u, dats f us with
    | some d, some ds => some (d :: ds)
    | _, _ => none
def dat (T : Sto) : Nat → U → Option PyData
  | _, .non => some .none
  | _, .bl b => some (.bool b)
  | _, .int i => some (.int i)
  | _, .str x => some (.str x)
  | n + 1, .tup xs => (dats (dat T n) xs).map .tuple
  | n + 1, .ob i => match T[i]? with
    | some (.lst xs) => (dats (dat T n) xs).map .list
    | _ => none
  | _, .scr ns => some (.list (ns.map .int))
  | _, _ => none
section
variable {K : PySem.W.Frag} {ρ : List Addr} {H : Hp} {T : Sto}
theorem dpInts : ∀ ns : List Int, DpAll K H (ns.map V.int) (ns.map PyData.int)
  | [] => .nil
  | n :: ns => .cons (.int n) (dpInts ns)
theorem dats_ok {f : U → Option PyData} (hf : ∀ u v d, RV K ρ H u v → f u = some d → Dp K H v d) : ∀ {us : List U} {vs : List V} {ds : List PyData}, RVs K ρ H us vs → dats f us = some ds → DpAll K H vs ds
  | _, _, _, .nil, e => by cases e; exact .nil
  | u :: us, _, ds, .cons r rs, e => by
    unfold dats at e
    split at e
    · rename_i d ds' e1 e2
      cases e
      exact .cons (hf _ _ _ r e1) (dats_ok hf rs e2)
    · cases e
theorem dat_ok (s : RS K ρ H T) : ∀ (n : Nat) (u : U) (v : V) (d : PyData), RV K ρ H u v → dat T n u = some d → Dp K H v d
  | n, u, v, d, r, e => by
    cases r with
    | non => cases n <;> (cases e; exact .non)
    | bl b => cases n <;> (cases e; exact .bl b)
    | int i => cases n <;> (cases e; exact .int i)
    | str x => cases n <;> (cases e; exact .str x)
    | @tup a vs us q rs =>
      cases n with
      | zero => cases e
      | succ n =>
        have e : (dats (dat T n) us).map PyData.tuple = some d := e
        obtain ⟨ds, e1, e2⟩ := Option.map_eq_some_iff.mp e
        subst e2
        exact .tup q (dats_ok (fun u v d => dat_ok s n u v d) rs e1)
    | @ob i a q =>
      cases n with
      | zero => cases e
      | succ n =>
        have e : (match T[i]? with
          | some (.lst xs) => (dats (dat T n) xs).map .list
          | _ => none) = some d := e
        split at e
        · rename_i xs q2
          obtain ⟨ds, e1, e2⟩ := Option.map_eq_some_iff.mp e
          subst e2
          obtain ⟨b, h1, vs, h2, rs⟩ := s.get q2
          rw [q] at h1
          cases h1
          exact .lst (SqL.of h2) (dats_ok (fun u v d => dat_ok s n u v d) rs e1)
        · cases e
    | scr h => cases n <;> (cases e; exact .lst h.sq (dpInts _))
    | raw v => cases n <;> cases e
end
theorem RVs.rep {K : PySem.W.Frag} {ρ : List Addr} {H : Hp} {us : List U} {vs : List V} (r : RVs K ρ H us vs) : ∀ k : Nat, RVs K ρ H (List.replicate k us).flatten (List.replicate k vs).flatten
  | 0 => .nil
  | k + 1 => by
    rw [List.replicate_succ, List.replicate_succ, List.flatten_cons, List.flatten_cons]
    exact r.append (RVs.rep r k)
def gAdd : U → U → M U
  | .int i, .int j, T => .ok (.int (i + j)) T
  | .str x, .str y, T => if x.length + y.length ≤ 16777216 then .ok (.str (x ++ y)) T else .no
  | .tup xs, .tup ys, T => if xs.length + ys.length ≤ 16777216 then .ok (.tup (xs ++ ys)) T else .no
  | .ob i, .ob j, T => match T[i]?, T[j]? with
    | some (.lst xs), some (.lst ys) => if xs.length + ys.length ≤ 16777216 then nw (.lst (xs ++ ys)) T else .no
    | _, _ => .no
  | _, _, _ => .no
def gSub : U → U → M U
  | .int i, .int j, T => .ok (.int (i - j)) T
  | _, _, _ => .no
def strRep (x : Str) (n : Int) : Str := ⟨(List.replicate n.toNat x.cps).foldl (· ++ ·) #[]⟩
def gMul : U → U → M U
  | .int i, .int j, T => if i.natAbs.log2 + j.natAbs.log2 < 1000000 then .ok (.int (i * j)) T else .no
  | .str z, .int n, T => if -1000000 < n ∧ n < 1000000 ∧ z.length < 1000 ∧ (strRep z n).length ≤ 16777216 ∧ z.length * n.toNat ≤ 16777216 then .ok (.str (if n < 1 then Str.empty else if (n == 1 || z.length == 0) = true then z else strRep z n)) T else .no
  | .ob i, .int k, T => match T[i]? with
    | some (.lst xs) => if xs.length * k.toNat ≤ 16777216 ∧ -9223372036854775808 ≤ k ∧ k < 9223372036854775808 then nw (.lst (List.replicate k.toNat xs).flatten) T else .no
    | _ => .no
  | _, _, _ => .no
def gDiv : U → U → M U
  | .int i, .int j, T => if 0 < j ∧ j.natAbs.log2 < 9000 then .ok (.int (i / j)) T else .no
  | _, _, _ => .no
def gMod : U → U → M U
  | .int i, .int j, T => if 0 < j then .ok (.int (i % j)) T else .no
  | _, _, _ => .no
def gPow : U → U → M U
  | .int i, .int j, T => if 0 ≤ j ∧ j ≤ 1000000 ∧ i.natAbs < 18446744073709551616 then .ok (.int (i ^ j.toNat)) T else .no
  | _, _, _ => .no
def gNeg : U → M U
  | .int i, T => .ok (.int (-i)) T
  | _, _ => .no
def gEqD (neg : Bool) : U → U → M U := fun u v T => match dat T 66 u, dat T 66 v with
  | some d, some e => if SeqAt.shaped d = true ∧ SeqAt.shaped e = true then .ok (.bl (if neg then !PyData.eqv d e else PyData.eqv d e)) T else .no
  | _, _ => .no
def gCmp (p : Int → Int → Bool) : U → U → M U
  | .int i, .int j, T => .ok (.bl (p i j)) T
  | _, _, _ => .no
def gIs (neg : Bool) : U → U → M U
  | .non, .non, T => .ok (.bl (!neg)) T
  | .bl a, .bl b, T => .ok (.bl (if neg then !decide (a = b) else decide (a = b))) T
  | u, .non, T => match u with
    | .non => .no
    | .raw _ => .no
    | _ => .ok (.bl neg) T
  | _, _, _ => .no
section
variable {X : Cx} {E : XK}
theorem op_tup0 : OpR X (binaryOp .Add) (fun x y H Q => ∃ a b ys, x = .ref a ∧ y = .ref b ∧ SqT X.K H a [] ∧ SqT X.K H b ys ∧ ys.length ≤ sizeLine ∧ Q (.ref b) H) := by
  intro pins s σ H x y v u Q I rx ry h
  obtain ⟨a, b, ys, rfl, rfl, h1, h2, hz, q⟩ := h
  cases rx
  cases ry
  obtain ⟨its, r1, t1, z1⟩ := I.tuple h1
  obtain ⟨jts, r2, t2, z2⟩ := I.tuple h2
  cases r1
  obtain ⟨m, F⟩ := I.fr
  exact PyProof.Rows.add_tuples F PyProof.Rows.News.nil t1 t2 (fun _ => ⟨.ref b, H, I, rfl, q⟩) (fun e => absurd rfl e) (fun e => absurd rfl e) (by rw [List.length_nil, Nat.zero_add, ← r2.length]; exact hz)
theorem fop_add : FOp X E (binaryOp .Add) gAdd := by
  refine ⟨_, op_add.or (op_add_str.or (op_tup0.or (op_catT.or op_cat))), fun ρ H T u w x y Q s ru rw h => ?_⟩
  cases u with
  | int i =>
    cases w with
    | int j => cases ru; cases rw; exact .inl ⟨i, j, rfl, rfl, okV s h (.int _)⟩
    | _ => exact False.elim h
  | str i =>
    cases w with
    | str j =>
      cases ru
      cases rw
      have h : OK X.K ρ H E (rV X.K) (if i.length + j.length ≤ 16777216 then .ok (.str (i ++ j)) T else .no) Q := h
      split at h
      · rename_i hl
        exact .inr (.inl ⟨i, j, rfl, rfl, by rw [sz16]; exact hl, okV s h (.str _)⟩)
      · exact False.elim h
    | _ => exact False.elim h
  | tup xs =>
    cases w with
    | tup ys =>
      have h : OK X.K ρ H E (rV X.K) (if xs.length + ys.length ≤ 16777216 then .ok (.tup (xs ++ ys)) T else .no) Q := h
      split at h
      · rename_i hl
        cases ru with
        | @tup a vs _ q1 r1 =>
          cases rw with
          | @tup b ws _ q2 r2 =>
            have l1 := r1.length
            have l2 := r2.length
            by_cases e : vs = []
            · subst e
              cases r1
              refine .inr (.inr (.inl ⟨a, b, ws, rfl, rfl, q1, q2, by rw [sz16]; simp only [List.length_nil] at hl; omega, ?_⟩))
              exact okV s h (.tup q2 r2)
            · refine .inr (.inr (.inr (.inl ⟨a, b, vs, ws, rfl, rfl, q1, q2, e, by rw [sz16]; omega, fun e2 => ?_, fun _ p n => okTup s h (r1.append r2) n⟩)))
              subst e2
              cases r2
              rw [List.append_nil] at h
              exact okV s h (.tup q1 r1)
      · exact False.elim h
    | _ => exact False.elim h
  | ob i =>
    cases w with
    | ob j =>
      have h : OK X.K ρ H E (rV X.K) (match T[i]?, T[j]? with
        | some (.lst xs), some (.lst ys) => if xs.length + ys.length ≤ 16777216 then nw (.lst (xs ++ ys)) T else .no
        | _, _ => .no) Q := h
      split at h
      · rename_i xs ys e1 e2
        split at h
        · rename_i hl
          cases ru with
          | @ob _ a q1 =>
            cases rw with
            | @ob _ b q2 =>
              obtain ⟨a', p1, vs, f1, r1⟩ := s.get e1
              obtain ⟨b', p2, ws, f2, r2⟩ := s.get e2
              rw [q1] at p1
              cases p1
              rw [q2] at p2
              cases p2
              exact .inr (.inr (.inr (.inr ⟨a, b, vs, ws, rfl, rfl, f1, f2, by rw [sz16, ← r1.length, ← r2.length]; exact hl, fun p n => okNew s h (r1.append r2) n⟩)))
        · exact False.elim h
      · exact False.elim h
    | _ => exact False.elim h
  | _ => exact False.elim h
theorem fop_sub : FOp X E (binaryOp .Sub) gSub := by
  refine ⟨_, op_sub, fun ρ H T u w x y Q s ru rw h => ?_⟩
  cases u with
  | int i =>
    cases w with
    | int j => cases ru; cases rw; exact ⟨i, j, rfl, rfl, okV s h (.int _)⟩
    | _ => exact False.elim h
  | _ => exact False.elim h
theorem op_strMul : OpR X (binaryOp .Mult) (fun x y H Q => ∃ z n, x = .str z ∧ y = .int n ∧ -1000000 < n ∧ n < 1000000 ∧ z.length < 1000 ∧ (strRep z n).length ≤ sizeLine ∧ z.length * n.toNat ≤ sizeLine ∧ Q (.str (if n < 1 then Str.empty else if (n == 1 || z.length == 0) = true then z else strRep z n)) H) := by
  intro pins s σ H x y v u Q I rx ry h
  obtain ⟨z, n, rfl, rfl, h1, h2, h4, h5, h6, q⟩ := h
  obtain ⟨t, rfl⟩ := rx
  obtain ⟨t', rfl⟩ := ry
  refine PySem.P.mul_str ?_ (fun g1 g2 => ?_) (fun _ _ => ?_) ?_
  · rw [decide_eq_false (by omega), decide_eq_false (by omega)]; rfl
  · have : (z.length : Int) ≤ (2 ^ 63 - 1) / n := Int.le_ediv_of_mul_le (by omega) (Int.le_trans (b := 1000 * 1000000) (Int.mul_le_mul (by omega) (by omega) (by omega) (by omega)) (by omega))
    omega
  · exact decide_eq_false (by omega)
  · by_cases g1 : n < 1
    · rw [if_pos g1] at q ⊢
      exact ⟨by decide, .str _, H, I.tok _, ⟨_, rfl⟩, q⟩
    · rw [if_neg g1] at q ⊢
      split at q
      · rename_i g2
        rw [if_pos g2]
        exact ⟨.str _, H, I, ⟨_, rfl⟩, q⟩
      · rename_i g2
        rw [if_neg g2]
        exact ⟨h5, .str _, H, I.tok _, ⟨_, rfl⟩, q⟩
theorem fop_mul : FOp X E (binaryOp .Mult) gMul := by
  refine ⟨_, op_mulW.or (op_strMul.or op_rep), fun ρ H T u w x y Q s ru rw h => ?_⟩
  cases u with
  | int i =>
    cases w with
    | int j =>
      cases ru
      cases rw
      have h : OK X.K ρ H E (rV X.K) (if i.natAbs.log2 + j.natAbs.log2 < 1000000 then .ok (.int (i * j)) T else .no) Q := h
      split at h
      · rename_i hl
        exact .inl ⟨i, j, rfl, rfl, hl, okV s h (.int _)⟩
      · exact False.elim h
    | _ => exact False.elim h
  | str z =>
    cases w with
    | int n =>
      cases ru
      cases rw
      have h : OK X.K ρ H E (rV X.K) (if -1000000 < n ∧ n < 1000000 ∧ z.length < 1000 ∧ (strRep z n).length ≤ 16777216 ∧ z.length * n.toNat ≤ 16777216 then .ok (.str (if n < 1 then Str.empty else if (n == 1 || z.length == 0) = true then z else strRep z n)) T else .no) Q := h
      split at h
      · rename_i hl
        exact .inr (.inl ⟨z, n, rfl, rfl, hl.1, hl.2.1, hl.2.2.1, by rw [sz16]; exact hl.2.2.2.1, by rw [sz16]; exact hl.2.2.2.2, okV s h (.str _)⟩)
      · exact False.elim h
    | _ => exact False.elim h
  | ob i =>
    cases w with
    | int k =>
      cases rw
      have h : OK X.K ρ H E (rV X.K) (match T[i]? with
        | some (.lst xs) => if xs.length * k.toNat ≤ 16777216 ∧ -9223372036854775808 ≤ k ∧ k < 9223372036854775808 then nw (.lst (List.replicate k.toNat xs).flatten) T else .no
        | _ => .no) Q := h
      split at h
      · rename_i xs e1
        split at h
        · rename_i hl
          cases ru with
          | @ob _ a q1 =>
            obtain ⟨a', p1, vs, f1, r1⟩ := s.get e1
            rw [q1] at p1
            cases p1
            exact .inr (.inr ⟨a, k, vs, rfl, rfl, f1, hl.2.1, hl.2.2, by rw [sz16, ← r1.length]; exact hl.1, fun p n => okNew s h (r1.rep _) n⟩)
        · exact False.elim h
      · exact False.elim h
    | _ => exact False.elim h
  | _ => exact False.elim h
theorem fop_div : FOp X E (binaryOp .FloorDiv) gDiv := by
  refine ⟨_, op_fdivW, fun ρ H T u w x y Q s ru rw h => ?_⟩
  cases u with
  | int i =>
    cases w with
    | int j =>
      cases ru
      cases rw
      have h : OK X.K ρ H E (rV X.K) (if 0 < j ∧ j.natAbs.log2 < 9000 then .ok (.int (i / j)) T else .no) Q := h
      split at h
      · rename_i hl
        exact ⟨i, j, rfl, rfl, hl, okV s h (.int _)⟩
      · exact False.elim h
    | _ => exact False.elim h
  | _ => exact False.elim h
theorem fop_mod : FOp X E (binaryOp .Mod) gMod := by
  refine ⟨_, op_mod, fun ρ H T u w x y Q s ru rw h => ?_⟩
  cases u with
  | int i =>
    cases w with
    | int j =>
      cases ru
      cases rw
      have h : OK X.K ρ H E (rV X.K) (if 0 < j then .ok (.int (i % j)) T else .no) Q := h
      split at h
      · rename_i hl
        exact ⟨i, j, rfl, rfl, hl, okV s h (.int _)⟩
      · exact False.elim h
    | _ => exact False.elim h
  | _ => exact False.elim h
theorem fop_pow : FOp X E (binaryOp .Pow) gPow := by
  refine ⟨_, op_pow, fun ρ H T u w x y Q s ru rw h => ?_⟩
  cases u with
  | int i =>
    cases w with
    | int j =>
      cases ru
      cases rw
      have h : OK X.K ρ H E (rV X.K) (if 0 ≤ j ∧ j ≤ 1000000 ∧ i.natAbs < 18446744073709551616 then .ok (.int (i ^ j.toNat)) T else .no) Q := h
      split at h
      · rename_i hl
        exact ⟨i, j, rfl, rfl, hl, okV s h (.int _)⟩
      · exact False.elim h
    | _ => exact False.elim h
  | _ => exact False.elim h
theorem fun_neg : FUn X E (unaryOp .USub) gNeg := by
  refine ⟨_, un_neg, fun ρ H T u x Q s ru h => ?_⟩
  cases u with
  | int i => cases ru; exact ⟨i, rfl, okV s h (.int _)⟩
  | _ => exact False.elim h
theorem fop_cmp {f : Value → Value → Sem Value} {p : Int → Int → Bool} (ho : OpR X f (rI0 fun i j => .bl (p i j))) : FOp X E f (gCmp p) := by
  refine ⟨_, ho, fun ρ H T u w x y Q s ru rw h => ?_⟩
  cases u with
  | int i =>
    cases w with
    | int j => cases ru; cases rw; exact ⟨i, j, rfl, rfl, okV s h (.bl _)⟩
    | _ => exact False.elim h
  | _ => exact False.elim h
abbrev gLt := gCmp fun i j => decide (i < j)
abbrev gLe := gCmp fun i j => decide (i ≤ j)
abbrev gGt := gCmp fun i j => decide (j < i)
abbrev gGe := gCmp fun i j => decide (j ≤ i)
theorem fop_lt : FOp X E (compareOp .Lt) gLt := fop_cmp op_lt
theorem fop_le : FOp X E (compareOp .LtE) gLe := fop_cmp op_le
theorem fop_gt : FOp X E (compareOp .Gt) gGt := fop_cmp op_gt
theorem fop_ge : FOp X E (compareOp .GtE) gGe := fop_cmp op_ge
theorem gEqD_ok {ρ : List Addr} {H : Hp} {T : Sto} {neg : Bool} {u w : U} {x y : V} {Q : V → Hp → Prop} (s : RS X.K ρ H T) (ru : RV X.K ρ H u x) (rw_ : RV X.K ρ H w y) (h : OK X.K ρ H E (rV X.K) (gEqD neg u w T) Q) :
    ∃ d e, Dp X.K H x d ∧ Dp X.K H y e ∧ SeqAt.shaped d = true ∧ SeqAt.shaped e = true ∧ Q (.bl (if neg then !PyData.eqv d e else PyData.eqv d e)) H := by
  unfold gEqD at h
  split at h
  · rename_i d e e1 e2
    split at h
    · rename_i hl
      exact ⟨d, e, dat_ok s _ _ _ _ ru e1, dat_ok s _ _ _ _ rw_ e2, hl.1, hl.2, okV s h (.bl _)⟩
    · exact False.elim h
  · exact False.elim h
/-- ==; two texts are compared as they are -/
def gEq (neg : Bool) : U → U → M U := fun u v T => match u, v with
  | .str x, .str y => .ok (.bl (if neg then !decide (x = y) else decide (x = y))) T
  | u, v => gEqD neg u v T
theorem dec_str (x y : Str) : decide (V.str x = V.str y) = decide (x = y) := by
  by_cases h : x = y
  · subst h; simp
  · rw [decide_eq_false h, decide_eq_false (fun z => h (by cases z; rfl))]
theorem fop_eq (hu : X.A.units + 64 < cLine) : FOp X E (compareOp .Eq) (gEq false) := by
  refine ⟨_, OpR.or op_eq (op_eqD hu), fun ρ H T u w x y Q s ru rw h => ?_⟩
  unfold gEq at h
  split at h
  · cases ru; cases rw
    exact .inl ⟨rfl, by rw [dec_str]; exact okV s h (.bl _)⟩
  · exact .inr (gEqD_ok (neg := false) s ru rw h)
theorem fop_ne (hu : X.A.units + 64 < cLine) : FOp X E (compareOp .NotEq) (gEq true) := by
  refine ⟨_, OpR.or op_ne (op_neD hu), fun ρ H T u w x y Q s ru rw h => ?_⟩
  unfold gEq at h
  split at h
  · cases ru; cases rw
    exact .inl ⟨rfl, by rw [dec_str]; exact okV s h (.bl _)⟩
  · exact .inr (gEqD_ok (neg := true) s ru rw h)
theorem fop_is : FOp X E (compareOp .Is) (gIs false) := by
  refine ⟨_, op_isN.or op_isBl, fun ρ H T u w x y Q s ru rw h => ?_⟩
  cases w with
  | non =>
    cases rw
    cases ru with
    | non => exact .inl ⟨rfl, okV s h (.bl true)⟩
    | raw v => exact False.elim h
    | _ => exact .inl ⟨rfl, okV s h (.bl false)⟩
  | bl b =>
    cases ru with
    | bl a => cases rw; exact .inr ⟨a, b, rfl, rfl, okV s h (.bl _)⟩
    | _ => exact False.elim h
  | _ => cases u <;> exact False.elim h
end
end Lf
set_option Elab.async false
set_option linter.all false
set_option maxRecDepth 100000
set_option maxHeartbeats 4000000
namespace Lf
open PySem PySem.Spec L2
inductive Fl where
  | nx
  | bk
  | ct
  | rt (u : U)
abbrev FxS := Lo → M (Fl × Lo)
/-- what a statement's result asks of its ends -/
def OKS (K : PySem.W.Frag) (ρ : List Addr) (H : Hp) (E : XK) (r : R (Fl × Lo)) (D : Ends) : Prop :=
  match r with
  | .no => False
  | .ok (.nx, η) T => ∀ (ρ' : List Addr) (H' : Hp) (σ' : L2.St), Gr K ρ H ρ' H' → RS K ρ' H' T → RE K ρ' H' η σ' → D.nx σ' H'
  | .ok (.bk, η) T => ∀ (ρ' : List Addr) (H' : Hp) (σ' : L2.St), Gr K ρ H ρ' H' → RS K ρ' H' T → RE K ρ' H' η σ' → D.bk σ' H'
  | .ok (.ct, η) T => ∀ (ρ' : List Addr) (H' : Hp) (σ' : L2.St), Gr K ρ H ρ' H' → RS K ρ' H' T → RE K ρ' H' η σ' → D.ct σ' H'
  | .ok (.rt u, _) T => ∀ (ρ' : List Addr) (H' : Hp) (v : V), Gr K ρ H ρ' H' → RS K ρ' H' T → RV K ρ' H' u v → D.rt v H'
  | .ex e T => XR K ρ H E e T
structure FS (X : Cx) (E : XK) (st : Stmt) (F : FxS) : Prop where
  ex : ∃ t : TS, PS X st t ∧ ∀ (σ : L2.St) (H : Hp) (ρ : List Addr) (T : Sto) (η : Lo) (D : Ends), RS X.K ρ H T → RE X.K ρ H η σ → OKS X.K ρ H E (F η T) D → t D σ H
structure FSs (X : Cx) (E : XK) (st : List Stmt) (F : FxS) : Prop where
  ex : ∃ t : TS, PSs X st t ∧ ∀ (σ : L2.St) (H : Hp) (ρ : List Addr) (T : Sto) (η : Lo) (D : Ends), RS X.K ρ H T → RE X.K ρ H η σ → OKS X.K ρ H E (F η T) D → t D σ H
/-- the slots that are written -/
def Wr (ws : List Nat) (σ σ' : L2.St) : Prop := σ'.length = σ.length ∧ ∀ j, j ∉ ws → σ'[j]? = σ[j]?
structure FG (X : Cx) (E : XK) (e : Expr) (ws : List Nat) (G : U → Lo → M Lo) : Prop where
  ex : ∃ t : TG, PG X e t ∧ ∀ (σ : L2.St) (H : Hp) (ρ : List Addr) (T : Sto) (η : Lo) (u : U) (v : V) (Q : L2.St → Hp → Prop), RS X.K ρ H T → RE X.K ρ H η σ → RV X.K ρ H u v →
    OK X.K ρ H E (fun ρ' H' η' σ' => RE X.K ρ' H' η' σ' ∧ Wr ws σ σ') (G u η T) Q → t v σ H Q
structure FGs (X : Cx) (E : XK) (es : List Expr) (ws : List Nat) (G : List U → Lo → M Lo) : Prop where
  ex : ∃ t : TGs, PGs X es t ∧ ∀ (σ : L2.St) (H : Hp) (ρ : List Addr) (T : Sto) (η : Lo) (us : List U) (vs : List V) (Q : L2.St → Hp → Prop), RS X.K ρ H T → RE X.K ρ H η σ → RVs X.K ρ H us vs →
    OK X.K ρ H E (fun ρ' H' η' σ' => RE X.K ρ' H' η' σ' ∧ Wr ws σ σ') (G us η T) Q → t vs σ H Q
section
variable {K : PySem.W.Frag} {ρ ρ' : List Addr} {H H' : Hp} {T : Sto} {E : XK} {α β : Type} {rel : Rel α β}
theorem OKS.gr {r : R (Fl × Lo)} {D : Ends} (h : OKS K ρ H E r D) (g : Gr K ρ H ρ' H') : OKS K ρ' H' E r D := by
  cases r with
  | no => exact h
  | ok a T =>
    obtain ⟨f, η⟩ := a
    cases f with
    | nx => exact fun ρ2 H2 b g2 s q => h ρ2 H2 b (g.trans g2) s q
    | bk => exact fun ρ2 H2 b g2 s q => h ρ2 H2 b (g.trans g2) s q
    | ct => exact fun ρ2 H2 b g2 s q => h ρ2 H2 b (g.trans g2) s q
    | rt u => exact fun ρ2 H2 b g2 s q => h ρ2 H2 b (g.trans g2) s q
  | ex e T => exact XR.gr h g
theorem OKS.bind {r : R α} {k : α → M (Fl × Lo)} {D : Ends} (h : OKS K ρ H E (r.bind k) D) :
    OK K ρ H E rel r (fun b H1 => ∃ (ρ1 : List Addr) (T1 : Sto) (a : α), Gr K ρ H ρ1 H1 ∧ RS K ρ1 H1 T1 ∧ rel ρ1 H1 a b ∧ OKS K ρ1 H1 E (k a T1) D) := by
  cases r with
  | no => exact h
  | ok a T => exact fun ρ1 H1 b g s q => ⟨ρ1, T, a, g, s, q, OKS.gr h g⟩
  | ex e T => exact h
/-- a statement's result, then more -/
theorem OKS.seq {r : R (Fl × Lo)} {k : Fl × Lo → M (Fl × Lo)} {D D' : Ends} (h : OKS K ρ H E (r.bind k) D)
    (hn : ∀ η T (ρ1 : List Addr) (H1 : Hp) (σ1 : L2.St), r = .ok (.nx, η) T → Gr K ρ H ρ1 H1 → RS K ρ1 H1 T → RE K ρ1 H1 η σ1 → OKS K ρ1 H1 E (k (.nx, η) T) D → D'.nx σ1 H1)
    (hb : ∀ η T (ρ1 : List Addr) (H1 : Hp) (σ1 : L2.St), r = .ok (.bk, η) T → Gr K ρ H ρ1 H1 → RS K ρ1 H1 T → RE K ρ1 H1 η σ1 → OKS K ρ1 H1 E (k (.bk, η) T) D → D'.bk σ1 H1)
    (hc : ∀ η T (ρ1 : List Addr) (H1 : Hp) (σ1 : L2.St), r = .ok (.ct, η) T → Gr K ρ H ρ1 H1 → RS K ρ1 H1 T → RE K ρ1 H1 η σ1 → OKS K ρ1 H1 E (k (.ct, η) T) D → D'.ct σ1 H1)
    (hr : ∀ u η T (ρ1 : List Addr) (H1 : Hp) (v : V), r = .ok (.rt u, η) T → Gr K ρ H ρ1 H1 → RS K ρ1 H1 T → RV K ρ1 H1 u v → OKS K ρ1 H1 E (k (.rt u, η) T) D → D'.rt v H1) : OKS K ρ H E r D' := by
  cases r with
  | no => exact h
  | ok a T =>
    obtain ⟨f, η⟩ := a
    cases f with
    | nx => exact fun ρ1 H1 σ1 g s q => hn η T ρ1 H1 σ1 rfl g s q (OKS.gr h g)
    | bk => exact fun ρ1 H1 σ1 g s q => hb η T ρ1 H1 σ1 rfl g s q (OKS.gr h g)
    | ct => exact fun ρ1 H1 σ1 g s q => hc η T ρ1 H1 σ1 rfl g s q (OKS.gr h g)
    | rt u => exact fun ρ1 H1 v g s q => hr u η T ρ1 H1 v rfl g s q (OKS.gr h g)
  | ex e T => exact h
theorem Wr.refl {ws : List Nat} {σ : L2.St} : Wr ws σ σ := ⟨rfl, fun _ _ => rfl⟩
theorem Wr.trans {w1 w2 : List Nat} {σ σ1 σ2 : L2.St} (a : Wr w1 σ σ1) (b : Wr w2 σ1 σ2) : Wr (w1 ++ w2) σ σ2 :=
  ⟨b.1.trans a.1, fun j hj => by
    rw [List.mem_append, not_or] at hj
    rw [b.2 j hj.2, a.2 j hj.1]⟩
theorem Wr.set {i : Nat} {σ : L2.St} {v : V} : Wr [i] σ (σ.set i (some v)) :=
  ⟨by rw [List.length_set], fun j hj => by rw [List.getElem?_set_ne (fun e => hj (by rw [e]; exact List.mem_singleton.mpr rfl))]⟩
end
def fSkip : FxS := fun η T => .ok (.nx, η) T
def fSeq (F G : FxS) : FxS := fun η T => (F η T).bind fun p T1 => match p.1 with
  | .nx => G p.2 T1
  | _ => .ok p T1
def fDrop (Fe : FxE) : FxS := fun η T => (Fe η T).bind fun _ T1 => .ok (.nx, η) T1
def fRet (Fe : FxE) : FxS := fun η T => (Fe η T).bind fun u T1 => .ok (.rt u, η) T1
def fRetN : FxS := fun η T => .ok (.rt .non, η) T
def fBrk : FxS := fun η T => .ok (.bk, η) T
def fCnt : FxS := fun η T => .ok (.ct, η) T
def fIf (Fc : FxT) (F G : FxS) : FxS := fun η T => (Fc η T).bind fun b T1 => if b = true then F η T1 else G η T1
def fSet (i : Nat) (Fe : FxE) : FxS := fun η T => (Fe η T).bind fun u T1 => .ok (.nx, η.set i (some u)) T1
def gNm (i : Nat) : U → Lo → M Lo := fun u η T => .ok (η.set i (some u)) T
def gNil : List U → Lo → M Lo := fun us η T => match us with
  | [] => .ok η T
  | _ => .no
def gCons (G : U → Lo → M Lo) (Gr : List U → Lo → M Lo) : List U → Lo → M Lo := fun us η T => match us with
  | u :: r => (G u η T).bind fun η1 T1 => Gr r η1 T1
  | [] => .no
def gUnp (n : Nat) (Gr : List U → Lo → M Lo) : U → Lo → M Lo := fun u η T => match u with
  | .tup xs => if xs.length = n then Gr xs η T else .no
  | _ => .no
def fAsg (Fe : FxE) (G : U → Lo → M Lo) : FxS := fun η T => (Fe η T).bind fun u T1 => (G u η T1).bind fun η1 T2 => .ok (.nx, η1) T2
def fPar2 (i j : Nat) (Fr : FxA) : FxS := fun η T => (Fr η T).bind fun us T1 => match us with
  | [u, w] => .ok (.nx, (η.set i (some u)).set j (some w)) T1
  | _ => .no
def fPar3 (i j l : Nat) (Fr : FxA) : FxS := fun η T => (Fr η T).bind fun us T1 => match us with
  | [u, w, z] => .ok (.nx, ((η.set i (some u)).set j (some w)).set l (some z)) T1
  | _ => .no
/-- o[i] = v -/
def gSetIt : U → U → U → Sto → Option Sto := fun o i v T => match o, i with
  | .ob k, .int n => match T[k]? with
    | some (.lst xs) => match ixN xs.length n with
      | some j => some (T.set k (.lst (xs.set j v)))
      | none => none
    | _ => none
  | _, _ => none
theorem gSetIt_some {o i v : U} {T T3 : Sto} (h : gSetIt o i v T = some T3) : ∃ (k : Nat) (n : Int) (xs : List U) (j : Nat), o = .ob k ∧ i = .int n ∧ T[k]? = some (.lst xs) ∧ ixN xs.length n = some j ∧ T3 = T.set k (.lst (xs.set j v)) := by
  unfold gSetIt at h
  split at h
  · split at h
    · split at h
      · cases h
        exact ⟨_, _, _, _, rfl, rfl, by assumption, by assumption, rfl⟩
      · cases h
    · cases h
  · cases h
def gSubT (Fo Fi : FxE) : U → Lo → M Lo := fun v η T => (Fo η T).bind fun o T1 => (Fi η T1).bind fun i T2 => match gSetIt o i v T2 with
  | some T3 => .ok η T3
  | none => .no
/-- what is walked: the items, each from the store at its turn; what must hold at the end -/
structure ItF where
  its : List (Sto → Option U)
  fin : Sto → Bool
abbrev FxI := Lo → M ItF
def forN (G : U → Lo → M Lo) (Fb : FxS) (fin : Sto → Bool) : List (Sto → Option U) → FxS
  | [] => fun η T => if fin T = true then .ok (.nx, η) T else .no
  | f :: r => fun η T => match f T with
    | none => .no
    | some u => (G u η T).bind fun η1 T1 => (Fb η1 T1).bind fun p T2 => match p.1 with
      | .nx => forN G Fb fin r p.2 T2
      | .ct => forN G Fb fin r p.2 T2
      | .bk => .ok (.nx, p.2) T2
      | .rt u => .ok (.rt u, p.2) T2
def fFor (Fi : FxI) (G : U → Lo → M Lo) (Fb : FxS) : FxS := fun η T => (Fi η T).bind fun it T1 => forN G Fb it.fin it.its η T1
def wipeU : Lo → List Nat → Lo
  | η, [] => η
  | η, v :: vs => (wipeU η vs).set v none
def lcN (G : U → Lo → M Lo) (Ft : FxT) (Fe : FxE) (fin : Sto → Bool) (η : Lo) : List (Sto → Option U) → List U → M U
  | [], acc => fun T => if fin T = true then nw (.lst acc) T else .no
  | f :: r, acc => fun T => match f T with
    | none => .no
    | some u => (G u η T).bind fun η1 T1 => (Ft η1 T1).bind fun b T2 => if b = true then (Fe η1 T2).bind fun y T3 => if acc.length < 16777216 then lcN G Ft Fe fin η r (acc ++ [y]) T3 else .no else lcN G Ft Fe fin η r acc T2
def fLc (vs : List Nat) (Fi : FxI) (G : U → Lo → M Lo) (Ft : FxT) (Fe : FxE) : FxE := fun η T => (Fi η T).bind fun it T1 => lcN G Ft Fe it.fin (wipeU η vs) it.its [] T1
def fYes : FxT := fun _ T => .ok true T
section
variable {X : Cx} {E : XK} {st : Stmt} {rest : List Stmt} {e : Expr} {pos : Pos} {F G : FxS} {Fe : FxE} {Fc : FxT}
theorem fss_nil : FSs X E [] fSkip := ⟨_, pss_nil, fun _ _ _ _ _ _ s r h => h _ _ _ Gr.refl s r⟩
theorem fss_cons (h1 : FS X E st F) (h2 : FSs X E rest G) : FSs X E (st :: rest) (fSeq F G) := by
  obtain ⟨t, k1, q1⟩ := h1
  obtain ⟨u, k2, q2⟩ := h2
  refine ⟨_, pss_cons k1 k2, fun σ H ρ T η D s r h => ?_⟩
  refine q1 σ H ρ T η _ s r (OKS.seq h (fun η1 T1 ρ1 H1 σ1 _ g s1 r1 k => q2 σ1 H1 ρ1 T1 η1 D s1 r1 k) (fun η1 T1 ρ1 H1 σ1 _ g s1 r1 k => ?_) (fun η1 T1 ρ1 H1 σ1 _ g s1 r1 k => ?_) (fun u η1 T1 ρ1 H1 v _ g s1 r1 k => ?_))
  · exact k ρ1 H1 σ1 Gr.refl s1 r1
  · exact k ρ1 H1 σ1 Gr.refl s1 r1
  · exact k ρ1 H1 v Gr.refl s1 r1
theorem fss_one (h : FS X E st F) : FSs X E [st] F := let ⟨t, k, q⟩ := h; ⟨t, pss_one k, q⟩
theorem fs_ret (he : FE X E e Fe) : FS X E (.Return (some e) pos) (fRet Fe) := by
  obtain ⟨t, k, q⟩ := he
  refine ⟨_, ps_ret k, fun σ H ρ T η D s r h => ?_⟩
  exact q σ H ρ T η _ s r (OK.mono (OKS.bind h) fun x H1 ⟨ρ1, T1, u, g1, s1, r1, k1⟩ => k1 _ _ _ Gr.refl s1 r1)
theorem fs_if {c : Expr} {a b : List Stmt} (hc : FT X E c Fc) (ha : FSs X E a F) (hb : FSs X E b G) : FS X E (.If c a b pos) (fIf Fc F G) := by
  obtain ⟨t, k, q⟩ := hc
  obtain ⟨t1, k1, q1⟩ := ha
  obtain ⟨t2, k2, q2⟩ := hb
  refine ⟨_, ps_if k k1 k2, fun σ H ρ T η D s r h => ?_⟩
  refine q σ H ρ T η _ s r (OK.mono (OKS.bind h) fun x H1 ⟨ρ1, T1, u, g1, s1, r1, kk⟩ => ?_)
  cases r1
  cases x with
  | true => exact q1 σ H1 ρ1 T1 η D s1 (r.gr g1) kk
  | false => exact q2 σ H1 ρ1 T1 η D s1 (r.gr g1) kk
theorem fs_set {i : Nat} {x : Str} {pos' : Pos} (hN : X.N.Nodup) (hi : X.N[i]? = some x) (hx : Loc X.env.scope x) (he : FE X E e Fe) (hs : swapsWith e (some (.Name x pos')) pos.line X.env = pure false := by rfl)
    (hf : X.fn x = true ∨ X.env.scope.names.lookup x = some .local := by first | exact .inl rfl | exact .inr rfl | assumption) : FS X E (.Assign [.Name x pos'] e pos) (fSet i Fe) := by
  obtain ⟨t, k, q⟩ := he
  refine ⟨_, ps_set hN hi hx k hs hf, fun σ H ρ T η D s r h => ?_⟩
  exact q σ H ρ T η _ s r (OK.mono (OKS.bind h) fun x H1 ⟨ρ1, T1, u, g1, s1, r1, k1⟩ => k1 _ _ _ Gr.refl s1 ((r.gr g1).set i r1))
theorem fg_name {i : Nat} {x : Str} (hN : X.N.Nodup) (hi : X.N[i]? = some x) (hx : Loc X.env.scope x) (hf : X.fn x = true ∨ X.env.scope.names.lookup x = some .local := by first | exact .inl rfl | exact .inr rfl | assumption) : FG X E (.Name x pos) [i] (gNm i) :=
  ⟨_, pg_name hN hi hx hf, fun σ H ρ T η u v Q s r rv h => h ρ H _ Gr.refl s ⟨r.set i rv, Wr.set⟩⟩
theorem fgs_nil : FGs X E [] [] gNil := by
  refine ⟨_, pgs_nil, fun σ H ρ T η us vs Q s r rv h => ?_⟩
  cases rv with
  | nil => exact ⟨rfl, h ρ H σ Gr.refl s ⟨r, Wr.refl⟩⟩
  | cons _ _ => exact False.elim h
theorem fgs_cons {e : Expr} {es : List Expr} {w1 w2 : List Nat} {G : U → Lo → M Lo} {Gr' : List U → Lo → M Lo} (h1 : FG X E e w1 G) (h2 : FGs X E es w2 Gr') (hs : (assignEach (e :: es) X.env).map (·.2) = assign e X.env :: (assignEach es X.env).map (·.2) := by rfl) :
    FGs X E (e :: es) (w1 ++ w2) (gCons G Gr') := by
  obtain ⟨t, k, q⟩ := h1
  obtain ⟨t2, k2, q2⟩ := h2
  refine ⟨_, pgs_cons k k2 hs, fun σ H ρ T η us vs Q s r rv h => ?_⟩
  cases rv with
  | nil => exact False.elim h
  | @cons u v us vs ru rr =>
    refine ⟨v, vs, rfl, q σ H ρ T η u v _ s r ru (OK.mono (OK.bind h) fun σ1 H1 ⟨ρ1, T1, η1, g1, s1, ⟨r1, w1⟩, k1⟩ => ?_)⟩
    refine q2 σ1 H1 ρ1 T1 η1 us vs Q s1 r1 (rr.gr g1) ?_
    generalize hres : Gr' us η1 T1 = res at k1
    cases res with
    | no => exact k1
    | ok a T2 => exact fun ρ2 H2 σ2 g2 s2 ⟨r2, w2⟩ => k1 ρ2 H2 σ2 g2 s2 ⟨r2, w1.trans w2⟩
    | ex e T2 => exact k1
theorem fg_tup {es : List Expr} {k : Nat} {ws : List Nat} {G : List U → Lo → M Lo} {n : Nat} (hc : X.calm = true) (h : FGs X E es ws G) (hn : (assignEach es X.env).length = n := by rfl) (hst : (assignEach es X.env).findIdx? (·.1) = none := by rfl) :
    FG X E (.Tuple es k pos) ws (gUnp n G) := by
  obtain ⟨t, kk, q⟩ := h
  refine ⟨_, pg_tup hc kk hn hst, fun σ H ρ T η u v Q s r rv h => ?_⟩
  cases rv with
  | @tup a vs us sq rs =>
    have h : OK X.K ρ H E (fun ρ' H' η' σ' => RE X.K ρ' H' η' σ' ∧ Wr ws σ σ') (if us.length = n then G us η T else .no) Q := h
    split at h
    · rename_i hl
      exact ⟨a, vs, rfl, sq, by rw [← rs.length]; exact hl, q σ H ρ T η us vs Q s r rs h⟩
    · exact False.elim h
  | _ => exact False.elim h
theorem fg_sub {o i : Expr} {Fo Fi : FxE} (ho : FE X E o Fo) (hi : FE X E i Fi)
    (ha : ∀ v, assign (.Subscript o i pos) X.env v = (do
      let ov ← holding [v] (eval o X.env)
      let iv ← holding [v, ov] (eval i X.env)
      standAt pos
      holding [v, ov, iv] (setItem ov iv v)
      release [v, ov, iv] []) := by intro _; rfl) : FG X E (.Subscript o i pos) [] (gSubT Fo Fi) := by
  obtain ⟨t, k, q⟩ := ho
  obtain ⟨t2, k2, q2⟩ := hi
  refine ⟨_, pg_sub k k2 set_list ha, fun σ H ρ T η u v Q s r rv h => ?_⟩
  have h' := OK.bind (rel := rV X.K) h
  refine q σ H ρ T η _ s r (OK.mono h' fun x H1 ⟨ρ1, T1, uo, g1, s1, r1, k1⟩ => ?_)
  have k1' := OK.bind (rel := rV X.K) k1
  refine q2 σ H1 ρ1 T1 η _ s1 (r.gr g1) (OK.mono k1' fun y H2 ⟨ρ2, T2, ui, g2, s2, r2, kk⟩ => ?_)
  have rv2 := (rv.gr g1).gr g2
  have re2 := (r.gr g1).gr g2
  have r1' := r1.gr g2
  cases eT : gSetIt uo ui u T2 with
  | none => rw [eT] at kk; exact False.elim kk
  | some T3 =>
    rw [eT] at kk
    obtain ⟨c, n, xs, j, rfl, rfl, e1, e2, rfl⟩ := gSetIt_some eT
    cases r2
    cases r1' with
    | @ob _ a ea =>
      obtain ⟨a', p1, vs, f1, rs⟩ := s2.get e1
      rw [ea] at p1
      cases p1
      have g3 : Gr X.K ρ2 H2 ρ2 (upd H2 a (.lst (vs.set j v))) := Gr.put s2 ea
      exact ⟨a, vs, n, j, rfl, rfl, f1, by rw [← rs.length]; exact e2, kk ρ2 _ σ g3 (s2.put ea ⟨_, upd_same, (rs.set rv2 j).gr g3⟩) ⟨re2.gr g3, Wr.refl⟩⟩
theorem fs_asg {tg e : Expr} {ws : List Nat} {G : U → Lo → M Lo} (he : FE X E e Fe) (hg : FG X E tg ws G) (hs : swapsWithSole [tg] e pos.line X.env = pure false := by rfl) (hw : swappedStores [tg] e X.env = pure none := by rfl)
    (h1 : (assignEach [tg] X.env).map (·.2) = [assign tg X.env] := by rfl) : FS X E (.Assign [tg] e pos) (fAsg Fe G) := by
  obtain ⟨t, k, q⟩ := he
  obtain ⟨t2, k2, q2⟩ := hg
  refine ⟨_, ps_asg k k2 hs hw h1, fun σ H ρ T η D s r h => ?_⟩
  refine q σ H ρ T η _ s r (OK.mono (OKS.bind h) fun x H1 ⟨ρ1, T1, u, g1, s1, r1, kk⟩ => ?_)
  refine q2 σ H1 ρ1 T1 η u x _ s1 (r.gr g1) r1 (OK.mono (OKS.bind kk) fun σ2 H2 ⟨ρ2, T2, η2, g2, s2, ⟨r2, _⟩, k3⟩ => k3 _ _ _ Gr.refl s2 r2)
theorem fs_par2 {i j : Nat} {x y : Str} {a b : Expr} {Fr : FxA} {px py pt : Pos} {kt k2 pt2} (hc : X.calm = true) (hN : X.N.Nodup) (hi : X.N[i]? = some x) (hj : X.N[j]? = some y) (hij : i ≠ j)
    (hx : X.env.scope.names.lookup x = some .local) (hy : X.env.scope.names.lookup y = some .local) (ha : FA X E [a, b] Fr)
    (hw : swappedStores [.Tuple [.Name x px, .Name y py] kt pt] (.Tuple [a, b] k2 pt2) X.env = pure (some [x, y]) := by rfl)
    (hs : swapsWithSole [.Tuple [.Name x px, .Name y py] kt pt] (.Tuple [a, b] k2 pt2) pos.line X.env = pure false := by rfl) :
    FS X E (.Assign [.Tuple [.Name x px, .Name y py] kt pt] (.Tuple [a, b] k2 pt2) pos) (fPar2 i j Fr) := by
  obtain ⟨t, k, q⟩ := ha
  refine ⟨_, ps_par hc hN hi hj hij hx hy k hw hs, fun σ H ρ T η D s r h => ?_⟩
  refine q σ H ρ T η _ s r (OK.mono (OKS.bind h) fun xs H1 ⟨ρ1, T1, us, g1, s1, r1, kk⟩ => ?_)
  match us, xs, r1 with
  | [_, _], _, .cons r1 (.cons r2 .nil) => exact ⟨_, _, rfl, kk _ _ _ Gr.refl s1 (((r.gr g1).set i r1).set j r2)⟩
  | [], _, _ => exact False.elim kk
  | [_], _, _ => exact False.elim kk
  | _ :: _ :: _ :: _, _, _ => exact False.elim kk
end
end Lf
set_option Elab.async false
set_option linter.all false
set_option maxRecDepth 100000
set_option maxHeartbeats 4000000
namespace Lf
open PySem PySem.Spec L2
/-- the walk J yields the items of it, from this heap on -/
structure ItOk (K : PySem.W.Frag) (ρ₀ : List Addr) (H₀ : Hp) (it : ItF) (J : It) : Prop where
  go : ∀ (i : Nat) (f : Sto → Option U) (ρ : List Addr) (H : Hp) (T : Sto) (u : U), it.its[i]? = some f → Gr K ρ₀ H₀ ρ H → RS K ρ H T → f T = some u → J.go i H
  yl : ∀ (i : Nat) (f : Sto → Option U) (ρ : List Addr) (H : Hp) (T : Sto) (u : U) (x : V) (H' : Hp), it.its[i]? = some f → Gr K ρ₀ H₀ ρ H → RS K ρ H T → f T = some u → J.yld i H x H' → Gr K ρ H ρ H' ∧ RS K ρ H' T ∧ RV K ρ H' u x
  st : ∀ (ρ : List Addr) (H : Hp) (T : Sto), Gr K ρ₀ H₀ ρ H → RS K ρ H T → it.fin T = true → J.stop it.its.length H
abbrev rI (K : PySem.W.Frag) : Rel ItF It := fun ρ H it J => ItOk K ρ H it J
structure FI (X : Cx) (E : XK) (tg iter : Expr) (F : FxI) : Prop where
  ex : ∃ wi : TI, PI X tg iter wi ∧ ∀ (σ : L2.St) (H : Hp) (ρ : List Addr) (T : Sto) (η : Lo) (R : It → Hp → Prop), RS X.K ρ H T → RE X.K ρ H η σ → OK X.K ρ H E (rI X.K) (F η T) R → wi σ H R
theorem drop_cons {α : Type} {l : List α} {i : Nat} (h : i < l.length) : l.drop i = l[i] :: l.drop (i + 1) := List.drop_eq_getElem_cons h
section
variable {X : Cx} {E : XK} {pos : Pos}
theorem fs_for {tg iter : Expr} {body : List Stmt} {Fi : FxI} {ws : List Nat} {G : U → Lo → M Lo} {Fb : FxS} (hp : PassesOwn (model X.prog X.w) X.A X.env X.xe) (hc : X.calm = true) (hi : FI X E tg iter Fi) (hg : FG X E tg ws G) (hb : FSs X E body Fb)
    (hs : ∀ x, foldedSetIterable iter X.env x = pure x := by intro _; rfl) : FS X E (.For tg iter body [] pos) (fFor Fi G Fb) := by
  obtain ⟨wi, k1, q1⟩ := hi
  obtain ⟨g, k2, q2⟩ := hg
  obtain ⟨tb, k3, q3⟩ := hb
  refine ⟨_, ps_for hp hc k1 k2 k3 hs, fun σ H ρ T η D s r h => ?_⟩
  refine q1 σ H ρ T η _ s r (OK.mono (OKS.bind h) fun J H1 ⟨ρ1, T1, it, g1, s1, ok, kk⟩ => ?_)
  refine ⟨fun i m σ H => ∃ ρ T η, Gr X.K ρ1 H1 ρ H ∧ RS X.K ρ H T ∧ RE X.K ρ H η σ ∧ m = it.its.length - i ∧ i ≤ it.its.length ∧ OKS X.K ρ H E (forN G Fb it.fin (it.its.drop i) η T) D, ⟨it.its.length, ρ1, T1, η, Gr.refl, s1, r.gr g1, rfl, Nat.zero_le _, kk⟩, ?_⟩
  rintro i m σ H ⟨ρ, T, η, gg, s, r, rfl, hl, h⟩
  by_cases hlt : i < it.its.length
  · rw [drop_cons hlt] at h
    have hi : it.its[i]? = some it.its[i] := by simp [hlt]
    unfold forN at h
    cases ef : it.its[i] T with
    | none => rw [ef] at h; exact False.elim h
    | some u =>
      rw [ef] at h
      refine .inr ⟨ok.go i _ ρ H T u hi gg s ef, fun σ' H' => ∃ ρ T η, Gr X.K ρ1 H1 ρ H' ∧ RS X.K ρ H' T ∧ RE X.K ρ H' η σ' ∧ OKS X.K ρ H' E (forN G Fb it.fin (it.its.drop (i + 1)) η T) D, fun σ' H' ⟨ρ, T, η, a, b, c, d⟩ => ⟨it.its.length - (i + 1), by omega, ρ, T, η, a, b, c, rfl, hlt, d⟩, fun x H' y => ?_⟩
      obtain ⟨g2, s2, rv⟩ := ok.yl i _ ρ H T u x H' hi gg s ef y
      refine q2 σ H' ρ T η u x _ s2 (r.gr g2) rv (OK.mono (OKS.bind (OKS.gr h g2)) fun σ3 H3 ⟨ρ3, T3, η3, g3, s3, ⟨r3, _⟩, k3⟩ => ?_)
      have up : Gr X.K ρ1 H1 ρ3 H3 := gg.trans (g2.trans g3)
      refine q3 σ3 H3 ρ3 T3 η3 _ s3 r3 (OKS.seq k3 (fun η1 T1 ρ1 H1 σ1 _ g s1 r1 k => ⟨ρ1, T1, η1, up.trans g, s1, r1, k⟩) (fun η1 T1 ρ1 H1 σ1 _ g s1 r1 k => k _ _ _ Gr.refl s1 r1) (fun η1 T1 ρ1 H1 σ1 _ g s1 r1 k => ⟨ρ1, T1, η1, up.trans g, s1, r1, k⟩) (fun u η1 T1 ρ1 H1 v _ g s1 r1 k => k _ _ _ Gr.refl s1 r1))
  · have e : i = it.its.length := by omega
    subst e
    rw [List.drop_length] at h
    have h : OKS X.K ρ H E (if it.fin T = true then .ok (.nx, η) T else .no) D := h
    split at h
    · rename_i hf
      exact .inl ⟨ok.st ρ H T gg s hf, h _ _ _ Gr.refl s r⟩
    · exact False.elim h
structure FTs (X : Cx) (E : XK) (ifs : List Expr) (F : FxT) : Prop where
  ex : ∃ t : TT, PTs X ifs t ∧ ∀ (σ : L2.St) (H : Hp) (ρ : List Addr) (T : Sto) (η : Lo) (Q : Bool → Hp → Prop), RS X.K ρ H T → RE X.K ρ H η σ → OK X.K ρ H E rB (F η T) Q → t σ H Q
theorem fts_nil : FTs X E [] fYes := ⟨_, pts_nil, fun _ _ _ _ _ _ s _ h => okB s h⟩
theorem wipe_at : ∀ {vs : List Nat} {σ : L2.St} {j : Nat}, j ∈ vs → j < σ.length → (wipe σ vs)[j]? = some none
  | v :: vs, σ, j, hj, hl => by
    unfold wipe
    by_cases e : v = j
    · subst e
      rw [List.getElem?_set_self (by rw [wipe_length]; exact hl)]
    · rw [List.getElem?_set_ne e]
      rcases List.mem_cons.mp hj with h | h
      · exact absurd h.symm e
      · exact wipe_at h hl
theorem wipe_ext {vs ws : List Nat} {σ σ' : L2.St} (h : Wr ws (wipe σ vs) σ') (hw : ∀ j ∈ ws, j ∈ vs) : wipe σ' vs = wipe σ vs := by
  apply List.ext_getElem?
  intro j
  have hlen : σ'.length = σ.length := by rw [h.1, wipe_length]
  by_cases hj : j ∈ vs
  · by_cases hl : j < σ.length
    · rw [wipe_at hj hl, wipe_at hj (by rw [hlen]; exact hl)]
    · rw [List.getElem?_eq_none (by rw [wipe_length]; omega), List.getElem?_eq_none (by rw [wipe_length]; omega)]
  · rw [wipe_out hj, h.2 j (fun k => hj (hw j k))]
theorem RE.wipe {K : PySem.W.Frag} {ρ : List Addr} {H : Hp} {η : Lo} {σ : L2.St} (r : RE K ρ H η σ) : ∀ vs : List Nat, RE K ρ H (wipeU η vs) (wipe σ vs)
  | [] => r
  | v :: vs => by
    have ih := RE.wipe r vs
    unfold wipeU L2.wipe
    refine ⟨by rw [List.length_set, List.length_set]; exact ih.len, fun i u e => ?_⟩
    by_cases hv : v = i
    · subst hv
      by_cases hl : v < (wipeU η vs).length
      · rw [List.getElem?_set_self hl] at e; cases e
      · rw [List.getElem?_eq_none (by rw [List.length_set]; omega)] at e; cases e
    · rw [List.getElem?_set_ne hv] at e ⊢
      exact ih.at_ i u e
/-- an object that is there is taken into the store -/
theorem RS.adopt {K : PySem.W.Frag} {ρ : List Addr} {H : Hp} {T : Sto} (s : RS K ρ H T) {p : Addr} {o : O} (np : p ∉ ρ) (g : Gr K ρ H (ρ ++ [p]) H ∨ True) (r : RO K (ρ ++ [p]) H o p) (mono : ∀ o a, RO K ρ H o a → RO K (ρ ++ [p]) H o a) : RS K (ρ ++ [p]) H (T ++ [o]) := by
  refine ⟨by rw [List.length_append, List.length_append, s.len]; rfl, ?_, fun i u a e1 e2 => ?_⟩
  · rw [List.nodup_append]
    exact ⟨s.nd, by simp, fun a ha b hb => by rw [List.mem_singleton.mp hb]; rintro rfl; exact np ha⟩
  · by_cases hi : i < ρ.length
    · rw [List.getElem?_append_left hi] at e2
      rw [List.getElem?_append_left (by rw [← s.len]; exact hi)] at e1
      exact mono _ _ (s.at_ i u a e1 e2)
    · have hl : i = ρ.length := by
        have := (List.getElem?_eq_some_iff.mp e2).1
        rw [List.length_append, List.length_singleton] at this
        omega
      subst hl
      rw [List.getElem?_append_right (Nat.le_refl _), Nat.sub_self] at e2
      rw [s.len, List.getElem?_append_right (Nat.le_refl _), Nat.sub_self] at e1
      cases e1
      cases e2
      exact r
theorem RO.more {K : PySem.W.Frag} {ρ : List Addr} {H : Hp} {o : O} {a p : Addr} (h : RO K ρ H o a) : RO K (ρ ++ [p]) H o a := by
  have hp : ∀ (i : Nat) (a : Addr), ρ[i]? = some a → (ρ ++ [p])[i]? = some a := fun i a e => by rw [List.getElem?_append_left (List.getElem?_eq_some_iff.mp e).1]; exact e
  cases o with
  | lst xs => obtain ⟨vs, e1, r⟩ := h; exact ⟨vs, e1, r.mono hp (fun _ _ q => q) fun _ _ q => q⟩
  | dic kvs =>
    rcases h with ⟨ks, e1, r⟩ | ⟨k0, ks, e1, r⟩
    · exact .inl ⟨ks, e1, Paired.mapP r fun _ _ z => ⟨z.1, z.2.mono hp (fun _ _ q => q) fun _ _ q => q⟩⟩
    · exact .inr ⟨k0, ks, e1, Paired.mapP r fun _ _ z => ⟨z.1, z.2.mono hp (fun _ _ q => q) fun _ _ q => q⟩⟩
  | ins C fs => obtain ⟨dx, gs, e1, r⟩ := h; exact ⟨dx, gs, e1, Paired.mapP r fun _ _ z => ⟨z.1, z.2.mono hp (fun _ _ q => q) fun _ _ q => q⟩⟩
  | lk kvs => obtain ⟨od, ks, e1, r⟩ := h; exact ⟨od, ks, e1, Paired.mapP r fun _ _ z => ⟨z.1, z.2.mono hp (fun _ _ q => q) fun _ _ q => q⟩⟩
  | exc C fs =>
    rcases h with ⟨d, gs, e1, e2, r⟩ | h
    · exact .inl ⟨d, gs, e1, e2, Paired.mapP r fun _ _ z => ⟨z.1, z.2.mono hp (fun _ _ q => q) fun _ _ q => q⟩⟩
    · exact .inr h
/-- one reading for all contexts -/
theorem PE.weak {X : Cx} {e : Expr} {t t' : TE} (h : PE X e t) (i : ∀ σ H Q, t' σ H Q → t σ H Q) : PE X e t' := ⟨fun pins s σ H Q I q => h.run pins s σ H Q I (i _ _ _ q)⟩
theorem PTs.weak {X : Cx} {ifs : List Expr} {t t' : TT} (h : PTs X ifs t) (i : ∀ σ H Q, t' σ H Q → t σ H Q) : PTs X ifs t' := ⟨fun pins s σ H Q I q => h.run pins s σ H Q I (i _ _ _ q)⟩
theorem PG.weak {X : Cx} {e : Expr} {t t' : TG} (h : PG X e t) (i : ∀ v σ H Q, t' v σ H Q → t v σ H Q) : PG X e t' := ⟨fun pins s σ H v u Q I r q => h.run pins s σ H v u Q I r (i _ _ _ _ q)⟩
abbrev BX : Type := Shared × Hp × Addr × List (Str × Addr) × List Addr
abbrev bx (X : Cx) (scope : Scope) (p : BX) : Cx := X.blk p.1 p.2.1 scope (compEnvC scope p.2.2.2.1 p.2.2.1 X.env) p.2.2.2.2
end
theorem RO.mono {K : PySem.W.Frag} {ρ ρ' : List Addr} {H H' : Hp} {o : O} {a : Addr} (h : RO K ρ H o a) (h1 : ∀ (i : Nat) (a : Addr), ρ[i]? = some a → ρ'[i]? = some a) (h2 : ∀ a vs, SqT K H a vs → SqT K H' a vs) (h3 : ∀ a vs, RF K H a vs → RF K H' a vs) (h4 : ∀ a gs, H a = some (.xd gs) → H' a = some (.xd gs)) (e : H' a = H a) : RO K ρ' H' o a := by
  cases o with
  | lst xs => obtain ⟨vs, e1, r⟩ := h; exact ⟨vs, e.trans e1, r.mono h1 h2 h3⟩
  | dic kvs =>
    rcases h with ⟨ks, e1, r⟩ | ⟨k0, ks, e1, r⟩
    · exact .inl ⟨ks, e.trans e1, Paired.mapP r fun _ _ z => ⟨z.1, z.2.mono h1 h2 h3⟩⟩
    · exact .inr ⟨k0, ks, e.trans e1, Paired.mapP r fun _ _ z => ⟨z.1, z.2.mono h1 h2 h3⟩⟩
  | ins C fs => obtain ⟨dx, gs, e1, r⟩ := h; exact ⟨dx, gs, e.trans e1, Paired.mapP r fun _ _ z => ⟨z.1, z.2.mono h1 h2 h3⟩⟩
  | lk kvs => obtain ⟨od, ks, e1, r⟩ := h; exact ⟨od, ks, e.trans e1, Paired.mapP r fun _ _ z => ⟨z.1, z.2.mono h1 h2 h3⟩⟩
  | exc C fs =>
    rcases h with ⟨d, gs, e1, e2, r⟩ | ⟨e1, e2⟩
    · exact .inl ⟨d, gs, e.trans e1, h4 d gs e2, Paired.mapP r fun _ _ z => ⟨z.1, z.2.mono h1 h2 h3⟩⟩
    · exact .inr ⟨e1, e.trans e2⟩
/-- an object beside the store is changed -/
theorem RS.off {K : PySem.W.Frag} {ρ : List Addr} {H : Hp} {T : Sto} (s : RS K ρ H T) {p : Addr} {x : HO} (np : p ∉ ρ) (l : ∃ y, H p = some y ∧ Live y) : RS K ρ (upd H p x) T :=
  ⟨s.len, s.nd, fun i o a e1 e2 => (s.at_ i o a e1 e2).mono (fun _ _ e => e) (fun _ _ q => sq_upd (.inr l) q) (fun _ _ q => rf_upd (.inr l) q) (fun _ _ q => xd_upd (.inr l) q) (upd_ne fun z => np (by rw [← z]; exact List.mem_of_getElem? e2))⟩
theorem OK.bindG {K : PySem.W.Frag} {ρ₀ ρ : List Addr} {H₀ H : Hp} {E : XK} {α β γ δ : Type} {rel : Rel α β} {rel2 : Rel γ δ} {r : R α} {k : α → M γ} {Q : δ → Hp → Prop} (h : OK K ρ₀ H₀ E rel2 (r.bind k) Q) (g : Gr K ρ₀ H₀ ρ H) :
    OK K ρ H E rel r (fun b H1 => ∃ (ρ1 : List Addr) (T1 : Sto) (a : α), Gr K ρ H ρ1 H1 ∧ RS K ρ1 H1 T1 ∧ rel ρ1 H1 a b ∧ OK K ρ₀ H₀ E rel2 (k a T1) Q) := by
  cases r with
  | no => exact h
  | ok a T => exact fun ρ1 H1 b g1 s q => ⟨ρ1, T, a, g1, s, q, h⟩
  | ex e T => exact XR.gr h g
theorem Gr.keepD {K : PySem.W.Frag} {ρ ρ' : List Addr} {H H' : Hp} {D : Addr} {x : HO} (g : Gr K ρ H ρ' H') (m : D ∉ ρ) (h : H D = some x) : D ∉ ρ' ∧ H' D = some x :=
  ⟨(fun z => by
    have := g.nw D z m
    rw [h] at this
    cases this), g.kp D x m h⟩
/-- from before the new list D was laid, on to a heap in which D is changed -/
theorem Gr.over {K : PySem.W.Frag} {ρ₀ ρ : List Addr} {H₀ H : Hp} {D : Addr} {x y : HO} (g : Gr K ρ₀ H₀ ρ H) (nD : H₀ D = none) (hD : H D = some y) (l : Live y) : Gr K ρ₀ H₀ ρ (upd H D x) :=
  ⟨g.pre, fun a vs q => sq_upd (.inr ⟨y, hD, l⟩) (g.sq a vs q), fun a vs q => rf_upd (.inr ⟨y, hD, l⟩) (g.rf a vs q), fun a o n q => by
    rw [upd_ne (ne_of_none q nD)]
    exact g.kp a o n q, g.nw, fun a gs q => xd_upd (.inr ⟨y, hD, l⟩) (g.xd a gs q), fun a o u q => by
    rw [upd_ne (ne_of_none q nD)]
    exact g.fz a o u q⟩
theorem fe_lc {X : Cx} {E : XK} {elt tg iter : Expr} {ifs : List Expr} {scope : Scope} {own : List (Str × Nat)} {ws : List Nat} {Fi : FxI} {G : U → Lo → M Lo} {Ft : FxT} {Fe : FxE} (hc : X.calm = true) (hN : X.N.Nodup) (hi : FI X E tg iter Fi) (hok : BlkOk X.N X.env.scope scope own)
    (hw : ∀ j ∈ ws, j ∈ own.map (·.2)) (hg : ∀ p : BX, FG (bx X scope p) E tg ws G) (ht : ∀ p : BX, FTs (bx X scope p) E ifs Ft) (he : ∀ p : BX, FE (bx X scope p) E elt Fe) (hs : ∀ x, foldedSetIterable iter X.env x = pure x := by intro _; rfl) :
    ∃ t : TE, (∀ {pos : Pos}, PE X (.ListComp elt [⟨tg, iter, ifs, 0⟩] scope pos) t) ∧ (∀ {i : Nat} {y : Str} {py : Pos} {pos spos : Pos}, X.N[i]? = some y → X.env.scope.names.lookup y = some .local → swapsWith (.ListComp elt [⟨tg, iter, ifs, 0⟩] scope pos) (some (.Name y py)) spos.line X.env = pure true →
      PS X (.Assign [.Name y py] (.ListComp elt [⟨tg, iter, ifs, 0⟩] scope pos) spos) (tAsg t (gName i))) ∧
    ∀ (σ : L2.St) (H : Hp) (ρ : List Addr) (T : Sto) (η : Lo) (Q : V → Hp → Prop), RS X.K ρ H T → RE X.K ρ H η σ → OK X.K ρ H E (rV X.K) (fLc (own.map (·.2)) Fi G Ft Fe η T) Q → t σ H Q := by
  obtain ⟨wi, k1, q1⟩ := hi
  obtain ⟨fg, hfg⟩ := Classical.axiomOfChoice fun p : BX => (hg p).ex
  obtain ⟨ft, hft⟩ := Classical.axiomOfChoice fun p : BX => (ht p).ex
  obtain ⟨fe, hfe⟩ := Classical.axiomOfChoice fun p : BX => (he p).ex
  refine ⟨tLc wi (fun v σ H Q => ∀ p, fg p v σ H Q) (fun σ H Q => ∀ p, ft p σ H Q) (fun σ H Q => ∀ p, fe p σ H Q) (own.map (·.2)),
    pe_lc hc hN k1 hok (fun s H C cl fp => PG.weak (hfg (s, H, C, cl, fp)).1 fun _ _ _ _ q => q _) (fun s H C cl fp => PTs.weak (hft (s, H, C, cl, fp)).1 fun _ _ _ q => q _) (fun s H C cl fp => PE.weak (hfe (s, H, C, cl, fp)).1 fun _ _ _ q => q _) hs,
    fun {i y py pos spos} hy hyl hsw => ps_setLc hc hN hy hyl hsw k1 hok (fun s H C cl fp => PG.weak (hfg (s, H, C, cl, fp)).1 fun _ _ _ _ q => q _) (fun s H C cl fp => PTs.weak (hft (s, H, C, cl, fp)).1 fun _ _ _ q => q _) (fun s H C cl fp => PE.weak (hfe (s, H, C, cl, fp)).1 fun _ _ _ q => q _) hs, fun σ H ρ T η Q s r h => ?_⟩
  refine q1 σ H ρ T η _ s r (OK.mono (OK.bind h) fun J H1 ⟨ρ1, T1, it, g1, s1, ok, kk⟩ => ?_)
  intro D nD
  have r1 := (r.gr g1).wipe (own.map (·.2))
  refine ⟨fun i m H => ∃ ρ T acc vs, Gr X.K ρ1 H1 ρ H ∧ RS X.K ρ H T ∧ D ∉ ρ ∧ H D = some (.lst vs) ∧ RVs X.K ρ H acc vs ∧ m = it.its.length - i ∧ i ≤ it.its.length ∧ OK X.K ρ1 H1 E (rV X.K) (lcN G Ft Fe it.fin (wipeU η (own.map (·.2))) (it.its.drop i) acc T) Q,
    ⟨it.its.length, ρ1, T1, [], [], Gr.fill nD, s1.fill nD, (fun z => by
      obtain ⟨y, hy, _⟩ := s1.live z
      rw [nD] at hy
      cases hy), upd_same, .nil, rfl, Nat.zero_le _, kk⟩, ?_⟩
  rintro i m H ⟨ρ, T, acc, vs, g, s, mD, hD, rs, rfl, hl, h⟩
  by_cases hlt : i < it.its.length
  · rw [drop_cons hlt] at h
    have hi : it.its[i]? = some it.its[i] := by simp [hlt]
    unfold lcN at h
    cases ef : it.its[i] T with
    | none => rw [ef] at h; exact False.elim h
    | some u =>
      rw [ef] at h
      refine .inr ⟨ok.go i _ ρ H T u hi g s ef, fun H => ∃ ρ T acc vs, Gr X.K ρ1 H1 ρ H ∧ RS X.K ρ H T ∧ D ∉ ρ ∧ H D = some (.lst vs) ∧ RVs X.K ρ H acc vs ∧ OK X.K ρ1 H1 E (rV X.K) (lcN G Ft Fe it.fin (wipeU η (own.map (·.2))) (it.its.drop (i + 1)) acc T) Q,
        fun H' ⟨ρ, T, acc, vs, a, b, c, d, e, f⟩ => ⟨it.its.length - (i + 1), by omega, ρ, T, acc, vs, a, b, c, d, e, rfl, hlt, f⟩, fun x H' y => ?_⟩
      obtain ⟨g2, s2, rv⟩ := ok.yl i _ ρ H T u x H' hi g s ef y
      obtain ⟨mD2, hD2⟩ := g2.keepD mD hD
      intro p
      refine (hfg p).2 _ H' ρ T _ u x _ s2 ((r1.gr g).gr g2) rv (OK.mono (OK.bindG h (g.trans g2)) fun σ3 H3 ⟨ρ3, T3, η3, g3, s3, ⟨r3, w3⟩, k3⟩ => ⟨wipe_ext w3 hw, ?_⟩)
      obtain ⟨mD3, hD3⟩ := g3.keepD mD2 hD2
      intro p
      refine (hft p).2 _ H3 ρ3 T3 η3 _ s3 r3 (OK.mono (OK.bindG k3 (g.trans (g2.trans g3))) fun b H4 ⟨ρ4, T4, b', g4, s4, e4, k4⟩ => ?_)
      cases e4
      obtain ⟨mD4, hD4⟩ := g4.keepD mD3 hD3
      cases b with
      | false => exact ⟨ρ4, T4, acc, vs, g.trans (g2.trans (g3.trans g4)), s4, mD4, hD4, ((rs.gr g2).gr g3).gr g4, k4⟩
      | true =>
        intro p
        refine (hfe p).2 _ H4 ρ4 T4 η3 _ s4 (r3.gr g4) (OK.mono (OK.bindG k4 (g.trans (g2.trans (g3.trans g4)))) fun z H5 ⟨ρ5, T5, uz, g5, s5, r5, k5⟩ => ?_)
        obtain ⟨mD5, hD5⟩ := g5.keepD mD4 hD4
        have rs5 := (((rs.gr g2).gr g3).gr g4).gr g5
        split at k5
        · rename_i hz
          have go := Gr.over (x := .lst (vs ++ [z])) (g.trans (g2.trans (g3.trans (g4.trans g5)))) nD hD5 trivial
          refine ⟨vs, hD5, by rw [sz16, ← rs5.length]; exact hz, ρ5, T5, acc ++ [uz], vs ++ [z], go, s5.off mD5 ⟨_, hD5, trivial⟩, mD5, upd_same, ?_, k5⟩
          exact (rs5.append (.cons r5 .nil)).mono (fun _ _ e => e) (fun _ _ q => sq_upd (.inr ⟨_, hD5, trivial⟩) q) (fun _ _ q => rf_upd (.inr ⟨_, hD5, trivial⟩) q)
        · exact False.elim k5
  · have e : i = it.its.length := by omega
    subst e
    rw [List.drop_length] at h
    have h : OK X.K ρ1 H1 E (rV X.K) (if it.fin T = true then nw (.lst acc) T else .no) Q := h
    split at h
    · rename_i hf
      refine .inl ⟨ok.st ρ H T g s hf, ?_⟩
      refine h (ρ ++ [D]) H (.ref D) ⟨fun i a e => by rw [List.getElem?_append_left (List.getElem?_eq_some_iff.mp (g.pre i a e)).1]; exact g.pre i a e, g.sq, g.rf, g.kp, fun a ha n => ?_, g.xd, g.fz⟩ ?_ ?_
      · rcases List.mem_append.mp ha with ha | ha
        · exact g.nw a ha n
        · rw [List.mem_singleton.mp ha]; exact nD
      · exact s.adopt mD (.inr trivial) (RO.more ⟨vs, hD, rs⟩) fun _ _ q => q.more
      · exact .ob (by rw [← s.len, List.getElem?_append_right (Nat.le_refl _), Nat.sub_self]; rfl)
    · exact False.elim h
section
variable {X : Cx} {E : XK} {elt tg iter : Expr} {ifs : List Expr} {scope : Scope} {own : List (Str × Nat)} {ws : List Nat} {Fi : FxI} {G : U → Lo → M Lo} {Ft : FxT} {Fe : FxE}
theorem fe_comp {pos : Pos} (hc : X.calm = true) (hN : X.N.Nodup) (hok : BlkOk X.N X.env.scope scope own) (hi : FI X E tg iter Fi)
    (hw : ∀ j ∈ ws, j ∈ own.map (·.2)) (hg : ∀ p : BX, FG (bx X scope p) E tg ws G) (ht : ∀ p : BX, FTs (bx X scope p) E ifs Ft) (he : ∀ p : BX, FE (bx X scope p) E elt Fe) (hs : ∀ x, foldedSetIterable iter X.env x = pure x := by intro _; rfl) :
    FE X E (.ListComp elt [⟨tg, iter, ifs, 0⟩] scope pos) (fLc (own.map (·.2)) Fi G Ft Fe) := by
  obtain ⟨t, h1, _, h3⟩ := fe_lc hc hN hi hok hw hg ht he hs
  exact ⟨t, h1, h3⟩
end
end Lf
set_option Elab.async false
set_option linter.all false
set_option maxRecDepth 100000
set_option maxHeartbeats 4000000
namespace Lf
open PySem PySem.Spec L2
open PyProof.Rows (envOfC)
/-- a def at f does what g tells, over any store -/
structure FnG (P : Program) (w : World) (K : PySem.W.Frag) (mg : Str → Option Value) (base : Heap) (C : CXT) (k : Nat) (f : Addr) (fd : FuncData) (ps : List Str) (g : List U → M U) : Prop where
  run : ∀ (A : Around) (fr : List Env) (s : Shared) (H : Hp) (args : Args) (ws : List Value) (vs : List V) (us : List U) (ρ : List Addr) (T : Sto) (Q : VK) (E : XK),
    Room k A → A.guards = some [] → Env0 P w K mg base A fr s H → BindsTo s fd args (ps.zip ws) → Vals vs ws → RS K ρ H T → RVs K ρ H us vs → us.length = ps.length →
    OK K ρ H E (rV K) (g us T) Q → codeAny (model P w) A (.call (.ref f) args) (CR C fr P w H s Q E) s
theorem FnG.mono {P : Program} {w : World} {K : PySem.W.Frag} {mg : Str → Option Value} {base : Heap} {C : CXT} {j k : Nat} {f : Addr} {fd : FuncData} {ps : List Str} {g : List U → M U} (F : FnG P w K mg base C j f fd ps g) (h : j ≤ k) : FnG P w K mg base C k f fd ps g :=
  ⟨fun A fr s H args ws vs us ρ T Q E hr => F.run A fr s H args ws vs us ρ T Q E (hr.mono h)⟩
/-- a def's value: its body from its parameters -/
def gDef (n : Nat) (F : FxS) : List U → M U := fun us T => (F (us.map some ++ List.replicate (n - us.length) none) T).bind fun p T1 => match p.1 with
  | .rt u => .ok u T1
  | .nx => .ok .non T1
  | _ => .no
theorem FSs.nox {X : Cx} {E : XK} {st : List Stmt} {F : FxS} (h : FSs X.nox E st F) : FSs X E st F := let ⟨t, k, q⟩ := h; ⟨t, k.nox, q⟩
theorem re_start {K : PySem.W.Frag} {ρ : List Addr} {H : Hp} {us : List U} {vs : List V} {N : List Str} (r : RVs K ρ H us vs) : RE K ρ H (us.map some ++ List.replicate (N.length - us.length) none) (L2.start N vs) := by
  have hl := r.length
  refine ⟨?_, fun i u e => ?_⟩
  · unfold L2.start
    rw [List.length_append, List.length_append, List.length_map, List.length_map, List.length_replicate, List.length_replicate, hl]
  · by_cases hi : i < us.length
    · rw [List.getElem?_append_left (by rw [List.length_map]; exact hi), List.getElem?_map] at e
      cases q : us[i]? with
      | none => rw [q] at e; cases e
      | some z =>
        rw [q] at e
        cases e
        obtain ⟨v, h1, h2⟩ := r.get q
        refine ⟨v, ?_, h2⟩
        unfold L2.start
        rw [List.getElem?_append_left (by rw [List.length_map, ← hl]; exact hi), List.getElem?_map, h1]
        rfl
    · rw [List.getElem?_append_right (by rw [List.length_map]; omega), List.getElem?_replicate] at e
      split at e <;> cases e
theorem fnG_of {C : CXT} {P : Program} {w : World} {K : PySem.W.Frag} {mg : Str → Option Value} {base : Heap} {k : Nat} {f : Addr} {fd : FuncData} {name qual : Str} {params : Arguments} {body : List Stmt} {scope : Scope} {dvs : List V} {kws : List (Str × V)} {N ps : List Str} {F : FxS}
    (D : FunD K name qual params body scope dvs kws f fd) (S : FnScope N ps scope)
    (hb : ∀ (cv : Value) (A : Around) (fr : List Env) (s : Shared) (H : Hp) (E : XK), Room k (A.deeper (envOfC qual scope s.heap.objs.size f cv)) → A.guards = some [] → FSs (cxOf C P w K mg base N qual scope f cv A fr s H E) E body F) :
    FnG P w K mg base C (k + 1) f fd ps (gDef N.length F) := by
  obtain ⟨oc, od, dV, kV, doc, pm, an, cv, ct, osl, rfl, lk, hcd, _, _⟩ := D.ex
  constructor
  intro A fr s H args ws vs us ρ T Q E room gd e0 bd rv rs ru lu hq
  have lv : vs.length = ps.length := by rw [← ru.length]; exact lu
  have inK : K.In s.heap := e0.mod.kin.keeps fun b o e => (e0.bs b o e).1
  have nolim : s.heap.NoLimit := e0.mod.nolimit.keeps fun b o e => (e0.bs b o e).1
  have kinds : ∀ y ∈ ps.zip ws, scope.names.lookup y.1 = some .local ∨ (scope.names.lookup y.1 = some .cell ∧ ((cellsFrom (s.heap.objs.size + 1) scope.names []).lookup y.1).isSome = true) := by
    rintro ⟨n, v⟩ hy
    rcases S.par n (List.of_mem_zip hy).1 with q | q
    · exact Or.inl q
    · exact Or.inr ⟨q, PySem.W.cellsFrom_some _ _ _ (Or.inl q)⟩
  refine codeAny_call_function room.depth (inK _ _ lk) rfl S.co S.gen rfl (PySem.W.codeRec_of inK hcd) (bd _ _ _ _ ?_)
  refine wpAny_newFunctionEnv_cells S.kind kinds fun env he s1 x => ?_
  subst he
  refine ⟨nolim.keeps x.toInCall.keep, codeAny_func ?_⟩
  obtain ⟨t, ht, q⟩ := hb cv A fr s H E (room.deeper _) gd
  have I := inv_start (CX := C) (E := E) S room.hd e0 lv rv x
  have mid : OKS K ρ H E (F (us.map some ++ List.replicate (N.length - us.length) none) T) { nx := fun _ H' => Q .non H', rt := Q } := by
    have hq : OK K ρ H E (rV K) ((F (us.map some ++ List.replicate (N.length - us.length) none) T).bind fun p T1 => match p.1 with
      | .rt u => .ok u T1
      | .nx => .ok .non T1
      | _ => .no) Q := hq
    generalize F (us.map some ++ List.replicate (N.length - us.length) none) T = r at hq
    cases r with
    | no => exact hq
    | ex e T1 => exact hq
    | ok p T1 =>
      obtain ⟨fl, η⟩ := p
      cases fl with
      | nx => exact fun ρ1 H1 σ1 g s1 r1 => hq ρ1 H1 .non g s1 .non
      | rt u => exact fun ρ1 H1 v g s1 r1 => hq ρ1 H1 v g s1 r1
      | bk => exact False.elim hq
      | ct => exact False.elim hq
  refine wpAny_mono (ht.run [] s1 (L2.start N vs) H { nx := fun _ H' => Q .non H', rt := Q } I (q _ _ ρ T _ _ rs (re_start (N := N) ru) mid)) (fun fl s' hs => ?_) fun e s' hs => hs
  cases fl with
  | ret u =>
    obtain ⟨v, σ1, H1, J, rj, qj⟩ := hs
    exact ⟨v, H1, J.os, J.bare, J.base, J.hok, rj, qj⟩
  | next =>
    obtain ⟨σ1, H1, J, qj⟩ := hs
    exact ⟨.non, H1, J.os, J.bare, J.base, J.hok, rfl, qj⟩
  | brk => exact hs.elim fun _ z => z.elim fun _ z => z.2.elim
  | cont => exact hs.elim fun _ z => z.elim fun _ z => z.2.elim
section
variable {X : Cx} {E : XK} {C : CXT} {k : Nat} {f : Addr} {fd : FuncData} {ps : List Str} {g : List U → M U} {x : Str} {p pos : Pos} {e : Expr} {es : List Expr} {Fr : FxA}
theorem runG {ρ : List Addr} {T : Sto} {pins : List (Addr × Obj)} {σ : L2.St} {H : Hp} {s : Shared} {Q : VK} {args : Args} {ws : List Value} {vs : List V} {us : List U} (F : FnG X.prog X.w X.K X.mg X.base C k f fd ps g) (room : Room k X.A) (gd : X.A.guards = some []) (hx : Passes C X E)
    (I : L2.Inv X pins σ H s) (bd : BindsTo s fd args (ps.zip ws)) (rv : Vals vs ws) (rs : RS X.K ρ H T) (ru : RVs X.K ρ H us vs) (lu : us.length = ps.length) (h : OK X.K ρ H E (rV X.K) (g us T) Q) :
    codeAny (model X.prog X.w) X.A (.call (.ref f) args) (fun r s' => match r with
      | .ok (.ret u) => EP X pins σ Q u s'
      | .ok _ => False
      | .error e => X.xe e s') s := by
  refine codeAny_mono (F.run X.A X.stack s H args ws vs us ρ T Q E room gd I.env0 bd rv rs ru lu h) fun r s' hq => ?_
  match r, hq with
  | .error e, hq => exact hx pins σ H s e s' I hq
  | .ok (.ret u), hq => exact I.after hq
  | .ok .next, hq => exact False.elim hq
  | .ok .brk, hq => exact False.elim hq
  | .ok .cont, hq => exact False.elim hq
/-- what a call of g asks -/
def tG (K : PySem.W.Frag) (ps : List Str) (g : List U → M U) (E : XK) : List V → Hp → VK → Prop := fun vs H Q => ∃ ρ T us, RS K ρ H T ∧ RVs K ρ H us vs ∧ us.length = ps.length ∧ OK K ρ H E (rV K) (g us T) Q
theorem peG {t : TA} (F : FnG X.prog X.w X.K X.mg X.base C k f fd ps g) (room : Room k X.A) (gd : X.A.guards = some []) (hg : Gl X x) (hm : X.mg x = some (.ref f)) (hk : PySem.W.keepIn X.K (.ref f) = true) (hb : Binds X.K fd ps []) (hx : Passes C X E)
    (ha : PA X (e :: es) t) (hdb : (x == ("__debug__" : Str)) = false) (he : starEach (e :: es) X.env = (false, eval e X.env) :: starEach es X.env) (hpl : (backTo pos (starEach es X.env)).any (·.1) = false) :
    PE X (.Call (.Name x p) (e :: es) [] pos) (tCB (tG X.K ps g E) t) := by
  refine ⟨fun pins s σ H Q I h => wpAny_Call_Name_kw (ld_glob I hg hm ?_ hdb)⟩
  refine PySem.W.callWith_K (h₀ := X.base) I.ok.mod.kin hk (thn (ha.run pos pins s σ H _ I h) fun ws s1 ⟨vs, H1, I1, rv, ρ, T, us, rs, ru, lu, hq⟩ => ⟨I1.kIn, ?_⟩) he hpl
  refine wpAny_call (codeAny_mono (runG (ws := ws) F room gd hx I1 ?_ rv rs ru lu hq) fun r s' q => ?_)
  · have := hb s1 ws I1.kIn (by rw [List.append_nil, ← rv.length, ← ru.length]; exact lu)
    rw [List.append_nil] at this
    exact this
  · match r, q with
    | .error e, q => exact q
    | .ok (.ret u), q => exact q
    | .ok .next, q => exact False.elim q
    | .ok .brk, q => exact False.elim q
    | .ok .cont, q => exact False.elim q
end
mutual
def nr : U → Bool
  | .tup xs => nrs xs
  | .ob _ => false
  | _ => true
def nrs : List U → Bool
  | [] => true
  | x :: xs => nr x && nrs xs
end
def nrO : O → Bool
  | .lst xs => nrs xs
  | .dic kvs => nrs (kvs.map (·.2))
  | .ins _ fs => nrs (fs.map (·.2))
  | .exc _ fs => nrs (fs.map (·.2))
  | .lk kvs => nrs (kvs.map (·.2))
section
variable {K : PySem.W.Frag} {ρ ρ' : List Addr} {H H' : Hp} {T : Sto} {E : XK}
mutual
theorem RV.nr : ∀ {u : U} {v : V}, RV K ρ H u v → nr u = true → RV K ρ' H u v
  | _, _, .non, _ => .non
  | _, _, .bl b, _ => .bl b
  | _, _, .int i, _ => .int i
  | _, _, .str x, _ => .str x
  | _, _, .tup a r, h => .tup a (RVs.nr r (by simpa [Lf.nr] using h))
  | _, _, .ob e, h => by simp [Lf.nr] at h
  | _, _, .scr e, _ => .scr e
  | _, _, .raw v, _ => .raw v
theorem RVs.nr : ∀ {us : List U} {vs : List V}, RVs K ρ H us vs → nrs us = true → RVs K ρ' H us vs
  | _, _, .nil, _ => .nil
  | _, _, .cons r s, h => by
    have h : (Lf.nr _ && nrs _) = true := h
    obtain ⟨h1, h2⟩ := Bool.and_eq_true_iff.mp h
    exact .cons (RV.nr r h1) (RVs.nr s h2)
end
theorem paired_nr {α β : Type} {F : α → β → Prop} {pu : α → U} {pv : β → V} : ∀ {l : List α} {m : List β}, Paired (fun p q => F p q ∧ RV K ρ H (pu p) (pv q)) l m → nrs (l.map pu) = true → Paired (fun p q => F p q ∧ RV K ρ' H (pu p) (pv q)) l m
  | _, _, .nil, _ => .nil
  | _, _, .cons r s, h => by
    have h : (Lf.nr _ && nrs _) = true := h
    obtain ⟨h1, h2⟩ := Bool.and_eq_true_iff.mp h
    exact .cons ⟨r.1, r.2.nr h1⟩ (paired_nr s h2)
theorem RO.nr {o : O} {a : Addr} (h : RO K ρ H o a) (n : nrO o = true) : RO K ρ' H o a := by
  cases o with
  | lst xs => obtain ⟨vs, e, r⟩ := h; exact ⟨vs, e, r.nr n⟩
  | dic kvs =>
    rcases h with ⟨ks, e, r⟩ | ⟨k0, ks, e, r⟩
    · exact .inl ⟨ks, e, paired_nr (F := fun (p : U × U) (q : Key × V) => p.1 = kU q.1) (pu := fun p => p.2) (pv := fun q => q.2) r n⟩
    · exact .inr ⟨k0, ks, e, paired_nr (F := fun (p : U × U) (q : List Key × V) => p.1 = .tup (q.1.map kU)) (pu := fun p => p.2) (pv := fun q => q.2) r n⟩
  | ins C fs => obtain ⟨dx, gs, e, r⟩ := h; exact ⟨dx, gs, e, paired_nr (F := fun (p : Str × U) (q : Str × V) => p.1 = q.1) (pu := fun p => p.2) (pv := fun q => q.2) r n⟩
  | lk kvs => obtain ⟨od, ks, e, r⟩ := h; exact ⟨od, ks, e, paired_nr (F := fun (p : U × U) (q : Key × V) => p.1 = kU q.1) (pu := fun p => p.2) (pv := fun q => q.2) r n⟩
  | exc C fs =>
    rcases h with ⟨d, gs, e, e2, r⟩ | h
    rotate_left
    · exact .inr h
    exact .inl ⟨d, gs, e, e2, paired_nr (F := fun (p : Str × U) (q : Str × V) => p.1 = q.1) (pu := fun p => p.2) (pv := fun q => q.2) r n⟩
theorem rs_nil : RS K [] H [] := ⟨rfl, List.nodup_nil, fun i o a e => by simp at e⟩
theorem xr_nr {e : Ex} {T T0 : Sto} {ρ₀ : List Addr} (h : XR K ρ H E e T) (n : nrs (e.fs.map (·.2)) = true) (up : ∀ ρ' H', Gr K ρ₀ H ρ' H' → RS K ρ' H' T0 → Gr K ρ H ρ H' ∧ RS K ρ H' T) : XR K ρ₀ H E e T0 := by
  intro ρ' H' d gs g s hd r
  obtain ⟨g2, s2⟩ := up ρ' H' g s
  exact h ρ H' d gs g2 s2 hd (paired_nr (F := fun (p : Str × U) (q : Str × V) => p.1 = q.1) (pu := fun p => p.2) (pv := fun q => q.2) r n)
/-- what a call over no object leaves -/
theorem up0 (s : RS K ρ H T) (g : Gr K [] H ρ' H') : Gr K ρ H ρ H' ∧ RS K ρ H' T := by
  have kp : ∀ a o, H a = some o → H' a = some o := fun a o q => g.kp a o (by simp) q
  refine ⟨⟨fun _ _ e => e, g.sq, g.rf, fun a o _ q => kp a o q, fun a h n => absurd h n, g.xd, g.fz⟩, s.len, s.nd, fun i o a e1 e2 => ?_⟩
  obtain ⟨x, hx, _⟩ := s.live (List.mem_of_getElem? e2)
  exact (s.at_ i o a e1 e2).mono (fun _ _ e => e) g.sq g.rf g.xd (by rw [hx, kp a x hx])
/-- what a call over one object leaves -/
theorem up1 {i : Nat} {a : Addr} {o' : O} {T0 : Sto} (s : RS K ρ H T) (e : ρ[i]? = some a) (g : Gr K [a] H ρ' H') (s' : RS K ρ' H' (o' :: T0)) (n : nrO o' = true) : Gr K ρ H ρ H' ∧ RS K ρ H' (T.set i o') := by
  have ma : a ∈ ρ := List.mem_of_getElem? e
  have kp : ∀ b x, b ≠ a → H b = some x → H' b = some x := fun b x h q => g.kp b x (by simpa using h) q
  have hi := (List.getElem?_eq_some_iff.mp e).1
  have e0 : ρ'[0]? = some a := g.pre 0 a rfl
  refine ⟨⟨fun _ _ e => e, g.sq, g.rf, fun b x h q => kp b x (fun z => h (by rw [z]; exact ma)) q, fun b h n => absurd h n, g.xd, g.fz⟩, by rw [List.length_set]; exact s.len, s.nd, fun j u b e1 e2 => ?_⟩
  by_cases hj : i = j
  · subst hj
    rw [List.getElem?_set_self (by rw [← s.len]; exact hi)] at e1
    cases e1
    rw [e] at e2
    cases e2
    exact (s'.at_ 0 o' a rfl e0).nr n
  · rw [List.getElem?_set_ne hj] at e1
    have nb : b ≠ a := by
      rintro rfl
      have hjl := (List.getElem?_eq_some_iff.mp e2).1
      exact hj ((List.getElem_inj s.nd).mp ((List.getElem?_eq_some_iff.mp e).2.trans (List.getElem?_eq_some_iff.mp e2).2.symm))
    obtain ⟨x, hx, _⟩ := s.live (List.mem_of_getElem? e2)
    exact (s.at_ j u b e1 e2).mono (fun _ _ e => e) g.sq g.rf g.xd (by rw [hx, kp b x nb hx])
end
/-- a call over the whole store -/
def lenG (n : Nat) (g : List U → M U) : List U → M U := fun us T => if us.length = n then g us T else .no
/-- a call of what takes no object: its own are dropped, but for the one handed back -/
def pureG (n : Nat) (g : List U → M U) : List U → M U := fun us T => if us.length = n ∧ nrs us = true then match g us [] with
  | .no => .no
  | .ex e _ => if nrs (e.fs.map (·.2)) = true then .ex e T else .no
  | .ok (.ob k) T0 => match T0[k]? with
    | some o => if nrO o = true then .ok (.ob T.length) (T ++ [o]) else .no
    | none => .no
  | .ok u _ => if nr u = true then .ok u T else .no else .no
/-- a call of what takes one object first, and no other -/
def urnG (n : Nat) (g : List U → M U) : List U → M U := fun us T => match us with
  | .ob i :: r => if r.length + 1 = n ∧ nrs r = true then match T[i]? with
    | some o => if nrO o = true then match g (.ob 0 :: r) [o] with
      | .ok u (o' :: _) => if nrO o' = true ∧ nr u = true then .ok u (T.set i o') else .no
      | _ => .no else .no
    | none => .no else .no
  | _ => .no
section
variable {K : PySem.W.Frag} {ρ : List Addr} {H : Hp} {T : Sto} {E : XK} {ps : List Str} {g : List U → M U} {us : List U} {vs : List V} {Q : VK}
theorem tG_len (s : RS K ρ H T) (r : RVs K ρ H us vs) (h : OK K ρ H E (rV K) (lenG ps.length g us T) Q) : tG K ps g E vs H Q := by
  unfold lenG at h
  split at h
  · rename_i hu
    exact ⟨ρ, T, us, s, r, hu, h⟩
  · exact False.elim h
theorem tG_pure (s : RS K ρ H T) (r : RVs K ρ H us vs) (h : OK K ρ H E (rV K) (pureG ps.length g us T) Q) : tG K ps g E vs H Q := by
  unfold pureG at h
  split at h
  · rename_i hu
    refine ⟨[], [], us, rs_nil, r.nr hu.2, hu.1, ?_⟩
    generalize g us [] = res at h
    match res, h with
    | .no, h => exact h
    | .ex e T0, h =>
      dsimp only at h
      split at h
      · rename_i hn
        exact xr_nr h hn fun ρ' H' g s' => up0 s g
      · exact False.elim h
    | .ok (.ob k) T0, h =>
      dsimp only at h
      split at h
      · rename_i o eo
        split at h
        · rename_i hn
          intro ρ' H' b g s' rb
          obtain ⟨g2, s2⟩ := up0 s g
          cases rb with
          | @ob _ a ea =>
            have na : a ∉ ρ := fun m => by
              obtain ⟨y, hy, _⟩ := s.live m
              rw [g.nw a (List.mem_of_getElem? ea) (by simp)] at hy
              cases hy
            refine h (ρ ++ [a]) H' (.ref a) ⟨fun i b e => by rw [List.getElem?_append_left (List.getElem?_eq_some_iff.mp e).1]; exact e, g2.sq, g2.rf, g2.kp, fun b m n => ?_, g2.xd, g2.fz⟩ ?_ ?_
            · rcases List.mem_append.mp m with m | m
              · exact absurd m n
              · rw [List.mem_singleton.mp m]; exact g.nw a (List.mem_of_getElem? ea) (by simp)
            · exact s2.adopt na (.inr trivial) ((s'.at_ k o a eo ea).nr hn) fun _ _ q => q.more
            · exact .ob (by rw [← s2.len, List.getElem?_append_right (Nat.le_refl _), Nat.sub_self]; rfl)
        · exact False.elim h
      · exact False.elim h
    | .ok .non T0, h => exact fun ρ' H' b g s' rb => h ρ H' b (up0 s g).1 (up0 s g).2 (rb.nr rfl)
    | .ok (.bl _) T0, h => exact fun ρ' H' b g s' rb => h ρ H' b (up0 s g).1 (up0 s g).2 (rb.nr rfl)
    | .ok (.int _) T0, h => exact fun ρ' H' b g s' rb => h ρ H' b (up0 s g).1 (up0 s g).2 (rb.nr rfl)
    | .ok (.str _) T0, h => exact fun ρ' H' b g s' rb => h ρ H' b (up0 s g).1 (up0 s g).2 (rb.nr rfl)
    | .ok (.scr _) T0, h => exact fun ρ' H' b g s' rb => h ρ H' b (up0 s g).1 (up0 s g).2 (rb.nr rfl)
    | .ok (.raw _) T0, h => exact fun ρ' H' b g s' rb => h ρ H' b (up0 s g).1 (up0 s g).2 (rb.nr rfl)
    | .ok (.tup xs) T0, h =>
      dsimp only at h
      split at h
      · rename_i hn
        exact fun ρ' H' b g s' rb => h ρ H' b (up0 s g).1 (up0 s g).2 (rb.nr hn)
      · exact False.elim h
  · exact False.elim h
theorem tG_urn (s : RS K ρ H T) (r : RVs K ρ H us vs) (h : OK K ρ H E (rV K) (urnG ps.length g us T) Q) : tG K ps g E vs H Q := by
  unfold urnG at h
  split at h
  · rename_i i rr
    split at h
    · rename_i hu
      split at h
      · rename_i o eo
        split at h
        · rename_i ho
          cases r with
          | @cons _ v _ vr r1 r2 =>
            cases r1 with
            | @ob _ a ea =>
              have ra := s.at_ i o a eo ea
              refine ⟨[a], [o], .ob 0 :: rr, ⟨rfl, by simp, fun j u b e1 e2 => ?_⟩, .cons (.ob rfl) (r2.nr hu.2), hu.1, ?_⟩
              · cases j with
                | zero => cases e1; cases e2; exact ra.nr ho
                | succ j => simp at e1
              · generalize g (.ob 0 :: rr) [o] = res at h
                match res, h with
                | .ok u (o' :: T0), h =>
                  dsimp only at h
                  split at h
                  · rename_i hn
                    exact fun ρ' H' b g s' rb => h ρ H' b (up1 s ea g s' hn.1).1 (up1 s ea g s' hn.1).2 (rb.nr hn.2)
                  · exact False.elim h
                | .ok u [], h => exact False.elim h
                | .no, h => exact h
                | .ex _ _, h => exact False.elim h
        · exact False.elim h
      · exact False.elim h
    · exact False.elim h
  · exact False.elim h
end
section
variable {X : Cx} {E : XK} {C : CXT} {k : Nat} {f : Addr} {fd : FuncData} {ps : List Str} {g : List U → M U} {x : Str} {p pos : Pos} {e : Expr} {es : List Expr} {Fr : FxA}
/-- how the callee is run: over the whole store, over nothing, over its first argument alone -/
inductive Kd where
  | len
  | pur
  | urn
def kdG : Kd → Nat → (List U → M U) → List U → M U
  | .len => lenG
  | .pur => pureG
  | .urn => urnG
theorem tG_kd {K : PySem.W.Frag} {ρ : List Addr} {H : Hp} {T : Sto} {us : List U} {vs : List V} {Q : VK} (kd : Kd) (s : RS K ρ H T) (r : RVs K ρ H us vs) (h : OK K ρ H E (rV K) (kdG kd ps.length g us T) Q) : tG K ps g E vs H Q := by
  cases kd with
  | len => exact tG_len s r h
  | pur => exact tG_pure s r h
  | urn => exact tG_urn s r h
theorem fe_call (kd : Kd) (F : FnG X.prog X.w X.K X.mg X.base C k f fd ps g) (room : Room k X.A) (gd : X.A.guards = some []) (hg : Gl X x) (hm : X.mg x = some (.ref f)) (hk : PySem.W.keepIn X.K (.ref f) = true) (hb : Binds X.K fd ps []) (hx : Passes C X E)
    (ha : FA X E (e :: es) Fr) (hdb : (x == ("__debug__" : Str)) = false := by decide) (he : starEach (e :: es) X.env = (false, eval e X.env) :: starEach es X.env := by rfl) (hpl : (backTo pos (starEach es X.env)).any (·.1) = false := by rfl) :
    FE X E (.Call (.Name x p) (e :: es) [] pos) (fCall (kdG kd ps.length g) Fr) := by
  obtain ⟨t, kk, q⟩ := ha
  refine ⟨_, peG F room gd hg hm hk hb hx kk hdb he hpl, fun σ H ρ T η Q s re h => ?_⟩
  exact q σ H ρ T η _ s re (OK.mono (OK.bind h) fun xs H1 ⟨ρ1, T1, us, g1, s1, r1, k1⟩ => tG_kd kd s1 r1 k1)
/-- the items at the places ix -/
def pick {α : Type} (ix : List Nat) (l : List α) : List α := ix.filterMap fun i => l[i]?
def kwG (kd : Kd) (n m : Nat) (ix : List Nat) (g : List U → M U) : List U → M U := fun us T => if us.length = m then kdG kd n g (pick ix us) T else .no
end
end Lf
set_option Elab.async false
set_option linter.all false
set_option maxRecDepth 100000
set_option maxHeartbeats 4000000
namespace Lf
open PySem PySem.Spec L2
def constI (xs : List U) : ItF := ⟨xs.map fun u _ => some u, fun _ => true⟩
def lstAt (T : Sto) (k n : Nat) : Option (List U) := match T[k]? with
  | some (.lst ys) => if ys.length = n then some ys else none
  | _ => none
def objI (k n : Nat) : ItF := ⟨(List.range n).map fun i T => (lstAt T k n).bind (·[i]?), fun T => (lstAt T k n).isSome⟩
def gIter : U → M ItF := fun u T => match u with
  | .tup xs => .ok (constI xs) T
  | .scr ns => .ok (constI (ns.map .int)) T
  | .ob k => match T[k]? with
    | some (.lst xs) => .ok (objI k xs.length) T
    | _ => .no
  | _ => .no
def fIter (Fe : FxE) : FxI := fun η T => (Fe η T).bind fun u T1 => gIter u T1
def rgU (lo : Int) (n : Nat) : List U := (List.range n).map fun i => .int (lo + (i : Nat))
def small62 (i : Int) : Bool := decide (-4611686018427387904 ≤ i) && decide (i < 4611686018427387904)
def gRg1 : List U → M ItF := fun us T => match us with
  | [.int j] => if small62 j = true then .ok (constI (rgU 0 j.toNat)) T else .no
  | _ => .no
def fRg (g : List U → M ItF) (Fr : FxA) : FxI := fun η T => (Fr η T).bind fun us T1 => g us T1
section
variable {K : PySem.W.Frag} {ρ : List Addr} {H : Hp} {T : Sto}
theorem itOk_const {xs : List U} {J : It} (hgo : ∀ i H', i < xs.length → (∃ ρ', Gr K ρ H ρ' H') → J.go i H') (hst : ∀ H', (∃ ρ', Gr K ρ H ρ' H') → J.stop xs.length H')
    (hy : ∀ i u ρ' H' x H'', xs[i]? = some u → Gr K ρ H ρ' H' → J.yld i H' x H'' → H'' = H' ∧ RV K ρ' H' u x) : ItOk K ρ H (constI xs) J where
  go := fun i f ρ' H' T' u e g s ef => by
    refine hgo i H' ?_ ⟨ρ', g⟩
    have := (List.getElem?_eq_some_iff.mp e).1
    simpa [constI] using this
  yl := fun i f ρ' H' T' u x H'' e g s ef y => by
    have e : (xs.map fun (u : U) (_ : Sto) => some u)[i]? = some f := e
    rw [List.getElem?_map] at e
    cases q : xs[i]? with
    | none => rw [q] at e; cases e
    | some z =>
      rw [q] at e
      cases e
      have ez : z = u := Option.some.inj ef
      subst ez
      obtain ⟨rfl, r⟩ := hy i z ρ' H' x H'' q g y
      exact ⟨Gr.refl, s, r⟩
  st := fun ρ' H' T' g s _ => by
    have := hst H' ⟨ρ', g⟩
    have e : (constI xs).its.length = xs.length := by simp [constI]
    rw [e]
    exact this
theorem itOk_tup {a : Addr} {us : List U} {vs : List V} (q : SqT K H a vs) (r : RVs K ρ H us vs) : ItOk K ρ H (constI us) (Itt K a) := by
  have hl := r.length
  refine itOk_const (fun i H' hi ⟨ρ', g⟩ => ⟨vs, vs[i]'(by omega), g.sq _ _ q, by simp⟩) (fun H' ⟨ρ', g⟩ => ⟨vs, g.sq _ _ q, by omega⟩) (fun i u ρ' H' x H'' e g y => ?_)
  obtain ⟨e1, y⟩ := y
  refine ⟨e1, ?_⟩
  obtain ⟨v, h1, h2⟩ := r.get e
  have h3 := y vs (g.sq _ _ q)
  rw [h1] at h3
  cases h3
  exact h2.gr g
theorem itOk_scr {a : Addr} {ns : List Int} (q : RF K H a (ns.map V.int)) : ItOk K ρ H (constI (ns.map .int)) (Itl K a) := by
  refine itOk_const (fun i H' hi ⟨ρ', g⟩ => ⟨ns.map V.int, V.int (ns[i]'(by simpa using hi)), (g.rf _ _ q).sq, by simp⟩) (fun H' ⟨ρ', g⟩ => ⟨ns.map V.int, (g.rf _ _ q).sq, by simp⟩) (fun i u ρ' H' x H'' e g y => ?_)
  obtain ⟨e1, y⟩ := y
  refine ⟨e1, ?_⟩
  have h3 := y _ (g.rf _ _ q).sq
  rw [List.getElem?_map] at e h3
  cases z : ns[i]? with
  | none => rw [z] at e; cases e
  | some n =>
    rw [z] at e h3
    cases e
    cases h3
    exact .int n
theorem lstAt_some {T : Sto} {k n : Nat} {ys : List U} (h : lstAt T k n = some ys) : T[k]? = some (.lst ys) ∧ ys.length = n := by
  unfold lstAt at h
  split at h
  · split at h
    · cases h
      exact ⟨by assumption, by assumption⟩
    · cases h
  · cases h
theorem itOk_obj {a : Addr} {k n : Nat} (e : ρ[k]? = some a) : ItOk K ρ H (objI k n) (Itl K a) where
  go := fun i f ρ' H' T' u ef g s h => by
    have ef : ((List.range n).map fun (i : Nat) (T : Sto) => (lstAt T k n).bind (·[i]?))[i]? = some f := ef
    rw [List.getElem?_map] at ef
    cases q : (List.range n)[i]? with
    | none => rw [q] at ef; cases ef
    | some j =>
      rw [q] at ef
      cases ef
      have ej : j = i := by
        have := (List.getElem?_eq_some_iff.mp q).2
        simpa using this.symm
      subst ej
      obtain ⟨ys, h1, h2⟩ := Option.bind_eq_some_iff.mp h
      obtain ⟨h3, _⟩ := lstAt_some h1
      obtain ⟨b, p, vs, f1, rs⟩ := s.get h3
      rw [g.pre k a e] at p
      cases p
      obtain ⟨v, h4, _⟩ := rs.get h2
      exact ⟨vs, v, SqL.of f1, h4⟩
  yl := fun i f ρ' H' T' u x H'' ef g s h y => by
    have ef : ((List.range n).map fun (i : Nat) (T : Sto) => (lstAt T k n).bind (·[i]?))[i]? = some f := ef
    rw [List.getElem?_map] at ef
    cases q : (List.range n)[i]? with
    | none => rw [q] at ef; cases ef
    | some j =>
      rw [q] at ef
      cases ef
      have ej : j = i := by
        have := (List.getElem?_eq_some_iff.mp q).2
        simpa using this.symm
      subst ej
      obtain ⟨ys, h1, h2⟩ := Option.bind_eq_some_iff.mp h
      obtain ⟨h3, _⟩ := lstAt_some h1
      obtain ⟨b, p, vs, f1, rs⟩ := s.get h3
      rw [g.pre k a e] at p
      cases p
      obtain ⟨v, h4, h5⟩ := rs.get h2
      obtain ⟨rfl, y⟩ := y
      have := y vs (SqL.of f1)
      rw [h4] at this
      cases this
      exact ⟨Gr.refl, s, h5⟩
  st := fun ρ' H' T' g s h => by
    have h : (lstAt T' k n).isSome = true := h
    obtain ⟨ys, h1⟩ := Option.isSome_iff_exists.mp h
    obtain ⟨h3, h4⟩ := lstAt_some h1
    obtain ⟨b, p, vs, f1, rs⟩ := s.get h3
    rw [g.pre k a e] at p
    cases p
    exact ⟨vs, SqL.of f1, by rw [← rs.length, h4]; simp [objI]⟩
end
section
variable {X : Cx} {E : XK} {pos : Pos} {tg : Expr}
/-- a list or a tuple is walked -/
def iSeq (K : PySem.W.Frag) (te : TE) : TI := fun σ H R => te σ H fun x H1 => ∃ a, x = .ref a ∧ (((∃ xs, SqL K H1 a xs) ∧ R (Itl K a) H1) ∨ ((∃ xs, SqT K H1 a xs) ∧ R (Itt K a) H1))
theorem pi_seq {l : Expr} {te : TE} (hl : PE X l te) : PI X tg l (iSeq X.K te) := by
  constructor
  intro pins s σ H R I h
  refine thn (hl.run pins s σ H _ I h) ?_
  rintro v s1 ⟨x, H1, I1, r1, a, rfl, q⟩
  cases r1
  rcases q with ⟨⟨xs, hq⟩, q⟩ | ⟨⟨xs, hq⟩, q⟩
  · obtain ⟨its, rv, p, hz⟩ := I1.list hq
    refine PySem.wpAny_pyIter_list p.isList ⟨s1.heap.objs.size, [s1.heap.objs.size], fun i h => h.IsListIter s1.heap.objs.size a i, Itl X.K a, H1, rfl, I1.kept (t' := s1.toks) fun b o e => Heap.get?_push_of_some _ e, turn_list a _, ⟨_, Heap.get?_push_size _ rfl, rfl, rfl⟩, fun b hb => ?_, q⟩
    rw [List.mem_singleton.mp hb]
    exact I1.fpOk (Nat.le_refl _) (I1.hok.fresh (Nat.le_refl _))
  · obtain ⟨its, rv, p, hz⟩ := I1.tuple hq
    refine PySem.wpAny_pyIter_tuple (show s1.heap.IsTuple a its.toArray from p) ⟨s1.heap.objs.size, [s1.heap.objs.size], fun i h => h.IsTupleIter s1.heap.objs.size a i, Itt X.K a, H1, rfl, I1.kept (t' := s1.toks) fun b o e => Heap.get?_push_of_some _ e, turn_tuple a _, ⟨_, Heap.get?_push_size _ rfl, rfl, rfl⟩, fun b hb => ?_, q⟩
    rw [List.mem_singleton.mp hb]
    exact I1.fpOk (Nat.le_refl _) (I1.hok.fresh (Nat.le_refl _))
theorem fi_seq {l : Expr} {Fe : FxE} (hl : FE X E l Fe) : FI X E tg l (fIter Fe) := by
  obtain ⟨t, k, q⟩ := hl
  refine ⟨_, pi_seq k, fun σ H ρ T η R s r h => ?_⟩
  refine q σ H ρ T η _ s r (OK.mono (OK.bind h) fun x H1 ⟨ρ1, T1, u, g1, s1, r1, k1⟩ => ?_)
  unfold gIter at k1
  cases r1 with
  | @tup a vs us sq rs => exact ⟨a, rfl, .inr ⟨⟨vs, sq⟩, k1 _ _ _ Gr.refl s1 (itOk_tup sq rs)⟩⟩
  | @scr a ns h => exact ⟨a, rfl, .inl ⟨⟨_, h.sq⟩, k1 _ _ _ Gr.refl s1 (itOk_scr h)⟩⟩
  | @ob i a ea =>
    dsimp only at k1
    split at k1
    · rename_i xs e
      obtain ⟨b, p, vs, f1, rs⟩ := s1.get e
      rw [ea] at p
      cases p
      exact ⟨a, rfl, .inl ⟨⟨vs, SqL.of f1⟩, k1 _ _ _ Gr.refl s1 (itOk_obj ea)⟩⟩
    · exact False.elim k1
  | _ => exact False.elim k1
theorem itOk_rg {K : PySem.W.Frag} {ρ : List Addr} {H : Hp} {lo : Int} {n : Nat} : ItOk K ρ H (constI (rgU lo n)) (Itr lo n) := by
  have hl : (rgU lo n).length = n := by simp [rgU]
  refine itOk_const (fun i H' hi _ => by rw [hl] at hi; exact hi) (fun H' _ => by rw [hl]; exact Nat.le_refl _) (fun i u ρ' H' y H'' e g yy => ?_)
  obtain ⟨e1, rfl⟩ := yy
  refine ⟨e1, ?_⟩
  unfold rgU at e
  rw [List.getElem?_map] at e
  cases q : (List.range n)[i]? with
  | none => rw [q] at e; cases e
  | some j =>
    rw [q] at e
    have ej : j = i := by
      have := (List.getElem?_eq_some_iff.mp q).2
      simpa using this.symm
    subst ej
    cases e
    exact .int _
theorem small62_iff {i : Int} (h : small62 i = true) : -(2 ^ 62) ≤ i ∧ i < 2 ^ 62 := by
  unfold small62 at h
  simp only [Bool.and_eq_true, decide_eq_true_eq] at h
  omega
theorem fi_range1 {a : Expr} {Fr : FxA} {p : Pos} (hg : Gl X "range") (hm : X.mg "range" = none) (ha : FA X E [a] Fr) (hs : starEach [a] X.env = [(false, eval a X.env)] := by rfl) : FI X E tg (.Call (.Name "range" p) [a] [] pos) (fRg gRg1 Fr) := by
  obtain ⟨t, k, q⟩ := ha
  refine ⟨_, pi_range1 hg hm k hs, fun σ H ρ T η R s r h => ?_⟩
  refine q σ H ρ T η _ s r (OK.mono (OK.bind h) fun vs H1 ⟨ρ1, T1, us, g1, s1, r1, k1⟩ => ?_)
  unfold gRg1 at k1
  split at k1
  · match r1 with
    | .cons (.int j) .nil =>
      split at k1
      · rename_i hj
        exact ⟨_, rfl, (small62_iff hj).1, (small62_iff hj).2, k1 _ _ _ Gr.refl s1 itOk_rg⟩
      · exact False.elim k1
  · exact False.elim k1
end
def gIx : U → U → M U := fun o i T => match o, i with
  | .tup xs, .int n => match atI xs n with
    | some u => .ok u T
    | none => .no
  | .scr ns, .int n => match atI ns n with
    | some m => .ok (.int m) T
    | none => .no
  | .str z, .int n => if z.length ≤ 16777216 then match atI z.cps.toList n with
    | some c => .ok (.str ⟨#[c]⟩) T
    | none => .no else .no
  | .ob k, .int n => match T[k]? with
    | some (.lst xs) => match atI xs n with
      | some u => .ok u T
      | none => .no
    | _ => .no
  | _, _ => .no
section
variable {X : Cx} {E : XK} {pos : Pos}
theorem atI_rel {K : PySem.W.Frag} {ρ : List Addr} {H : Hp} {us : List U} {vs : List V} {n : Int} {u : U} (r : RVs K ρ H us vs) (h : atI us n = some u) : ∃ v, atI vs n = some v ∧ RV K ρ H u v := by
  unfold atI at h ⊢
  obtain ⟨j, h1, h2⟩ := Option.bind_eq_some_iff.mp h
  obtain ⟨v, h3, h4⟩ := r.get h2
  exact ⟨v, Option.bind_eq_some_iff.mpr ⟨j, by rw [← r.length]; exact h1, h3⟩, h4⟩
theorem atI_map {α β : Type} {f : α → β} {xs : List α} {n : Int} {x : α} (h : atI xs n = some x) : atI (xs.map f) n = some (f x) := by
  unfold atI at h ⊢
  obtain ⟨j, h1, h2⟩ := Option.bind_eq_some_iff.mp h
  exact Option.bind_eq_some_iff.mpr ⟨j, by rw [List.length_map]; exact h1, by rw [List.getElem?_map, h2]; rfl⟩
theorem fe_ix {a b : Expr} {Fa Fb : FxE} (ha : FE X E a Fa) (hb : FE X E b Fb) (hs : PlainIx b := by intro _ _; rfl) : FE X E (.Subscript a b pos) (fBin gIx Fa Fb) := by
  obtain ⟨ta, ka, qa⟩ := ha
  obtain ⟨tb, kb, qb⟩ := hb
  refine ⟨_, pe_ix ix_seq ka kb hs, fun σ H ρ T η Q s re h => ?_⟩
  refine qa σ H ρ T η _ s re (OK.mono (OK.bind h) fun x H1 ⟨ρ1, T1, u, g1, s1, r1, k1⟩ => ?_)
  refine qb σ H1 ρ1 T1 η _ s1 (re.gr g1) (OK.mono (OK.bind k1) fun y H2 ⟨ρ2, T2, w, g2, s2, r2, k2⟩ => ?_)
  have r1 := RV.gr r1 g2
  unfold gIx at k2
  split at k2
  · split at k2
    · rename_i v e
      cases r2
      match r1 with
      | .tup q rs =>
        obtain ⟨v', h1, h2⟩ := atI_rel rs e
        exact .inr (.inl ⟨_, _, _, _, rfl, rfl, q, h1, okV s2 k2 h2⟩)
    · exact False.elim k2
  · split at k2
    · rename_i v e
      cases r2
      match r1 with
      | .scr q => exact .inl ⟨_, _, _, _, rfl, rfl, q.sq, atI_map e, okV s2 k2 (.int _)⟩
    · exact False.elim k2
  · split at k2
    · rename_i hz
      split at k2
      · rename_i v e
        cases r2
        cases r1
        exact .inr (.inr ⟨_, _, _, rfl, rfl, by rw [sz16]; exact hz, e, okV s2 k2 (.str _)⟩)
      · exact False.elim k2
    · exact False.elim k2
  · split at k2
    · rename_i xs ex
      split at k2
      · rename_i v e
        cases r2
        match r1 with
        | .ob ea =>
          obtain ⟨b, p, vs, f1, rs⟩ := s2.get ex
          rw [ea] at p
          cases p
          obtain ⟨v', h1, h2⟩ := atI_rel rs e
          exact .inl ⟨_, _, _, _, rfl, rfl, SqL.of f1, h1, okV s2 k2 h2⟩
      · exact False.elim k2
    · exact False.elim k2
  · exact False.elim k2
def cutU {α : Type} (xs : List α) (lo hi : Option Int) : List α := (xs.drop (HT.sIx xs.length 0 lo)).take (HT.sIx xs.length xs.length hi - HT.sIx xs.length 0 lo)
def gCut (lo hi : Option Int) : U → M U := fun o T => match o with
  | .tup xs => .ok (.tup (cutU xs lo hi)) T
  | .ob k => match T[k]? with
    | some (.lst xs) => nw (.lst (cutU xs lo hi)) T
    | _ => .no
  | _ => .no
abbrev FxO := Lo → M (Option Int)
structure FO (X : Cx) (E : XK) (e : Option Expr) (F : FxO) : Prop where
  ex : ∃ t : TO, PO X e t ∧ ∀ (σ : L2.St) (H : Hp) (ρ : List Addr) (T : Sto) (η : Lo) (Q : Option Int → Hp → Prop), RS X.K ρ H T → RE X.K ρ H η σ → OK X.K ρ H E (fun _ _ a b => a = b) (F η T) Q → t σ H Q
def fNoP : FxO := fun _ T => .ok none T
def fPt (Fe : FxE) : FxO := fun η T => (Fe η T).bind fun u T1 => match u with
  | .int i => .ok (some i) T1
  | _ => .no
theorem fo_none : FO X E none fNoP := ⟨_, po_none, fun _ _ _ _ _ _ s _ h => h _ _ _ Gr.refl s rfl⟩
theorem fo_some {e : Expr} {Fe : FxE} (he : FE X E e Fe) : FO X E (some e) (fPt Fe) := by
  obtain ⟨t, k, q⟩ := he
  refine ⟨_, po_some k, fun σ H ρ T η Q s re h => ?_⟩
  refine q σ H ρ T η _ s re (OK.mono (OK.bind h) fun x H1 ⟨ρ1, T1, u, g1, s1, r1, k1⟩ => ?_)
  cases u with
  | int i => cases r1; exact ⟨i, rfl, k1 _ _ _ Gr.refl s1 rfl⟩
  | _ => exact False.elim k1
def fSl (Fe : FxE) (Fl Fh : FxO) : FxE := fun η T => (Fe η T).bind fun u T1 => (Fl η T1).bind fun lo T2 => (Fh η T2).bind fun hi T3 => gCut lo hi u T3
theorem cut_rel {K : PySem.W.Frag} {ρ : List Addr} {H : Hp} {us : List U} {vs : List V} (r : RVs K ρ H us vs) (lo hi : Option Int) : RVs K ρ H (cutU us lo hi) (cutV vs lo hi) := by
  unfold cutU cutV
  rw [r.length]
  exact (r.drop _).take _
theorem cut_whole {K : PySem.W.Frag} {ρ : List Addr} {H : Hp} {us : List U} {vs : List V} {lo hi : Option Int} (r : RVs K ρ H us vs) (h1 : HT.sIx vs.length 0 lo = 0) (h2 : HT.sIx vs.length vs.length hi = vs.length) : cutU us lo hi = us := by
  unfold cutU
  rw [r.length, h1, h2, List.drop_zero, Nat.sub_zero, ← r.length, List.take_length]
theorem fe_slice {e : Expr} {lo hi : Option Expr} {p2 : Pos} {Fe : FxE} {Fl Fh : FxO} (he : FE X E e Fe) (hl : FO X E lo Fl) (hh : FO X E hi Fh) : FE X E (.Subscript e (.Slice lo hi none p2) pos) (fSl Fe Fl Fh) := by
  obtain ⟨t, k, q⟩ := he
  obtain ⟨tl, kl, ql⟩ := hl
  obtain ⟨th, kh, qh⟩ := hh
  refine ⟨_, pe_slice (SlR.or sl_tupA sl_list) k kl kh, fun σ H ρ T η Q s re h => ?_⟩
  refine q σ H ρ T η _ s re (OK.mono (OK.bind h) fun x H1 ⟨ρ1, T1, u, g1, s1, r1, k1⟩ => ?_)
  refine ql σ H1 ρ1 T1 η _ s1 (re.gr g1) (OK.mono (OK.bind k1) fun lo' H2 ⟨ρ2, T2, l2, g2, s2, r2, k2⟩ => ?_)
  cases r2
  refine qh σ H2 ρ2 T2 η _ s2 (re.gr (g1.trans g2)) (OK.mono (OK.bind k2) fun hi' H3 ⟨ρ3, T3, l3, g3, s3, r3, k3⟩ => ?_)
  cases r3
  have r1 := RV.gr r1 (g2.trans g3)
  unfold gCut at k3
  split at k3
  · match r1 with
    | .tup (a := a) (vs := vs) sq rs =>
      have cr := cut_rel rs lo' hi'
      refine .inl ⟨a, vs, rfl, sq, fun ⟨h1, h2⟩ => ?_, fun _ p n => okTup s3 k3 cr n⟩
      rw [cut_whole rs h1 h2] at k3
      exact okV s3 k3 (.tup sq rs)
  · split at k3
    · rename_i xs ex
      match r1 with
      | .ob ea =>
        obtain ⟨b, p, vs, f1, rs⟩ := s3.get ex
        rw [ea] at p
        cases p
        exact .inr ⟨_, vs, rfl, SqL.of f1, fun p n => okNew s3 k3 (cut_rel rs lo' hi') n⟩
    · exact False.elim k3
  · exact False.elim k3
end
def seqU (T : Sto) : U → Option (List U)
  | .tup xs => some xs
  | .scr ns => some (ns.map .int)
  | .ob k => match T[k]? with
    | some (.lst xs) => some xs
    | _ => none
  | _ => none
def gLen : List U → M U := fun us T => match us with
  | [.str z] => if z.length ≤ 16777216 then .ok (.int z.length) T else .no
  | [u] => match seqU T u with
    | some xs => .ok (.int xs.length) T
    | none => .no
  | _ => .no
def gAbs : List U → M U := fun us T => match us with
  | [.int i] => .ok (.int (if i < 0 then -i else i)) T
  | _ => .no
def gInt : List U → M U := fun us T => match us with
  | [.int i] => .ok (.int i) T
  | [.bl b] => .ok (.int (if b then 1 else 0)) T
  | [.str a] => match PySem.intText? a with
    | some n => if a.length ≤ 640 then .ok (.int n) T else .no
    | none => .no
  | _ => .no
def gMax2 : List U → M U := fun us T => match us with
  | [.int i, .int j] => .ok (.int (if j > i then j else i)) T
  | _ => .no
def gMin2 : List U → M U := fun us T => match us with
  | [.int i, .int j] => .ok (.int (if j < i then j else i)) T
  | _ => .no
def blsU : List U → Option (List Bool)
  | [] => some []
  | .bl b :: us => (blsU us).map (b :: ·)
  | _ :: _ => none
def lstU (T : Sto) : U → Option (List U)
  | .ob k => match T[k]? with
    | some (.lst xs) => some xs
    | _ => none
  | .scr ns => some (ns.map .int)
  | _ => none
def gAll : List U → M U := fun us T => match us with
  | [u] => match (lstU T u).bind blsU with
    | some bs => .ok (.bl (bs.all id)) T
    | none => .no
  | _ => .no
def gList : List U → M U := fun us T => match us with
  | [u] => match seqU T u with
    | some xs => nw (.lst xs) T
    | none => .no
  | _ => .no
def gTuple : List U → M U := fun us T => match us with
  | [u] => match seqU T u with
    | some xs => .ok (.tup xs) T
    | none => .no
  | _ => .no
section
variable {K : PySem.W.Frag} {ρ : List Addr} {H : Hp} {T : Sto}
theorem seqU_ok {u : U} {v : V} {xs : List U} (s : RS K ρ H T) (r : RV K ρ H u v) (e : seqU T u = some xs) : ∃ (a : Addr) (vs : List V), v = .ref a ∧ (SqL K H a vs ∨ SqT K H a vs) ∧ RVs K ρ H xs vs ∧ ((∃ us, u = .tup us) → SqT K H a vs) ∧ ((∀ us, u ≠ .tup us) → SqL K H a vs) := by
  cases r with
  | tup sq rs => cases e; exact ⟨_, _, rfl, .inr sq, rs, fun _ => sq, fun h => absurd rfl (h _)⟩
  | scr q => cases e; exact ⟨_, _, rfl, .inl q.sq, RVs.ints _, (fun ⟨_, z⟩ => by cases z), fun _ => q.sq⟩
  | @ob k a ea =>
    have e : (match T[k]? with
      | some (.lst xs) => some xs
      | _ => none) = some xs := e
    split at e
    · rename_i ys ex
      cases e
      obtain ⟨b, p, vs, f1, rs⟩ := s.get ex
      rw [ea] at p
      cases p
      exact ⟨a, vs, rfl, .inl (SqL.of f1), rs, (fun ⟨_, z⟩ => by cases z), fun _ => SqL.of f1⟩
    · cases e
  | _ => cases e
theorem lstU_ok {u : U} {v : V} {xs : List U} (s : RS K ρ H T) (r : RV K ρ H u v) (e : lstU T u = some xs) : ∃ a vs, v = .ref a ∧ SqL K H a vs ∧ RVs K ρ H xs vs := by
  cases r with
  | scr q => cases e; exact ⟨_, _, rfl, q.sq, RVs.ints _⟩
  | @ob k a ea =>
    have e : (match T[k]? with
      | some (.lst xs) => some xs
      | _ => none) = some xs := e
    split at e
    · rename_i ys ex
      cases e
      obtain ⟨b, p, vs, f1, rs⟩ := s.get ex
      rw [ea] at p
      cases p
      exact ⟨a, vs, rfl, SqL.of f1, rs⟩
    · cases e
  | _ => cases e
theorem blsU_ok : ∀ {us : List U} {vs : List V} {bs : List Bool}, RVs K ρ H us vs → blsU us = some bs → vs = bs.map V.bl
  | _, _, _, .nil, e => by cases e; rfl
  | u :: us, _, bs, .cons r rs, e => by
    cases u with
    | bl b =>
      obtain ⟨cs, h1, h2⟩ := Option.map_eq_some_iff.mp e
      subst h2
      cases r
      rw [blsU_ok rs h1]
      rfl
    | _ => cases e
end
section
variable {X : Cx} {E : XK} {pos : Pos}
theorem fcl_len : FCall X E (.builtin "len") gLen := by
  refine ⟨_, CallR.or call_len_str call_len_seq, fun ρ H T us xs Q s r h => ?_⟩
  unfold gLen at h
  split at h
  · match r with
    | .cons (.str z) .nil =>
      split at h
      · rename_i hz
        exact .inl ⟨_, rfl, by rw [sz16]; exact hz, okV s h (.int _)⟩
      · exact False.elim h
  · split at h
    · rename_i xs e
      match r with
      | .cons r .nil =>
        obtain ⟨a, vs, rfl, q, rs, _⟩ := seqU_ok s r e
        exact .inr ⟨a, vs, rfl, q, by rw [← rs.length]; exact okV s h (.int _)⟩
    · exact False.elim h
  · exact False.elim h
theorem fcl_abs : FCall X E (.builtin "abs") gAbs := by
  refine ⟨_, call_abs, fun ρ H T us xs Q s r h => ?_⟩
  unfold gAbs at h
  split at h
  · match r with
    | .cons (.int _) .nil => exact ⟨_, rfl, okV s h (.int _)⟩
  · exact False.elim h
theorem fcl_int : FCall X E (.type "int") gInt := by
  refine ⟨_, CallR.or call_int1 call_int_str, fun ρ H T us xs Q s r h => ?_⟩
  unfold gInt at h
  split at h
  · match r with
    | .cons (.int _) .nil => exact .inl (.inl ⟨_, rfl, okV s h (.int _)⟩)
  · match r with
    | .cons (.bl _) .nil => exact .inl (.inr ⟨_, rfl, okV s h (.int _)⟩)
  · split at h
    · rename_i n e
      split at h
      · rename_i hl
        match r with
        | .cons (.str _) .nil => exact .inr ⟨_, _, rfl, e, hl, okV s h (.int _)⟩
      · exact False.elim h
    · exact False.elim h
  · exact False.elim h
theorem fcl_max2 (hc : X.calm = true) : FCall X E (.builtin "max") gMax2 := by
  refine ⟨_, call_max2 hc, fun ρ H T us xs Q s r h => ?_⟩
  unfold gMax2 at h
  split at h
  · match r with
    | .cons (.int _) (.cons (.int _) .nil) => exact ⟨_, _, rfl, okV s h (.int _)⟩
  · exact False.elim h
theorem fcl_min2 (hc : X.calm = true) : FCall X E (.builtin "min") gMin2 := by
  refine ⟨_, call_min2 hc, fun ρ H T us xs Q s r h => ?_⟩
  unfold gMin2 at h
  split at h
  · match r with
    | .cons (.int _) (.cons (.int _) .nil) => exact ⟨_, _, rfl, okV s h (.int _)⟩
  · exact False.elim h
theorem fcl_all (hc : X.calm = true) : FCall X E (.builtin "all") gAll := by
  refine ⟨_, cr_all hc, fun ρ H T us xs Q s r h => ?_⟩
  unfold gAll at h
  split at h
  · split at h
    · rename_i bs e
      obtain ⟨ys, e1, e2⟩ := Option.bind_eq_some_iff.mp e
      match r with
      | .cons r .nil =>
        obtain ⟨a, vs, rfl, q, rs⟩ := lstU_ok s r e1
        rw [blsU_ok rs e2] at q
        exact ⟨a, bs, rfl, q, okV s h (.bl _)⟩
    · exact False.elim h
  · exact False.elim h
theorem fcl_list : FCall X E (.type "list") gList := by
  refine ⟨_, call_list_of, fun ρ H T us xs Q s r h => ?_⟩
  unfold gList at h
  split at h
  · split at h
    · rename_i ys e
      match r with
      | .cons r .nil =>
        obtain ⟨a, vs, rfl, q, rs, _⟩ := seqU_ok s r e
        exact ⟨a, vs, rfl, q, fun p n => okNew s h rs n⟩
    · exact False.elim h
  · exact False.elim h
theorem fcl_tuple : FCall X E (.type "tuple") gTuple := by
  refine ⟨_, call_tuple_of, fun ρ H T us xs Q s r h => ?_⟩
  unfold gTuple at h
  split at h
  · rename_i u
    split at h
    · rename_i ys e
      match r with
      | .cons r .nil =>
        obtain ⟨a, vs, rfl, q, rs, ht, hl⟩ := seqU_ok s r e
        by_cases z : ∃ us, u = U.tup us
        · obtain ⟨zs, rfl⟩ := z
          cases e
          exact ⟨a, vs, rfl, .inr ⟨ht ⟨_, rfl⟩, okV s h (.tup (ht ⟨_, rfl⟩) rs)⟩⟩
        · exact ⟨a, vs, rfl, .inl ⟨hl fun us e => z ⟨us, e⟩, fun p n => okTup s h rs n⟩⟩
    · exact False.elim h
  · exact False.elim h
def tyU (T : Sto) : U → Option String
  | .non => some "NoneType"
  | .bl _ => some "bool"
  | .int _ => some "int"
  | .str _ => some "str"
  | .tup _ => some "tuple"
  | .scr _ => some "list"
  | .ob k => match T[k]? with
    | some (.lst _) => some "list"
    | some (.dic _) => some "dict"
    | _ => none
  | .raw _ => none
def gIsi : List U → M U := fun us T => match us with
  | [u, .raw (.ty n)] => match tyU T u with
    | some t => match kitB t n with
      | some b => .ok (.bl b) T
      | none => .no
    | none => .no
  | _ => .no
theorem tyU_ok {K : PySem.W.Frag} {ρ : List Addr} {H : Hp} {T : Sto} {u : U} {v : V} {t : String} (s : RS K ρ H T) (r : RV K ρ H u v) (e : tyU T u = some t) : TyX K H v (.type t) := by
  cases r with
  | non => cases e; exact .base .non
  | bl b => cases e; exact .base (.bl b)
  | int b => cases e; exact .base (.int b)
  | str b => cases e; exact .base (.str b)
  | tup sq rs =>
    cases e
    rcases sq with (q | ⟨o, q⟩) | ⟨o, its, n, h1, h2, _⟩
    · exact .base (.tup q)
    · exact .fTuple q
    · exact .kTuple h1 h2
  | scr q =>
    cases e
    rcases q with ⟨o, q⟩ | ⟨o, its, n, h1, h2, _⟩
    · exact .base (.frz q)
    · exact .kList h1 h2
  | @ob k a ea =>
    have e : (match T[k]? with
      | some (.lst _) => some "list"
      | some (.dic _) => some "dict"
      | _ => none) = some t := e
    split at e
    · rename_i xs ex
      cases e
      obtain ⟨b, p, vs, f1, rs⟩ := s.get ex
      rw [ea] at p
      cases p
      exact .base (.lst f1)
    · rename_i xs ex
      cases e
      obtain ⟨b, p, f⟩ := s.get ex
      rw [ea] at p
      cases p
      rcases f with ⟨ks, f, _⟩ | ⟨k0, ks, f, _⟩
      · exact .base (.dK f)
      · exact .base (.dT f)
    · cases e
  | raw v => cases e
theorem fcl_isi : FCall X E (.builtin "isinstance") gIsi := by
  refine ⟨_, call_isi, fun ρ H T us xs Q s r h => ?_⟩
  unfold gIsi at h
  split at h
  · split at h
    · rename_i t et
      split at h
      · rename_i b eb
        match r with
        | .cons r (.cons (.raw _) .nil) => exact ⟨_, _, _, _, b, rfl, .ty _, tyU_ok s r et, kit_ty eb, okV s h (.bl _)⟩
      · exact False.elim h
    · exact False.elim h
  · exact False.elim h
/-- a built-in type by its name -/
theorem fe_ty {x : Str} {n : String} {pos : Pos} (hg : Gl X x) (hm : X.mg x = none) (hv : bootBuiltins x = some (.type n)) (hn : x ≠ "__name__" := by decide) (hd : (x == ("__debug__" : Str)) = false := by decide) : FE X E (.Name x pos) (fC (.raw (.ty n))) :=
  ⟨_, pe_bltn (v := .ty n) hg hm hv rfl hn hd, fun _ _ _ _ _ _ s _ h => okV s h (.raw _)⟩
/-- a module's int, text -/
theorem fe_gint {x : Str} {i : Int} {t : Tok} {pos : Pos} (hg : Gl X x) (hm : X.mg x = some (.int i t)) (hd : (x == ("__debug__" : Str)) = false := by decide) : FE X E (.Name x pos) (fC (.int i)) := ⟨_, pe_glob (v := .int i) hg hm ⟨t, rfl⟩ hd, fun _ _ _ _ _ _ s _ h => okV s h (.int i)⟩
def isL (T : Sto) : U → Bool
  | .ob k => match T[k]? with
    | some (.lst _) => true
    | _ => false
  | .scr _ => true
  | _ => false
def fMeth (is : Sto → U → Bool) (g : U → List U → M U) (Fo : FxE) (Fr : FxA) : FxE := fun η T => (Fo η T).bind fun o T1 => if is T1 o = true then (Fr η T1).bind fun us T2 => g o us T2 else .no
def gAppend : U → List U → M U := fun o us T => match o, us with
  | .ob k, [u] => match T[k]? with
    | some (.lst xs) => if xs.length < 16777216 then .ok .non (T.set k (.lst (xs ++ [u]))) else .no
    | _ => .no
  | _, _ => .no
def fAug (i : Nat) (g : U → U → M U) (Fe : FxE) : FxS := fun η T => match η[i]? with
  | some (some u) => (Fe η T).bind fun w T1 => (g u w T1).bind fun z T2 => .ok (.nx, η.set i (some z)) T2
  | _ => .no
def gIAdd : U → U → M U
  | .int i, .int j, T => .ok (.int (i + j)) T
  | _, _, _ => .no
end
end Lf
set_option Elab.async false
set_option linter.all false
set_option maxRecDepth 100000
set_option maxHeartbeats 4000000
namespace Lf
open PySem PySem.Spec L2
/-- from a heap in which at most the script is tracked -/
theorem end_core {P : Program} {w : World} {K : PySem.W.Frag} {mg mb : Str → Option Value} {k : Nat} {fa a : Addr} {fd : FuncData} {x : Str} {g : List U → M U} {s : Shared} {vs : List Value} {ns : List Int} {H : Hp}
    (inK : K.In s.heap) (hns : s.heap.Ns mainGlobals mg) (hmb : s.heap.Ns builtinsNs mb) (hbb : ∀ x : Str, x ≠ "__name__" → mb x = bootBuiltins x) (nolim : s.heap.NoLimit) (nogen : s.gens = #[])
    (ha : s.heap.get? a = some { cls := .type "list", data := .seq vs.toArray }) (room : Room k callerA)
    (F : ∀ base : Heap, K.In base → base.Ns mainGlobals mg → FnG P w K mg base CX0 k fa fd [x] g) (bd : ∀ (s : Shared) (u : Value), BindsTo s fd ⟨[u], []⟩ [(x, u)])
    (res : ∃ T, g [.scr ns] [] = .ok (.bl true) T) (hrf : RF K H a (ns.map V.int)) (hok : HOk P w H s.heap) (only : ∀ b, H b ≠ none → b = a ∧ ∃ o xs, H b = some (.frz o (.lst xs))) (offK : H a ≠ none → K.lookup a = none) :
    codeAny (model P w) callerA (.call (.ref fa) ⟨[.ref a], []⟩) (fun r s' => r = .ok (.ret (.bool true)) ∧ OldK s.heap s'.heap ∧ s'.os = s.os ∧ PyProof.Rows.AllBare s'.gens) s := by
  have free : ∀ {b : Addr} {o : Obj} {es : Array DictEntry} {ep : Nat}, s.heap.get? b = some o → o.data = .dict es ep → H b = none := by
    intro b o es ep e d
    cases q : H b with
    | none => rfl
    | some u =>
      have eb := (only b (by rw [q]; simp)).1
      subst eb
      rw [ha] at e
      cases e
      cases d
  have nsT : ∀ {b : Addr} {m : Str → Option Value}, s.heap.Ns b m → (hidT s.heap H).Ns b m := fun {b m} ⟨o, es, ep, e, d, r⟩ => ⟨o, es, ep, hidT_get e (free e d), d, r⟩
  have kinT : K.In (hidT s.heap H) := by
    intro b o e
    refine hidT_get (inK b o e) ?_
    cases q : H b with
    | none => rfl
    | some u =>
      have eb := (only b (by rw [q]; simp)).1
      subst eb
      rw [offK (by rw [q]; simp)] at e
      cases e
  have md : Mod K mg (hidT s.heap H) := ⟨kinT, nsT hns, ⟨mb, nsT hmb, hbb⟩, let ⟨mc, h1, h2⟩ := nolim; ⟨mc, nsT h1, h2⟩⟩
  have e0 : Env0 P w K mg (hidT s.heap H) callerA [] s H := ⟨rfl, md, fun b o e => of_hidT e, Nat.le_of_eq (hidT_size _ _), trivial, fun b hb => absurd (show b ∈ ([] : List Addr) from hb) (by simp), hok, .of_eq nogen⟩
  obtain ⟨T, eT⟩ := res
  have ask : OK K [] H (fun _ _ _ => False) (rV K) (g [.scr ns] []) (fun v _ => v = .bl true) := by
    rw [eT]
    intro ρ' H' b _ _ r
    cases r
    rfl
  refine codeAny_mono ((F _ kinT (nsT hns)).run callerA [] s H ⟨[.ref a], []⟩ [.ref a] [.ref a] [.scr ns] [] [] (fun v _ => v = .bl true) (fun _ _ _ => False) room rfl e0 (bd s (.ref a)) (.cons rfl .nil) rs_nil (.cons (.scr hrf) .nil) rfl ask) fun r s' h => ?_
  match r, h with
  | .error e, h => exact False.elim h
  | .ok .next, h => exact False.elim h
  | .ok .brk, h => exact False.elim h
  | .ok .cont, h => exact False.elim h
  | .ok (.ret u), h =>
    obtain ⟨v, H', os, bare, un, hok', rv, q⟩ := h
    have q : v = .bl true := q
    subst q
    obtain rfl : u = Value.bool true := rv
    refine ⟨rfl, OldK.of_keep fun b o e => ?_, os, bare⟩
    cases q : H b with
    | none => exact un.keep b o e q (fun z => absurd (show b ∈ ([] : List Addr) from z) (by simp)) (by simp)
    | some u =>
      obtain ⟨_, ob, xs, z⟩ := only b (by rw [q]; simp)
      have z2 := un.frzs b ob _ z
      obtain ⟨e1, _⟩ := hok b _ z
      obtain ⟨e2, _⟩ := hok' b _ z2
      rw [e] at e1
      cases e1
      exact e2
theorem law_end {P : Program} {w : World} {K : PySem.W.Frag} {mg mb : Str → Option Value} {k : Nat} {fa a : Addr} {fd : FuncData} {x : Str} {g : List U → M U} {s : Shared} {vs : List Value} {ns : List Int}
    (inK : K.In s.heap) (hns : s.heap.Ns mainGlobals mg) (hmb : s.heap.Ns builtinsNs mb) (hbb : ∀ x : Str, x ≠ "__name__" → mb x = bootBuiltins x) (nolim : s.heap.NoLimit) (nogen : s.gens = #[])
    (ha : s.heap.get? a = some { cls := .type "list", data := .seq vs.toArray }) (hi : PyProof.Rows.IntsAre vs ns) (hl : ns.length ≤ sizeLine) (room : Room k callerA)
    (F : ∀ base : Heap, K.In base → base.Ns mainGlobals mg → FnG P w K mg base CX0 k fa fd [x] g) (bd : ∀ (s : Shared) (u : Value), BindsTo s fd ⟨[u], []⟩ [(x, u)]) (res : ∃ T, g [.scr ns] [] = .ok (.bl true) T) :
    codeAny (model P w) callerA (.call (.ref fa) ⟨[.ref a], []⟩) (fun r s' => r = .ok (.ret (.bool true)) ∧ OldK s.heap s'.heap ∧ s'.os = s.os ∧ PyProof.Rows.AllBare s'.gens) s := by
  have rv := L2.vals_ints hi
  have hlen := hi.length
  cases hk : K.lookup a with
  | some o =>
    have e := inK a o hk
    rw [ha] at e
    cases e
    exact end_core (H := fun _ => none) inK hns hmb hbb nolim nogen ha room F bd res (.inr ⟨_, vs.toArray, _, hk, rfl, rfl, rfl, by rw [List.size_toArray, hlen]; exact hl, by simpa using rv⟩) (fun b u z => by cases z) (fun b z => absurd rfl z) (fun z => absurd rfl z)
  | none =>
    refine end_core (H := fun b => if b = a then some (.frz { cls := .type "list", data := .seq vs.toArray } (.lst (ns.map V.int))) else none) inK hns hmb hbb nolim nogen ha room F bd res (.inl ⟨{ cls := .type "list", data := .seq vs.toArray }, if_pos rfl⟩) (fun b u z => ?_) (fun b z => ?_) (fun _ => hk)
    · by_cases hb : b = a
      · have z := (if_pos hb).symm.trans z
        cases z
        subst hb
        exact ⟨ha, by rw [List.length_map]; exact hl, vs, _, rv, ha⟩
      · have z := (if_neg hb).symm.trans z
        cases z
    · by_cases hb : b = a
      · exact ⟨hb, _, _, if_pos hb⟩
      · exact absurd (if_neg hb) z
theorem walk_end {l : PySem.W.OpenLaw} {n k : Nat} {q : Program} {loose : List Str} {XP : (Str → Option Value) → Heap → Prop} {YP : World → Heap → Prop} {d : DefRec} {x : Str} (hn : l.most = some n) (hn2 : n ≤ sizeLine) (hdf : d.params.defaults = []) (room : Room k callerA)
    (F : ∀ (w : World) (mg : Str → Option Value) (fa : Addr) (h : Heap), YP w h → h.Ns mainGlobals mg → mg d.name = some (.ref fa) → ∃ (K : PySem.W.Frag) (fd : FuncData) (g : List U → M U), K.In h ∧ (∀ (s : Shared) (u : Value), BindsTo s fd ⟨[u], []⟩ [(x, u)]) ∧
        (∀ ns : List Int, ns.length ≤ n → ∃ T, g [.scr ns] [] = .ok (.bl true) T) ∧ ∀ base : Heap, K.In base → base.Ns mainGlobals mg → FnG l.prog w K mg base CX0 k fa fd [x] g) :
    PySem.W.WalkO q loose XP YP l.row.toRowW d [] (fun f vs => PySem.call f vs) := by
  refine Att.attach_call hn hdf fun w s₀ s₁ mg mb fa o pm cd doc a vs ns G Y ho hd hcd hmg hobj hints hlen hg => ?_
  obtain ⟨K, fd, g, inK, bd, res, hF⟩ := F w mg fa _ Y G.T.g hmg
  exact law_end inK G.T.g G.T.b G.T.builtins G.T.nolimit hg hobj hints (Nat.le_trans hlen hn2) room hF bd (res ns hlen)
end Lf
set_option Elab.async false
set_option linter.all false
set_option maxRecDepth 100000
set_option maxHeartbeats 4000000
namespace Lf
open PySem PySem.Spec L2
/-- the def that the module's name x stands for does what g tells; kw: how it is called by keywords alone -/
structure Dok (P : Program) (w : World) (K : PySem.W.Frag) (mg : Str → Option Value) (base : Heap) (x : Str) (k : Nat) (ps : List Str) (kw : List (List Str × List Nat)) (g : List U → M U) : Prop where
  ex : ∃ f fd, FnG P w K mg base CX0 k f fd ps g ∧ mg x = some (.ref f) ∧ PySem.W.keepIn K (.ref f) = true ∧ Binds K fd ps [] ∧
    ∀ q ∈ kw, ∀ (s : Shared) (ws : List Value), ws.length = q.1.length → BindsTo s fd ⟨[], q.1.zip ws⟩ (ps.zip (pick q.2 ws))
theorem FnG.zero {P : Program} {w : World} {K : PySem.W.Frag} {mg : Str → Option Value} {base : Heap} {C : CXT} {k : Nat} {f : Addr} {fd : FuncData} {ps : List Str} : FnG P w K mg base C k f fd ps (fun _ _ => .no) :=
  ⟨fun _ _ _ _ _ _ _ _ _ _ _ _ _ _ _ _ _ _ _ _ h => False.elim h⟩
theorem Dok.of {P : Program} {w : World} {K : PySem.W.Frag} {mg : Str → Option Value} {base : Heap} {x : Str} {k : Nat} {ps : List Str} {kw : List (List Str × List Nat)} {g : List U → M U} {f : Addr} {fd : FuncData} {name qual : Str} {params : Arguments} {body : List Stmt} {scope : Scope}
    (G : FnG P w K mg base CX0 k f fd ps g) (hm : mg x = some (.ref f)) (D : FunD K name qual params body scope [] [] f fd)
    (hb : ∀ (kV doc pm : Value) (an : Option Addr) (cdv ct : Value) (us : List Value), us.length = ps.length → bindArgs (PySem.W.fnOf name qual params body scope .none kV doc pm an cdv ct) ⟨us, []⟩ = pure (ps.zip us))
    (hk : ∀ q ∈ kw, ∀ (kV doc pm : Value) (an : Option Addr) (cdv ct : Value) (ws : List Value), ws.length = q.1.length → bindArgs (PySem.W.fnOf name qual params body scope .none kV doc pm an cdv ct) ⟨[], q.1.zip ws⟩ = pure (ps.zip (pick q.2 ws))) : Dok P w K mg base x k ps kw g := by
  refine ⟨f, fd, G, hm, D.kp, D.bindsN hb, fun q hq s ws hl => ?_⟩
  obtain ⟨oc, od, dV, kV, doc, pm, an, cdv, ct, osl, rfl, lk, hcd, hD, hK⟩ := D.ex
  rcases hD with ⟨_, rfl⟩ | ⟨e, _⟩
  · exact .of_eq (hk q hq kV doc pm an cdv ct ws hl)
  · exact absurd rfl e
section
variable {X : Cx} {E : XK} {j k : Nat} {ps : List Str} {kw : List (List Str × List Nat)} {g : List U → M U} {x : Str} {p pos : Pos} {e : Expr} {es : List Expr} {Fr : FxA}
theorem fe_def (kd : Kd) (D : Dok X.prog X.w X.K X.mg X.base x j ps kw g) (room : Room k X.A) (hjk : Nat.ble j k = true) (gd : X.A.guards = some []) (hg : Gl X x) (ha : FA X E (e :: es) Fr) {n : Nat} (hn : ps.length = n := by rfl)
    (hdb : (x == ("__debug__" : Str)) = false := by decide) (he : starEach (e :: es) X.env = (false, eval e X.env) :: starEach es X.env := by rfl) (hpl : (backTo pos (starEach es X.env)).any (·.1) = false := by rfl) : FE X E (.Call (.Name x p) (e :: es) [] pos) (fCall (kdG kd n g) Fr) := by
  subst hn
  obtain ⟨f, fd, G, hmm, hk, hb, _⟩ := D.ex
  exact fe_call (C := CX0) kd G (room.mono (Nat.le_of_ble_eq_true hjk)) gd hg hmm hk hb (fun _ _ _ _ _ _ _ h => h.elim) ha hdb he hpl
end
end Lf
set_option Elab.async false
set_option linter.all false
set_option maxRecDepth 100000
set_option maxHeartbeats 4000000
namespace Lf
open PySem PySem.Spec L2
/-- it ends well, and Q holds of what it tells -/
def Wp {α : Type} (r : R α) (Q : α → Sto → Prop) : Prop := ∃ a T, r = .ok a T ∧ Q a T
section
variable {α β : Type}
theorem Wp.ok {a : α} {T : Sto} {Q : α → Sto → Prop} (h : Q a T) : Wp (.ok a T) Q := ⟨a, T, rfl, h⟩
theorem Wp.bind {r : R α} {k : α → M β} {Q : β → Sto → Prop} (h : Wp r fun a T => Wp (k a T) Q) : Wp (r.bind k) Q := by
  obtain ⟨a, T, rfl, h⟩ := h
  exact h
theorem Wp.mono {r : R α} {Q Q' : α → Sto → Prop} (h : Wp r Q) (i : ∀ a T, Q a T → Q' a T) : Wp r Q' := by
  obtain ⟨a, T, e, h⟩ := h
  exact ⟨a, T, e, i _ _ h⟩
theorem Wp.bindE {r : R α} {k : α → M β} {Q' : α → Sto → Prop} {Q : β → Sto → Prop} (h : Wp r Q') (i : ∀ a T, Q' a T → Wp (k a T) Q) : Wp (r.bind k) Q :=
  .bind (h.mono i)
@[simp] theorem wp_ok {a : α} {T : Sto} {Q : α → Sto → Prop} : Wp (.ok a T) Q ↔ Q a T := ⟨fun ⟨_, _, e, h⟩ => by cases e; exact h, fun h => ⟨_, _, rfl, h⟩⟩
@[simp] theorem wp_no {Q : α → Sto → Prop} : Wp (.no : R α) Q ↔ False := ⟨fun ⟨_, _, e, _⟩ => (nomatch e), False.elim⟩
end
/-- then A, but for what leaves -/
def kS (A : Lo → Sto → Prop) (Q : Fl × Lo → Sto → Prop) : Fl × Lo → Sto → Prop
  | (.nx, η), T => A η T
  | p, T => Q p T
def kD (Q : U → Sto → Prop) : Fl × Lo → Sto → Prop
  | (.rt u, _), T => Q u T
  | (.nx, _), T => Q .non T
  | _, _ => False
def kF (A : Lo → Sto → Prop) (Q : Fl × Lo → Sto → Prop) : Fl × Lo → Sto → Prop
  | (.nx, η), T => A η T
  | (.ct, η), T => A η T
  | (.bk, η), T => Q (.nx, η) T
  | (.rt u, η), T => Q (.rt u, η) T
section
variable {A : Lo → Sto → Prop} {Q : Fl × Lo → Sto → Prop} {QU : U → Sto → Prop} {η : Lo} {T : Sto} {u : U}
theorem kS_nx (h : A η T) : kS A Q (.nx, η) T := h
theorem kS_rt (h : Q (.rt u, η) T) : kS A Q (.rt u, η) T := h
theorem kS_bk (h : Q (.bk, η) T) : kS A Q (.bk, η) T := h
theorem kS_ct (h : Q (.ct, η) T) : kS A Q (.ct, η) T := h
theorem kD_rt (h : QU u T) : kD QU (.rt u, η) T := h
theorem kD_nx (h : QU .non T) : kD QU (.nx, η) T := h
theorem kF_nx (h : A η T) : kF A Q (.nx, η) T := h
theorem kF_ct (h : A η T) : kF A Q (.ct, η) T := h
theorem kF_bk (h : Q (.nx, η) T) : kF A Q (.bk, η) T := h
theorem kF_rt (h : Q (.rt u, η) T) : kF A Q (.rt u, η) T := h
theorem v_ifT {X Y : Prop} (h : X) : (true = true → X) ∧ (true = false → Y) := ⟨fun _ => h, fun h => nomatch h⟩
theorem v_ifF {X Y : Prop} (h : Y) : (false = true → X) ∧ (false = false → Y) := ⟨fun h => (nomatch h), fun _ => h⟩
theorem v_ifd {p : Prop} [Decidable p] {X Y : Prop} (h1 : p → X) (h2 : ¬p → Y) : (decide p = true → X) ∧ (decide p = false → Y) := ⟨fun h => h1 (of_decide_eq_true h), fun h => h2 (of_decide_eq_false h)⟩
theorem v_ifdn {p : Prop} [Decidable p] {X Y : Prop} (h1 : p → Y) (h2 : ¬p → X) : ((!decide p) = true → X) ∧ ((!decide p) = false → Y) := ⟨fun h => h2 (by simpa using h), fun h => h1 (by simpa using h)⟩
end
/-- a pure loop over the known items xs, by an invariant of what is left -/
theorem wp_for {G : U → Lo → M Lo} {Fb : FxS} (I : List U → Lo → Sto → Prop) {Q : Fl × Lo → Sto → Prop} {fin : Sto → Bool} (hf : ∀ T, fin T = true)
    (step : ∀ x r η T, I (x :: r) η T → Wp (G x η T) fun η1 T1 => Wp (Fb η1 T1) (kF (I r) Q))
    (hend : ∀ η T, I [] η T → Q (.nx, η) T) : ∀ xs η T, I xs η T → Wp (forN G Fb fin (xs.map fun u _ => some u) η T) Q
  | [], η, T, h => by
    show Wp (if fin T = true then .ok (.nx, η) T else .no) Q
    rw [if_pos (hf T)]
    exact .ok (hend _ _ h)
  | x :: r, η, T, h => by
    show Wp ((G x η T).bind fun η1 T1 => (Fb η1 T1).bind fun p T2 => match p.1 with
      | .nx => forN G Fb fin (r.map fun u _ => some u) p.2 T2
      | .ct => forN G Fb fin (r.map fun u _ => some u) p.2 T2
      | .bk => .ok (.nx, p.2) T2
      | .rt u => .ok (.rt u, p.2) T2) Q
    refine .bindE (step x r η T h) fun η1 T1 h1 => .bindE h1 fun p T2 h2 => ?_
    obtain ⟨f, η2⟩ := p
    cases f with
    | nx => exact wp_for I hf step hend r η2 T2 h2
    | ct => exact wp_for I hf step hend r η2 T2 h2
    | bk => exact .ok h2
    | rt u => exact .ok h2
theorem gDef_wp {n : Nat} {F : FxS} {us : List U} {T : Sto} {Q : U → Sto → Prop} (h : Wp (F (us.map some ++ List.replicate (n - us.length) none) T) (kD Q)) : Wp (gDef n F us T) Q := by
  refine .bindE h fun p T1 h => ?_
  obtain ⟨f, η⟩ := p
  cases f with
  | nx => exact .ok h
  | rt u => exact .ok h
  | bk => exact h.elim
  | ct => exact h.elim
theorem seq_wp {F G : FxS} {η : Lo} {T : Sto} {Q : Fl × Lo → Sto → Prop} (h : Wp (F η T) (kS (fun η T => Wp (G η T) Q) Q)) : Wp (fSeq F G η T) Q := by
  refine .bindE h fun p T1 h => ?_
  obtain ⟨f, η⟩ := p
  cases f with
  | nx => exact h
  | rt u => exact .ok h
  | bk => exact .ok h
  | ct => exact .ok h
/-- a call of what takes its first object alone -/
theorem urn_wp {n : Nat} {g : List U → M U} {i : Nat} {r : List U} {T : Sto} {o : O} {Q : U → Sto → Prop} (hn : r.length + 1 = n) (hr : nrs r = true) (ht : T[i]? = some o) (ho : nrO o = true)
    (h : Wp (g (.ob 0 :: r) [o]) fun u T' => ∃ o' l, T' = o' :: l ∧ nrO o' = true ∧ nr u = true ∧ Q u (T.set i o')) : Wp (urnG n g (.ob i :: r) T) Q := by
  obtain ⟨u, T', e, o', l, rfl, ho', hu, hq⟩ := h
  refine ⟨u, _, ?_, hq⟩
  simp only [urnG, hn, hr, ht, ho, e, ho', hu, and_self, if_true]
theorem pur_wp {n : Nat} {g : List U → M U} {us : List U} {T : Sto} {Q : U → Sto → Prop} (hn : us.length = n) (hr : nrs us = true)
    (h : Wp (g us []) fun u T' => match u with
      | .ob k => ∃ o, T'[k]? = some o ∧ nrO o = true ∧ Q (.ob T.length) (T ++ [o])
      | u => nr u = true ∧ Q u T) : Wp (pureG n g us T) Q := by
  obtain ⟨u, T', e, hq⟩ := h
  cases u with
  | ob k =>
    obtain ⟨o, e1, e2, e3⟩ := hq
    exact ⟨_, _, by simp only [pureG, hn, hr, e, e1, e2, and_self, if_true], e3⟩
  | _ =>
    obtain ⟨e2, e3⟩ := hq
    refine ⟨_, _, ?_, e3⟩
    simp only [pureG, hn, hr, e, e2, and_self, if_true]
theorem len_wp {n : Nat} {g : List U → M U} {us : List U} {T : Sto} {Q : U → Sto → Prop} (hn : us.length = n) (h : Wp (g us T) Q) : Wp (lenG n g us T) Q := by
  simpa only [lenG, hn, if_true] using h
def Urn (o : O) : Prop := ∃ a b : Int, o = .lst [.int a, .int b] ∧ 0 ≤ b ∧ b < 2305843009213693951
theorem Urn.nr {o : O} (h : Urn o) : nrO o = true := by
  obtain ⟨a, b, rfl, _⟩ := h
  rfl
/-- small enough for the multiplications -/
def Sm (i : Int) : Prop := -100000000000000000000000000000000000000000000000000000000000000000000000000000000000000000000000000000000000000000000000000000000000000000000000000000000000000000000000000000000000000000000000000000000 < i ∧ i < 100000000000000000000000000000000000000000000000000000000000000000000000000000000000000000000000000000000000000000000000000000000000000000000000000000000000000000000000000000000000000000000000000000000
theorem log2_small {i : Int} (h : Sm i) : i.natAbs.log2 < 665 := by
  obtain ⟨h1, h2⟩ := h
  by_cases h0 : i.natAbs = 0
  · rw [h0]; decide
  · rw [Nat.log2_lt h0]
    have : (2 : Nat) ^ 665 = 153090103458041951154620325043801237641319743206933311288544235956760011447392195175450369025277569052617268428910122535686807015741471080782585043071649294869136754165183653769539196448293593632735232 := by decide +kernel
    omega
theorem log2m {i j : Int} (h1 : Sm i) (h2 : Sm j) : i.natAbs.log2 + j.natAbs.log2 < 1000000 := by
  have := log2_small h1
  have := log2_small h2
  omega
theorem log2d {j : Int} (h1 : 0 < j) (h2 : Sm j) : 0 < j ∧ j.natAbs.log2 < 9000 := by
  have := log2_small h2
  exact ⟨h1, by omega⟩
section
variable {η : Lo} {T : Sto} {Fa Fb Fc Fe : FxE} {Ft Ft2 : FxT} {Fr : FxA} {F G : FxS} {g h : U → U → M U} {Q : U → Sto → Prop} {QB : Bool → Sto → Prop} {QA : List U → Sto → Prop} {QS : Fl × Lo → Sto → Prop} {QL : Lo → Sto → Prop}
theorem v_var {i : Nat} {u : U} (e : η[i]? = some (some u)) (q : Q u T) : Wp (fVar i η T) Q := by
  unfold fVar; rw [e]; exact .ok q
theorem v_c {u : U} (q : Q u T) : Wp (fC u η T) Q := .ok q
theorem v_bin (q : Wp (Fa η T) fun u T1 => Wp (Fb η T1) fun v T2 => Wp (g u v T2) Q) : Wp (fBin g Fa Fb η T) Q := .bindE q fun _ _ q => .bind q
theorem v_un {g : U → M U} (q : Wp (Fa η T) fun u T1 => Wp (g u T1) Q) : Wp (fUn g Fa η T) Q := .bind q
theorem v_nil (q : QA [] T) : Wp (fNil η T) QA := .ok q
theorem v_cons (q : Wp (Fa η T) fun u T1 => Wp (Fr η T1) fun us T2 => QA (u :: us) T2) : Wp (fCons Fa Fr η T) QA := .bindE q fun _ _ q => .bindE q fun _ _ q => .ok q
theorem v_call {g : List U → M U} (q : Wp (Fr η T) fun us T1 => Wp (g us T1) Q) : Wp (fCall g Fr η T) Q := .bind q
theorem v_tup (q : Wp (Fr η T) fun us T1 => us.length ≤ 16777216 ∧ Q (.tup us) T1) : Wp (fTup Fr η T) Q := .bindE q fun _ _ q => by rw [if_pos q.1]; exact .ok q.2
theorem v_lst (q : Wp (Fr η T) fun us T1 => us.length ≤ 16777216 ∧ Q (.ob T1.length) (T1 ++ [.lst us])) : Wp (fLst Fr η T) Q := .bindE q fun _ _ q => by rw [if_pos q.1]; exact .ok q.2
theorem v_nw {o : O} (q : Q (.ob T.length) (T ++ [o])) : Wp (nw o T) Q := .ok q
theorem v_ite {α : Type} {b : Bool} {x y : R α} {Q : α → Sto → Prop} (h1 : b = true → Wp x Q) (h2 : b = false → Wp y Q) : Wp (if b = true then x else y) Q := by
  cases b
  · exact h2 rfl
  · exact h1 rfl
theorem v_ifE (q : Wp (Ft η T) fun b T1 => (b = true → Wp (Fa η T1) Q) ∧ (b = false → Wp (Fb η T1) Q)) : Wp (fIfE Ft Fa Fb η T) Q := .bindE q fun _ _ q => v_ite q.1 q.2
theorem v_if (q : Wp (Ft η T) fun b T1 => (b = true → Wp (F η T1) QS) ∧ (b = false → Wp (G η T1) QS)) : Wp (fIf Ft F G η T) QS := .bindE q fun _ _ q => v_ite q.1 q.2
theorem v_tru (q : Wp (Fa η T) fun u T1 => ∃ b, tru T1 u = some b ∧ QB b T1) : Wp (fTru Fa η T) QB := .bindE q fun _ _ ⟨b, e, q⟩ => by rw [e]; exact .ok q
theorem v_bl (q : Wp (Fa η T) fun u T1 => ∃ b, u = .bl b ∧ QB b T1) : Wp (fBl Fa η T) QB := .bindE q fun _ _ ⟨b, e, q⟩ => by subst e; exact .ok q
theorem v_and (q : Wp (Ft η T) fun b T1 => (b = true → Wp (Ft2 η T1) QB) ∧ (b = false → QB false T1)) : Wp (fAnd Ft Ft2 η T) QB := .bindE q fun _ _ q => v_ite q.1 fun e => .ok (q.2 e)
theorem v_or (q : Wp (Ft η T) fun b T1 => (b = true → QB true T1) ∧ (b = false → Wp (Ft2 η T1) QB)) : Wp (fOr Ft Ft2 η T) QB := .bindE q fun _ _ q => v_ite (fun e => .ok (q.1 e)) q.2
theorem v_not (q : Wp (Ft η T) fun b T1 => QB (!b) T1) : Wp (fNot Ft η T) QB := .bindE q fun _ _ q => .ok q
theorem v_andV (q : Wp (Fa η T) fun u T1 => ∃ b, u = .bl b ∧ (b = true → Wp (Fb η T1) Q) ∧ (b = false → Q (.bl false) T1)) : Wp (fAndV Fa Fb η T) Q := .bindE q fun _ _ ⟨b, e, q⟩ => by
  subst e
  cases b
  · exact .ok (q.2 rfl)
  · exact q.1 rfl
theorem v_orV (q : Wp (Fa η T) fun u T1 => ∃ b, u = .bl b ∧ (b = true → Q (.bl true) T1) ∧ (b = false → Wp (Fb η T1) Q)) : Wp (fOrV Fa Fb η T) Q := .bindE q fun _ _ ⟨b, e, q⟩ => by
  subst e
  cases b
  · exact q.2 rfl
  · exact .ok (q.1 rfl)
theorem v_notV (q : Wp (Fa η T) fun u T1 => ∃ b, tru T1 u = some b ∧ Q (.bl (!b)) T1) : Wp (fNotV Fa η T) Q := .bindE q fun _ _ ⟨b, e, q⟩ => by rw [e]; exact .ok q
theorem v_chain (q : Wp (Fa η T) fun u T1 => Wp (Fb η T1) fun v T2 => Wp (g u v T2) fun z T3 => ∃ b, z = .bl b ∧ (b = true → Wp (Fc η T3) fun x T4 => Wp (h v x T4) Q) ∧ (b = false → Q (.bl false) T3)) : Wp (fChain g h Fa Fb Fc η T) Q :=
  .bindE q fun _ _ q => .bindE q fun _ _ q => .bindE q fun _ _ ⟨b, e, q⟩ => by
    subst e
    cases b
    · exact .ok (q.2 rfl)
    · exact .bind (q.1 rfl)
theorem v_skip (q : QS (.nx, η) T) : Wp (fSkip η T) QS := .ok q
theorem v_drop (q : Wp (Fe η T) fun _ T1 => QS (.nx, η) T1) : Wp (fDrop Fe η T) QS := .bindE q fun _ _ q => .ok q
theorem v_ret (q : Wp (Fe η T) fun u T1 => QS (.rt u, η) T1) : Wp (fRet Fe η T) QS := .bindE q fun _ _ q => .ok q
theorem v_retN (q : QS (.rt .non, η) T) : Wp (fRetN η T) QS := .ok q
theorem v_brk (q : QS (.bk, η) T) : Wp (fBrk η T) QS := .ok q
theorem v_cnt (q : QS (.ct, η) T) : Wp (fCnt η T) QS := .ok q
theorem v_set {i : Nat} (q : Wp (Fe η T) fun u T1 => QS (.nx, η.set i (some u)) T1) : Wp (fSet i Fe η T) QS := .bindE q fun _ _ q => .ok q
theorem v_asg {G : U → Lo → M Lo} (q : Wp (Fe η T) fun u T1 => Wp (G u η T1) fun η1 T2 => QS (.nx, η1) T2) : Wp (fAsg Fe G η T) QS := .bindE q fun _ _ q => .bindE q fun _ _ q => .ok q
theorem v_par2 {i j : Nat} (q : Wp (Fr η T) fun us T1 => ∃ u w, us = [u, w] ∧ QS (.nx, (η.set i (some u)).set j (some w)) T1) : Wp (fPar2 i j Fr η T) QS := .bindE q fun _ _ ⟨u, w, e, q⟩ => by subst e; exact .ok q
theorem v_par3 {i j l : Nat} (q : Wp (Fr η T) fun us T1 => ∃ u w z, us = [u, w, z] ∧ QS (.nx, ((η.set i (some u)).set j (some w)).set l (some z)) T1) : Wp (fPar3 i j l Fr η T) QS := .bindE q fun _ _ ⟨u, w, z, e, q⟩ => by subst e; exact .ok q
theorem v_nm {i : Nat} {u : U} (q : QL (η.set i (some u)) T) : Wp (gNm i u η T) QL := .ok q
theorem v_gnil (q : QL η T) : Wp (gNil [] η T) QL := .ok q
theorem v_gcons {G : U → Lo → M Lo} {Gr : List U → Lo → M Lo} {u : U} {r : List U} (q : Wp (G u η T) fun η1 T1 => Wp (Gr r η1 T1) QL) : Wp (gCons G Gr (u :: r) η T) QL := .bind q
theorem v_unp {n : Nat} {Gr : List U → Lo → M Lo} {xs : List U} (e : xs.length = n) (q : Wp (Gr xs η T) QL) : Wp (gUnp n Gr (.tup xs) η T) QL := by
  unfold gUnp; simpa only [e, if_true] using q
theorem v_subT {v : U} (q : Wp (Fa η T) fun o T1 => Wp (Fb η T1) fun i T2 => ∃ T3, gSetIt o i v T2 = some T3 ∧ QL η T3) : Wp (gSubT Fa Fb v η T) QL := .bindE q fun _ _ q => .bindE q fun _ _ ⟨T3, e, q⟩ => by rw [e]; exact .ok q
theorem v_aug {i : Nat} {u : U} (e : η[i]? = some (some u)) (q : Wp (Fe η T) fun w T1 => Wp (g u w T1) fun z T2 => QS (.nx, η.set i (some z)) T2) : Wp (fAug i g Fe η T) QS := by
  unfold fAug; rw [e]
  exact .bindE q fun _ _ q => .bindE q fun _ _ q => .ok q
theorem v_yes (q : QB true T) : Wp (fYes η T) QB := .ok q
theorem v_for {Fi : FxI} {G : U → Lo → M Lo} (q : Wp (Fi η T) fun it T1 => Wp (forN G F it.fin it.its η T1) QS) : Wp (fFor Fi G F η T) QS := .bind q
theorem v_lc {vs : List Nat} {Fi : FxI} {G : U → Lo → M Lo} (q : Wp (Fi η T) fun it T1 => Wp (lcN G Ft Fe it.fin (wipeU η vs) it.its [] T1) Q) : Wp (fLc vs Fi G Ft Fe η T) Q := .bind q
theorem v_rg {Fi : List U → M ItF} {QI : ItF → Sto → Prop} (q : Wp (Fr η T) fun us T1 => Wp (Fi us T1) QI) : Wp (fRg Fi Fr η T) QI := .bind q
theorem v_rg1 {j : Int} {QI : ItF → Sto → Prop} (e : small62 j = true) (q : QI (constI (rgU 0 j.toNat)) T) : Wp (gRg1 [.int j] T) QI := by
  unfold gRg1; simp only [e, if_true]; exact .ok q
theorem v_iter {QI : ItF → Sto → Prop} (q : Wp (Fe η T) fun u T1 => Wp (gIter u T1) QI) : Wp (fIter Fe η T) QI := .bind q
theorem v_iterT {xs : List U} {QI : ItF → Sto → Prop} (q : QI (constI xs) T) : Wp (gIter (.tup xs) T) QI := .ok q
theorem v_iterO {k : Nat} {xs : List U} {QI : ItF → Sto → Prop} (e : T[k]? = some (.lst xs)) (q : QI (objI k xs.length) T) : Wp (gIter (.ob k) T) QI := by
  unfold gIter; simp only [e]; exact .ok q
theorem v_add {i j : Int} (q : Q (.int (i + j)) T) : Wp (gAdd (.int i) (.int j) T) Q := .ok q
theorem v_addT {x y : List U} (e : x.length + y.length ≤ 16777216) (q : Q (.tup (x ++ y)) T) : Wp (gAdd (.tup x) (.tup y) T) Q := by
  unfold gAdd; simp only [e, if_true]; exact .ok q
theorem v_addL {i j : Nat} {x y : List U} (e1 : T[i]? = some (.lst x)) (e2 : T[j]? = some (.lst y)) (e : x.length + y.length ≤ 16777216) (q : Q (.ob T.length) (T ++ [.lst (x ++ y)])) : Wp (gAdd (.ob i) (.ob j) T) Q := by
  unfold gAdd; simp only [e1, e2, e, if_true]; exact .ok q
theorem v_sub {i j : Int} (q : Q (.int (i - j)) T) : Wp (gSub (.int i) (.int j) T) Q := .ok q
theorem v_mul {i j : Int} (e : i.natAbs.log2 + j.natAbs.log2 < 1000000) (q : Q (.int (i * j)) T) : Wp (gMul (.int i) (.int j) T) Q := by
  unfold gMul; simp only [e, if_true]; exact .ok q
theorem v_div {i j : Int} (e : 0 < j ∧ j.natAbs.log2 < 9000) (q : Q (.int (i / j)) T) : Wp (gDiv (.int i) (.int j) T) Q := by
  unfold gDiv; simp only [e, if_true]; exact .ok q
theorem v_mod {i j : Int} (e : 0 < j) (q : Q (.int (i % j)) T) : Wp (gMod (.int i) (.int j) T) Q := by
  unfold gMod; simp only [e, if_true]; exact .ok q
theorem v_pow {i j : Int} (e : 0 ≤ j ∧ j ≤ 1000000 ∧ i.natAbs < 18446744073709551616) (q : Q (.int (i ^ j.toNat)) T) : Wp (gPow (.int i) (.int j) T) Q := by
  unfold gPow; simp only [e, and_self, if_true]; exact .ok q
theorem v_neg {i : Int} (q : Q (.int (-i)) T) : Wp (gNeg (.int i) T) Q := .ok q
theorem v_lt {i j : Int} (q : Q (.bl (decide (i < j))) T) : Wp (gLt (.int i) (.int j) T) Q := .ok q
theorem v_le {i j : Int} (q : Q (.bl (decide (i ≤ j))) T) : Wp (gLe (.int i) (.int j) T) Q := .ok q
theorem v_gt {i j : Int} (q : Q (.bl (decide (j < i))) T) : Wp (gGt (.int i) (.int j) T) Q := .ok q
theorem v_ge {i j : Int} (q : Q (.bl (decide (j ≤ i))) T) : Wp (gGe (.int i) (.int j) T) Q := .ok q
theorem v_eqI {i j : Int} (q : Q (.bl (decide (i = j))) T) : Wp (gEq false (.int i) (.int j) T) Q := by
  have e : PyData.eqv (.int i) (.int j) = decide (i = j) := by unfold PyData.eqv; rfl
  unfold gEq gEqD dat
  simp only [SeqAt.shaped, and_self, if_true, e, Bool.false_eq_true, if_false]
  exact .ok q
theorem v_neI {i j : Int} (q : Q (.bl (decide (i ≠ j))) T) : Wp (gEq true (.int i) (.int j) T) Q := by
  have e : PyData.eqv (.int i) (.int j) = decide (i = j) := by unfold PyData.eqv; rfl
  unfold gEq gEqD dat
  simp only [SeqAt.shaped, and_self, if_true, e]
  refine .ok ?_
  rw [show (!decide (i = j)) = decide (i ≠ j) from (decide_not ..).symm]
  exact q
theorem v_len {u : U} {xs : List U} (hu : ∀ z, u ≠ .str z) (e : seqU T u = some xs) (q : Q (.int xs.length) T) : Wp (gLen [u] T) Q := by
  unfold gLen
  cases u with
  | str z => exact absurd rfl (hu z)
  | _ => simp only [e]; exact .ok q
theorem v_lenL {k : Nat} {xs : List U} (e : T[k]? = some (.lst xs)) (q : Q (.int xs.length) T) : Wp (gLen [.ob k] T) Q := v_len (fun _ => U.noConfusion) (by unfold seqU; simp only [e]) q
theorem v_lenT {xs : List U} (q : Q (.int xs.length) T) : Wp (gLen [.tup xs] T) Q := v_len (fun _ => U.noConfusion) rfl q
theorem v_lenN {ns : List Int} (q : Q (.int ns.length) T) : Wp (gLen [.scr ns] T) Q := v_len (fun _ => U.noConfusion) rfl (by rw [List.length_map]; exact q)
theorem v_abs {i : Int} (q : Q (.int (if i < 0 then -i else i)) T) : Wp (gAbs [.int i] T) Q := .ok q
theorem v_intI {i : Int} (q : Q (.int i) T) : Wp (gInt [.int i] T) Q := .ok q
theorem v_intB {b : Bool} (q : Q (.int (if b then 1 else 0)) T) : Wp (gInt [.bl b] T) Q := .ok q
theorem v_max2 {i j : Int} (q : Q (.int (if j > i then j else i)) T) : Wp (gMax2 [.int i, .int j] T) Q := .ok q
theorem v_min2 {i j : Int} (q : Q (.int (if j < i then j else i)) T) : Wp (gMin2 [.int i, .int j] T) Q := .ok q
theorem v_ixL {k : Nat} {n : Int} {xs : List U} {u : U} (e : T[k]? = some (.lst xs)) (e2 : atI xs n = some u) (q : Q u T) : Wp (gIx (.ob k) (.int n) T) Q := by
  unfold gIx; simp only [e, e2]; exact .ok q
theorem v_ixT {n : Int} {xs : List U} {u : U} (e2 : atI xs n = some u) (q : Q u T) : Wp (gIx (.tup xs) (.int n) T) Q := by
  unfold gIx; simp only [e2]; exact .ok q
theorem v_ixN {n : Int} {xs : List Int} {u : Int} (e2 : atI xs n = some u) (q : Q (.int u) T) : Wp (gIx (.scr xs) (.int n) T) Q := by
  unfold gIx; simp only [e2]; exact .ok q
theorem v_all {k : Nat} {xs : List U} {bs : List Bool} (e : T[k]? = some (.lst xs)) (e2 : blsU xs = some bs) (q : Q (.bl (bs.all id)) T) : Wp (gAll [.ob k] T) Q := by
  unfold gAll lstU; simp only [e, Option.bind_some, e2]; exact .ok q
theorem v_list {u : U} {xs : List U} (e : seqU T u = some xs) (q : Q (.ob T.length) (T ++ [.lst xs])) : Wp (gList [u] T) Q := by
  unfold gList; simp only [e]; exact .ok q
theorem v_tuple {u : U} {xs : List U} (e : seqU T u = some xs) (q : Q (.tup xs) T) : Wp (gTuple [u] T) Q := by
  unfold gTuple; simp only [e]; exact .ok q
theorem v_meth {is : Sto → U → Bool} {g : U → List U → M U} (q : Wp (Fe η T) fun o T1 => is T1 o = true ∧ Wp (Fr η T1) fun us T2 => Wp (g o us T2) Q) : Wp (fMeth is g Fe Fr η T) Q :=
  .bindE q fun _ _ q => by rw [if_pos q.1]; exact .bind q.2
theorem v_app {k : Nat} {xs : List U} {u : U} (e : T[k]? = some (.lst xs)) (q : xs.length < 16777216 ∧ Q .non (T.set k (.lst (xs ++ [u])))) : Wp (gAppend (.ob k) [u] T) Q := by
  unfold gAppend; simp only [e, q.1, if_true]; exact .ok q.2
end
end Lf
set_option Elab.async false
set_option linter.all false
set_option maxRecDepth 100000
namespace Lf
open PySem PySem.Spec L2
end Lf
set_option Elab.async false
set_option linter.all false
set_option maxRecDepth 100000
set_option maxHeartbeats 4000000
namespace Lf
open PySem PySem.Spec L2
theorem emod_bd {a n : Int} (h : 0 < n) : 0 ≤ a % n ∧ a % n < n := ⟨Int.emod_nonneg _ (by omega), Int.emod_lt_of_pos _ h⟩
theorem Sm.lt {i n : Int} (h0 : 0 ≤ i) (h1 : i < n) (h : Sm n) : Sm i := ⟨by have := h.1; omega, by have := h.2; omega⟩
local macro_rules | `(tactic| rfl') => `(tactic| repeat (first | with_reducible refine Lf.kS_nx ?_ | with_reducible refine Lf.kS_rt ?_ | with_reducible refine Lf.kS_bk ?_ | with_reducible refine Lf.kS_ct ?_ | with_reducible refine Lf.kD_rt ?_ | with_reducible refine Lf.kD_nx ?_ | with_reducible refine Lf.kF_nx ?_ | with_reducible refine Lf.kF_ct ?_ | with_reducible refine Lf.kF_bk ?_ | with_reducible refine Lf.kF_rt ?_ | with_reducible refine Lf.v_ifT ?_ | with_reducible refine Lf.v_ifF ?_ | with_reducible refine Lf.v_ifNT ?_ | with_reducible refine Lf.v_ifNF ?_ | with_reducible refine Lf.kP_int ?_ | with_reducible refine Lf.kP_bl ?_ | with_reducible refine Lf.kP_str ?_ | with_reducible refine Lf.kP_non ?_ | with_reducible refine Lf.v_iadd ?_ | with_reducible refine Lf.Wp.ok ?_ | with_reducible refine Lf.seq_wp ?_ | with_reducible refine Lf.v_bin ?_ | with_reducible refine Lf.v_cons ?_ | with_reducible refine Lf.v_call ?_ | with_reducible refine Lf.v_ret ?_ | with_reducible refine Lf.v_set ?_ | with_reducible refine Lf.v_asg ?_ | with_reducible refine Lf.v_if ?_ | with_reducible refine Lf.v_ifE ?_ | with_reducible refine Lf.v_bl ?_ | with_reducible refine Lf.v_tru ?_ | with_reducible refine Lf.v_and ?_ | with_reducible refine Lf.v_or ?_ | with_reducible refine Lf.v_not ?_ | with_reducible refine Lf.v_andV ?_ | with_reducible refine Lf.v_orV ?_ | with_reducible refine Lf.v_notV ?_ | with_reducible refine Lf.v_c ?_ | with_reducible refine Lf.v_nil ?_ | with_reducible refine Lf.v_skip ?_ | with_reducible refine Lf.v_drop ?_ | with_reducible refine Lf.v_retN ?_ | with_reducible refine Lf.v_brk ?_ | with_reducible refine Lf.v_cnt ?_ | with_reducible refine Lf.v_nm ?_ | with_reducible refine Lf.v_gnil ?_ | with_reducible refine Lf.v_gcons ?_ | with_reducible refine Lf.v_yes ?_ | with_reducible refine Lf.v_for ?_ | with_reducible refine Lf.v_lc ?_ | with_reducible refine Lf.v_rg ?_ | with_reducible refine Lf.v_iter ?_ | with_reducible refine Lf.v_iterT ?_ | with_reducible refine Lf.v_add ?_ | with_reducible refine Lf.v_sub ?_ | with_reducible refine Lf.v_neg ?_ | with_reducible refine Lf.v_lt ?_ | with_reducible refine Lf.v_le ?_ | with_reducible refine Lf.v_gt ?_ | with_reducible refine Lf.v_ge ?_ | with_reducible refine Lf.v_eqI ?_ | with_reducible refine Lf.v_neI ?_ | with_reducible refine Lf.v_abs ?_ | with_reducible refine Lf.v_intI ?_ | with_reducible refine Lf.v_intB ?_ | with_reducible refine Lf.v_max2 ?_ | with_reducible refine Lf.v_min2 ?_ | with_reducible refine Lf.v_lenT ?_ | with_reducible refine Lf.v_lenN ?_ | with_reducible refine Lf.v_nw ?_ | with_reducible refine Lf.v_un ?_ | with_reducible refine Lf.v_tup ?_ | with_reducible refine Lf.v_lst ?_ | with_reducible refine Lf.v_par2 ?_ | with_reducible refine Lf.v_par3 ?_ | with_reducible refine Lf.v_chain ?_ | with_reducible refine Lf.v_meth ?_ | with_reducible refine Lf.v_subT ?_ | with_reducible refine Lf.v_isiIB ?_ | with_reducible refine Lf.v_isiII ?_ | with_reducible refine Lf.v_sl ?_ | with_reducible refine Lf.v_noP ?_ | with_reducible refine Lf.v_pt ?_ | with_reducible refine Lf.v_cutT ?_ | ((with_reducible apply Lf.v_var); exact rfl) | ((with_reducible refine Lf.v_kw ?_ ?_); exact rfl) | ((with_reducible apply Lf.v_iterO); first | exact rfl | assumption) | ((with_reducible apply Lf.v_lenL); first | exact rfl | assumption) | ((with_reducible refine Lf.v_unp ?_ ?_); exact rfl) | ((with_reducible apply Lf.v_aug); exact rfl) | ((with_reducible refine Lf.v_mod ?_ ?_); first | decide | omega | assumption | fail) | ((with_reducible refine Lf.v_div ?_ ?_); first | exact ⟨by decide, by decide +kernel⟩ | assumption | exact Lf.log2d (by omega) ⟨by omega, by omega⟩ | fail) | ((with_reducible refine Lf.v_mul ?_ ?_); first | exact Lf.log2m ⟨by omega, by omega⟩ ⟨by omega, by omega⟩ | exact Lf.log2m (by assumption) ⟨by omega, by omega⟩ | exact Lf.log2m ⟨by omega, by omega⟩ (by assumption) | fail) | ((with_reducible refine Lf.v_pow ?_ ?_); exact ⟨by decide, by decide, by decide⟩) | ((with_reducible refine Lf.v_rg1 ?_ ?_); first | decide | fail) | ((with_reducible apply Lf.v_ixL); (first | exact rfl | assumption | fail); (first | exact rfl | assumption | fail)) | ((with_reducible apply Lf.v_ixT); (first | exact rfl | assumption | fail)) | ((with_reducible apply Lf.v_ixN); (first | exact rfl | assumption | fail)) | with_reducible refine ⟨_, rfl, ?_⟩ | (refine ⟨_, (rfl : Lf.tru _ (Lf.U.bl _) = some _), ?_⟩) | with_reducible refine ⟨_, _, rfl, ?_⟩ | with_reducible refine ⟨_, _, _, rfl, ?_⟩ | (refine ⟨(Nat.le_of_ble_eq_true rfl : List.length _ ≤ 16777216), ?_⟩) | with_reducible refine Lf.v_enum ?_ | fail))
theorem atI_mem {α : Type} {xs : List α} {n : Int} (h0 : 0 ≤ n) (h1 : n < xs.length) : ∃ u, atI xs n = some u ∧ u ∈ xs := by
  have h : n.toNat < xs.length := by omega
  refine ⟨xs[n.toNat], ?_, List.getElem_mem h⟩
  unfold atI ixN
  simp only [h0, h1, if_true, Option.bind_some, List.getElem?_eq_getElem h]
end Lf
set_option Elab.async false
set_option linter.all false
set_option maxRecDepth 100000
set_option maxHeartbeats 4000000
namespace Lf
open PySem PySem.Spec L2
theorem wp_forC {G : U → Lo → M Lo} {Fb : FxS} {xs : List U} (I : List U → Lo → Sto → Prop) {Q : Fl × Lo → Sto → Prop} {η : Lo} {T : Sto} (h0 : I xs η T)
    (step : ∀ x r η T, I (x :: r) η T → Wp (G x η T) fun η1 T1 => Wp (Fb η1 T1) (kF (I r) Q))
    (hend : ∀ η T, I [] η T → Q (.nx, η) T) : Wp (forN G Fb (constI xs).fin (constI xs).its η T) Q :=
  wp_for I (fun _ => rfl) step hend xs η T h0
theorem small62_of {i : Int} (h1 : -1000000000000 < i) (h2 : i < 1000000000000) : small62 i = true := by
  unfold small62
  rw [decide_eq_true (by omega), decide_eq_true (by omega)]
  rfl
theorem rgU_len {lo : Int} {n : Nat} : (rgU lo n).length = n := by
  unfold rgU
  rw [List.length_map, List.length_range]
theorem v_isiIB {i : Int} {T : Sto} {Q : U → Sto → Prop} (q : Q (.bl false) T) : Wp (gIsi [.int i, .raw (.ty "bool")] T) Q := .ok q
theorem v_isiII {i : Int} {T : Sto} {Q : U → Sto → Prop} (q : Q (.bl true) T) : Wp (gIsi [.int i, .raw (.ty "int")] T) Q := .ok q
theorem v_kw {kd : Kd} {n m : Nat} {ix : List Nat} {g : List U → M U} {us : List U} {T : Sto} {Q : U → Sto → Prop} (hl : us.length = m) (q : Wp (kdG kd n g (pick ix us) T) Q) : Wp (kwG kd n m ix g us T) Q := by
  simpa only [kwG, hl, if_true] using q
theorem v_ifNT {X Y : Prop} (h : Y) : ((!true) = true → X) ∧ ((!true) = false → Y) := ⟨fun h => (nomatch h), fun _ => h⟩
theorem v_ifNF {X Y : Prop} (h : X) : ((!false) = true → X) ∧ ((!false) = false → Y) := ⟨fun _ => h, fun h => (nomatch h)⟩
/-- a test whose answer is known -/
theorem v_yesd {p : Prop} [Decidable p] {X Y : Prop} (hp : p) (h : X) : (decide p = true → X) ∧ (decide p = false → Y) := v_ifd (fun _ => h) (fun z => absurd hp z)
theorem v_nod {p : Prop} [Decidable p] {X Y : Prop} (hp : ¬p) (h : Y) : (decide p = true → X) ∧ (decide p = false → Y) := v_ifd (fun z => absurd z hp) (fun _ => h)
theorem v_yesn {p : Prop} [Decidable p] {X Y : Prop} (hp : p) (h : Y) : ((!decide p) = true → X) ∧ ((!decide p) = false → Y) := v_ifdn (fun _ => h) (fun z => absurd hp z)
theorem v_non {p : Prop} [Decidable p] {X Y : Prop} (hp : ¬p) (h : X) : ((!decide p) = true → X) ∧ ((!decide p) = false → Y) := v_ifdn (fun z => absurd z hp) (fun _ => h)
end Lf
set_option Elab.async false
set_option linter.all false
set_option maxRecDepth 100000
set_option maxHeartbeats 4000000
namespace Lf
open PySem PySem.Spec L2
def fV : U → Option V
  | .non => some .non
  | .bl b => some (.bl b)
  | .int i => some (.int i)
  | .str x => some (.str x)
  | _ => none
def fVs : List U → Option (List V)
  | [] => some []
  | u :: us => match fV u, fVs us with
    | some v, some vs => some (v :: vs)
    | _, _ => none
def gIn (neg : Bool) : U → U → M U := fun x y T => match fV x, (seqU T y).bind fVs with
  | some a, some bs => .ok (.bl (if neg then !inV a bs else inV a bs)) T
  | _, _ => .no
def gRepr : List U → M U := fun us T => match us with
  | [.int i] => if i.natAbs.log2 < 1920 then .ok (.str (toString i)) T else .no
  | [.bl b] => .ok (.str (if b then "True" else "False")) T
  | [.non] => .ok (.str "None") T
  | [.str x] => if (reprText x).length ≤ 16777216 then .ok (.str (reprText x)) T else .no
  | [.tup xs] => match dat T 66 (.tup xs) with
    | some d => if d.showable = true ∧ SeqAt.shaped d = true ∧ d.shown.length ≤ 16777216 then .ok (.str d.shown) T else .no
    | none => .no
  | [.ob k] => match dat T 66 (.ob k) with
    | some d => if d.showable = true ∧ SeqAt.shaped d = true ∧ d.shown.length ≤ 16777216 then .ok (.str d.shown) T else .no
    | none => .no
  | _ => .no
section
variable {X : Cx} {E : XK}
theorem u66 {k : Nat} {A : Around} (r : Room k A) : A.units + 66 < cLine := by have := r.un; omega
def rRepr (K : PySem.W.Frag) : List V → Hp → VK → Prop := fun xs H Q =>
  (∃ i, xs = [.int i] ∧ i.natAbs.log2 < 1920 ∧ Q (.str (toString i)) H) ∨ (∃ b, xs = [.bl b] ∧ Q (.str (if b then "True" else "False")) H) ∨ (xs = [.non] ∧ Q (.str "None") H) ∨
  (∃ x, xs = [.str x] ∧ (reprText x).length ≤ sizeLine ∧ Q (.str (reprText x)) H) ∨
  (∃ a d, xs = [.ref a] ∧ Dp K H (.ref a) d ∧ d.showable = true ∧ SeqAt.shaped d = true ∧ d.shown.length ≤ sizeLine ∧ Q (.str d.shown) H)
theorem shaped_at {d : PyData} (h : SeqAt.shaped d = true) : d.canLay0 = true ∧ d.depth ≤ 64 := by
  have h : (d.canLay0 && decide (d.depth ≤ 64)) = true := h
  rw [Bool.and_eq_true, decide_eq_true_eq] at h
  exact h
theorem call_reprA (gd : X.A.guards = some []) (hu : X.A.units + 66 < cLine) : CallR X (.builtin "repr") (rRepr X.K) := by
  intro pins s σ H xs us Q I r h
  rcases h with ⟨i, rfl, hz, q⟩ | ⟨b, rfl, q⟩ | ⟨rfl, q⟩ | ⟨x, rfl, hz, q⟩ | ⟨a, d, rfl, hd, h1, h2, h3, q⟩
  · obtain ⟨u, rfl, t, rfl⟩ := vals1 r
    exact PySem.P.repr_of_int hz ⟨.str _, H, I.tok _, ⟨_, rfl⟩, q⟩
  · obtain ⟨u, rfl, rfl⟩ := vals1 r
    exact PySem.P.repr_of_bool ⟨.str _, H, I.tok _, ⟨_, rfl⟩, q⟩
  · obtain ⟨u, rfl, rfl⟩ := vals1 r
    exact PySem.P.repr_of_none ⟨.str _, H, I.tok _, ⟨_, rfl⟩, q⟩
  · obtain ⟨u, rfl, t, rfl⟩ := vals1 r
    exact PySem.P.repr_of_str ⟨.str _, H, I.tok _, ⟨_, rfl⟩, q⟩ hz
  · obtain ⟨u, rfl, rfl⟩ := vals1 r
    obtain ⟨as, rd⟩ := Dp.reads I d _ _ hd rfl
    have h4 := shaped_at h2
    exact PySem.repr_of_reads' rd h1 (PyData.noDict_hsm (PyData.hasDict_of_canLay d h4.1)) gd (by omega) (fun b o e => e) (fun h' u tk hk => ⟨.str _, H, I.kept hk, ⟨_, rfl⟩, q⟩) h3
theorem fcl_repr (gd : X.A.guards = some []) (hu : X.A.units + 66 < cLine) : FCall X E (.builtin "repr") gRepr := by
  refine ⟨_, call_reprA gd hu, fun ρ H T us xs Q s r h => ?_⟩
  have sz : sizeLine = 16777216 := sizeLine_eq
  unfold gRepr at h
  split at h
  · split at h
    · rename_i i hi
      match r with
      | .cons (.int _) .nil => exact .inl ⟨i, rfl, hi, okV s h (.str _)⟩
    · exact False.elim h
  · match r with
    | .cons (.bl b) .nil => exact .inr (.inl ⟨b, rfl, okV s h (.str _)⟩)
  · match r with
    | .cons .non .nil => exact .inr (.inr (.inl ⟨rfl, okV s h (.str _)⟩))
  · split at h
    · rename_i x hx
      match r with
      | .cons (.str _) .nil => exact .inr (.inr (.inr (.inl ⟨x, rfl, by rw [sz]; exact hx, okV s h (.str _)⟩)))
    · exact False.elim h
  · split at h
    · rename_i ys d e
      split at h
      · rename_i hd
        match r with
        | .cons r .nil =>
          have dp := dat_ok s _ _ _ _ r e
          cases r with
          | tup _ _ => exact .inr (.inr (.inr (.inr ⟨_, d, rfl, dp, hd.1, hd.2.1, by rw [sz]; exact hd.2.2, okV s h (.str _)⟩)))
      · exact False.elim h
    · exact False.elim h
  · split at h
    · rename_i k d e
      split at h
      · rename_i hd
        match r with
        | .cons r .nil =>
          have dp := dat_ok s _ _ _ _ r e
          cases r with
          | ob _ => exact .inr (.inr (.inr (.inr ⟨_, d, rfl, dp, hd.1, hd.2.1, by rw [sz]; exact hd.2.2, okV s h (.str _)⟩)))
      · exact False.elim h
    · exact False.elim h
  · exact False.elim h
end
end Lf
set_option Elab.async false
set_option linter.all false
set_option maxRecDepth 100000
set_option maxHeartbeats 4000000
namespace Lf
open PySem PySem.Spec L2
section
variable {T : Sto} {Q : U → Sto → Prop}
theorem v_neT {x y : Str} (q : Q (.bl (decide (x ≠ y))) T) : Wp (gEq true (.str x) (.str y) T) Q := by
  refine .ok ?_
  rw [show (if true = true then !decide (x = y) else decide (x = y)) = decide (x ≠ y) from (decide_not ..).symm]
  exact q
end
/-- T' is T but for the urn at i, and more objects -/
structure Ext (i : Nat) (T T' : Sto) : Prop where
  urn : ∃ o, T'[i]? = some o ∧ Urn o
  kp : ∀ j, j ≠ i → j < T.length → T'[j]? = T[j]?
  le : T.length ≤ T'.length
theorem Ext.refl {i : Nat} {T : Sto} {o : O} (h : T[i]? = some o) (u : Urn o) : Ext i T T := ⟨⟨o, h, u⟩, fun _ _ _ => rfl, Nat.le_refl _⟩
theorem Ext.trans {i : Nat} {T T1 T2 : Sto} (a : Ext i T T1) (b : Ext i T1 T2) : Ext i T T2 := ⟨b.urn, fun j h1 h2 => (b.kp j h1 (Nat.lt_of_lt_of_le h2 a.le)).trans (a.kp j h1 h2), Nat.le_trans a.le b.le⟩
theorem Ext.set {i : Nat} {T : Sto} {o : O} (h : i < T.length) (u : Urn o) : Ext i T (T.set i o) := ⟨⟨o, List.getElem?_set_self h, u⟩, fun j h1 h2 => List.getElem?_set_ne (Ne.symm h1), by rw [List.length_set]; exact Nat.le_refl _⟩
theorem Ext.at_ {i j : Nat} {T T' : Sto} {o : O} (a : Ext i T T') (h : T[j]? = some o) (hj : j ≠ i) : T'[j]? = some o := (a.kp j hj (List.getElem?_eq_some_iff.mp h).1).trans h
theorem lt_at {i : Nat} {T : Sto} {o : O} (h : T[i]? = some o) : i < T.length := (List.getElem?_eq_some_iff.mp h).1
def OpOk (p n : Int) (ws : List Str) (x : U) : Prop :=
  (∃ w a c, x = .tup [.str w, .int a, .int c] ∧ (w = "set" ∨ w = "scale") ∧ 0 ≤ a ∧ a < n ∧ 0 ≤ c ∧ c < p ∧ (w ∈ ws ∨ (w = "set" ∧ n = 1))) ∨
  (∃ w a, x = .tup [.str w, .int a] ∧ (w = "read" ∨ w = "write") ∧ 0 ≤ a ∧ a < n ∧ w ∈ ws) ∨
  (∃ a b c, x = .tup [.str "add", .int a, .int b, .int c] ∧ 0 ≤ a ∧ a < n ∧ 0 ≤ b ∧ b < n ∧ a ≠ b ∧ 1 ≤ c ∧ c < p ∧ Str.ofString "add" ∈ ws) ∨
  (∃ w a b, x = .tup [.str w, .int a, .int b] ∧ (w = "copy" ∨ w = "swap") ∧ 0 ≤ a ∧ a < n ∧ 0 ≤ b ∧ b < n ∧ a ≠ b ∧ w ∈ ws)
def words7 : List Str := ["set", "scale", "read", "write", "add", "copy", "swap"]
theorem words7_ok : ∀ w ∈ words7, PyData.strOk w = true := by decide +kernel
local macro_rules | `(tactic| rfl') => `(tactic| repeat (first | with_reducible refine Lf.kS_nx ?_ | with_reducible refine Lf.kS_rt ?_ | with_reducible refine Lf.kS_bk ?_ | with_reducible refine Lf.kS_ct ?_ | with_reducible refine Lf.kD_rt ?_ | with_reducible refine Lf.kD_nx ?_ | with_reducible refine Lf.kF_nx ?_ | with_reducible refine Lf.kF_ct ?_ | with_reducible refine Lf.kF_bk ?_ | with_reducible refine Lf.kF_rt ?_ | with_reducible refine Lf.v_ifT ?_ | with_reducible refine Lf.v_ifF ?_ | with_reducible refine Lf.v_ifNT ?_ | with_reducible refine Lf.v_ifNF ?_ | with_reducible refine Lf.kP_int ?_ | with_reducible refine Lf.kP_bl ?_ | with_reducible refine Lf.kP_str ?_ | with_reducible refine Lf.kP_non ?_ | with_reducible refine Lf.v_iadd ?_ | with_reducible refine Lf.Wp.ok ?_ | with_reducible refine Lf.seq_wp ?_ | with_reducible refine Lf.v_bin ?_ | with_reducible refine Lf.v_cons ?_ | with_reducible refine Lf.v_call ?_ | with_reducible refine Lf.v_ret ?_ | with_reducible refine Lf.v_set ?_ | with_reducible refine Lf.v_asg ?_ | with_reducible refine Lf.v_if ?_ | with_reducible refine Lf.v_ifE ?_ | with_reducible refine Lf.v_bl ?_ | with_reducible refine Lf.v_tru ?_ | with_reducible refine Lf.v_and ?_ | with_reducible refine Lf.v_or ?_ | with_reducible refine Lf.v_not ?_ | with_reducible refine Lf.v_andV ?_ | with_reducible refine Lf.v_orV ?_ | with_reducible refine Lf.v_notV ?_ | with_reducible refine Lf.v_c ?_ | with_reducible refine Lf.v_nil ?_ | with_reducible refine Lf.v_skip ?_ | with_reducible refine Lf.v_drop ?_ | with_reducible refine Lf.v_retN ?_ | with_reducible refine Lf.v_brk ?_ | with_reducible refine Lf.v_cnt ?_ | with_reducible refine Lf.v_nm ?_ | with_reducible refine Lf.v_gnil ?_ | with_reducible refine Lf.v_gcons ?_ | with_reducible refine Lf.v_yes ?_ | with_reducible refine Lf.v_for ?_ | with_reducible refine Lf.v_lc ?_ | with_reducible refine Lf.v_rg ?_ | with_reducible refine Lf.v_iter ?_ | with_reducible refine Lf.v_iterT ?_ | with_reducible refine Lf.v_add ?_ | with_reducible refine Lf.v_sub ?_ | with_reducible refine Lf.v_neg ?_ | with_reducible refine Lf.v_lt ?_ | with_reducible refine Lf.v_le ?_ | with_reducible refine Lf.v_gt ?_ | with_reducible refine Lf.v_ge ?_ | with_reducible refine Lf.v_eqI ?_ | with_reducible refine Lf.v_neI ?_ | with_reducible refine Lf.v_abs ?_ | with_reducible refine Lf.v_intI ?_ | with_reducible refine Lf.v_intB ?_ | with_reducible refine Lf.v_max2 ?_ | with_reducible refine Lf.v_min2 ?_ | with_reducible refine Lf.v_lenT ?_ | with_reducible refine Lf.v_lenN ?_ | with_reducible refine Lf.v_nw ?_ | with_reducible refine Lf.v_un ?_ | with_reducible refine Lf.v_tup ?_ | with_reducible refine Lf.v_lst ?_ | with_reducible refine Lf.v_par2 ?_ | with_reducible refine Lf.v_par3 ?_ | with_reducible refine Lf.v_chain ?_ | with_reducible refine Lf.v_meth ?_ | with_reducible refine Lf.v_subT ?_ | with_reducible refine Lf.v_isiIB ?_ | with_reducible refine Lf.v_isiII ?_ | with_reducible refine Lf.v_sl ?_ | with_reducible refine Lf.v_noP ?_ | with_reducible refine Lf.v_pt ?_ | with_reducible refine Lf.v_cutT ?_ | ((with_reducible apply Lf.v_var); exact rfl) | ((with_reducible refine Lf.v_kw ?_ ?_); exact rfl) | ((with_reducible apply Lf.v_iterO); first | exact rfl | assumption) | ((with_reducible apply Lf.v_lenL); first | exact rfl | assumption) | ((with_reducible refine Lf.v_unp ?_ ?_); exact rfl) | ((with_reducible apply Lf.v_aug); exact rfl) | ((with_reducible refine Lf.v_mod ?_ ?_); first | decide | omega | assumption | fail) | ((with_reducible refine Lf.v_div ?_ ?_); first | exact ⟨by decide, by decide +kernel⟩ | assumption | exact Lf.log2d (by omega) ⟨by omega, by omega⟩ | fail) | ((with_reducible refine Lf.v_mul ?_ ?_); first | exact Lf.log2m ⟨by omega, by omega⟩ ⟨by omega, by omega⟩ | exact Lf.log2m (by assumption) ⟨by omega, by omega⟩ | exact Lf.log2m ⟨by omega, by omega⟩ (by assumption) | fail) | ((with_reducible refine Lf.v_pow ?_ ?_); exact ⟨by decide, by decide, by decide⟩) | ((with_reducible refine Lf.v_rg1 ?_ ?_); first | decide | fail) | ((with_reducible apply Lf.v_ixL); (first | exact rfl | assumption | fail); (first | exact rfl | assumption | fail)) | ((with_reducible apply Lf.v_ixT); (first | exact rfl | assumption | fail)) | ((with_reducible apply Lf.v_ixN); (first | exact rfl | assumption | fail)) | with_reducible refine ⟨_, rfl, ?_⟩ | (refine ⟨_, (rfl : Lf.tru _ (Lf.U.bl _) = some _), ?_⟩) | with_reducible refine ⟨_, _, rfl, ?_⟩ | with_reducible refine ⟨_, _, _, rfl, ?_⟩ | (refine ⟨(Nat.le_of_ble_eq_true rfl : List.length _ ≤ 16777216), ?_⟩) | with_reducible refine Lf.v_enum ?_ | fail))
def lpU (k : Int) (b : List U) : U := .tup [.str "loop", .int k, .tup b]
/-- the programs of at most l items a level (half as many below), d levels of loops -/
def Pr (A : U → Prop) (R : Int → Prop) : Nat → Int → List U → Prop
  | 0, l, xs => (xs.length : Int) ≤ l ∧ ∀ x ∈ xs, A x
  | d + 1, l, xs => (xs.length : Int) ≤ l ∧ ∀ x ∈ xs, A x ∨ ∃ k b, x = lpU k b ∧ R k ∧ Pr A R d (l / 2) b
theorem Pr.len {A : U → Prop} {R : Int → Prop} : ∀ {d : Nat} {l : Int} {xs : List U}, Pr A R d l xs → (xs.length : Int) ≤ l
  | 0, _, _, h => h.1
  | _ + 1, _, _, h => h.1
theorem Ext.app {i : Nat} {T T1 : Sto} {f : List U} (e : Ext i T T1) (hi : i < T.length) (xs : List U) : Ext i T (T1.set T.length (.lst xs)) := by
  obtain ⟨o, h, u⟩ := e.urn
  exact ⟨⟨o, by rw [List.getElem?_set_ne (Nat.ne_of_gt hi)]; exact h, u⟩, fun j h1 h2 => by rw [List.getElem?_set_ne (Nat.ne_of_gt h2)]; exact e.kp j h1 h2, by rw [List.length_set]; exact e.le⟩
end Lf
set_option Elab.async false
set_option linter.all false
set_option maxRecDepth 100000
set_option maxHeartbeats 4000000
namespace Lf
open PySem PySem.Spec L2
def lpOf : U → Option (Int × List U)
  | .tup [.str w, .int k, .tup b] => if w = "loop" then some (k, b) else none
  | _ => none
theorem lpOf_lpU (k : Int) (b : List U) : lpOf (lpU k b) = some (k, b) := rfl
/-- the word of an instruction -/
def wdOf : U → Option Str
  | .tup (.str w :: _) => some w
  | _ => none
/-- an instruction that is no loop -/
def Op (x : U) : Prop := ∃ (w : Str) (is : List Int), x = .tup (.str w :: is.map .int) ∧ w ∈ words7 ∧ is.length ≤ 3 ∧ ∀ i ∈ is, 0 ≤ i ∧ i < 1000000
theorem Op.no {x : U} (h : Op x) : lpOf x = none := by
  obtain ⟨w, is, rfl, _⟩ := h
  match is with
  | [] => rfl
  | [_] => rfl
  | [_, _] => rfl
  | _ :: _ :: _ :: _ => rfl
theorem OpOk.op {p n : Int} {ws : List Str} {x : U} (hp : p < 1000000) (hn : n < 1000) (h : OpOk p n ws x) : Op x := by
  rcases h with ⟨w, a, c, rfl, h, _⟩ | ⟨w, a, rfl, h, _⟩ | ⟨a, b, c, rfl, h⟩ | ⟨w, a, b, rfl, h, _⟩
  · exact ⟨w, [a, c], rfl, by rcases h with rfl | rfl <;> decide, by simp, by simp; omega⟩
  · exact ⟨w, [a], rfl, by rcases h with rfl | rfl <;> decide, by simp, by simp; omega⟩
  · exact ⟨_, [a, b, c], rfl, by decide, by simp, by simp; omega⟩
  · exact ⟨w, [a, b], rfl, by rcases h with rfl | rfl <;> decide, by simp, by simp; omega⟩
/-- programs of at most L items a level, d levels of loops -/
def Pn (A : U → Prop) (R : Int → Prop) (L : Nat) : Nat → List U → Prop
  | 0, xs => xs.length ≤ L ∧ ∀ x ∈ xs, A x
  | d + 1, xs => xs.length ≤ L ∧ ∀ x ∈ xs, A x ∨ ∃ k b, x = lpU k b ∧ R k ∧ Pn A R L d b
theorem Pn.of {A A' : U → Prop} {R R' : Int → Prop} {L : Nat} (hA : ∀ x, A x → A' x) (hR : ∀ k, R k → R' k) : ∀ {d : Nat} {l : Int} {xs : List U}, Pr A R d l xs → l ≤ L → 0 ≤ l → Pn A' R' L d xs
  | 0, l, xs, h, hl, _ => ⟨by have := h.1; omega, fun x hx => hA x (h.2 x hx)⟩
  | d + 1, l, xs, h, hl, h0 => ⟨by have := h.1; omega, fun x hx => by
      rcases h.2 x hx with h | ⟨k, b, e, hr, hb⟩
      · exact .inl (hA x h)
      · exact .inr ⟨k, b, e, hR k hr, Pn.of hA hR hb (by omega) (by omega)⟩⟩
theorem Pn.len {A : U → Prop} {R : Int → Prop} {L : Nat} : ∀ {d : Nat} {xs : List U}, Pn A R L d xs → xs.length ≤ L
  | 0, _, h => h.1
  | _ + 1, _, h => h.1
theorem Pn.sub {A : U → Prop} {R : Int → Prop} {L : Nat} : ∀ {d : Nat} {xs ys : List U}, Pn A R L d xs → (∀ y ∈ ys, y ∈ xs) → ys.length ≤ L → Pn A R L d ys
  | 0, _, _, h, hs, hl => ⟨hl, fun x hx => h.2 x (hs x hx)⟩
  | _ + 1, _, _, h, hs, hl => ⟨hl, fun x hx => h.2 x (hs x hx)⟩
/-- what an item counts, what a program counts, by the weight f of an instruction -/
def cnt (f : U → Int) : Nat → List U → Int
  | 0, xs => (xs.map f).sum
  | d + 1, xs => (xs.map fun x => match lpOf x with
    | some (k, b) => k * cnt f d b
    | none => f x).sum
def cn1 (f : U → Int) : Nat → U → Int
  | 0, x => f x
  | d + 1, x => match lpOf x with
    | some (k, b) => k * cnt f d b
    | none => f x
theorem cnt_eq (f : U → Int) (d : Nat) (xs : List U) : cnt f d xs = (xs.map (cn1 f d)).sum := by
  cases d <;> rfl
theorem cnt_nil (f : U → Int) (d : Nat) : cnt f d [] = 0 := by rw [cnt_eq]; rfl
theorem cnt_cons (f : U → Int) (d : Nat) (x : U) (xs : List U) : cnt f d (x :: xs) = cn1 f d x + cnt f d xs := by rw [cnt_eq, cnt_eq, List.map_cons, List.sum_cons]
theorem cnt_app (f : U → Int) (d : Nat) (xs ys : List U) : cnt f d (xs ++ ys) = cnt f d xs + cnt f d ys := by
  induction xs with
  | nil => rw [cnt_nil]; simp
  | cons x xs ih => rw [List.cons_append, cnt_cons, cnt_cons, ih]; omega
theorem cnt_one (f : U → Int) (d : Nat) (x : U) : cnt f d [x] = cn1 f d x := by rw [cnt_cons, cnt_nil]; omega
theorem cn1_op {f : U → Int} {d : Nat} {x : U} (h : Op x) : cn1 f d x = f x := by
  cases d with
  | zero => rfl
  | succ d =>
    show (match lpOf x with
      | some (k, b) => k * cnt f d b
      | none => f x) = f x
    rw [h.no]
theorem cn1_lp {f : U → Int} {d : Nat} {k : Int} {b : List U} : cn1 f (d + 1) (lpU k b) = k * cnt f d b := rfl
/-- rounds of at most 10 ** 18 -/
def Rd (k : Int) : Prop := 0 ≤ k ∧ k ≤ 1000000000000000000
theorem sum_bd {f : U → Int} {M : Int} : ∀ xs : List U, (∀ x ∈ xs, 0 ≤ f x ∧ f x ≤ M) → 0 ≤ (xs.map f).sum ∧ (xs.map f).sum ≤ xs.length * M
  | [], _ => by simp
  | x :: xs, h => by
    have h1 := h x (List.mem_cons_self ..)
    have h2 := sum_bd xs fun y hy => h y (List.mem_cons_of_mem _ hy)
    rw [List.map_cons, List.sum_cons, List.length_cons]
    have : ((xs.length + 1 : Nat) : Int) * M = xs.length * M + M := by push_cast; rw [Int.add_mul]; omega
    omega
def Bd : Nat → Int
  | 0 => 1000
  | d + 1 => 1000000000000000000000 * Bd d
theorem Bd_pos : ∀ d, 1000 ≤ Bd d
  | 0 => by decide
  | d + 1 => by have := Bd_pos d; unfold Bd; omega
theorem cnt_bd {f : U → Int} {L : Nat} (hL : L ≤ 1000) (hf : ∀ x, 0 ≤ f x ∧ f x ≤ 1) : ∀ {d : Nat} {xs : List U}, Pn Op Rd L d xs → 0 ≤ cnt f d xs ∧ cnt f d xs ≤ Bd d
  | 0, xs, h => by
    have := sum_bd (M := 1) xs fun x _ => hf x
    have := h.1
    unfold cnt Bd
    omega
  | d + 1, xs, h => by
    rw [cnt_eq]
    have hB := Bd_pos d
    have := sum_bd (f := cn1 f (d + 1)) (M := 1000000000000000000 * Bd d) xs fun x hx => by
      rcases h.2 x hx with h | ⟨k, b, rfl, hr, hb⟩
      · rw [cn1_op h]
        have := hf x
        omega
      · rw [cn1_lp]
        have ih := cnt_bd hL hf hb
        refine ⟨Int.mul_nonneg hr.1 ih.1, ?_⟩
        exact Int.mul_le_mul hr.2 ih.2 ih.1 (by decide)
    have h1 : xs.length ≤ L := h.1
    refine ⟨this.1, Int.le_trans this.2 ?_⟩
    have : (xs.length : Int) * (1000000000000000000 * Bd d) ≤ 1000 * (1000000000000000000 * Bd d) := Int.mul_le_mul_of_nonneg_right (by omega) (by omega)
    show _ ≤ 1000000000000000000000 * Bd d
    omega
def tmA (self : List U → M U) : FxS :=
  fSeq (fSet 2 (fC (.int 0))) (fSeq (fFor (fIter (fVar 0)) (gNm 3) (fIf (fBl (fBin (gEq false) (fBin gIx (fVar 3) (fC (.int 0))) (fC (.str "loop")))) (fAug 2 gIAdd (fBin gMul (fBin gIx (fVar 3) (fC (.int 1))) (fCall (kdG .pur 2 self) (fCons (fBin gIx (fVar 3) (fC (.int 2))) (fCons (fVar 1) (fNil)))))) (fIf (fOr (fBl (fBin (gEq false) (fVar 1) (fTup (fNil)))) (fBl (fBin (gIn false) (fBin gIx (fVar 3) (fC (.int 0))) (fVar 1)))) (fAug 2 gIAdd (fC (.int 1))) (fSkip)))) (fRet (fVar 2)))
theorem nrs_ints : ∀ is : List Int, nrs (is.map .int) = true
  | [] => rfl
  | i :: is => by show (nr (.int i) && nrs (is.map .int)) = true; rw [nrs_ints is]; rfl
/-- the weight by words: any word if there is none -/
def wt (ws : List Str) (x : U) : Int := match wdOf x with
  | some w => if ws = [] ∨ w ∈ ws then 1 else 0
  | none => 0
theorem wt_bd (ws : List Str) (x : U) : 0 ≤ wt ws x ∧ wt ws x ≤ 1 := by
  unfold wt
  split
  · split <;> omega
  · omega
theorem v_iadd {i j : Int} {T : Sto} {Q : U → Sto → Prop} (q : Q (.int (i + j)) T) : Wp (gIAdd (.int i) (.int j) T) Q := .ok q
/-- what a call without objects hands back -/
def kP (T : Sto) (Q : U → Sto → Prop) (u : U) (T' : Sto) : Prop := match u with
  | .ob k => ∃ o, T'[k]? = some o ∧ nrO o = true ∧ Q (.ob T.length) (T ++ [o])
  | u => nr u = true ∧ Q u T
section
variable {T T' : Sto} {Q : U → Sto → Prop}
theorem kP_int {i : Int} (q : Q (.int i) T) : kP T Q (.int i) T' := ⟨rfl, q⟩
theorem kP_bl {i : Bool} (q : Q (.bl i) T) : kP T Q (.bl i) T' := ⟨rfl, q⟩
theorem kP_str {i : Str} (q : Q (.str i) T) : kP T Q (.str i) T' := ⟨rfl, q⟩
theorem kP_non (q : Q .non T) : kP T Q .non T' := ⟨rfl, q⟩
theorem kP_tup {xs : List U} (h : nrs xs = true) (q : Q (.tup xs) T) : kP T Q (.tup xs) T' := ⟨h, q⟩
end
theorem v_ix0 {x : U} {r : List U} {T : Sto} {Q : U → Sto → Prop} (q : Q x T) : Wp (gIx (.tup (x :: r)) (.int 0) T) Q := by
  refine v_ixT ?_ q
  unfold atI ixN
  rw [if_pos (by decide), if_pos (by rw [List.length_cons]; omega)]
  rfl
theorem Pn.item {A : U → Prop} {R : Int → Prop} {L : Nat} {d : Nat} {xs : List U} {x : U} (h : Pn A R L d xs) (hx : x ∈ xs) : A x ∨ ∃ d' k b, d = d' + 1 ∧ x = lpU k b ∧ R k ∧ Pn A R L d' b := by
  cases d with
  | zero => exact .inl (h.2 x hx)
  | succ d =>
    rcases h.2 x hx with h | ⟨k, b, h1, h2, h3⟩
    · exact .inl h
    · exact .inr ⟨d, k, b, rfl, h1, h2, h3⟩
theorem lp_str : PyData.strOk "loop" = true := by decide +kernel
local macro_rules | `(tactic| rfl') => `(tactic| repeat (first | with_reducible refine Lf.kS_nx ?_ | with_reducible refine Lf.kS_rt ?_ | with_reducible refine Lf.kS_bk ?_ | with_reducible refine Lf.kS_ct ?_ | with_reducible refine Lf.kD_rt ?_ | with_reducible refine Lf.kD_nx ?_ | with_reducible refine Lf.kF_nx ?_ | with_reducible refine Lf.kF_ct ?_ | with_reducible refine Lf.kF_bk ?_ | with_reducible refine Lf.kF_rt ?_ | with_reducible refine Lf.v_ifT ?_ | with_reducible refine Lf.v_ifF ?_ | with_reducible refine Lf.v_ifNT ?_ | with_reducible refine Lf.v_ifNF ?_ | with_reducible refine Lf.kP_int ?_ | with_reducible refine Lf.kP_bl ?_ | with_reducible refine Lf.kP_str ?_ | with_reducible refine Lf.kP_non ?_ | with_reducible refine Lf.v_iadd ?_ | with_reducible refine Lf.Wp.ok ?_ | with_reducible refine Lf.seq_wp ?_ | with_reducible refine Lf.v_bin ?_ | with_reducible refine Lf.v_cons ?_ | with_reducible refine Lf.v_call ?_ | with_reducible refine Lf.v_ret ?_ | with_reducible refine Lf.v_set ?_ | with_reducible refine Lf.v_asg ?_ | with_reducible refine Lf.v_if ?_ | with_reducible refine Lf.v_ifE ?_ | with_reducible refine Lf.v_bl ?_ | with_reducible refine Lf.v_tru ?_ | with_reducible refine Lf.v_and ?_ | with_reducible refine Lf.v_or ?_ | with_reducible refine Lf.v_not ?_ | with_reducible refine Lf.v_andV ?_ | with_reducible refine Lf.v_orV ?_ | with_reducible refine Lf.v_notV ?_ | with_reducible refine Lf.v_c ?_ | with_reducible refine Lf.v_nil ?_ | with_reducible refine Lf.v_skip ?_ | with_reducible refine Lf.v_drop ?_ | with_reducible refine Lf.v_retN ?_ | with_reducible refine Lf.v_brk ?_ | with_reducible refine Lf.v_cnt ?_ | with_reducible refine Lf.v_nm ?_ | with_reducible refine Lf.v_gnil ?_ | with_reducible refine Lf.v_gcons ?_ | with_reducible refine Lf.v_yes ?_ | with_reducible refine Lf.v_for ?_ | with_reducible refine Lf.v_lc ?_ | with_reducible refine Lf.v_rg ?_ | with_reducible refine Lf.v_iter ?_ | with_reducible refine Lf.v_iterT ?_ | with_reducible refine Lf.v_add ?_ | with_reducible refine Lf.v_sub ?_ | with_reducible refine Lf.v_neg ?_ | with_reducible refine Lf.v_lt ?_ | with_reducible refine Lf.v_le ?_ | with_reducible refine Lf.v_gt ?_ | with_reducible refine Lf.v_ge ?_ | with_reducible refine Lf.v_eqI ?_ | with_reducible refine Lf.v_neI ?_ | with_reducible refine Lf.v_abs ?_ | with_reducible refine Lf.v_intI ?_ | with_reducible refine Lf.v_intB ?_ | with_reducible refine Lf.v_max2 ?_ | with_reducible refine Lf.v_min2 ?_ | with_reducible refine Lf.v_lenT ?_ | with_reducible refine Lf.v_lenN ?_ | with_reducible refine Lf.v_nw ?_ | with_reducible refine Lf.v_un ?_ | with_reducible refine Lf.v_tup ?_ | with_reducible refine Lf.v_lst ?_ | with_reducible refine Lf.v_par2 ?_ | with_reducible refine Lf.v_par3 ?_ | with_reducible refine Lf.v_chain ?_ | with_reducible refine Lf.v_meth ?_ | with_reducible refine Lf.v_subT ?_ | with_reducible refine Lf.v_isiIB ?_ | with_reducible refine Lf.v_isiII ?_ | with_reducible refine Lf.v_sl ?_ | with_reducible refine Lf.v_noP ?_ | with_reducible refine Lf.v_pt ?_ | with_reducible refine Lf.v_cutT ?_ | ((with_reducible apply Lf.v_var); exact rfl) | ((with_reducible refine Lf.v_kw ?_ ?_); exact rfl) | ((with_reducible apply Lf.v_iterO); first | exact rfl | assumption) | ((with_reducible apply Lf.v_lenL); first | exact rfl | assumption) | ((with_reducible refine Lf.v_unp ?_ ?_); exact rfl) | ((with_reducible apply Lf.v_aug); exact rfl) | ((with_reducible refine Lf.v_mod ?_ ?_); first | decide | omega | assumption | fail) | ((with_reducible refine Lf.v_div ?_ ?_); first | exact ⟨by decide, by decide +kernel⟩ | assumption | exact Lf.log2d (by omega) ⟨by omega, by omega⟩ | fail) | ((with_reducible refine Lf.v_mul ?_ ?_); first | exact Lf.log2m ⟨by omega, by omega⟩ ⟨by omega, by omega⟩ | exact Lf.log2m (by assumption) ⟨by omega, by omega⟩ | exact Lf.log2m ⟨by omega, by omega⟩ (by assumption) | fail) | ((with_reducible refine Lf.v_pow ?_ ?_); exact ⟨by decide, by decide, by decide⟩) | ((with_reducible refine Lf.v_rg1 ?_ ?_); first | decide | fail) | ((with_reducible apply Lf.v_ixL); (first | exact rfl | assumption | fail); (first | exact rfl | assumption | fail)) | ((with_reducible apply Lf.v_ixT); (first | exact rfl | assumption | fail)) | ((with_reducible apply Lf.v_ixN); (first | exact rfl | assumption | fail)) | with_reducible refine ⟨_, rfl, ?_⟩ | (refine ⟨_, (rfl : Lf.tru _ (Lf.U.bl _) = some _), ?_⟩) | with_reducible refine ⟨_, _, rfl, ?_⟩ | with_reducible refine ⟨_, _, _, rfl, ?_⟩ | (refine ⟨(Nat.le_of_ble_eq_true rfl : List.length _ ≤ 16777216), ?_⟩) | with_reducible refine Lf.v_enum ?_ | fail))
end Lf
set_option Elab.async false
set_option linter.all false
set_option maxRecDepth 100000
set_option maxHeartbeats 4000000
namespace Lf
open PySem PySem.Spec L2
section
variable {η : Lo} {T : Sto} {Fe : FxE} {Fl Fh : FxO} {Q : U → Sto → Prop} {QO : Option Int → Sto → Prop}
theorem v_sl (q : Wp (Fe η T) fun u T1 => Wp (Fl η T1) fun lo T2 => Wp (Fh η T2) fun hi T3 => Wp (gCut lo hi u T3) Q) : Wp (fSl Fe Fl Fh η T) Q := .bindE q fun _ _ q => .bindE q fun _ _ q => .bind q
theorem v_noP (q : QO none T) : Wp (fNoP η T) QO := .ok q
theorem v_pt (q : Wp (Fe η T) fun u T1 => ∃ i, u = .int i ∧ QO (some i) T1) : Wp (fPt Fe η T) QO := .bindE q fun _ _ ⟨i, e, q⟩ => by subst e; exact .ok q
theorem v_cutT {lo hi : Option Int} {xs : List U} (q : Q (.tup (cutU xs lo hi)) T) : Wp (gCut lo hi (.tup xs) T) Q := .ok q
end
theorem cut_take {α : Type} (xs : List α) {i : Int} {n : Nat} (hi : i = n) : cutU xs none (some i) = xs.take n := by
  subst hi
  unfold cutU
  rw [HT.sIx_none, HT.sIx_nat, List.drop_zero, Nat.sub_zero]
  by_cases h : n ≤ xs.length
  · rw [Nat.min_eq_left h]
  · rw [Nat.min_eq_right (by omega), List.take_of_length_le (Nat.le_refl _), List.take_of_length_le (by omega)]
theorem cut_drop {α : Type} (xs : List α) {i : Int} {n : Nat} (hi : i = n) : cutU xs (some i) none = xs.drop n := by
  subst hi
  unfold cutU
  rw [HT.sIx_nat, HT.sIx_none]
  by_cases h : n ≤ xs.length
  · rw [Nat.min_eq_left h, List.take_of_length_le (by rw [List.length_drop]; exact Nat.le_refl _)]
  · rw [Nat.min_eq_right (by omega), Nat.sub_self, List.take_zero, List.drop_eq_nil_iff.mpr (by omega)]
abbrev stp (d : Nat) (xs : List U) : Int := cnt (wt []) d xs
theorem wt_op {x : U} (h : Op x) : wt [] x = 1 := by
  obtain ⟨w, is, rfl, _⟩ := h
  unfold wt wdOf
  simp
/-- step s of the program stands at the path P, it is the instruction it -/
inductive At : Nat → List U → List Int → Int → U → Prop
  | op {d : Nat} {done r : List U} {x : U} : Op x → At d (done ++ x :: r) [(done.length : Int)] (stp d done) x
  | lp {d : Nat} {done b r : List U} {k t s : Int} {P : List Int} {it : U} : 0 ≤ t → t < k → At d b P s it → At (d + 1) (done ++ lpU k b :: r) ((done.length : Int) :: t :: P) (stp (d + 1) done + (t * stp d b + s)) it
theorem stp_nn {L d : Nat} {xs : List U} (hL : L ≤ 1000) (h : Pn Op Rd L d xs) : 0 ≤ stp d xs := (cnt_bd hL (wt_bd []) h).1
/-- each step has its place -/
theorem At.find {L : Nat} (hL : L ≤ 1000) : ∀ (d : Nat) (xs : List U), Pn Op Rd L d xs → ∀ (done : List U) (s : Int), 0 ≤ s → s < stp d xs → (∀ xs' : List U, xs' = xs → Pn Op Rd L d (done ++ xs)) → ∃ P it, At d (done ++ xs) P (stp d done + s) it := by
  intro d
  induction d with
  | zero =>
    intro xs
    induction xs with
    | nil => intro _ done s h0 h1 _; rw [show stp 0 [] = 0 from rfl] at h1; omega
    | cons x r ih =>
      intro hx done s h0 h1 hw
      have ho : Op x := hx.2 x (List.mem_cons_self ..)
      have e := cnt_cons (wt []) 0 x r
      rw [cn1_op ho, wt_op ho] at e
      by_cases hs : s < 1
      · have : s = 0 := by omega
        subst this
        rw [Int.add_zero]
        exact ⟨_, _, .op ho⟩
      · have hr : Pn Op Rd L 0 r := hx.sub (fun y hy => by simp [hy]) (by have := hx.len; simp at this; omega)
        have := ih hr (done ++ [x]) (s - 1) (by omega) (by show s - 1 < cnt (wt []) 0 r; have : s < cnt (wt []) 0 (x :: r) := h1; omega) (fun _ _ => by rw [List.append_assoc]; exact hw _ rfl)
        rw [List.append_assoc] at this
        have e2 : stp 0 (done ++ [x]) = stp 0 done + 1 := by show cnt _ _ _ = _; rw [cnt_app, cnt_one, cn1_op ho, wt_op ho]
        rw [e2, show stp 0 done + 1 + (s - 1) = stp 0 done + s by omega] at this
        exact this
  | succ d ihd =>
    intro xs
    induction xs with
    | nil => intro _ done s h0 h1 _; rw [show stp (d + 1) [] = 0 from rfl] at h1; omega
    | cons x r ih =>
      intro hx done s h0 h1 hw
      have hr : Pn Op Rd L (d + 1) r := hx.sub (fun y hy => by simp [hy]) (by have := hx.len; simp at this; omega)
      have e := cnt_cons (wt []) (d + 1) x r
      have h1 : s < cnt (wt []) (d + 1) (x :: r) := h1
      by_cases hs : s < cn1 (wt []) (d + 1) x
      · rcases hx.item (List.mem_cons_self ..) with ho | ⟨d', k, b, ed, rfl, hk, hb⟩
        · rw [cn1_op ho, wt_op ho] at hs
          have : s = 0 := by omega
          subst this
          rw [Int.add_zero]
          exact ⟨_, _, .op ho⟩
        · cases ed
          rw [cn1_lp] at hs
          have hb0 := stp_nn hL hb
          have hc : 0 < stp d b := by
            by_cases z : stp d b = 0
            · have : cnt (wt []) d b = 0 := z
              rw [this, Int.mul_zero] at hs
              omega
            · omega
          have m := emod_bd (a := s) hc
          obtain ⟨P, it, a⟩ := ihd b hb [] (s % stp d b) m.1 m.2 (fun _ _ => hb)
          rw [List.nil_append, show stp d [] = 0 from cnt_nil _ _, Int.zero_add] at a
          have h7 := Int.emod_add_mul_ediv s (stp d b)
          have hq : 0 ≤ s / stp d b := Int.ediv_nonneg h0 (by omega)
          have hq2 : s / stp d b < k := Int.ediv_lt_of_lt_mul hc hs
          have := At.lp (done := done) (r := r) (k := k) hq hq2 a
          rw [show s / stp d b * stp d b + s % stp d b = s by rw [Int.mul_comm]; omega] at this
          exact ⟨_, _, this⟩
      · have := ih hr (done ++ [x]) (s - cn1 (wt []) (d + 1) x) (by omega) (by show _ < cnt (wt []) (d + 1) r; omega) (fun _ _ => by rw [List.append_assoc]; exact hw _ rfl)
        rw [List.append_assoc] at this
        have e2 : stp (d + 1) (done ++ [x]) = stp (d + 1) done + cn1 (wt []) (d + 1) x := by show cnt _ _ _ = _; rw [cnt_app, cnt_one]
        rw [e2, show stp (d + 1) done + cn1 (wt []) (d + 1) x + (s - cn1 (wt []) (d + 1) x) = stp (d + 1) done + s by omega] at this
        exact this
theorem At.ex {L : Nat} (hL : L ≤ 1000) {d : Nat} {xs : List U} (h : Pn Op Rd L d xs) {s : Int} (h0 : 0 ≤ s) (h1 : s < stp d xs) : ∃ P it, At d xs P s it := by
  have := At.find hL d xs h [] s h0 h1 (fun _ _ => h)
  rwa [List.nil_append, show stp d [] = 0 from cnt_nil _ _, Int.zero_add] at this
local macro_rules | `(tactic| rfl') => `(tactic| repeat (first | with_reducible refine Lf.kS_nx ?_ | with_reducible refine Lf.kS_rt ?_ | with_reducible refine Lf.kS_bk ?_ | with_reducible refine Lf.kS_ct ?_ | with_reducible refine Lf.kD_rt ?_ | with_reducible refine Lf.kD_nx ?_ | with_reducible refine Lf.kF_nx ?_ | with_reducible refine Lf.kF_ct ?_ | with_reducible refine Lf.kF_bk ?_ | with_reducible refine Lf.kF_rt ?_ | with_reducible refine Lf.v_ifT ?_ | with_reducible refine Lf.v_ifF ?_ | with_reducible refine Lf.v_ifNT ?_ | with_reducible refine Lf.v_ifNF ?_ | with_reducible refine Lf.kP_int ?_ | with_reducible refine Lf.kP_bl ?_ | with_reducible refine Lf.kP_str ?_ | with_reducible refine Lf.kP_non ?_ | with_reducible refine Lf.v_iadd ?_ | with_reducible refine Lf.Wp.ok ?_ | with_reducible refine Lf.seq_wp ?_ | with_reducible refine Lf.v_bin ?_ | with_reducible refine Lf.v_cons ?_ | with_reducible refine Lf.v_call ?_ | with_reducible refine Lf.v_ret ?_ | with_reducible refine Lf.v_set ?_ | with_reducible refine Lf.v_asg ?_ | with_reducible refine Lf.v_if ?_ | with_reducible refine Lf.v_ifE ?_ | with_reducible refine Lf.v_bl ?_ | with_reducible refine Lf.v_tru ?_ | with_reducible refine Lf.v_and ?_ | with_reducible refine Lf.v_or ?_ | with_reducible refine Lf.v_not ?_ | with_reducible refine Lf.v_andV ?_ | with_reducible refine Lf.v_orV ?_ | with_reducible refine Lf.v_notV ?_ | with_reducible refine Lf.v_c ?_ | with_reducible refine Lf.v_nil ?_ | with_reducible refine Lf.v_skip ?_ | with_reducible refine Lf.v_drop ?_ | with_reducible refine Lf.v_retN ?_ | with_reducible refine Lf.v_brk ?_ | with_reducible refine Lf.v_cnt ?_ | with_reducible refine Lf.v_nm ?_ | with_reducible refine Lf.v_gnil ?_ | with_reducible refine Lf.v_gcons ?_ | with_reducible refine Lf.v_yes ?_ | with_reducible refine Lf.v_for ?_ | with_reducible refine Lf.v_lc ?_ | with_reducible refine Lf.v_rg ?_ | with_reducible refine Lf.v_iter ?_ | with_reducible refine Lf.v_iterT ?_ | with_reducible refine Lf.v_add ?_ | with_reducible refine Lf.v_sub ?_ | with_reducible refine Lf.v_neg ?_ | with_reducible refine Lf.v_lt ?_ | with_reducible refine Lf.v_le ?_ | with_reducible refine Lf.v_gt ?_ | with_reducible refine Lf.v_ge ?_ | with_reducible refine Lf.v_eqI ?_ | with_reducible refine Lf.v_neI ?_ | with_reducible refine Lf.v_abs ?_ | with_reducible refine Lf.v_intI ?_ | with_reducible refine Lf.v_intB ?_ | with_reducible refine Lf.v_max2 ?_ | with_reducible refine Lf.v_min2 ?_ | with_reducible refine Lf.v_lenT ?_ | with_reducible refine Lf.v_lenN ?_ | with_reducible refine Lf.v_nw ?_ | with_reducible refine Lf.v_un ?_ | with_reducible refine Lf.v_tup ?_ | with_reducible refine Lf.v_lst ?_ | with_reducible refine Lf.v_par2 ?_ | with_reducible refine Lf.v_par3 ?_ | with_reducible refine Lf.v_chain ?_ | with_reducible refine Lf.v_meth ?_ | with_reducible refine Lf.v_subT ?_ | with_reducible refine Lf.v_isiIB ?_ | with_reducible refine Lf.v_isiII ?_ | with_reducible refine Lf.v_sl ?_ | with_reducible refine Lf.v_noP ?_ | with_reducible refine Lf.v_pt ?_ | with_reducible refine Lf.v_cutT ?_ | ((with_reducible apply Lf.v_var); exact rfl) | ((with_reducible refine Lf.v_kw ?_ ?_); exact rfl) | ((with_reducible apply Lf.v_iterO); first | exact rfl | assumption) | ((with_reducible apply Lf.v_lenL); first | exact rfl | assumption) | ((with_reducible refine Lf.v_unp ?_ ?_); exact rfl) | ((with_reducible apply Lf.v_aug); exact rfl) | ((with_reducible refine Lf.v_mod ?_ ?_); first | decide | omega | assumption | fail) | ((with_reducible refine Lf.v_div ?_ ?_); first | exact ⟨by decide, by decide +kernel⟩ | assumption | exact Lf.log2d (by omega) ⟨by omega, by omega⟩ | fail) | ((with_reducible refine Lf.v_mul ?_ ?_); first | exact Lf.log2m ⟨by omega, by omega⟩ ⟨by omega, by omega⟩ | exact Lf.log2m (by assumption) ⟨by omega, by omega⟩ | exact Lf.log2m ⟨by omega, by omega⟩ (by assumption) | fail) | ((with_reducible refine Lf.v_pow ?_ ?_); exact ⟨by decide, by decide, by decide⟩) | ((with_reducible refine Lf.v_rg1 ?_ ?_); first | decide | fail) | ((with_reducible apply Lf.v_ixL); (first | exact rfl | assumption | fail); (first | exact rfl | assumption | fail)) | ((with_reducible apply Lf.v_ixT); (first | exact rfl | assumption | fail)) | ((with_reducible apply Lf.v_ixN); (first | exact rfl | assumption | fail)) | with_reducible refine ⟨_, rfl, ?_⟩ | (refine ⟨_, (rfl : Lf.tru _ (Lf.U.bl _) = some _), ?_⟩) | with_reducible refine ⟨_, _, rfl, ?_⟩ | with_reducible refine ⟨_, _, _, rfl, ?_⟩ | (refine ⟨(Nat.le_of_ble_eq_true rfl : List.length _ ≤ 16777216), ?_⟩) | with_reducible refine Lf.v_enum ?_ | fail))
def scA (tm : List U → M U) : FxS := fRet (fCall (kdG .pur 2 tm) (fCons (fVar 0) (fCons (fTup (fNil)) (fNil))))
end Lf
set_option Elab.async false
set_option linter.all false
set_option maxRecDepth 100000
set_option maxHeartbeats 4000000
namespace Lf
open PySem PySem.Spec L2
end Lf
set_option Elab.async false
set_option linter.all false
set_option maxRecDepth 100000
set_option maxHeartbeats 4000000
namespace Lf
open PySem PySem.Spec L2
section
open PyProof.Rows HT
variable {prog : Program} {w : World} {A : Around} {E : Value → Shared → Prop} {s : Shared}
theorem adjust_rev (n : Nat) : Builtin.Slice.sliceAdjust none none (-1) (n : Int) = ((n : Int) - 1, -1) := by
  unfold Builtin.Slice.sliceAdjust
  simp
theorem places_rev (n : Nat) : Builtin.Slice.slicePlaces ((n : Int) - 1) (-1) (-1) = n := by
  unfold Builtin.Slice.slicePlaces
  simp
  omega
theorem sliceApplied_rev {sl : Addr} {vk : Value} {n : Nat} {Q : Int × Int × Nat → Shared → Prop} (hs : s.heap.IsSliceOf sl .none .none vk) (pk : IsPart vk (some (-1)))
    (h : Q ((n : Int) - 1, -1, n) s) : wpAny (model prog w) A (Builtin.Slice.sliceApplied (.ref sl) (pure (n : Int))) Q E s := by
  obtain ⟨os, hos, hcs, hds⟩ := id hs
  unfold Builtin.Slice.sliceApplied Builtin.Slice.sliceFields
  refine wpAny_bind (wpAny_bind (wpAny_field hos hds (x := .none) rfl (wpAny_bind (wpAny_field hos hds (x := .none) rfl (wpAny_bind (wpAny_field hos hds (x := vk) rfl (wpAny_pure ?_)))))))
  refine wpAny_bind (slicePart_ pk ?_)
  show wpAny _ _ (if ((-1 : Int) == 0) = true then _ else _) _ _ s
  rw [if_neg (by decide)]
  refine wpAny_bind (slicePart_none (wpAny_bind (slicePart_none (wpAny_bind (wpAny_pure ?_)))))
  show wpAny _ _ (match Builtin.Slice.sliceAdjust none none (-1) (n : Int) with | (lo, hi) => pure (lo, (-1 : Int), Builtin.Slice.slicePlaces lo hi (-1))) _ _ s
  rw [adjust_rev n]
  show wpAny _ _ (pure ((n : Int) - 1, (-1 : Int), Builtin.Slice.slicePlaces ((n : Int) - 1) (-1) (-1))) _ _ s
  rw [places_rev]
  exact wpAny_pure h
theorem pick_rev (xs : Array Value) : ((List.range xs.size).filterMap fun (m : Nat) => xs[(((xs.size : Int) - 1) + (m : Int) * (-1)).toNat]?).toArray = xs.toList.reverse.toArray := by
  congr 1
  apply List.ext_getElem?
  intro i
  have key : ∀ k, k ≤ xs.size → (List.range k).filterMap (fun (m : Nat) => xs[(((xs.size : Int) - 1) + (m : Int) * (-1)).toNat]?) = (List.range k).map (fun m => xs.toList.reverse.getD m .none) := by
    intro k hk
    induction k with
    | zero => rfl
    | succ k ih =>
      rw [List.range_succ, List.filterMap_append, List.map_append, ih (by omega)]
      congr 1
      have e : (((xs.size : Int) - 1) + (k : Int) * (-1)).toNat = xs.size - 1 - k := by omega
      have hl : xs.size - 1 - k < xs.size := by omega
      rw [List.filterMap_cons, e, Array.getElem?_eq_getElem hl]
      simp
      rw [List.getElem?_reverse (by simpa using (by omega : k < xs.size))]
      simp
      rw [Array.getElem?_eq_getElem (by omega)]
      rfl
  rw [key _ (Nat.le_refl _)]
  by_cases h : i < xs.size
  · rw [List.getElem?_map, List.getElem?_range h]
    simp
    rw [List.getElem?_reverse (by simpa using h)]
    simp
    rw [Array.getElem?_eq_getElem (by omega)]
    rfl
  · rw [List.getElem?_eq_none (by simp; omega), List.getElem?_eq_none (by simp; omega)]
theorem getItem_tuple_rev {t sl : Addr} {items : Array Value} {vk : Value} {Q : Value → Shared → Prop} (ht : IsTup s.heap t items) (hs : s.heap.IsSliceOf sl .none .none vk) (pk : IsPart vk (some (-1)))
    (h : Q (.ref s.heap.objs.size) { s with heap := s.heap.push { cls := .type "tuple", data := .seq items.toList.reverse.toArray } })
    (hsz : items.size ≤ sizeLine) : wpAny (model prog w) A (getItem (.ref t) (.ref sl)) Q E s := by
  have htake : sizeOk (.seq items.toList.reverse.toArray) := by
    show items.toList.reverse.toArray.size ≤ sizeLine
    rw [List.size_toArray, List.length_reverse, Array.length_toList]
    exact hsz
  obtain ⟨os, hos, hcs, hds⟩ := id hs
  have hTs : s.TypeIs (.ref sl) "slice" := ⟨os, hos, hcs⟩
  unfold getItem
  try with_reducible refine wpAny_holding ?_
  first | refine wpAny_bind (wpAny_pure ?_) | skip
  refine wpAny_bind (wpAny_sequenceKey ht.typeIs (by decide) ?_)
  refine wpAny_bind (wpAny_callSpecial?_slot (name := Str.ofString "__getitem__") ht.typeIs PyProof.Rows.slot_tuple_getitem
    (wpAny_call_entry PyProof.Rows.slot_tuple_getitem ht.typeIs entry_tuple_getitem ?_ (args_tuple_getitem _ _)))
  show wpAny _ _ (Builtin.Tuple.tupleItemsOf (.ref t) >>= _) _ _ s
  refine wpAny_bind (tupleItemsOf_ ht ?_)
  refine wpAny_bind (wpAny_typeOf hTs ?_)
  rw [if_pos (by decide)]
  refine wpAny_bind (sliceApplied_rev hs pk ?_)
  have hno : ¬ ((((items.size : Int) - 1) == 0 && (-1 : Int) == 1 && items.size == items.size) = true) := by
    intro q
    rw [Bool.and_eq_true, Bool.and_eq_true] at q
    exact absurd (eq_of_beq q.1.2) (by decide)
  show wpAny _ _ (if (((items.size : Int) - 1) == 0 && (-1 : Int) == 1 && items.size == items.size) = true then _ else _) _ _ s
  rw [if_neg hno, pick_rev]
  first
    | exact wpAny_bind (m := Builtin.Tuple.tupleExact _) (wpAny_newObj_type (wpAny_pure ⟨_, rfl, wpAny_pure h⟩) htake)
    | exact wpAny_bind (m := Builtin.Tuple.tupleExact _) (wpAny_newObj_type (wpAny_bind (wpAny_pure (wpAny_pure ⟨_, rfl, wpAny_pure h⟩))) htake)
    | exact wpAny_bind (wpAny_bind (m := Builtin.Tuple.tupleExact _) (wpAny_newObj_type (wpAny_pure (wpAny_pure ⟨_, rfl, wpAny_pure h⟩)) htake))
    | exact wpAny_bind (wpAny_bind (m := Builtin.Tuple.tupleExact _) (wpAny_newObj_type (wpAny_pure ⟨_, rfl, wpAny_pure h⟩) htake))
end
section
variable {X : Cx} {E : XK}
def tRevA (K : PySem.W.Frag) (te : TE) : TE := fun σ H Q => te σ H fun x H1 => ∃ a xs, x = .ref a ∧ ((SqL K H1 a xs ∧ ∀ p, H1 p = none → Q (.ref p) (upd H1 p (.lst xs.reverse))) ∨ (SqT K H1 a xs ∧ ∀ p, H1 p = none → Q (.ref p) (upd H1 p (.tup xs.reverse))))
open PyProof.Rows in
theorem pe_revA {e : Expr} {te : TE} {k : Nat} {p1 p2 p3 pos : Pos} (he : PE X e te) : PE X (.Subscript e (.Slice none none (some (.UnaryOp .USub (.Constant (.int 1) k p1) p2)) p3) pos) (tRevA X.K te) := by
  refine ⟨fun pins s σ H Q I h => ?_⟩
  refine Subscript_ (thn (he.run pins s σ H _ I h) fun v s1 ⟨x, H1, I1, r1, q1⟩ => ?_)
  obtain ⟨a, xs, ex, hx⟩ := q1
  subst ex
  cases r1
  have hst : PO X (some (.UnaryOp .USub (.Constant (.int 1) k p1) p2)) (tPart (tUn (rU fun i => .int (-i)) (tC (.int 1)))) := po_some (pe_un un_neg pe_int)
  refine wpAny_Slice (thn (po_none.run pins s1 σ H1 (fun o H2 => o = none ∧ H2 = H1) I1 ⟨rfl, rfl⟩) fun vl s2 ⟨l, H2, I2, pl, el, e2⟩ => ?_)
  subst el e2
  refine thn (po_none.run pins s2 σ H2 (fun o H3 => o = none ∧ H3 = H2) I2 ⟨rfl, rfl⟩) fun vu s3 ⟨u, H3, I3, pu, eu, e3⟩ => ?_
  subst eu e3
  refine thn (hst.run pins s3 σ H3 (fun o H4 => o = some (-1) ∧ H4 = H3) I3 ⟨1, rfl, -1, rfl, rfl, rfl⟩) fun vs s4 ⟨o, H4, I4, ps, eo, e4⟩ => ?_
  subst eo e4
  have I5 : Inv X pins σ H4 { s4 with heap := s4.heap.push { cls := .type "slice", data := .fields #[vl, vu, vs] } } := I4.kept (t' := s4.toks) fun b ob q => Heap.get?_push_of_some _ q
  show wpAny (model X.prog X.w) X.A (subscriptTail e (.Slice none none (some (.UnaryOp .USub (.Constant (.int 1) k p1) p2)) p3) (.ref a) (.ref s4.heap.objs.size)) (EP X pins σ Q) X.xe { s4 with heap := s4.heap.push { cls := .type "slice", data := .fields #[vl, vu, vs] } }
  rcases hx with ⟨hx, q⟩ | ⟨hx, q⟩
  · obtain ⟨its, r, ht, hz⟩ := I5.list hx
    have hlen := r.length
    refine tail_any (ops := [.ref a, .ref s4.heap.objs.size]) ht.isList.typeIs (PySem.slot_list_getitem.lookup) ?_ (by with_unfolding_all rfl)
    refine wpAny_getItem_list_slice ht.isList (Heap.IsSliceOf.new _ vl vu vs) pl pu ps (by decide) ?_ (by rw [List.size_toArray]; omega)
    rw [PySem.W.krv_pick]
    refine ⟨.ref _, _, I5.laid (t' := s4.toks) (o := .lst xs.reverse) (fun b ob q => Heap.get?_push_of_some _ q) (Nat.le_refl _) ?_, rfl, q _ (I5.hok.fresh (Nat.le_refl _))⟩
    exact ⟨by rw [List.length_reverse]; exact hz, _, 0, r.reverse, Heap.get?_push_size _ rfl⟩
  · obtain ⟨its, r, ht, hz⟩ := I5.tuple hx
    have hlen := r.length
    cases pl
    cases pu
    refine tail_any (ops := [.ref a, .ref s4.heap.objs.size]) ht.typeIs (PyProof.Rows.slot_tuple_getitem.lookup) ?_ (by with_unfolding_all rfl)
    refine getItem_tuple_rev ht (Heap.IsSliceOf.new _ .none .none vs) ps ?_ (by rw [List.size_toArray]; omega)
    refine ⟨.ref _, _, I5.laid (t' := s4.toks) (o := .tup xs.reverse) (fun b ob q => Heap.get?_push_of_some _ q) (Nat.le_refl _) ?_, rfl, q _ (I5.hok.fresh (Nat.le_refl _))⟩
    exact ⟨by rw [List.length_reverse]; exact hz, _, r.reverse, IsTup.new _ _⟩
def gRev : U → M U := fun u T => match u with
  | .tup xs => .ok (.tup xs.reverse) T
  | .ob k => match T[k]? with
    | some (.lst xs) => nw (.lst xs.reverse) T
    | _ => .no
  | _ => .no
theorem fe_rev {e : Expr} {Fe : FxE} {k : Nat} {p1 p2 p3 pos : Pos} (he : FE X E e Fe) : FE X E (.Subscript e (.Slice none none (some (.UnaryOp .USub (.Constant (.int 1) k p1) p2)) p3) pos) (fUn gRev Fe) := by
  obtain ⟨t, ke, q⟩ := he
  refine ⟨_, pe_revA ke, fun σ H ρ T η Q s re h => ?_⟩
  refine q σ H ρ T η _ s re (OK.mono (OK.bind h) fun x H1 ⟨ρ1, T1, u, g1, s1, r1, k1⟩ => ?_)
  unfold gRev at k1
  split at k1
  · cases r1 with
    | tup sq rs => exact ⟨_, _, rfl, .inr ⟨sq, fun p n => okTup s1 k1 rs.reverse n⟩⟩
  · rename_i j
    split at k1
    · rename_i xs ey
      cases r1 with
      | ob ea =>
        obtain ⟨b, p, vs, f1, rs⟩ := s1.get ey
        rw [ea] at p
        cases p
        exact ⟨_, vs, rfl, .inl ⟨SqL.of f1, fun p n => okNew s1 k1 rs.reverse n⟩⟩
    · exact False.elim k1
  · exact False.elim k1
end
theorem v_revT {xs : List U} {T : Sto} {Q : U → Sto → Prop} (q : Q (.tup xs.reverse) T) : Wp (gRev (.tup xs) T) Q := .ok q
end Lf
set_option Elab.async false
set_option linter.all false
set_option maxRecDepth 100000
set_option maxHeartbeats 4000000
namespace Lf
open PySem PySem.Spec L2
/-- the steps of a program one by one -/
def flt : Nat → List U → List U
  | 0, xs => xs
  | d + 1, xs => xs.flatMap fun x => match lpOf x with
    | some (k, b) => (List.replicate k.toNat (flt d b)).flatten
    | none => [x]
theorem flt_cons (d : Nat) (x : U) (xs : List U) : flt d (x :: xs) = flt d [x] ++ flt d xs := by
  cases d with
  | zero => rfl
  | succ d =>
    show List.flatMap _ _ = List.flatMap _ _ ++ List.flatMap _ _
    simp
theorem flt_op {d : Nat} {x : U} (h : Op x) : flt d [x] = [x] := by
  cases d with
  | zero => rfl
  | succ d =>
    show List.flatMap (fun x => match lpOf x with
      | some (k, b) => (List.replicate k.toNat (flt d b)).flatten
      | none => [x]) [x] = [x]
    simp [h.no]
theorem flt_lp {d : Nat} {k : Int} {b : List U} : flt (d + 1) [lpU k b] = (List.replicate k.toNat (flt d b)).flatten := by
  show List.flatMap _ [lpU k b] = _
  simp [lpOf_lpU]
theorem rep_len {α : Type} (k : Nat) (l : List α) : ((List.replicate k l).flatten.length : Int) = k * l.length := by
  induction k with
  | zero => simp
  | succ k ih => rw [List.replicate_succ, List.flatten_cons, List.length_append, Int.natCast_add, ih]; push_cast; rw [Int.add_mul]; omega
/-- as many as the steps -/
theorem flt_len {R : Int → Prop} (hR : ∀ k, R k → 0 ≤ k) {L : Nat} : ∀ {d : Nat} {xs : List U}, Pn Op R L d xs → ((flt d xs).length : Int) = stp d xs := by
  intro d
  induction d with
  | zero =>
    intro xs h
    have : ∀ xs : List U, (∀ x ∈ xs, Op x) → ((xs.length : Nat) : Int) = cnt (wt []) 0 xs := by
      intro xs
      induction xs with
      | nil => intro _; rfl
      | cons x xs ih =>
        intro h
        rw [cnt_cons, cn1_op (h x (List.mem_cons_self ..)), wt_op (h x (List.mem_cons_self ..)), ← ih fun y hy => h y (List.mem_cons_of_mem _ hy), List.length_cons]
        omega
    exact this xs h.2
  | succ d ih =>
    intro xs h
    have : ∀ xs : List U, (∀ x ∈ xs, Op x ∨ ∃ k b, x = lpU k b ∧ R k ∧ Pn Op R L d b) → ((flt (d + 1) xs).length : Int) = cnt (wt []) (d + 1) xs := by
      intro xs
      induction xs with
      | nil => intro _; rfl
      | cons x xs ihx =>
        intro h
        rw [flt_cons, cnt_cons, List.length_append, Int.natCast_add, ihx fun y hy => h y (List.mem_cons_of_mem _ hy)]
        rcases h x (List.mem_cons_self ..) with ho | ⟨k, b, rfl, hk, hb⟩
        · rw [flt_op ho, cn1_op ho, wt_op ho]; simp
        · rw [flt_lp, cn1_lp, rep_len, ih hb, Int.toNat_of_nonneg (hR k hk)]
    exact this xs h.2
/-- at most N steps in it and in each of its bodies -/
def Ps (N : Int) : Nat → List U → Prop
  | 0, xs => (xs.length : Int) ≤ N ∧ ∀ x ∈ xs, Op x
  | d + 1, xs => stp (d + 1) xs ≤ N ∧ ∀ x ∈ xs, Op x ∨ ∃ k b, x = lpU k b ∧ 0 ≤ k ∧ k ≤ 1000000 ∧ Ps N d b
theorem Ps.item {N : Int} {d : Nat} {xs : List U} {x : U} (h : Ps N d xs) (hx : x ∈ xs) : Op x ∨ ∃ d' k b, d = d' + 1 ∧ x = lpU k b ∧ 0 ≤ k ∧ k ≤ 1000000 ∧ Ps N d' b := by
  cases d with
  | zero => exact .inl (h.2 x hx)
  | succ d =>
    rcases h.2 x hx with h | ⟨k, b, h1, h2, h3, h4⟩
    · exact .inl h
    · exact .inr ⟨d, k, b, rfl, h1, h2, h3, h4⟩
end Lf
set_option Elab.async false
set_option linter.all false
set_option maxRecDepth 100000
set_option maxHeartbeats 4000000
namespace Lf
open PySem PySem.Spec L2
local macro_rules | `(tactic| rfl') => `(tactic| repeat (first | with_reducible refine Lf.kS_nx ?_ | with_reducible refine Lf.kS_rt ?_ | with_reducible refine Lf.kS_bk ?_ | with_reducible refine Lf.kS_ct ?_ | with_reducible refine Lf.kD_rt ?_ | with_reducible refine Lf.kD_nx ?_ | with_reducible refine Lf.kF_nx ?_ | with_reducible refine Lf.kF_ct ?_ | with_reducible refine Lf.kF_bk ?_ | with_reducible refine Lf.kF_rt ?_ | with_reducible refine Lf.v_ifT ?_ | with_reducible refine Lf.v_ifF ?_ | with_reducible refine Lf.v_ifNT ?_ | with_reducible refine Lf.v_ifNF ?_ | with_reducible refine Lf.kP_int ?_ | with_reducible refine Lf.kP_bl ?_ | with_reducible refine Lf.kP_str ?_ | with_reducible refine Lf.kP_non ?_ | with_reducible refine Lf.v_iadd ?_ | with_reducible refine Lf.Wp.ok ?_ | with_reducible refine Lf.seq_wp ?_ | with_reducible refine Lf.v_bin ?_ | with_reducible refine Lf.v_cons ?_ | with_reducible refine Lf.v_call ?_ | with_reducible refine Lf.v_ret ?_ | with_reducible refine Lf.v_set ?_ | with_reducible refine Lf.v_asg ?_ | with_reducible refine Lf.v_if ?_ | with_reducible refine Lf.v_ifE ?_ | with_reducible refine Lf.v_bl ?_ | with_reducible refine Lf.v_tru ?_ | with_reducible refine Lf.v_and ?_ | with_reducible refine Lf.v_or ?_ | with_reducible refine Lf.v_not ?_ | with_reducible refine Lf.v_andV ?_ | with_reducible refine Lf.v_orV ?_ | with_reducible refine Lf.v_notV ?_ | with_reducible refine Lf.v_c ?_ | with_reducible refine Lf.v_nil ?_ | with_reducible refine Lf.v_skip ?_ | with_reducible refine Lf.v_drop ?_ | with_reducible refine Lf.v_retN ?_ | with_reducible refine Lf.v_brk ?_ | with_reducible refine Lf.v_cnt ?_ | with_reducible refine Lf.v_nm ?_ | with_reducible refine Lf.v_gnil ?_ | with_reducible refine Lf.v_gcons ?_ | with_reducible refine Lf.v_yes ?_ | with_reducible refine Lf.v_for ?_ | with_reducible refine Lf.v_lc ?_ | with_reducible refine Lf.v_rg ?_ | with_reducible refine Lf.v_iter ?_ | with_reducible refine Lf.v_iterT ?_ | with_reducible refine Lf.v_add ?_ | with_reducible refine Lf.v_sub ?_ | with_reducible refine Lf.v_neg ?_ | with_reducible refine Lf.v_lt ?_ | with_reducible refine Lf.v_le ?_ | with_reducible refine Lf.v_gt ?_ | with_reducible refine Lf.v_ge ?_ | with_reducible refine Lf.v_eqI ?_ | with_reducible refine Lf.v_neI ?_ | with_reducible refine Lf.v_abs ?_ | with_reducible refine Lf.v_intI ?_ | with_reducible refine Lf.v_intB ?_ | with_reducible refine Lf.v_max2 ?_ | with_reducible refine Lf.v_min2 ?_ | with_reducible refine Lf.v_lenT ?_ | with_reducible refine Lf.v_lenN ?_ | with_reducible refine Lf.v_nw ?_ | with_reducible refine Lf.v_un ?_ | with_reducible refine Lf.v_tup ?_ | with_reducible refine Lf.v_lst ?_ | with_reducible refine Lf.v_par2 ?_ | with_reducible refine Lf.v_par3 ?_ | with_reducible refine Lf.v_chain ?_ | with_reducible refine Lf.v_meth ?_ | with_reducible refine Lf.v_subT ?_ | with_reducible refine Lf.v_isiIB ?_ | with_reducible refine Lf.v_isiII ?_ | with_reducible refine Lf.v_sl ?_ | with_reducible refine Lf.v_noP ?_ | with_reducible refine Lf.v_pt ?_ | with_reducible refine Lf.v_cutT ?_ | ((with_reducible apply Lf.v_var); exact rfl) | ((with_reducible refine Lf.v_kw ?_ ?_); exact rfl) | ((with_reducible apply Lf.v_iterO); first | exact rfl | assumption) | ((with_reducible apply Lf.v_lenL); first | exact rfl | assumption) | ((with_reducible refine Lf.v_unp ?_ ?_); exact rfl) | ((with_reducible apply Lf.v_aug); exact rfl) | ((with_reducible refine Lf.v_mod ?_ ?_); first | decide | omega | assumption | fail) | ((with_reducible refine Lf.v_div ?_ ?_); first | exact ⟨by decide, by decide +kernel⟩ | assumption | exact Lf.log2d (by omega) ⟨by omega, by omega⟩ | fail) | ((with_reducible refine Lf.v_mul ?_ ?_); first | exact Lf.log2m ⟨by omega, by omega⟩ ⟨by omega, by omega⟩ | exact Lf.log2m (by assumption) ⟨by omega, by omega⟩ | exact Lf.log2m ⟨by omega, by omega⟩ (by assumption) | fail) | ((with_reducible refine Lf.v_pow ?_ ?_); exact ⟨by decide, by decide, by decide⟩) | ((with_reducible refine Lf.v_rg1 ?_ ?_); first | decide | fail) | ((with_reducible apply Lf.v_ixL); (first | exact rfl | assumption | fail); (first | exact rfl | assumption | fail)) | ((with_reducible apply Lf.v_ixT); (first | exact rfl | assumption | fail)) | ((with_reducible apply Lf.v_ixN); (first | exact rfl | assumption | fail)) | with_reducible refine ⟨_, rfl, ?_⟩ | (refine ⟨_, (rfl : Lf.tru _ (Lf.U.bl _) = some _), ?_⟩) | with_reducible refine ⟨_, _, rfl, ?_⟩ | with_reducible refine ⟨_, _, _, rfl, ?_⟩ | (refine ⟨(Nat.le_of_ble_eq_true rfl : List.length _ ≤ 16777216), ?_⟩) | with_reducible refine Lf.v_enum ?_ | fail))
end Lf
set_option Elab.async false
set_option linter.all false
set_option maxRecDepth 100000
set_option maxHeartbeats 4000000
namespace Lf
open PySem PySem.Spec L2
local macro_rules | `(tactic| rfl') => `(tactic| repeat (first | with_reducible refine Lf.kS_nx ?_ | with_reducible refine Lf.kS_rt ?_ | with_reducible refine Lf.kS_bk ?_ | with_reducible refine Lf.kS_ct ?_ | with_reducible refine Lf.kD_rt ?_ | with_reducible refine Lf.kD_nx ?_ | with_reducible refine Lf.kF_nx ?_ | with_reducible refine Lf.kF_ct ?_ | with_reducible refine Lf.kF_bk ?_ | with_reducible refine Lf.kF_rt ?_ | with_reducible refine Lf.v_ifT ?_ | with_reducible refine Lf.v_ifF ?_ | with_reducible refine Lf.v_ifNT ?_ | with_reducible refine Lf.v_ifNF ?_ | with_reducible refine Lf.kP_int ?_ | with_reducible refine Lf.kP_bl ?_ | with_reducible refine Lf.kP_str ?_ | with_reducible refine Lf.kP_non ?_ | with_reducible refine Lf.v_iadd ?_ | with_reducible refine Lf.Wp.ok ?_ | with_reducible refine Lf.seq_wp ?_ | with_reducible refine Lf.v_bin ?_ | with_reducible refine Lf.v_cons ?_ | with_reducible refine Lf.v_call ?_ | with_reducible refine Lf.v_ret ?_ | with_reducible refine Lf.v_set ?_ | with_reducible refine Lf.v_asg ?_ | with_reducible refine Lf.v_if ?_ | with_reducible refine Lf.v_ifE ?_ | with_reducible refine Lf.v_bl ?_ | with_reducible refine Lf.v_tru ?_ | with_reducible refine Lf.v_and ?_ | with_reducible refine Lf.v_or ?_ | with_reducible refine Lf.v_not ?_ | with_reducible refine Lf.v_andV ?_ | with_reducible refine Lf.v_orV ?_ | with_reducible refine Lf.v_notV ?_ | with_reducible refine Lf.v_c ?_ | with_reducible refine Lf.v_nil ?_ | with_reducible refine Lf.v_skip ?_ | with_reducible refine Lf.v_drop ?_ | with_reducible refine Lf.v_retN ?_ | with_reducible refine Lf.v_brk ?_ | with_reducible refine Lf.v_cnt ?_ | with_reducible refine Lf.v_nm ?_ | with_reducible refine Lf.v_gnil ?_ | with_reducible refine Lf.v_gcons ?_ | with_reducible refine Lf.v_yes ?_ | with_reducible refine Lf.v_for ?_ | with_reducible refine Lf.v_lc ?_ | with_reducible refine Lf.v_rg ?_ | with_reducible refine Lf.v_iter ?_ | with_reducible refine Lf.v_iterT ?_ | with_reducible refine Lf.v_add ?_ | with_reducible refine Lf.v_sub ?_ | with_reducible refine Lf.v_neg ?_ | with_reducible refine Lf.v_lt ?_ | with_reducible refine Lf.v_le ?_ | with_reducible refine Lf.v_gt ?_ | with_reducible refine Lf.v_ge ?_ | with_reducible refine Lf.v_eqI ?_ | with_reducible refine Lf.v_neI ?_ | with_reducible refine Lf.v_abs ?_ | with_reducible refine Lf.v_intI ?_ | with_reducible refine Lf.v_intB ?_ | with_reducible refine Lf.v_max2 ?_ | with_reducible refine Lf.v_min2 ?_ | with_reducible refine Lf.v_lenT ?_ | with_reducible refine Lf.v_lenN ?_ | with_reducible refine Lf.v_nw ?_ | with_reducible refine Lf.v_un ?_ | with_reducible refine Lf.v_tup ?_ | with_reducible refine Lf.v_lst ?_ | with_reducible refine Lf.v_par2 ?_ | with_reducible refine Lf.v_par3 ?_ | with_reducible refine Lf.v_chain ?_ | with_reducible refine Lf.v_meth ?_ | with_reducible refine Lf.v_subT ?_ | with_reducible refine Lf.v_isiIB ?_ | with_reducible refine Lf.v_isiII ?_ | with_reducible refine Lf.v_sl ?_ | with_reducible refine Lf.v_noP ?_ | with_reducible refine Lf.v_pt ?_ | with_reducible refine Lf.v_cutT ?_ | ((with_reducible apply Lf.v_var); exact rfl) | ((with_reducible refine Lf.v_kw ?_ ?_); exact rfl) | ((with_reducible apply Lf.v_iterO); first | exact rfl | assumption) | ((with_reducible apply Lf.v_lenL); first | exact rfl | assumption) | ((with_reducible refine Lf.v_unp ?_ ?_); exact rfl) | ((with_reducible apply Lf.v_aug); exact rfl) | ((with_reducible refine Lf.v_mod ?_ ?_); first | decide | omega | assumption | fail) | ((with_reducible refine Lf.v_div ?_ ?_); first | exact ⟨by decide, by decide +kernel⟩ | assumption | exact Lf.log2d (by omega) ⟨by omega, by omega⟩ | fail) | ((with_reducible refine Lf.v_mul ?_ ?_); first | exact Lf.log2m ⟨by omega, by omega⟩ ⟨by omega, by omega⟩ | exact Lf.log2m (by assumption) ⟨by omega, by omega⟩ | exact Lf.log2m ⟨by omega, by omega⟩ (by assumption) | fail) | ((with_reducible refine Lf.v_pow ?_ ?_); exact ⟨by decide, by decide, by decide⟩) | ((with_reducible refine Lf.v_rg1 ?_ ?_); first | decide | fail) | ((with_reducible apply Lf.v_ixL); (first | exact rfl | assumption | fail); (first | exact rfl | assumption | fail)) | ((with_reducible apply Lf.v_ixT); (first | exact rfl | assumption | fail)) | ((with_reducible apply Lf.v_ixN); (first | exact rfl | assumption | fail)) | with_reducible refine ⟨_, rfl, ?_⟩ | (refine ⟨_, (rfl : Lf.tru _ (Lf.U.bl _) = some _), ?_⟩) | with_reducible refine ⟨_, _, rfl, ?_⟩ | with_reducible refine ⟨_, _, _, rfl, ?_⟩ | (refine ⟨(Nat.le_of_ble_eq_true rfl : List.length _ ≤ 16777216), ?_⟩) | with_reducible refine Lf.v_enum ?_ | fail))
end Lf
set_option Elab.async false
set_option linter.all false
set_option maxRecDepth 100000
set_option maxHeartbeats 4000000
namespace Lf
open PySem PySem.Spec L2
def InP (p : Int) (rs : List Int) : Prop := ∀ r ∈ rs, 0 ≤ r ∧ r < p
theorem InP.get {p : Int} (hp : 2 ≤ p) {rs : List Int} (h : InP p rs) (i : Nat) : 0 ≤ rs.getD i 0 ∧ rs.getD i 0 < p := by
  by_cases hi : i < rs.length
  · have e : rs.getD i 0 = rs[i] := by simp [hi]
    rw [e]
    exact h _ (List.getElem_mem hi)
  · have e : rs.getD i 0 = 0 := by simp [Nat.le_of_not_lt hi]
    rw [e]
    omega
theorem InP.set {p : Int} {rs : List Int} (h : InP p rs) {i : Nat} {v : Int} (hv : 0 ≤ v ∧ v < p) : InP p (rs.set i v) := fun r hr => by
  rcases List.mem_or_eq_of_mem_set hr with hr | rfl
  · exact h r hr
  · exact hv
end Lf
set_option Elab.async false
set_option linter.all false
set_option maxRecDepth 100000
set_option maxHeartbeats 4000000
namespace Lf
open PySem PySem.Spec L2
local macro_rules | `(tactic| rfl') => `(tactic| repeat (first | with_reducible refine Lf.kS_nx ?_ | with_reducible refine Lf.kS_rt ?_ | with_reducible refine Lf.kS_bk ?_ | with_reducible refine Lf.kS_ct ?_ | with_reducible refine Lf.kD_rt ?_ | with_reducible refine Lf.kD_nx ?_ | with_reducible refine Lf.kF_nx ?_ | with_reducible refine Lf.kF_ct ?_ | with_reducible refine Lf.kF_bk ?_ | with_reducible refine Lf.kF_rt ?_ | with_reducible refine Lf.v_ifT ?_ | with_reducible refine Lf.v_ifF ?_ | with_reducible refine Lf.v_ifNT ?_ | with_reducible refine Lf.v_ifNF ?_ | with_reducible refine Lf.kP_int ?_ | with_reducible refine Lf.kP_bl ?_ | with_reducible refine Lf.kP_str ?_ | with_reducible refine Lf.kP_non ?_ | with_reducible refine Lf.v_iadd ?_ | with_reducible refine Lf.Wp.ok ?_ | with_reducible refine Lf.seq_wp ?_ | with_reducible refine Lf.v_bin ?_ | with_reducible refine Lf.v_cons ?_ | with_reducible refine Lf.v_call ?_ | with_reducible refine Lf.v_ret ?_ | with_reducible refine Lf.v_set ?_ | with_reducible refine Lf.v_asg ?_ | with_reducible refine Lf.v_if ?_ | with_reducible refine Lf.v_ifE ?_ | with_reducible refine Lf.v_bl ?_ | with_reducible refine Lf.v_tru ?_ | with_reducible refine Lf.v_and ?_ | with_reducible refine Lf.v_or ?_ | with_reducible refine Lf.v_not ?_ | with_reducible refine Lf.v_andV ?_ | with_reducible refine Lf.v_orV ?_ | with_reducible refine Lf.v_notV ?_ | with_reducible refine Lf.v_c ?_ | with_reducible refine Lf.v_nil ?_ | with_reducible refine Lf.v_skip ?_ | with_reducible refine Lf.v_drop ?_ | with_reducible refine Lf.v_retN ?_ | with_reducible refine Lf.v_brk ?_ | with_reducible refine Lf.v_cnt ?_ | with_reducible refine Lf.v_nm ?_ | with_reducible refine Lf.v_gnil ?_ | with_reducible refine Lf.v_gcons ?_ | with_reducible refine Lf.v_yes ?_ | with_reducible refine Lf.v_for ?_ | with_reducible refine Lf.v_lc ?_ | with_reducible refine Lf.v_rg ?_ | with_reducible refine Lf.v_iter ?_ | with_reducible refine Lf.v_iterT ?_ | with_reducible refine Lf.v_add ?_ | with_reducible refine Lf.v_sub ?_ | with_reducible refine Lf.v_neg ?_ | with_reducible refine Lf.v_lt ?_ | with_reducible refine Lf.v_le ?_ | with_reducible refine Lf.v_gt ?_ | with_reducible refine Lf.v_ge ?_ | with_reducible refine Lf.v_eqI ?_ | with_reducible refine Lf.v_neI ?_ | with_reducible refine Lf.v_abs ?_ | with_reducible refine Lf.v_intI ?_ | with_reducible refine Lf.v_intB ?_ | with_reducible refine Lf.v_max2 ?_ | with_reducible refine Lf.v_min2 ?_ | with_reducible refine Lf.v_lenT ?_ | with_reducible refine Lf.v_lenN ?_ | with_reducible refine Lf.v_nw ?_ | with_reducible refine Lf.v_un ?_ | with_reducible refine Lf.v_tup ?_ | with_reducible refine Lf.v_lst ?_ | with_reducible refine Lf.v_par2 ?_ | with_reducible refine Lf.v_par3 ?_ | with_reducible refine Lf.v_chain ?_ | with_reducible refine Lf.v_meth ?_ | with_reducible refine Lf.v_subT ?_ | with_reducible refine Lf.v_isiIB ?_ | with_reducible refine Lf.v_isiII ?_ | with_reducible refine Lf.v_sl ?_ | with_reducible refine Lf.v_noP ?_ | with_reducible refine Lf.v_pt ?_ | with_reducible refine Lf.v_cutT ?_ | ((with_reducible apply Lf.v_var); exact rfl) | ((with_reducible refine Lf.v_kw ?_ ?_); exact rfl) | ((with_reducible apply Lf.v_iterO); first | exact rfl | assumption) | ((with_reducible apply Lf.v_lenL); first | exact rfl | assumption) | ((with_reducible refine Lf.v_unp ?_ ?_); exact rfl) | ((with_reducible apply Lf.v_aug); exact rfl) | ((with_reducible refine Lf.v_mod ?_ ?_); first | decide | omega | assumption | fail) | ((with_reducible refine Lf.v_div ?_ ?_); first | exact ⟨by decide, by decide +kernel⟩ | assumption | exact Lf.log2d (by omega) ⟨by omega, by omega⟩ | fail) | ((with_reducible refine Lf.v_mul ?_ ?_); first | exact Lf.log2m ⟨by omega, by omega⟩ ⟨by omega, by omega⟩ | exact Lf.log2m (by assumption) ⟨by omega, by omega⟩ | exact Lf.log2m ⟨by omega, by omega⟩ (by assumption) | fail) | ((with_reducible refine Lf.v_pow ?_ ?_); exact ⟨by decide, by decide, by decide⟩) | ((with_reducible refine Lf.v_rg1 ?_ ?_); first | decide | fail) | ((with_reducible apply Lf.v_ixL); (first | exact rfl | assumption | fail); (first | exact rfl | assumption | fail)) | ((with_reducible apply Lf.v_ixT); (first | exact rfl | assumption | fail)) | ((with_reducible apply Lf.v_ixN); (first | exact rfl | assumption | fail)) | with_reducible refine ⟨_, rfl, ?_⟩ | (refine ⟨_, (rfl : Lf.tru _ (Lf.U.bl _) = some _), ?_⟩) | with_reducible refine ⟨_, _, rfl, ?_⟩ | with_reducible refine ⟨_, _, _, rfl, ?_⟩ | (refine ⟨(Nat.le_of_ble_eq_true rfl : List.length _ ≤ 16777216), ?_⟩) | with_reducible refine Lf.v_enum ?_ | fail))
end Lf
set_option Elab.async false
set_option linter.all false
set_option maxRecDepth 100000
set_option maxHeartbeats 4000000
namespace Lf
open PySem PySem.Spec L2
section
variable {T : Sto} {Q : U → Sto → Prop}
theorem v_eqS0 {x y : Str} (q : Q (.bl (decide (x = y))) T) : Wp (gEq false (.str x) (.str y) T) Q := .ok q
theorem isl_at {k : Nat} {xs : List U} (h : T[k]? = some (.lst xs)) : isL T (.ob k) = true := by unfold isL; simp only [h]
theorem isl_and {k : Nat} {xs : List U} {P : Prop} (h : T[k]? = some (.lst xs)) (q : P) : isL T (.ob k) = true ∧ P := ⟨isl_at h, q⟩
theorem v_appZ {k : Nat} {xs : List U} {u : U} (e : T[k]? = some (.lst xs)) (hl : xs.length < 16777216) (q : Q .non (T.set k (.lst (xs ++ [u])))) : Wp (gAppend (.ob k) [u] T) Q := v_app e ⟨hl, q⟩
theorem v_tupleL {k : Nat} {xs : List U} (e : T[k]? = some (.lst xs)) (q : Q (.tup xs) T) : Wp (gTuple [.ob k] T) Q := v_tuple (by unfold seqU; simp only [e]) q
theorem v_tupleT {xs : List U} (q : Q (.tup xs) T) : Wp (gTuple [.tup xs] T) Q := .ok q
theorem v_listL {k : Nat} {xs : List U} (e : T[k]? = some (.lst xs)) (q : Q (.ob T.length) (T ++ [.lst xs])) : Wp (gList [.ob k] T) Q := v_list (by unfold seqU; simp only [e]) q
theorem v_listT {xs : List U} (q : Q (.ob T.length) (T ++ [.lst xs])) : Wp (gList [.tup xs] T) Q := .ok q
theorem dats_ints {f : U → Option PyData} (hf : ∀ i, f (.int i) = some (.int i)) : ∀ ns : List Int, dats f (ns.map .int) = some (ns.map .int)
  | [] => rfl
  | n :: ns => by
    rw [List.map_cons]
    unfold dats
    rw [hf, dats_ints hf ns]
    rfl
theorem dat_int {n : Nat} (i : Int) : dat T n (.int i) = some (.int i) := by cases n <;> rfl
theorem dat_str {n : Nat} (i : Str) : dat T n (.str i) = some (.str i) := by cases n <;> rfl
theorem dat_ints {n : Nat} (ns : List Int) : dat T (n + 1) (.tup (ns.map .int)) = some (.tuple (ns.map .int)) := by
  show (dats (dat T n) (ns.map .int)).map PyData.tuple = _
  rw [dats_ints (fun i => dat_int i)]
  rfl
theorem dat_tup {n : Nat} {xs : List U} {ds : List PyData} (h : dats (dat T n) xs = some ds) : dat T (n + 1) (.tup xs) = some (.tuple ds) := by
  show (dats (dat T n) xs).map PyData.tuple = _
  rw [h]; rfl
theorem dats_cons {f : U → Option PyData} {x : U} {xs : List U} {d : PyData} {ds : List PyData} (h : f x = some d) (h2 : dats f xs = some ds) : dats f (x :: xs) = some (d :: ds) := by
  unfold dats; rw [h, h2]
theorem depInts : ∀ ns : List Int, PyData.depthAll (ns.map .int) = 0
  | [] => rfl
  | n :: ns => by rw [List.map_cons]; simp [PyData.depthAll, PyData.depth, depInts ns]
theorem blsU_map : ∀ ns : List Bool, blsU (ns.map .bl) = some ns
  | [] => rfl
  | n :: ns => by
    show Option.map (fun x => n :: x) (blsU (ns.map .bl)) = some (n :: ns)
    rw [blsU_map ns]; rfl
theorem v_allM {k : Nat} {bs : List Bool} (e : T[k]? = some (.lst (bs.map .bl))) (q : Q (.bl (bs.all id)) T) : Wp (gAll [.ob k] T) Q := v_all e (blsU_map bs) q
end
local macro_rules | `(tactic| rfl') => `(tactic| repeat (first | with_reducible refine Lf.kS_nx ?_ | with_reducible refine Lf.kS_rt ?_ | with_reducible refine Lf.kS_bk ?_ | with_reducible refine Lf.kS_ct ?_ | with_reducible refine Lf.kD_rt ?_ | with_reducible refine Lf.kD_nx ?_ | with_reducible refine Lf.kF_nx ?_ | with_reducible refine Lf.kF_ct ?_ | with_reducible refine Lf.kF_bk ?_ | with_reducible refine Lf.kF_rt ?_ | with_reducible refine Lf.v_ifT ?_ | with_reducible refine Lf.v_ifF ?_ | with_reducible refine Lf.v_ifNT ?_ | with_reducible refine Lf.v_ifNF ?_ | with_reducible refine Lf.kP_int ?_ | with_reducible refine Lf.kP_bl ?_ | with_reducible refine Lf.kP_str ?_ | with_reducible refine Lf.kP_non ?_ | with_reducible refine Lf.v_iadd ?_ | with_reducible refine Lf.Wp.ok ?_ | with_reducible refine Lf.seq_wp ?_ | with_reducible refine Lf.v_bin ?_ | with_reducible refine Lf.v_cons ?_ | with_reducible refine Lf.v_call ?_ | with_reducible refine Lf.v_ret ?_ | with_reducible refine Lf.v_set ?_ | with_reducible refine Lf.v_asg ?_ | with_reducible refine Lf.v_if ?_ | with_reducible refine Lf.v_ifE ?_ | with_reducible refine Lf.v_bl ?_ | with_reducible refine Lf.v_tru ?_ | with_reducible refine Lf.v_and ?_ | with_reducible refine Lf.v_or ?_ | with_reducible refine Lf.v_not ?_ | with_reducible refine Lf.v_andV ?_ | with_reducible refine Lf.v_orV ?_ | with_reducible refine Lf.v_notV ?_ | with_reducible refine Lf.v_c ?_ | with_reducible refine Lf.v_nil ?_ | with_reducible refine Lf.v_skip ?_ | with_reducible refine Lf.v_drop ?_ | with_reducible refine Lf.v_retN ?_ | with_reducible refine Lf.v_brk ?_ | with_reducible refine Lf.v_cnt ?_ | with_reducible refine Lf.v_nm ?_ | with_reducible refine Lf.v_gnil ?_ | with_reducible refine Lf.v_gcons ?_ | with_reducible refine Lf.v_yes ?_ | with_reducible refine Lf.v_for ?_ | with_reducible refine Lf.v_lc ?_ | with_reducible refine Lf.v_rg ?_ | with_reducible refine Lf.v_iter ?_ | with_reducible refine Lf.v_iterT ?_ | with_reducible refine Lf.v_add ?_ | with_reducible refine Lf.v_sub ?_ | with_reducible refine Lf.v_neg ?_ | with_reducible refine Lf.v_lt ?_ | with_reducible refine Lf.v_le ?_ | with_reducible refine Lf.v_gt ?_ | with_reducible refine Lf.v_ge ?_ | with_reducible refine Lf.v_eqI ?_ | with_reducible refine Lf.v_neI ?_ | with_reducible refine Lf.v_abs ?_ | with_reducible refine Lf.v_intI ?_ | with_reducible refine Lf.v_intB ?_ | with_reducible refine Lf.v_max2 ?_ | with_reducible refine Lf.v_min2 ?_ | with_reducible refine Lf.v_lenT ?_ | with_reducible refine Lf.v_lenN ?_ | with_reducible refine Lf.v_nw ?_ | with_reducible refine Lf.v_un ?_ | with_reducible refine Lf.v_tup ?_ | with_reducible refine Lf.v_lst ?_ | with_reducible refine Lf.v_par2 ?_ | with_reducible refine Lf.v_par3 ?_ | with_reducible refine Lf.v_chain ?_ | with_reducible refine Lf.v_meth ?_ | with_reducible refine Lf.v_subT ?_ | with_reducible refine Lf.v_isiIB ?_ | with_reducible refine Lf.v_isiII ?_ | with_reducible refine Lf.v_sl ?_ | with_reducible refine Lf.v_noP ?_ | with_reducible refine Lf.v_pt ?_ | with_reducible refine Lf.v_cutT ?_ | ((with_reducible apply Lf.v_var); exact rfl) | ((with_reducible refine Lf.v_kw ?_ ?_); exact rfl) | ((with_reducible apply Lf.v_iterO); first | exact rfl | assumption) | ((with_reducible apply Lf.v_lenL); first | exact rfl | assumption) | ((with_reducible refine Lf.v_unp ?_ ?_); exact rfl) | ((with_reducible apply Lf.v_aug); exact rfl) | ((with_reducible refine Lf.v_mod ?_ ?_); first | decide | omega | assumption | fail) | ((with_reducible refine Lf.v_div ?_ ?_); first | exact ⟨by decide, by decide +kernel⟩ | assumption | exact Lf.log2d (by omega) ⟨by omega, by omega⟩ | fail) | ((with_reducible refine Lf.v_mul ?_ ?_); first | exact Lf.log2m ⟨by omega, by omega⟩ ⟨by omega, by omega⟩ | exact Lf.log2m (by assumption) ⟨by omega, by omega⟩ | exact Lf.log2m ⟨by omega, by omega⟩ (by assumption) | fail) | ((with_reducible refine Lf.v_pow ?_ ?_); exact ⟨by decide, by decide, by decide⟩) | ((with_reducible refine Lf.v_rg1 ?_ ?_); first | decide | fail) | ((with_reducible apply Lf.v_ixL); (first | exact rfl | assumption | fail); (first | exact rfl | assumption | fail)) | ((with_reducible apply Lf.v_ixT); (first | exact rfl | assumption | fail)) | ((with_reducible apply Lf.v_ixN); (first | exact rfl | assumption | fail)) | with_reducible refine ⟨_, rfl, ?_⟩ | (refine ⟨_, (rfl : Lf.tru _ (Lf.U.bl _) = some _), ?_⟩) | with_reducible refine ⟨_, _, rfl, ?_⟩ | with_reducible refine ⟨_, _, _, rfl, ?_⟩ | (refine ⟨(Nat.le_of_ble_eq_true rfl : List.length _ ≤ 16777216), ?_⟩) | with_reducible refine Lf.v_enum ?_ | fail))
end Lf
set_option Elab.async false
set_option linter.all false
set_option maxRecDepth 100000
set_option maxHeartbeats 4000000
namespace Lf
open PySem PySem.Spec L2
theorem Pn.map {A A' : U → Prop} {R R' : Int → Prop} {L L' : Nat} (hA : ∀ x, A x → A' x) (hR : ∀ k, R k → R' k) (hL : L ≤ L') : ∀ {d : Nat} {xs : List U}, Pn A R L d xs → Pn A' R' L' d xs
  | 0, xs, h => ⟨Nat.le_trans h.1 hL, fun x hx => hA x (h.2 x hx)⟩
  | d + 1, xs, h => ⟨Nat.le_trans h.1 hL, fun x hx => by
      rcases h.2 x hx with h | ⟨k, b, e, hr, hb⟩
      · exact .inl (hA x h)
      · exact .inr ⟨k, b, e, hR k hr, Pn.map hA hR hL hb⟩⟩
/-- an item of a drawn program -/
def PrI (A : U → Prop) (R : Int → Prop) (d : Nat) (l : Int) (x : U) : Prop := A x ∨ ∃ d' k b, d = d' + 1 ∧ x = lpU k b ∧ R k ∧ Pr A R d' (l / 2) b
theorem Pr.item {A : U → Prop} {R : Int → Prop} {d : Nat} {l : Int} {xs : List U} {x : U} (h : Pr A R d l xs) (hx : x ∈ xs) : PrI A R d l x := by
  cases d with
  | zero => exact .inl (h.2 x hx)
  | succ d =>
    rcases h.2 x hx with h | ⟨k, b, h1, h2, h3⟩
    · exact .inl h
    · exact .inr ⟨d, k, b, rfl, h1, h2, h3⟩
theorem Pr.mk {A : U → Prop} {R : Int → Prop} {d : Nat} {l : Int} {xs : List U} (hl : (xs.length : Int) ≤ l) (h : ∀ x ∈ xs, PrI A R d l x) : Pr A R d l xs := by
  cases d with
  | zero => exact ⟨hl, fun x hx => by
      rcases h x hx with h | ⟨d', k, b, e, _⟩
      · exact h
      · cases e⟩
  | succ d => exact ⟨hl, fun x hx => by
      rcases h x hx with h | ⟨d', k, b, e, h1, h2, h3⟩
      · exact .inl h
      · cases e
        exact .inr ⟨k, b, h1, h2, h3⟩⟩
theorem Ps.app {N : Int} {d : Nat} {xs ys : List U} (h1 : Ps N (d + 1) xs) (h2 : Ps N (d + 1) ys) (h : stp (d + 1) xs + stp (d + 1) ys ≤ N) : Ps N (d + 1) (xs ++ ys) := by
  refine ⟨?_, fun x hx => ?_⟩
  · show cnt _ _ _ ≤ _
    rw [cnt_app]
    exact h
  · rcases List.mem_append.mp hx with hx | hx
    · exact h1.2 x hx
    · exact h2.2 x hx
end Lf
set_option Elab.async false
set_option linter.all false
set_option maxRecDepth 100000
set_option maxHeartbeats 4000000
namespace Lf
open PySem PySem.Spec L2
def gDivmod : List U → M U := fun us T => match us with
  | [.int i, .int j] => if 0 < j ∧ j.natAbs.log2 < 9000 then .ok (.tup [.int (i / j), .int (i % j)]) T else .no
  | _ => .no
section
variable {X : Cx} {E : XK}
def enumO (k n : Nat) : ItF := ⟨(List.range n).map fun i T => (lstAt T k n).bind fun xs => (xs[i]?).map fun u => .tup [.int (i : Nat), u], fun T => (lstAt T k n).isSome⟩
def gEnum : List U → M ItF := fun us T => match us with
  | [.ob k] => match T[k]? with
    | some (.lst xs) => .ok (enumO k xs.length) T
    | _ => .no
  | _ => .no
def fEnumerate (Fr : FxA) : FxI := fun η T => (Fr η T).bind fun us T1 => gEnum us T1
theorem range_at {n i j : Nat} (h : (List.range n)[i]? = some j) : j = i := by
  have := (List.getElem?_eq_some_iff.mp h).2
  simpa using this.symm
end
section
variable {T : Sto} {Q : U → Sto → Prop} {η : Lo} {Fr : FxA} {QI : ItF → Sto → Prop}
theorem v_enum (q : Wp (Fr η T) fun us T1 => Wp (gEnum us T1) QI) : Wp (fEnumerate Fr η T) QI := .bind q
end
end Lf
set_option Elab.async false
set_option linter.all false
set_option maxRecDepth 100000
set_option maxHeartbeats 4000000
namespace Lf
open PySem PySem.Spec L2
def asA : FxS := fSeq (fIf (fBl (fBin (gEq false) (fBin gIx (fVar 0) (fC (.int 0))) (fC (.str "swap")))) (fRet (fBin (gIn false) (fVar 1) (fSl (fVar 0) (fPt (fC (.int 1))) fNoP))) (fSkip)) (fRet (fAndV (fBin (gEq true) (fBin gIx (fVar 0) (fC (.int 0))) (fC (.str "write"))) (fBin (gEq false) (fBin gIx (fVar 0) (fC (.int 1))) (fVar 1))))
local macro_rules | `(tactic| bv_omega) => `(tactic| repeat (first | with_reducible refine Lf.kS_nx ?_ | with_reducible refine Lf.kS_rt ?_ | with_reducible refine Lf.kS_bk ?_ | with_reducible refine Lf.kS_ct ?_ | with_reducible refine Lf.kD_rt ?_ | with_reducible refine Lf.kD_nx ?_ | with_reducible refine Lf.kF_nx ?_ | with_reducible refine Lf.kF_ct ?_ | with_reducible refine Lf.kF_bk ?_ | with_reducible refine Lf.kF_rt ?_ | with_reducible refine Lf.v_ifT ?_ | with_reducible refine Lf.v_ifF ?_ | with_reducible refine Lf.v_ifNT ?_ | with_reducible refine Lf.v_ifNF ?_ | with_reducible refine Lf.kP_int ?_ | with_reducible refine Lf.kP_bl ?_ | with_reducible refine Lf.kP_str ?_ | with_reducible refine Lf.kP_non ?_ | with_reducible refine Lf.v_iadd ?_ | with_reducible refine Lf.Wp.ok ?_ | with_reducible refine Lf.seq_wp ?_ | with_reducible refine Lf.v_bin ?_ | with_reducible refine Lf.v_cons ?_ | with_reducible refine Lf.v_call ?_ | with_reducible refine Lf.v_ret ?_ | with_reducible refine Lf.v_set ?_ | with_reducible refine Lf.v_asg ?_ | with_reducible refine Lf.v_if ?_ | with_reducible refine Lf.v_ifE ?_ | with_reducible refine Lf.v_bl ?_ | with_reducible refine Lf.v_tru ?_ | with_reducible refine Lf.v_and ?_ | with_reducible refine Lf.v_or ?_ | with_reducible refine Lf.v_not ?_ | with_reducible refine Lf.v_andV ?_ | with_reducible refine Lf.v_orV ?_ | with_reducible refine Lf.v_notV ?_ | with_reducible refine Lf.v_c ?_ | with_reducible refine Lf.v_nil ?_ | with_reducible refine Lf.v_skip ?_ | with_reducible refine Lf.v_drop ?_ | with_reducible refine Lf.v_retN ?_ | with_reducible refine Lf.v_brk ?_ | with_reducible refine Lf.v_cnt ?_ | with_reducible refine Lf.v_nm ?_ | with_reducible refine Lf.v_gnil ?_ | with_reducible refine Lf.v_gcons ?_ | with_reducible refine Lf.v_yes ?_ | with_reducible refine Lf.v_for ?_ | with_reducible refine Lf.v_lc ?_ | with_reducible refine Lf.v_rg ?_ | with_reducible refine Lf.v_iter ?_ | with_reducible refine Lf.v_iterT ?_ | with_reducible refine Lf.v_add ?_ | with_reducible refine Lf.v_sub ?_ | with_reducible refine Lf.v_neg ?_ | with_reducible refine Lf.v_lt ?_ | with_reducible refine Lf.v_le ?_ | with_reducible refine Lf.v_gt ?_ | with_reducible refine Lf.v_ge ?_ | with_reducible refine Lf.v_eqI ?_ | with_reducible refine Lf.v_neI ?_ | with_reducible refine Lf.v_abs ?_ | with_reducible refine Lf.v_intI ?_ | with_reducible refine Lf.v_intB ?_ | with_reducible refine Lf.v_max2 ?_ | with_reducible refine Lf.v_min2 ?_ | with_reducible refine Lf.v_lenT ?_ | with_reducible refine Lf.v_lenN ?_ | with_reducible refine Lf.v_nw ?_ | with_reducible refine Lf.v_un ?_ | with_reducible refine Lf.v_tup ?_ | with_reducible refine Lf.v_lst ?_ | with_reducible refine Lf.v_par2 ?_ | with_reducible refine Lf.v_par3 ?_ | with_reducible refine Lf.v_chain ?_ | with_reducible refine Lf.v_meth ?_ | with_reducible refine Lf.v_subT ?_ | with_reducible refine Lf.v_isiIB ?_ | with_reducible refine Lf.v_isiII ?_ | with_reducible refine Lf.v_sl ?_ | with_reducible refine Lf.v_noP ?_ | with_reducible refine Lf.v_pt ?_ | with_reducible refine Lf.v_cutT ?_ | ((with_reducible apply Lf.v_var); exact rfl) | ((with_reducible refine Lf.v_kw ?_ ?_); exact rfl) | ((with_reducible apply Lf.v_iterO); first | exact rfl | assumption) | ((with_reducible apply Lf.v_lenL); first | exact rfl | assumption) | ((with_reducible refine Lf.v_unp ?_ ?_); exact rfl) | ((with_reducible apply Lf.v_aug); exact rfl) | ((with_reducible refine Lf.v_mod ?_ ?_); first | decide | omega | assumption | fail) | ((with_reducible refine Lf.v_div ?_ ?_); first | exact ⟨by decide, by decide +kernel⟩ | assumption | exact Lf.log2d (by omega) ⟨by omega, by omega⟩ | fail) | ((with_reducible refine Lf.v_mul ?_ ?_); first | exact Lf.log2m ⟨by omega, by omega⟩ ⟨by omega, by omega⟩ | exact Lf.log2m (by assumption) ⟨by omega, by omega⟩ | exact Lf.log2m ⟨by omega, by omega⟩ (by assumption) | fail) | ((with_reducible refine Lf.v_pow ?_ ?_); exact ⟨by decide, by decide, by decide⟩) | ((with_reducible refine Lf.v_rg1 ?_ ?_); first | decide | fail) | ((with_reducible apply Lf.v_ixL); (first | exact rfl | assumption | fail); (first | exact rfl | assumption | fail)) | ((with_reducible apply Lf.v_ixT); (first | exact rfl | assumption | fail)) | ((with_reducible apply Lf.v_ixN); (first | exact rfl | assumption | fail)) | with_reducible refine ⟨_, rfl, ?_⟩ | (refine ⟨_, (rfl : Lf.tru _ (Lf.U.bl _) = some _), ?_⟩) | with_reducible refine ⟨_, _, rfl, ?_⟩ | with_reducible refine ⟨_, _, _, rfl, ?_⟩ | (refine ⟨(Nat.le_of_ble_eq_true rfl : List.length _ ≤ 16777216), ?_⟩) | with_reducible refine Lf.v_enum ?_ | with_reducible refine Lf.v_eqS0 ?_ | with_reducible refine Lf.v_neT ?_ | with_reducible refine Lf.v_ix0 ?_ | with_reducible refine Lf.v_tupleT ?_ | with_reducible refine Lf.v_listT ?_ | with_reducible refine Lf.v_revT ?_ | with_reducible refine Lf.v_dic0 ?_ | with_reducible refine Lf.v_dic1 ?_ | with_reducible refine Lf.v_mkE ?_ | with_reducible refine Lf.v_mkE0 ?_ | with_reducible refine Lf.v_fldS ?_ | with_reducible refine Lf.v_fldAug ?_ | with_reducible refine Lf.v_mkC ?_ | with_reducible refine Lf.v_mkW ?_ | with_reducible refine Lf.v_mth ?_ | with_reducible refine Lf.v_getK ?_ | with_reducible refine Lf.v_dic1K ?_ | with_reducible refine Lf.v_items ?_ | with_reducible refine Lf.v_subTD ?_ | with_reducible refine Lf.v_subTT ?_ | with_reducible refine Lf.v_enT ?_ | with_reducible refine Lf.v_enTT ?_ | ((with_reducible apply Lf.v_fld); (first | assumption | fail); (first | assumption | exact List.mem_cons_self .. | simp | fail); (first | rfl | decide +kernel | fail)) | ((with_reducible apply Lf.isl_and); (first | exact rfl | assumption | fail)) | ((with_reducible refine Lf.v_idiv ?_ ?_); exact ⟨by decide, by decide⟩) | ((with_reducible apply Lf.v_appZ); (first | exact rfl | assumption | fail); (first | omega | (simp only [List.length_append, List.length_map, List.length_cons, List.length_nil]; omega) | (simp; omega) | fail)) | ((with_reducible apply Lf.v_tupleL); (first | exact rfl | assumption | fail)) | ((with_reducible apply Lf.v_listL); (first | exact rfl | assumption | fail)) | ((with_reducible refine Lf.v_yesd ?_ ?_); (first | (with_reducible rfl) | assumption | (exact fun z => z rfl) | decide +kernel | omega | fail)) | ((with_reducible refine Lf.v_nod ?_ ?_); (first | (with_reducible rfl) | assumption | (exact fun z => z rfl) | decide +kernel | omega | fail)) | ((with_reducible refine Lf.v_yesn ?_ ?_); (first | (with_reducible rfl) | assumption | (exact fun z => z rfl) | decide +kernel | omega | fail)) | ((with_reducible refine Lf.v_non ?_ ?_); (first | (with_reducible rfl) | assumption | (exact fun z => z rfl) | decide +kernel | omega | fail)) | ((with_reducible refine Lf.kP_tup ?_ ?_); first | exact rfl | exact Lf.nrs_ints _ | assumption | fail) | ((with_reducible refine Lf.v_rg1 ?_ ?_); exact Lf.small62_of (by omega) (by omega)) | fail))
/-- the programs -/
abbrev Po (p n : Int) (ws : List Str) (L d : Nat) (xs : List U) : Prop := Pn (OpOk p n ws) Rd L d xs
theorem Po.pn {p n : Int} {ws : List Str} {L d : Nat} {xs : List U} (hp : p < 1000000) (hn : n < 1000) (h : Po p n ws L d xs) : Pn Op Rd L d xs := Pn.map (fun _ h => h.op hp hn) (fun _ h => h) (Nat.le_refl _) h
theorem Po.len {p n : Int} {ws : List Str} {L d : Nat} {xs : List U} (hp : p < 1000000) (hn : n < 1000) (h : Po p n ws L d xs) : ((flt d xs).length : Int) = stp d xs := flt_len (R := Rd) (fun k h => h.1) (h.pn hp hn)
def lilA (sc sa : List U → M U) : FxS :=
  fSeq (fIf (fBl (fBin (gEq false) (fVar 1) (fC (.int 0)))) (fRet (fC .non)) (fSkip)) (fSeq (fSet 3 (fCall (kdG .pur 1 sc) (fCons (fVar 0) (fNil)))) (fSeq (fAsg (fCall gDivmod (fCons (fVar 1) (fCons (fVar 3) (fNil)))) (gUnp 2 (gCons (gNm 4) (gCons (gNm 5) (gNil))))) (fSeq (fSet 6 (fCall (kdG .pur 3 sa) (fCons (fVar 0) (fCons (fVar 5) (fCons (fVar 2) (fNil)))))) (fSeq (fIf (fBl (fBin (gIs true) (fVar 6) (fC .non))) (fRet (fBin gAdd (fBin gMul (fVar 4) (fVar 3)) (fVar 6))) (fSkip)) (fSeq (fSet 6 (fIfE (fBl (fBin gGt (fVar 4) (fC (.int 0)))) (fCall (kdG .pur 3 sa) (fCons (fVar 0) (fCons (fVar 3) (fCons (fVar 2) (fNil))))) (fC .non))) (fRet (fIfE (fBl (fBin (gIs false) (fVar 6) (fC .non))) (fC .non) (fBin gAdd (fBin gMul (fBin gSub (fVar 4) (fC (.int 1))) (fVar 3)) (fVar 6)))))))))
def laA (sc as_ sl : List U → M U) : FxS :=
  fSeq (fAsg (fTup (fCons (fC (.int 0)) (fCons (fC .non) (fNil)))) (gUnp 2 (gCons (gNm 3) (gCons (gNm 4) (gNil))))) (fSeq (fFor (fIter (fVar 0)) (gNm 5) (fSeq (fSet 6 (fBin gSub (fVar 1) (fVar 3))) (fSeq (fIf (fBl (fBin gLe (fVar 6) (fC (.int 0)))) (fRet (fVar 4)) (fSkip)) (fSeq (fIf (fBl (fBin (gEq false) (fBin gIx (fVar 5) (fC (.int 0))) (fC (.str "loop")))) (fSet 7 (fCall (kdG .pur 3 sl) (fCons (fBin gIx (fVar 5) (fC (.int 2))) (fCons (fCall gMin2 (fCons (fVar 6) (fCons (fCall (kdG .pur 1 sc) (fCons (fTup (fCons (fVar 5) (fNil))) (fNil))) (fNil)))) (fCons (fVar 2) (fNil)))))) (fSet 7 (fIfE (fTru (fCall (kdG .pur 2 as_) (fCons (fVar 5) (fCons (fVar 2) (fNil))))) (fC (.int 0)) (fC .non)))) (fSeq (fSet 4 (fIfE (fBl (fBin (gIs false) (fVar 7) (fC .non))) (fVar 4) (fBin gAdd (fVar 3) (fVar 7)))) (fAug 3 gIAdd (fCall (kdG .pur 1 sc) (fCons (fTup (fCons (fVar 5) (fNil))) (fNil))))))))) (fRet (fVar 4)))
section
variable {sc as_ : List U → M U} {gt gA gL : Nat → List U → M U} {mt : Nat} (hs : sc = gDef 1 (scA (gt mt))) (ht : ∀ m, gt (m + 1) = gDef 4 (tmA (gt m))) (ha : as_ = gDef 2 asA)
  (hA : ∀ m, gA (m + 1) = gDef 8 (laA sc as_ (gL m))) (hL : ∀ m, gL (m + 1) = gDef 7 (lilA sc (gA m)))
  {p n : Int} {ws : List Str} (hp : p < 1000000) (hn : n < 1000) {x : Int} {L : Nat} (hLn : L ≤ 1000)
include hs ht hL hp hn hLn
local macro_rules | `(tactic| rfl') => `(tactic| repeat (first | with_reducible refine Lf.kS_nx ?_ | with_reducible refine Lf.kS_rt ?_ | with_reducible refine Lf.kS_bk ?_ | with_reducible refine Lf.kS_ct ?_ | with_reducible refine Lf.kD_rt ?_ | with_reducible refine Lf.kD_nx ?_ | with_reducible refine Lf.kF_nx ?_ | with_reducible refine Lf.kF_ct ?_ | with_reducible refine Lf.kF_bk ?_ | with_reducible refine Lf.kF_rt ?_ | with_reducible refine Lf.v_ifT ?_ | with_reducible refine Lf.v_ifF ?_ | with_reducible refine Lf.v_ifNT ?_ | with_reducible refine Lf.v_ifNF ?_ | with_reducible refine Lf.kP_int ?_ | with_reducible refine Lf.kP_bl ?_ | with_reducible refine Lf.kP_str ?_ | with_reducible refine Lf.kP_non ?_ | with_reducible refine Lf.v_iadd ?_ | with_reducible refine Lf.Wp.ok ?_ | with_reducible refine Lf.seq_wp ?_ | with_reducible refine Lf.v_bin ?_ | with_reducible refine Lf.v_cons ?_ | with_reducible refine Lf.v_call ?_ | with_reducible refine Lf.v_ret ?_ | with_reducible refine Lf.v_set ?_ | with_reducible refine Lf.v_asg ?_ | with_reducible refine Lf.v_if ?_ | with_reducible refine Lf.v_ifE ?_ | with_reducible refine Lf.v_bl ?_ | with_reducible refine Lf.v_tru ?_ | with_reducible refine Lf.v_and ?_ | with_reducible refine Lf.v_or ?_ | with_reducible refine Lf.v_not ?_ | with_reducible refine Lf.v_andV ?_ | with_reducible refine Lf.v_orV ?_ | with_reducible refine Lf.v_notV ?_ | with_reducible refine Lf.v_c ?_ | with_reducible refine Lf.v_nil ?_ | with_reducible refine Lf.v_skip ?_ | with_reducible refine Lf.v_drop ?_ | with_reducible refine Lf.v_retN ?_ | with_reducible refine Lf.v_brk ?_ | with_reducible refine Lf.v_cnt ?_ | with_reducible refine Lf.v_nm ?_ | with_reducible refine Lf.v_gnil ?_ | with_reducible refine Lf.v_gcons ?_ | with_reducible refine Lf.v_yes ?_ | with_reducible refine Lf.v_for ?_ | with_reducible refine Lf.v_lc ?_ | with_reducible refine Lf.v_rg ?_ | with_reducible refine Lf.v_iter ?_ | with_reducible refine Lf.v_iterT ?_ | with_reducible refine Lf.v_add ?_ | with_reducible refine Lf.v_sub ?_ | with_reducible refine Lf.v_neg ?_ | with_reducible refine Lf.v_lt ?_ | with_reducible refine Lf.v_le ?_ | with_reducible refine Lf.v_gt ?_ | with_reducible refine Lf.v_ge ?_ | with_reducible refine Lf.v_eqI ?_ | with_reducible refine Lf.v_neI ?_ | with_reducible refine Lf.v_abs ?_ | with_reducible refine Lf.v_intI ?_ | with_reducible refine Lf.v_intB ?_ | with_reducible refine Lf.v_max2 ?_ | with_reducible refine Lf.v_min2 ?_ | with_reducible refine Lf.v_lenT ?_ | with_reducible refine Lf.v_lenN ?_ | with_reducible refine Lf.v_nw ?_ | with_reducible refine Lf.v_un ?_ | with_reducible refine Lf.v_tup ?_ | with_reducible refine Lf.v_lst ?_ | with_reducible refine Lf.v_par2 ?_ | with_reducible refine Lf.v_par3 ?_ | with_reducible refine Lf.v_chain ?_ | with_reducible refine Lf.v_meth ?_ | with_reducible refine Lf.v_subT ?_ | with_reducible refine Lf.v_isiIB ?_ | with_reducible refine Lf.v_isiII ?_ | with_reducible refine Lf.v_sl ?_ | with_reducible refine Lf.v_noP ?_ | with_reducible refine Lf.v_pt ?_ | with_reducible refine Lf.v_cutT ?_ | ((with_reducible apply Lf.v_var); exact rfl) | ((with_reducible refine Lf.v_kw ?_ ?_); exact rfl) | ((with_reducible apply Lf.v_iterO); first | exact rfl | assumption) | ((with_reducible apply Lf.v_lenL); first | exact rfl | assumption) | ((with_reducible refine Lf.v_unp ?_ ?_); exact rfl) | ((with_reducible apply Lf.v_aug); exact rfl) | ((with_reducible refine Lf.v_mod ?_ ?_); first | decide | omega | assumption | fail) | ((with_reducible refine Lf.v_div ?_ ?_); first | exact ⟨by decide, by decide +kernel⟩ | assumption | exact Lf.log2d (by omega) ⟨by omega, by omega⟩ | fail) | ((with_reducible refine Lf.v_mul ?_ ?_); first | exact Lf.log2m ⟨by omega, by omega⟩ ⟨by omega, by omega⟩ | exact Lf.log2m (by assumption) ⟨by omega, by omega⟩ | exact Lf.log2m ⟨by omega, by omega⟩ (by assumption) | fail) | ((with_reducible refine Lf.v_pow ?_ ?_); exact ⟨by decide, by decide, by decide⟩) | ((with_reducible refine Lf.v_rg1 ?_ ?_); first | decide | fail) | ((with_reducible apply Lf.v_ixL); (first | exact rfl | assumption | fail); (first | exact rfl | assumption | fail)) | ((with_reducible apply Lf.v_ixT); (first | exact rfl | assumption | fail)) | ((with_reducible apply Lf.v_ixN); (first | exact rfl | assumption | fail)) | with_reducible refine ⟨_, rfl, ?_⟩ | (refine ⟨_, (rfl : Lf.tru _ (Lf.U.bl _) = some _), ?_⟩) | with_reducible refine ⟨_, _, rfl, ?_⟩ | with_reducible refine ⟨_, _, _, rfl, ?_⟩ | (refine ⟨(Nat.le_of_ble_eq_true rfl : List.length _ ≤ 16777216), ?_⟩) | with_reducible refine Lf.v_enum ?_ | fail))
include ha hA
end
end Lf
set_option Elab.async false
set_option linter.all false
set_option maxRecDepth 100000
set_option maxHeartbeats 4000000
namespace Lf
open PySem PySem.Spec L2
/-- a value whose text can be told: how deep, how long at most -/
def Rp (T : Sto) (u : U) (k b : Nat) : Prop := ∃ d, (∀ n, k ≤ n → dat T n u = some d) ∧ d.showable = true ∧ d.canLay0 = true ∧ d.depth ≤ k ∧ d.leavesShort 1930 = true ∧ d.bulk ≤ b ∧ ∀ ns, u ≠ .scr ns
def Rps (T : Sto) (us : List U) (k b : Nat) : Prop := ∃ ds, (∀ n, k ≤ n → dats (dat T n) us = some ds) ∧ PyData.showableAll ds = true ∧ PyData.canLayAll0 ds = true ∧ PyData.depthAll ds ≤ k ∧ PyData.leavesShortAll 1930 ds = true ∧ PyData.bulkAll ds ≤ b
section
variable {T : Sto}
theorem Rp.mono {u : U} {k b k' b' : Nat} (h : Rp T u k b) (hk : k ≤ k') (hb : b ≤ b') : Rp T u k' b' :=
  let ⟨d, h1, h2, h3, h4, h5, h6, h7⟩ := h; ⟨d, fun n hn => h1 n (Nat.le_trans hk hn), h2, h3, Nat.le_trans h4 hk, h5, Nat.le_trans h6 hb, h7⟩
theorem Rps.mono {u : List U} {k b k' b' : Nat} (h : Rps T u k b) (hk : k ≤ k') (hb : b ≤ b') : Rps T u k' b' :=
  let ⟨d, h1, h2, h3, h4, h5, h6⟩ := h; ⟨d, fun n hn => h1 n (Nat.le_trans hk hn), h2, h3, Nat.le_trans h4 hk, h5, Nat.le_trans h6 hb⟩
theorem Rp.int {i : Int} (h : i.natAbs.log2 < 1920) : Rp T (.int i) 0 0 := by
  refine ⟨.int i, fun n _ => dat_int i, by simp [PyData.showable, h], rfl, Nat.le_of_eq rfl, ?_, Nat.le_of_eq rfl, fun _ => U.noConfusion⟩
  simp only [PyData.leavesShort, decide_eq_true_eq]
  exact Nat.le_trans (PyProof.Rows.int_text_len_1921 h) (by decide)
theorem Rp.sm {i : Int} (h : Sm i) : Rp T (.int i) 0 0 := .int (by have := log2_small h; omega)
theorem Rp.non : Rp T .non 0 0 := ⟨.none, fun n _ => by cases n <;> rfl, rfl, rfl, Nat.le_of_eq rfl, rfl, Nat.le_of_eq rfl, fun _ => U.noConfusion⟩
theorem Rp.bl (b : Bool) : Rp T (.bl b) 0 0 := ⟨.bool b, fun n _ => by cases n <;> rfl, rfl, rfl, Nat.le_of_eq rfl, rfl, Nat.le_of_eq rfl, fun _ => U.noConfusion⟩
theorem Rp.str {x : Str} (h : PyData.strOk x = true) : Rp T (.str x) 0 x.cps.size := by
  refine ⟨.str x, fun n _ => dat_str x, rfl, h, Nat.le_of_eq rfl, ?_, Nat.le_of_eq rfl, fun _ => U.noConfusion⟩
  unfold PyData.strOk at h
  simp only [PyData.leavesShort, List.all_eq_true, decide_eq_true_eq]
  intro c hc
  rw [Array.all_eq_true] at h
  obtain ⟨i, hi, rfl⟩ := List.mem_iff_getElem.mp hc
  have := h i (by simpa using hi)
  simp only [decide_eq_true_eq] at this
  rw [Array.getElem_toList]
  omega
theorem Rps.nil : Rps T [] 0 0 := ⟨[], fun _ _ => rfl, rfl, rfl, Nat.le_of_eq rfl, rfl, Nat.le_of_eq rfl⟩
theorem Rps.cons {u : U} {us : List U} {k b c : Nat} (h : Rp T u k b) (h2 : Rps T us k c) : Rps T (u :: us) k (b + 1 + c) := by
  obtain ⟨d, a1, a2, a3, a4, a5, a6, _⟩ := h
  obtain ⟨ds, b1, b2, b3, b4, b5, b6⟩ := h2
  refine ⟨d :: ds, fun n hn => dats_cons (a1 n hn) (b1 n hn), ?_, ?_, ?_, ?_, ?_⟩
  · simp only [PyData.showableAll, a2, b2, Bool.and_self]
  · simp only [PyData.canLayAll0, a3, b3, Bool.and_self]
  · simp only [PyData.depthAll]; omega
  · simp only [PyData.leavesShortAll, a5, b5, Bool.and_self]
  · simp only [PyData.bulkAll]; omega
theorem Rp.tup {us : List U} {k b : Nat} (h : Rps T us k b) : Rp T (.tup us) (k + 1) b := by
  obtain ⟨ds, b1, b2, b3, b4, b5, b6⟩ := h
  refine ⟨.tuple ds, fun n hn => ?_, ?_, ?_, ?_, ?_, ?_, fun _ => U.noConfusion⟩
  · obtain ⟨n, rfl⟩ : ∃ m, n = m + 1 := ⟨n - 1, by omega⟩
    exact dat_tup (b1 n (by omega))
  · simpa only [PyData.showable] using b2
  · simpa only [PyData.canLay0] using b3
  · simp only [PyData.depth]; omega
  · simpa only [PyData.leavesShort] using b5
  · simpa only [PyData.bulk] using b6
theorem Rp.ob {us : List U} {i k b : Nat} (e : T[i]? = some (.lst us)) (h : Rps T us k b) : Rp T (.ob i) (k + 1) b := by
  obtain ⟨ds, b1, b2, b3, b4, b5, b6⟩ := h
  refine ⟨.list ds, fun n hn => ?_, ?_, ?_, ?_, ?_, ?_, fun _ => U.noConfusion⟩
  · obtain ⟨n, rfl⟩ : ∃ m, n = m + 1 := ⟨n - 1, by omega⟩
    show (match T[i]? with
      | some (.lst xs) => (dats (dat T n) xs).map PyData.list
      | _ => none) = _
    rw [e]
    show (dats (dat T n) us).map PyData.list = _
    rw [b1 n (by omega)]; rfl
  · simpa only [PyData.showable] using b2
  · simpa only [PyData.canLay0] using b3
  · simp only [PyData.depth]; omega
  · simpa only [PyData.leavesShort] using b5
  · simpa only [PyData.bulk] using b6
theorem Rps.all {us : List U} {k b : Nat} (h : ∀ u ∈ us, Rp T u k b) : Rps T us k (us.length * (b + 1)) := by
  induction us with
  | nil => exact Rps.mono .nil (Nat.zero_le _) (Nat.zero_le _)
  | cons u us ih =>
    refine Rps.mono (.cons (h u (List.mem_cons_self ..)) (ih fun v hv => h v (List.mem_cons_of_mem _ hv))) (Nat.le_refl _) ?_
    rw [List.length_cons, Nat.succ_mul]; omega
theorem Rps.ints {ns : List Int} (h : ∀ i ∈ ns, i.natAbs.log2 < 1920) : Rps T (ns.map .int) 0 ns.length := by
  have : Rps T (ns.map .int) 0 ((ns.map U.int).length * (0 + 1)) := Rps.all fun u hu => by
    obtain ⟨i, hi, rfl⟩ := List.mem_map.mp hu
    exact .int (h i hi)
  simpa using this
theorem Rps.app {us vs : List U} {k b c : Nat} (h : Rps T us k b) (h2 : Rps T vs k c) : Rps T (us ++ vs) k (b + c) := by
  obtain ⟨ds, a1, a2, a3, a4, a5, a6⟩ := h
  obtain ⟨es, b1, b2, b3, b4, b5, b6⟩ := h2
  have da : ∀ n, ∀ (us : List U) (ds : List PyData), dats (dat T n) us = some ds → dats (dat T n) vs = some es → dats (dat T n) (us ++ vs) = some (ds ++ es) := by
    intro n us
    induction us with
    | nil => intro ds e e2; cases e; exact e2
    | cons u us ih =>
      intro ds e e2
      unfold dats at e
      split at e
      · rename_i d ds' h1 h2
        cases e
        exact dats_cons h1 (ih _ h2 e2)
      · cases e
  refine ⟨ds ++ es, fun n hn => da n us ds (a1 n hn) (b1 n hn), ?_, ?_, ?_, ?_, ?_⟩
  · clear a1 a3 a4 a5 a6 da
    induction ds with
    | nil => exact b2
    | cons d ds ih => simp only [List.cons_append, PyData.showableAll, Bool.and_eq_true] at a2 ⊢; exact ⟨a2.1, ih a2.2⟩
  · clear a1 a2 a4 a5 a6 da
    induction ds with
    | nil => exact b3
    | cons d ds ih => simp only [List.cons_append, PyData.canLayAll0, Bool.and_eq_true] at a3 ⊢; exact ⟨a3.1, ih a3.2⟩
  · clear a1 a2 a3 a5 a6 da
    induction ds with
    | nil => exact b4
    | cons d ds ih => simp only [List.cons_append, PyData.depthAll] at a4 ⊢; have := ih (by omega); omega
  · clear a1 a2 a3 a4 a6 da
    induction ds with
    | nil => exact b5
    | cons d ds ih => simp only [List.cons_append, PyData.leavesShortAll, Bool.and_eq_true] at a5 ⊢; exact ⟨a5.1, ih a5.2⟩
  · clear a1 a2 a3 a4 a5 da
    have : ∀ ds : List PyData, PyData.bulkAll (ds ++ es) = PyData.bulkAll ds + PyData.bulkAll es := by
      intro ds
      induction ds with
      | nil => simp [PyData.bulkAll]
      | cons d ds ih => simp only [List.cons_append, PyData.bulkAll, ih]; omega
    rw [this]; omega
theorem Rp.op {x : U} (h : Op x) : Rp T x 1 9 := by
  obtain ⟨w, is, rfl, hw, hl, hi⟩ := h
  have h1 : Rps T (is.map .int) 0 is.length := Rps.ints fun i h => by
    have := log2_small (i := i) ⟨by have := hi i h; omega, by have := hi i h; omega⟩
    omega
  have hs : ∀ w ∈ words7, w.cps.size ≤ 5 := by decide +kernel
  have := hs w hw
  exact Rp.mono (.tup (.cons (.str (words7_ok w hw)) h1)) (by omega) (by omega)
def bkP : Nat → Nat → Nat
  | 0, l => 10 * l
  | d + 1, l => l * (10 + bkP d (l / 2))
theorem Rps.prog {A : U → Prop} {R : Int → Prop} (hA : ∀ x, A x → Op x) (hR : ∀ k, R k → Rd k) : ∀ {d l : Nat} {xs : List U}, Pr A R d l xs → Rps T xs (2 * d + 1) (bkP d l)
  | 0, l, xs, h => by
    refine Rps.mono (Rps.all (b := 9) fun u hu => Rp.op (hA u (h.2 u hu))) (by omega) ?_
    have := h.1
    unfold bkP
    omega
  | d + 1, l, xs, h => by
    have hb : ∀ u ∈ xs, Rp T u (2 * (d + 1) + 1) (9 + bkP d (l / 2)) := fun u hu => by
      rcases h.2 u hu with h | ⟨k, b, rfl, hk, hb⟩
      · exact Rp.mono (.op (hA u h)) (by omega) (by omega)
      · have hk := hR k hk
        have hb : Pr A R d ((l / 2 : Nat) : Int) b := by rw [show ((l / 2 : Nat) : Int) = (l : Int) / 2 by omega]; exact hb
        have h1 := Rps.prog hA hR hb
        have hs : (Str.ofString "loop").cps.size = 4 := by decide +kernel
        have h3 : Rps T [.str "loop", .int k, .tup b] (2 * d + 2) ((Str.ofString "loop").cps.size + 1 + (0 + 1 + (bkP d (l / 2) + 1 + 0))) :=
          .cons (Rp.mono (.str lp_str) (Nat.zero_le _) (Nat.le_refl _)) (.cons (Rp.mono (.sm ⟨by have := hk.1; omega, by have := hk.2; omega⟩) (Nat.zero_le _) (Nat.le_refl _)) (.cons (.tup h1) (Rps.mono .nil (Nat.zero_le _) (Nat.le_refl _))))
        exact Rp.mono (.tup h3) (by omega) (by omega)
    refine Rps.mono (Rps.all hb) (Nat.le_refl _) ?_
    have hl : xs.length ≤ l := by have := h.1; omega
    have := Nat.mul_le_mul_right (10 + bkP d (l / 2)) hl
    show _ ≤ l * (10 + bkP d (l / 2))
    rw [show 9 + bkP d (l / 2) + 1 = 10 + bkP d (l / 2) by omega]
    exact this
end
mutual
theorem dat_nr {T T' : Sto} : ∀ (n : Nat) (u : U), nr u = true → dat T n u = dat T' n u
  | n, .non, _ => by cases n <;> rfl
  | n, .bl _, _ => by cases n <;> rfl
  | n, .int _, _ => by cases n <;> rfl
  | n, .str _, _ => by cases n <;> rfl
  | 0, .tup _, _ => rfl
  | n + 1, .tup us, h => by
    show (dats (dat T n) us).map PyData.tuple = (dats (dat T' n) us).map PyData.tuple
    rw [dats_nr n us h]
  | n, .ob _, h => by cases h
  | n, .scr _, _ => by cases n <;> rfl
  | n, .raw _, _ => by cases n <;> rfl
theorem dats_nr {T T' : Sto} : ∀ (n : Nat) (us : List U), nrs us = true → dats (dat T n) us = dats (dat T' n) us
  | _, [], _ => rfl
  | n, u :: us, h => by
    have h : (nr u && nrs us) = true := h
    rw [Bool.and_eq_true] at h
    unfold dats
    rw [dat_nr (T := T) (T' := T') n u h.1, dats_nr n us h.2]
end
theorem Rp.nr {T T' : Sto} {u : U} {k b : Nat} (h : Rp T u k b) (hn : Lf.nr u = true) : Rp T' u k b :=
  let ⟨d, h1, h2⟩ := h; ⟨d, fun n hn' => by rw [← dat_nr (T := T) (T' := T') n u hn]; exact h1 n hn', h2⟩
local macro_rules | `(tactic| bv_omega) => `(tactic| repeat (first | with_reducible refine Lf.kS_nx ?_ | with_reducible refine Lf.kS_rt ?_ | with_reducible refine Lf.kS_bk ?_ | with_reducible refine Lf.kS_ct ?_ | with_reducible refine Lf.kD_rt ?_ | with_reducible refine Lf.kD_nx ?_ | with_reducible refine Lf.kF_nx ?_ | with_reducible refine Lf.kF_ct ?_ | with_reducible refine Lf.kF_bk ?_ | with_reducible refine Lf.kF_rt ?_ | with_reducible refine Lf.v_ifT ?_ | with_reducible refine Lf.v_ifF ?_ | with_reducible refine Lf.v_ifNT ?_ | with_reducible refine Lf.v_ifNF ?_ | with_reducible refine Lf.kP_int ?_ | with_reducible refine Lf.kP_bl ?_ | with_reducible refine Lf.kP_str ?_ | with_reducible refine Lf.kP_non ?_ | with_reducible refine Lf.v_iadd ?_ | with_reducible refine Lf.Wp.ok ?_ | with_reducible refine Lf.seq_wp ?_ | with_reducible refine Lf.v_bin ?_ | with_reducible refine Lf.v_cons ?_ | with_reducible refine Lf.v_call ?_ | with_reducible refine Lf.v_ret ?_ | with_reducible refine Lf.v_set ?_ | with_reducible refine Lf.v_asg ?_ | with_reducible refine Lf.v_if ?_ | with_reducible refine Lf.v_ifE ?_ | with_reducible refine Lf.v_bl ?_ | with_reducible refine Lf.v_tru ?_ | with_reducible refine Lf.v_and ?_ | with_reducible refine Lf.v_or ?_ | with_reducible refine Lf.v_not ?_ | with_reducible refine Lf.v_andV ?_ | with_reducible refine Lf.v_orV ?_ | with_reducible refine Lf.v_notV ?_ | with_reducible refine Lf.v_c ?_ | with_reducible refine Lf.v_nil ?_ | with_reducible refine Lf.v_skip ?_ | with_reducible refine Lf.v_drop ?_ | with_reducible refine Lf.v_retN ?_ | with_reducible refine Lf.v_brk ?_ | with_reducible refine Lf.v_cnt ?_ | with_reducible refine Lf.v_nm ?_ | with_reducible refine Lf.v_gnil ?_ | with_reducible refine Lf.v_gcons ?_ | with_reducible refine Lf.v_yes ?_ | with_reducible refine Lf.v_for ?_ | with_reducible refine Lf.v_lc ?_ | with_reducible refine Lf.v_rg ?_ | with_reducible refine Lf.v_iter ?_ | with_reducible refine Lf.v_iterT ?_ | with_reducible refine Lf.v_add ?_ | with_reducible refine Lf.v_sub ?_ | with_reducible refine Lf.v_neg ?_ | with_reducible refine Lf.v_lt ?_ | with_reducible refine Lf.v_le ?_ | with_reducible refine Lf.v_gt ?_ | with_reducible refine Lf.v_ge ?_ | with_reducible refine Lf.v_eqI ?_ | with_reducible refine Lf.v_neI ?_ | with_reducible refine Lf.v_abs ?_ | with_reducible refine Lf.v_intI ?_ | with_reducible refine Lf.v_intB ?_ | with_reducible refine Lf.v_max2 ?_ | with_reducible refine Lf.v_min2 ?_ | with_reducible refine Lf.v_lenT ?_ | with_reducible refine Lf.v_lenN ?_ | with_reducible refine Lf.v_nw ?_ | with_reducible refine Lf.v_un ?_ | with_reducible refine Lf.v_tup ?_ | with_reducible refine Lf.v_lst ?_ | with_reducible refine Lf.v_par2 ?_ | with_reducible refine Lf.v_par3 ?_ | with_reducible refine Lf.v_chain ?_ | with_reducible refine Lf.v_meth ?_ | with_reducible refine Lf.v_subT ?_ | with_reducible refine Lf.v_isiIB ?_ | with_reducible refine Lf.v_isiII ?_ | with_reducible refine Lf.v_sl ?_ | with_reducible refine Lf.v_noP ?_ | with_reducible refine Lf.v_pt ?_ | with_reducible refine Lf.v_cutT ?_ | ((with_reducible apply Lf.v_var); exact rfl) | ((with_reducible refine Lf.v_kw ?_ ?_); exact rfl) | ((with_reducible apply Lf.v_iterO); first | exact rfl | assumption) | ((with_reducible apply Lf.v_lenL); first | exact rfl | assumption) | ((with_reducible refine Lf.v_unp ?_ ?_); exact rfl) | ((with_reducible apply Lf.v_aug); exact rfl) | ((with_reducible refine Lf.v_mod ?_ ?_); first | decide | omega | assumption | fail) | ((with_reducible refine Lf.v_div ?_ ?_); first | exact ⟨by decide, by decide +kernel⟩ | assumption | exact Lf.log2d (by omega) ⟨by omega, by omega⟩ | fail) | ((with_reducible refine Lf.v_mul ?_ ?_); first | exact Lf.log2m ⟨by omega, by omega⟩ ⟨by omega, by omega⟩ | exact Lf.log2m (by assumption) ⟨by omega, by omega⟩ | exact Lf.log2m ⟨by omega, by omega⟩ (by assumption) | fail) | ((with_reducible refine Lf.v_pow ?_ ?_); exact ⟨by decide, by decide, by decide⟩) | ((with_reducible refine Lf.v_rg1 ?_ ?_); first | decide | fail) | ((with_reducible apply Lf.v_ixL); (first | exact rfl | assumption | fail); (first | exact rfl | assumption | fail)) | ((with_reducible apply Lf.v_ixT); (first | exact rfl | assumption | fail)) | ((with_reducible apply Lf.v_ixN); (first | exact rfl | assumption | fail)) | with_reducible refine ⟨_, rfl, ?_⟩ | (refine ⟨_, (rfl : Lf.tru _ (Lf.U.bl _) = some _), ?_⟩) | with_reducible refine ⟨_, _, rfl, ?_⟩ | with_reducible refine ⟨_, _, _, rfl, ?_⟩ | (refine ⟨(Nat.le_of_ble_eq_true rfl : List.length _ ≤ 16777216), ?_⟩) | with_reducible refine Lf.v_enum ?_ | with_reducible refine Lf.v_eqS0 ?_ | with_reducible refine Lf.v_neT ?_ | with_reducible refine Lf.v_ix0 ?_ | with_reducible refine Lf.v_tupleT ?_ | with_reducible refine Lf.v_listT ?_ | with_reducible refine Lf.v_revT ?_ | with_reducible refine Lf.v_dic0 ?_ | with_reducible refine Lf.v_dic1 ?_ | with_reducible refine Lf.v_mkE ?_ | with_reducible refine Lf.v_mkE0 ?_ | with_reducible refine Lf.v_fldS ?_ | with_reducible refine Lf.v_fldAug ?_ | with_reducible refine Lf.v_mkC ?_ | with_reducible refine Lf.v_mkW ?_ | with_reducible refine Lf.v_mth ?_ | with_reducible refine Lf.v_getK ?_ | with_reducible refine Lf.v_dic1K ?_ | with_reducible refine Lf.v_items ?_ | with_reducible refine Lf.v_subTD ?_ | with_reducible refine Lf.v_subTT ?_ | with_reducible refine Lf.v_enT ?_ | with_reducible refine Lf.v_enTT ?_ | ((with_reducible apply Lf.v_fld); (first | assumption | fail); (first | assumption | exact List.mem_cons_self .. | simp | fail); (first | rfl | decide +kernel | fail)) | ((with_reducible apply Lf.isl_and); (first | exact rfl | assumption | fail)) | ((with_reducible refine Lf.v_idiv ?_ ?_); exact ⟨by decide, by decide⟩) | ((with_reducible apply Lf.v_appZ); (first | exact rfl | assumption | fail); (first | omega | (simp only [List.length_append, List.length_map, List.length_cons, List.length_nil]; omega) | (simp; omega) | fail)) | ((with_reducible apply Lf.v_tupleL); (first | exact rfl | assumption | fail)) | ((with_reducible apply Lf.v_listL); (first | exact rfl | assumption | fail)) | ((with_reducible refine Lf.v_yesd ?_ ?_); (first | (with_reducible rfl) | assumption | (exact fun z => z rfl) | decide +kernel | omega | fail)) | ((with_reducible refine Lf.v_nod ?_ ?_); (first | (with_reducible rfl) | assumption | (exact fun z => z rfl) | decide +kernel | omega | fail)) | ((with_reducible refine Lf.v_yesn ?_ ?_); (first | (with_reducible rfl) | assumption | (exact fun z => z rfl) | decide +kernel | omega | fail)) | ((with_reducible refine Lf.v_non ?_ ?_); (first | (with_reducible rfl) | assumption | (exact fun z => z rfl) | decide +kernel | omega | fail)) | ((with_reducible refine Lf.kP_tup ?_ ?_); first | exact rfl | exact Lf.nrs_ints _ | assumption | fail) | ((with_reducible refine Lf.v_rg1 ?_ ?_); exact Lf.small62_of (by omega) (by omega)) | fail))
local macro_rules | `(tactic| rfl') => `(tactic| repeat (first | with_reducible refine Lf.kS_nx ?_ | with_reducible refine Lf.kS_rt ?_ | with_reducible refine Lf.kS_bk ?_ | with_reducible refine Lf.kS_ct ?_ | with_reducible refine Lf.kD_rt ?_ | with_reducible refine Lf.kD_nx ?_ | with_reducible refine Lf.kF_nx ?_ | with_reducible refine Lf.kF_ct ?_ | with_reducible refine Lf.kF_bk ?_ | with_reducible refine Lf.kF_rt ?_ | with_reducible refine Lf.v_ifT ?_ | with_reducible refine Lf.v_ifF ?_ | with_reducible refine Lf.v_ifNT ?_ | with_reducible refine Lf.v_ifNF ?_ | with_reducible refine Lf.kP_int ?_ | with_reducible refine Lf.kP_bl ?_ | with_reducible refine Lf.kP_str ?_ | with_reducible refine Lf.kP_non ?_ | with_reducible refine Lf.v_iadd ?_ | with_reducible refine Lf.Wp.ok ?_ | with_reducible refine Lf.seq_wp ?_ | with_reducible refine Lf.v_bin ?_ | with_reducible refine Lf.v_cons ?_ | with_reducible refine Lf.v_call ?_ | with_reducible refine Lf.v_ret ?_ | with_reducible refine Lf.v_set ?_ | with_reducible refine Lf.v_asg ?_ | with_reducible refine Lf.v_if ?_ | with_reducible refine Lf.v_ifE ?_ | with_reducible refine Lf.v_bl ?_ | with_reducible refine Lf.v_tru ?_ | with_reducible refine Lf.v_and ?_ | with_reducible refine Lf.v_or ?_ | with_reducible refine Lf.v_not ?_ | with_reducible refine Lf.v_andV ?_ | with_reducible refine Lf.v_orV ?_ | with_reducible refine Lf.v_notV ?_ | with_reducible refine Lf.v_c ?_ | with_reducible refine Lf.v_nil ?_ | with_reducible refine Lf.v_skip ?_ | with_reducible refine Lf.v_drop ?_ | with_reducible refine Lf.v_retN ?_ | with_reducible refine Lf.v_brk ?_ | with_reducible refine Lf.v_cnt ?_ | with_reducible refine Lf.v_nm ?_ | with_reducible refine Lf.v_gnil ?_ | with_reducible refine Lf.v_gcons ?_ | with_reducible refine Lf.v_yes ?_ | with_reducible refine Lf.v_for ?_ | with_reducible refine Lf.v_lc ?_ | with_reducible refine Lf.v_rg ?_ | with_reducible refine Lf.v_iter ?_ | with_reducible refine Lf.v_iterT ?_ | with_reducible refine Lf.v_add ?_ | with_reducible refine Lf.v_sub ?_ | with_reducible refine Lf.v_neg ?_ | with_reducible refine Lf.v_lt ?_ | with_reducible refine Lf.v_le ?_ | with_reducible refine Lf.v_gt ?_ | with_reducible refine Lf.v_ge ?_ | with_reducible refine Lf.v_eqI ?_ | with_reducible refine Lf.v_neI ?_ | with_reducible refine Lf.v_abs ?_ | with_reducible refine Lf.v_intI ?_ | with_reducible refine Lf.v_intB ?_ | with_reducible refine Lf.v_max2 ?_ | with_reducible refine Lf.v_min2 ?_ | with_reducible refine Lf.v_lenT ?_ | with_reducible refine Lf.v_lenN ?_ | with_reducible refine Lf.v_nw ?_ | with_reducible refine Lf.v_un ?_ | with_reducible refine Lf.v_tup ?_ | with_reducible refine Lf.v_lst ?_ | with_reducible refine Lf.v_par2 ?_ | with_reducible refine Lf.v_par3 ?_ | with_reducible refine Lf.v_chain ?_ | with_reducible refine Lf.v_meth ?_ | with_reducible refine Lf.v_subT ?_ | with_reducible refine Lf.v_isiIB ?_ | with_reducible refine Lf.v_isiII ?_ | with_reducible refine Lf.v_sl ?_ | with_reducible refine Lf.v_noP ?_ | with_reducible refine Lf.v_pt ?_ | with_reducible refine Lf.v_cutT ?_ | ((with_reducible apply Lf.v_var); exact rfl) | ((with_reducible refine Lf.v_kw ?_ ?_); exact rfl) | ((with_reducible apply Lf.v_iterO); first | exact rfl | assumption) | ((with_reducible apply Lf.v_lenL); first | exact rfl | assumption) | ((with_reducible refine Lf.v_unp ?_ ?_); exact rfl) | ((with_reducible apply Lf.v_aug); exact rfl) | ((with_reducible refine Lf.v_mod ?_ ?_); first | decide | omega | assumption | fail) | ((with_reducible refine Lf.v_div ?_ ?_); first | exact ⟨by decide, by decide +kernel⟩ | assumption | exact Lf.log2d (by omega) ⟨by omega, by omega⟩ | fail) | ((with_reducible refine Lf.v_mul ?_ ?_); first | exact Lf.log2m ⟨by omega, by omega⟩ ⟨by omega, by omega⟩ | exact Lf.log2m (by assumption) ⟨by omega, by omega⟩ | exact Lf.log2m ⟨by omega, by omega⟩ (by assumption) | fail) | ((with_reducible refine Lf.v_pow ?_ ?_); exact ⟨by decide, by decide, by decide⟩) | ((with_reducible refine Lf.v_rg1 ?_ ?_); first | decide | fail) | ((with_reducible apply Lf.v_ixL); (first | exact rfl | assumption | fail); (first | exact rfl | assumption | fail)) | ((with_reducible apply Lf.v_ixT); (first | exact rfl | assumption | fail)) | ((with_reducible apply Lf.v_ixN); (first | exact rfl | assumption | fail)) | with_reducible refine ⟨_, rfl, ?_⟩ | (refine ⟨_, (rfl : Lf.tru _ (Lf.U.bl _) = some _), ?_⟩) | with_reducible refine ⟨_, _, rfl, ?_⟩ | with_reducible refine ⟨_, _, _, rfl, ?_⟩ | (refine ⟨(Nat.le_of_ble_eq_true rfl : List.length _ ≤ 16777216), ?_⟩) | with_reducible refine Lf.v_enum ?_ | fail))
end Lf
set_option Elab.async false
set_option linter.all false
set_option maxRecDepth 100000
set_option maxHeartbeats 4000000
namespace Lf
open PySem PySem.Spec L2
local macro_rules | `(tactic| rfl') => `(tactic| repeat (first | with_reducible refine Lf.kS_nx ?_ | with_reducible refine Lf.kS_rt ?_ | with_reducible refine Lf.kS_bk ?_ | with_reducible refine Lf.kS_ct ?_ | with_reducible refine Lf.kD_rt ?_ | with_reducible refine Lf.kD_nx ?_ | with_reducible refine Lf.kF_nx ?_ | with_reducible refine Lf.kF_ct ?_ | with_reducible refine Lf.kF_bk ?_ | with_reducible refine Lf.kF_rt ?_ | with_reducible refine Lf.v_ifT ?_ | with_reducible refine Lf.v_ifF ?_ | with_reducible refine Lf.v_ifNT ?_ | with_reducible refine Lf.v_ifNF ?_ | with_reducible refine Lf.kP_int ?_ | with_reducible refine Lf.kP_bl ?_ | with_reducible refine Lf.kP_str ?_ | with_reducible refine Lf.kP_non ?_ | with_reducible refine Lf.v_iadd ?_ | with_reducible refine Lf.Wp.ok ?_ | with_reducible refine Lf.seq_wp ?_ | with_reducible refine Lf.v_bin ?_ | with_reducible refine Lf.v_cons ?_ | with_reducible refine Lf.v_call ?_ | with_reducible refine Lf.v_ret ?_ | with_reducible refine Lf.v_set ?_ | with_reducible refine Lf.v_asg ?_ | with_reducible refine Lf.v_if ?_ | with_reducible refine Lf.v_ifE ?_ | with_reducible refine Lf.v_bl ?_ | with_reducible refine Lf.v_tru ?_ | with_reducible refine Lf.v_and ?_ | with_reducible refine Lf.v_or ?_ | with_reducible refine Lf.v_not ?_ | with_reducible refine Lf.v_andV ?_ | with_reducible refine Lf.v_orV ?_ | with_reducible refine Lf.v_notV ?_ | with_reducible refine Lf.v_c ?_ | with_reducible refine Lf.v_nil ?_ | with_reducible refine Lf.v_skip ?_ | with_reducible refine Lf.v_drop ?_ | with_reducible refine Lf.v_retN ?_ | with_reducible refine Lf.v_brk ?_ | with_reducible refine Lf.v_cnt ?_ | with_reducible refine Lf.v_nm ?_ | with_reducible refine Lf.v_gnil ?_ | with_reducible refine Lf.v_gcons ?_ | with_reducible refine Lf.v_yes ?_ | with_reducible refine Lf.v_for ?_ | with_reducible refine Lf.v_lc ?_ | with_reducible refine Lf.v_rg ?_ | with_reducible refine Lf.v_iter ?_ | with_reducible refine Lf.v_iterT ?_ | with_reducible refine Lf.v_add ?_ | with_reducible refine Lf.v_sub ?_ | with_reducible refine Lf.v_neg ?_ | with_reducible refine Lf.v_lt ?_ | with_reducible refine Lf.v_le ?_ | with_reducible refine Lf.v_gt ?_ | with_reducible refine Lf.v_ge ?_ | with_reducible refine Lf.v_eqI ?_ | with_reducible refine Lf.v_neI ?_ | with_reducible refine Lf.v_abs ?_ | with_reducible refine Lf.v_intI ?_ | with_reducible refine Lf.v_intB ?_ | with_reducible refine Lf.v_max2 ?_ | with_reducible refine Lf.v_min2 ?_ | with_reducible refine Lf.v_lenT ?_ | with_reducible refine Lf.v_lenN ?_ | with_reducible refine Lf.v_nw ?_ | with_reducible refine Lf.v_un ?_ | with_reducible refine Lf.v_tup ?_ | with_reducible refine Lf.v_lst ?_ | with_reducible refine Lf.v_par2 ?_ | with_reducible refine Lf.v_par3 ?_ | with_reducible refine Lf.v_chain ?_ | with_reducible refine Lf.v_meth ?_ | with_reducible refine Lf.v_subT ?_ | with_reducible refine Lf.v_isiIB ?_ | with_reducible refine Lf.v_isiII ?_ | with_reducible refine Lf.v_sl ?_ | with_reducible refine Lf.v_noP ?_ | with_reducible refine Lf.v_pt ?_ | with_reducible refine Lf.v_cutT ?_ | ((with_reducible apply Lf.v_var); exact rfl) | ((with_reducible refine Lf.v_kw ?_ ?_); exact rfl) | ((with_reducible apply Lf.v_iterO); first | exact rfl | assumption) | ((with_reducible apply Lf.v_lenL); first | exact rfl | assumption) | ((with_reducible refine Lf.v_unp ?_ ?_); exact rfl) | ((with_reducible apply Lf.v_aug); exact rfl) | ((with_reducible refine Lf.v_mod ?_ ?_); first | decide | omega | assumption | fail) | ((with_reducible refine Lf.v_div ?_ ?_); first | exact ⟨by decide, by decide +kernel⟩ | assumption | exact Lf.log2d (by omega) ⟨by omega, by omega⟩ | fail) | ((with_reducible refine Lf.v_mul ?_ ?_); first | exact Lf.log2m ⟨by omega, by omega⟩ ⟨by omega, by omega⟩ | exact Lf.log2m (by assumption) ⟨by omega, by omega⟩ | exact Lf.log2m ⟨by omega, by omega⟩ (by assumption) | fail) | ((with_reducible refine Lf.v_pow ?_ ?_); exact ⟨by decide, by decide, by decide⟩) | ((with_reducible refine Lf.v_rg1 ?_ ?_); first | decide | fail) | ((with_reducible apply Lf.v_ixL); (first | exact rfl | assumption | fail); (first | exact rfl | assumption | fail)) | ((with_reducible apply Lf.v_ixT); (first | exact rfl | assumption | fail)) | ((with_reducible apply Lf.v_ixN); (first | exact rfl | assumption | fail)) | with_reducible refine ⟨_, rfl, ?_⟩ | (refine ⟨_, (rfl : Lf.tru _ (Lf.U.bl _) = some _), ?_⟩) | with_reducible refine ⟨_, _, rfl, ?_⟩ | with_reducible refine ⟨_, _, _, rfl, ?_⟩ | (refine ⟨(Nat.le_of_ble_eq_true rfl : List.length _ ≤ 16777216), ?_⟩) | with_reducible refine Lf.v_enum ?_ | fail))
local macro_rules | `(tactic| bv_omega) => `(tactic| repeat (first | with_reducible refine Lf.kS_nx ?_ | with_reducible refine Lf.kS_rt ?_ | with_reducible refine Lf.kS_bk ?_ | with_reducible refine Lf.kS_ct ?_ | with_reducible refine Lf.kD_rt ?_ | with_reducible refine Lf.kD_nx ?_ | with_reducible refine Lf.kF_nx ?_ | with_reducible refine Lf.kF_ct ?_ | with_reducible refine Lf.kF_bk ?_ | with_reducible refine Lf.kF_rt ?_ | with_reducible refine Lf.v_ifT ?_ | with_reducible refine Lf.v_ifF ?_ | with_reducible refine Lf.v_ifNT ?_ | with_reducible refine Lf.v_ifNF ?_ | with_reducible refine Lf.kP_int ?_ | with_reducible refine Lf.kP_bl ?_ | with_reducible refine Lf.kP_str ?_ | with_reducible refine Lf.kP_non ?_ | with_reducible refine Lf.v_iadd ?_ | with_reducible refine Lf.Wp.ok ?_ | with_reducible refine Lf.seq_wp ?_ | with_reducible refine Lf.v_bin ?_ | with_reducible refine Lf.v_cons ?_ | with_reducible refine Lf.v_call ?_ | with_reducible refine Lf.v_ret ?_ | with_reducible refine Lf.v_set ?_ | with_reducible refine Lf.v_asg ?_ | with_reducible refine Lf.v_if ?_ | with_reducible refine Lf.v_ifE ?_ | with_reducible refine Lf.v_bl ?_ | with_reducible refine Lf.v_tru ?_ | with_reducible refine Lf.v_and ?_ | with_reducible refine Lf.v_or ?_ | with_reducible refine Lf.v_not ?_ | with_reducible refine Lf.v_andV ?_ | with_reducible refine Lf.v_orV ?_ | with_reducible refine Lf.v_notV ?_ | with_reducible refine Lf.v_c ?_ | with_reducible refine Lf.v_nil ?_ | with_reducible refine Lf.v_skip ?_ | with_reducible refine Lf.v_drop ?_ | with_reducible refine Lf.v_retN ?_ | with_reducible refine Lf.v_brk ?_ | with_reducible refine Lf.v_cnt ?_ | with_reducible refine Lf.v_nm ?_ | with_reducible refine Lf.v_gnil ?_ | with_reducible refine Lf.v_gcons ?_ | with_reducible refine Lf.v_yes ?_ | with_reducible refine Lf.v_for ?_ | with_reducible refine Lf.v_lc ?_ | with_reducible refine Lf.v_rg ?_ | with_reducible refine Lf.v_iter ?_ | with_reducible refine Lf.v_iterT ?_ | with_reducible refine Lf.v_add ?_ | with_reducible refine Lf.v_sub ?_ | with_reducible refine Lf.v_neg ?_ | with_reducible refine Lf.v_lt ?_ | with_reducible refine Lf.v_le ?_ | with_reducible refine Lf.v_gt ?_ | with_reducible refine Lf.v_ge ?_ | with_reducible refine Lf.v_eqI ?_ | with_reducible refine Lf.v_neI ?_ | with_reducible refine Lf.v_abs ?_ | with_reducible refine Lf.v_intI ?_ | with_reducible refine Lf.v_intB ?_ | with_reducible refine Lf.v_max2 ?_ | with_reducible refine Lf.v_min2 ?_ | with_reducible refine Lf.v_lenT ?_ | with_reducible refine Lf.v_lenN ?_ | with_reducible refine Lf.v_nw ?_ | with_reducible refine Lf.v_un ?_ | with_reducible refine Lf.v_tup ?_ | with_reducible refine Lf.v_lst ?_ | with_reducible refine Lf.v_par2 ?_ | with_reducible refine Lf.v_par3 ?_ | with_reducible refine Lf.v_chain ?_ | with_reducible refine Lf.v_meth ?_ | with_reducible refine Lf.v_subT ?_ | with_reducible refine Lf.v_isiIB ?_ | with_reducible refine Lf.v_isiII ?_ | with_reducible refine Lf.v_sl ?_ | with_reducible refine Lf.v_noP ?_ | with_reducible refine Lf.v_pt ?_ | with_reducible refine Lf.v_cutT ?_ | ((with_reducible apply Lf.v_var); exact rfl) | ((with_reducible refine Lf.v_kw ?_ ?_); exact rfl) | ((with_reducible apply Lf.v_iterO); first | exact rfl | assumption) | ((with_reducible apply Lf.v_lenL); first | exact rfl | assumption) | ((with_reducible refine Lf.v_unp ?_ ?_); exact rfl) | ((with_reducible apply Lf.v_aug); exact rfl) | ((with_reducible refine Lf.v_mod ?_ ?_); first | decide | omega | assumption | fail) | ((with_reducible refine Lf.v_div ?_ ?_); first | exact ⟨by decide, by decide +kernel⟩ | assumption | exact Lf.log2d (by omega) ⟨by omega, by omega⟩ | fail) | ((with_reducible refine Lf.v_mul ?_ ?_); first | exact Lf.log2m ⟨by omega, by omega⟩ ⟨by omega, by omega⟩ | exact Lf.log2m (by assumption) ⟨by omega, by omega⟩ | exact Lf.log2m ⟨by omega, by omega⟩ (by assumption) | fail) | ((with_reducible refine Lf.v_pow ?_ ?_); exact ⟨by decide, by decide, by decide⟩) | ((with_reducible refine Lf.v_rg1 ?_ ?_); first | decide | fail) | ((with_reducible apply Lf.v_ixL); (first | exact rfl | assumption | fail); (first | exact rfl | assumption | fail)) | ((with_reducible apply Lf.v_ixT); (first | exact rfl | assumption | fail)) | ((with_reducible apply Lf.v_ixN); (first | exact rfl | assumption | fail)) | with_reducible refine ⟨_, rfl, ?_⟩ | (refine ⟨_, (rfl : Lf.tru _ (Lf.U.bl _) = some _), ?_⟩) | with_reducible refine ⟨_, _, rfl, ?_⟩ | with_reducible refine ⟨_, _, _, rfl, ?_⟩ | (refine ⟨(Nat.le_of_ble_eq_true rfl : List.length _ ≤ 16777216), ?_⟩) | with_reducible refine Lf.v_enum ?_ | with_reducible refine Lf.v_eqS0 ?_ | with_reducible refine Lf.v_neT ?_ | with_reducible refine Lf.v_ix0 ?_ | with_reducible refine Lf.v_tupleT ?_ | with_reducible refine Lf.v_listT ?_ | with_reducible refine Lf.v_revT ?_ | with_reducible refine Lf.v_dic0 ?_ | with_reducible refine Lf.v_dic1 ?_ | with_reducible refine Lf.v_mkE ?_ | with_reducible refine Lf.v_mkE0 ?_ | with_reducible refine Lf.v_fldS ?_ | with_reducible refine Lf.v_fldAug ?_ | with_reducible refine Lf.v_mkC ?_ | with_reducible refine Lf.v_mkW ?_ | with_reducible refine Lf.v_mth ?_ | with_reducible refine Lf.v_getK ?_ | with_reducible refine Lf.v_dic1K ?_ | with_reducible refine Lf.v_items ?_ | with_reducible refine Lf.v_subTD ?_ | with_reducible refine Lf.v_subTT ?_ | with_reducible refine Lf.v_enT ?_ | with_reducible refine Lf.v_enTT ?_ | ((with_reducible apply Lf.v_fld); (first | assumption | fail); (first | assumption | exact List.mem_cons_self .. | simp | fail); (first | rfl | decide +kernel | fail)) | ((with_reducible apply Lf.isl_and); (first | exact rfl | assumption | fail)) | ((with_reducible refine Lf.v_idiv ?_ ?_); exact ⟨by decide, by decide⟩) | ((with_reducible apply Lf.v_appZ); (first | exact rfl | assumption | fail); (first | omega | (simp only [List.length_append, List.length_map, List.length_cons, List.length_nil]; omega) | (simp; omega) | fail)) | ((with_reducible apply Lf.v_tupleL); (first | exact rfl | assumption | fail)) | ((with_reducible apply Lf.v_listL); (first | exact rfl | assumption | fail)) | ((with_reducible refine Lf.v_yesd ?_ ?_); (first | (with_reducible rfl) | assumption | (exact fun z => z rfl) | decide +kernel | omega | fail)) | ((with_reducible refine Lf.v_nod ?_ ?_); (first | (with_reducible rfl) | assumption | (exact fun z => z rfl) | decide +kernel | omega | fail)) | ((with_reducible refine Lf.v_yesn ?_ ?_); (first | (with_reducible rfl) | assumption | (exact fun z => z rfl) | decide +kernel | omega | fail)) | ((with_reducible refine Lf.v_non ?_ ?_); (first | (with_reducible rfl) | assumption | (exact fun z => z rfl) | decide +kernel | omega | fail)) | ((with_reducible refine Lf.kP_tup ?_ ?_); first | exact rfl | exact Lf.nrs_ints _ | assumption | fail) | ((with_reducible refine Lf.v_rg1 ?_ ?_); exact Lf.small62_of (by omega) (by omega)) | fail))
end Lf
set_option Elab.async false
set_option linter.all false
set_option maxRecDepth 100000
set_option maxHeartbeats 4000000
namespace Lf
open PySem PySem.Spec L2
theorem Pr.sub {A : U → Prop} {R : Int → Prop} {d : Nat} {l : Int} {xs ys : List U} (h : Pr A R d l xs) (hs : ∀ y ∈ ys, y ∈ xs) (hl : (ys.length : Int) ≤ l) : Pr A R d l ys :=
  Pr.mk hl fun y hy => h.item (hs y hy)
theorem rgU_at {lo : Int} {n i : Nat} {x : U} (h : (rgU lo n)[i]? = some x) : x = .int (lo + (i : Nat)) ∧ i < n := by
  unfold rgU at h
  rw [List.getElem?_map] at h
  obtain ⟨j, q, rfl⟩ := Option.map_eq_some_iff.mp h
  obtain rfl := range_at q
  exact ⟨rfl, by have := (List.getElem?_eq_some_iff.mp q).1; simpa using this⟩
end Lf
set_option Elab.async false
set_option linter.all false
set_option maxRecDepth 100000
set_option maxHeartbeats 4000000
namespace Lf
open PySem PySem.Spec L2
end Lf
set_option Elab.async false
set_option linter.all false
set_option maxRecDepth 100000
set_option maxHeartbeats 4000000
namespace Lf
open PySem PySem.Spec L2
def tbA (sc tm self : List U → M U) : FxS :=
  fSeq (fPar2 3 4 (fCons (fC (.int 0)) (fCons (fVar 1) (fNil)))) (fSeq (fFor (fIter (fVar 0)) (gNm 5) (fSeq (fSet 6 (fCall (kdG .pur 1 sc) (fCons (fTup (fCons (fVar 5) (fNil))) (fNil)))) (fIf (fBl (fBin gGe (fVar 4) (fVar 6))) (fSeq (fAug 3 gIAdd (fCall (kdG .pur 2 tm) (fCons (fTup (fCons (fVar 5) (fNil))) (fCons (fVar 2) (fNil))))) (fAug 4 gSub (fVar 6))) (fIf (fBl (fBin (gEq false) (fVar 4) (fC (.int 0)))) (fRet (fVar 3)) (fSeq (fAsg (fCall gDivmod (fCons (fVar 4) (fCons (fCall (kdG .pur 1 sc) (fCons (fBin gIx (fVar 5) (fC (.int 2))) (fNil))) (fNil)))) (gUnp 2 (gCons (gNm 7) (gCons (gNm 8) (gNil))))) (fRet (fBin gAdd (fBin gAdd (fVar 3) (fBin gMul (fVar 7) (fCall (kdG .pur 2 tm) (fCons (fBin gIx (fVar 5) (fC (.int 2))) (fCons (fVar 2) (fNil)))))) (fCall (kdG .pur 3 self) (fCons (fBin gIx (fVar 5) (fC (.int 2))) (fCons (fVar 8) (fCons (fVar 2) (fNil)))))))))))) (fRet (fVar 3)))
section
variable {sc : List U → M U} {gt g : Nat → List U → M U} {mt : Nat} (hs : sc = gDef 1 (scA (gt mt))) (ht : ∀ m, gt (m + 1) = gDef 4 (tmA (gt m))) (hg : ∀ m, g (m + 1) = gDef 9 (tbA sc (gt mt) (g m))) {ws : List Str} (hw1 : ws = [] ∨ ∃ w ∈ words7, ws = [w]) {L : Nat} (hL : L ≤ 1000) (hL1 : 1 ≤ L)
include hs ht hg hw1 hL hL1
local macro_rules | `(tactic| bv_omega) => `(tactic| repeat (first | with_reducible refine Lf.kS_nx ?_ | with_reducible refine Lf.kS_rt ?_ | with_reducible refine Lf.kS_bk ?_ | with_reducible refine Lf.kS_ct ?_ | with_reducible refine Lf.kD_rt ?_ | with_reducible refine Lf.kD_nx ?_ | with_reducible refine Lf.kF_nx ?_ | with_reducible refine Lf.kF_ct ?_ | with_reducible refine Lf.kF_bk ?_ | with_reducible refine Lf.kF_rt ?_ | with_reducible refine Lf.v_ifT ?_ | with_reducible refine Lf.v_ifF ?_ | with_reducible refine Lf.v_ifNT ?_ | with_reducible refine Lf.v_ifNF ?_ | with_reducible refine Lf.kP_int ?_ | with_reducible refine Lf.kP_bl ?_ | with_reducible refine Lf.kP_str ?_ | with_reducible refine Lf.kP_non ?_ | with_reducible refine Lf.v_iadd ?_ | with_reducible refine Lf.Wp.ok ?_ | with_reducible refine Lf.seq_wp ?_ | with_reducible refine Lf.v_bin ?_ | with_reducible refine Lf.v_cons ?_ | with_reducible refine Lf.v_call ?_ | with_reducible refine Lf.v_ret ?_ | with_reducible refine Lf.v_set ?_ | with_reducible refine Lf.v_asg ?_ | with_reducible refine Lf.v_if ?_ | with_reducible refine Lf.v_ifE ?_ | with_reducible refine Lf.v_bl ?_ | with_reducible refine Lf.v_tru ?_ | with_reducible refine Lf.v_and ?_ | with_reducible refine Lf.v_or ?_ | with_reducible refine Lf.v_not ?_ | with_reducible refine Lf.v_andV ?_ | with_reducible refine Lf.v_orV ?_ | with_reducible refine Lf.v_notV ?_ | with_reducible refine Lf.v_c ?_ | with_reducible refine Lf.v_nil ?_ | with_reducible refine Lf.v_skip ?_ | with_reducible refine Lf.v_drop ?_ | with_reducible refine Lf.v_retN ?_ | with_reducible refine Lf.v_brk ?_ | with_reducible refine Lf.v_cnt ?_ | with_reducible refine Lf.v_nm ?_ | with_reducible refine Lf.v_gnil ?_ | with_reducible refine Lf.v_gcons ?_ | with_reducible refine Lf.v_yes ?_ | with_reducible refine Lf.v_for ?_ | with_reducible refine Lf.v_lc ?_ | with_reducible refine Lf.v_rg ?_ | with_reducible refine Lf.v_iter ?_ | with_reducible refine Lf.v_iterT ?_ | with_reducible refine Lf.v_add ?_ | with_reducible refine Lf.v_sub ?_ | with_reducible refine Lf.v_neg ?_ | with_reducible refine Lf.v_lt ?_ | with_reducible refine Lf.v_le ?_ | with_reducible refine Lf.v_gt ?_ | with_reducible refine Lf.v_ge ?_ | with_reducible refine Lf.v_eqI ?_ | with_reducible refine Lf.v_neI ?_ | with_reducible refine Lf.v_abs ?_ | with_reducible refine Lf.v_intI ?_ | with_reducible refine Lf.v_intB ?_ | with_reducible refine Lf.v_max2 ?_ | with_reducible refine Lf.v_min2 ?_ | with_reducible refine Lf.v_lenT ?_ | with_reducible refine Lf.v_lenN ?_ | with_reducible refine Lf.v_nw ?_ | with_reducible refine Lf.v_un ?_ | with_reducible refine Lf.v_tup ?_ | with_reducible refine Lf.v_lst ?_ | with_reducible refine Lf.v_par2 ?_ | with_reducible refine Lf.v_par3 ?_ | with_reducible refine Lf.v_chain ?_ | with_reducible refine Lf.v_meth ?_ | with_reducible refine Lf.v_subT ?_ | with_reducible refine Lf.v_isiIB ?_ | with_reducible refine Lf.v_isiII ?_ | with_reducible refine Lf.v_sl ?_ | with_reducible refine Lf.v_noP ?_ | with_reducible refine Lf.v_pt ?_ | with_reducible refine Lf.v_cutT ?_ | ((with_reducible apply Lf.v_var); exact rfl) | ((with_reducible refine Lf.v_kw ?_ ?_); exact rfl) | ((with_reducible apply Lf.v_iterO); first | exact rfl | assumption) | ((with_reducible apply Lf.v_lenL); first | exact rfl | assumption) | ((with_reducible refine Lf.v_unp ?_ ?_); exact rfl) | ((with_reducible apply Lf.v_aug); exact rfl) | ((with_reducible refine Lf.v_mod ?_ ?_); first | decide | omega | assumption | fail) | ((with_reducible refine Lf.v_div ?_ ?_); first | exact ⟨by decide, by decide +kernel⟩ | assumption | exact Lf.log2d (by omega) ⟨by omega, by omega⟩ | fail) | ((with_reducible refine Lf.v_mul ?_ ?_); first | exact Lf.log2m ⟨by omega, by omega⟩ ⟨by omega, by omega⟩ | exact Lf.log2m (by assumption) ⟨by omega, by omega⟩ | exact Lf.log2m ⟨by omega, by omega⟩ (by assumption) | fail) | ((with_reducible refine Lf.v_pow ?_ ?_); exact ⟨by decide, by decide, by decide⟩) | ((with_reducible refine Lf.v_rg1 ?_ ?_); first | decide | fail) | ((with_reducible apply Lf.v_ixL); (first | exact rfl | assumption | fail); (first | exact rfl | assumption | fail)) | ((with_reducible apply Lf.v_ixT); (first | exact rfl | assumption | fail)) | ((with_reducible apply Lf.v_ixN); (first | exact rfl | assumption | fail)) | with_reducible refine ⟨_, rfl, ?_⟩ | (refine ⟨_, (rfl : Lf.tru _ (Lf.U.bl _) = some _), ?_⟩) | with_reducible refine ⟨_, _, rfl, ?_⟩ | with_reducible refine ⟨_, _, _, rfl, ?_⟩ | (refine ⟨(Nat.le_of_ble_eq_true rfl : List.length _ ≤ 16777216), ?_⟩) | with_reducible refine Lf.v_enum ?_ | with_reducible refine Lf.v_eqS0 ?_ | with_reducible refine Lf.v_neT ?_ | with_reducible refine Lf.v_ix0 ?_ | with_reducible refine Lf.v_tupleT ?_ | with_reducible refine Lf.v_listT ?_ | with_reducible refine Lf.v_revT ?_ | with_reducible refine Lf.v_dic0 ?_ | with_reducible refine Lf.v_dic1 ?_ | with_reducible refine Lf.v_mkE ?_ | with_reducible refine Lf.v_mkE0 ?_ | with_reducible refine Lf.v_fldS ?_ | with_reducible refine Lf.v_fldAug ?_ | with_reducible refine Lf.v_mkC ?_ | with_reducible refine Lf.v_mkW ?_ | with_reducible refine Lf.v_mth ?_ | with_reducible refine Lf.v_getK ?_ | with_reducible refine Lf.v_dic1K ?_ | with_reducible refine Lf.v_items ?_ | with_reducible refine Lf.v_subTD ?_ | with_reducible refine Lf.v_subTT ?_ | with_reducible refine Lf.v_enT ?_ | with_reducible refine Lf.v_enTT ?_ | ((with_reducible apply Lf.v_fld); (first | assumption | fail); (first | assumption | exact List.mem_cons_self .. | simp | fail); (first | rfl | decide +kernel | fail)) | ((with_reducible apply Lf.isl_and); (first | exact rfl | assumption | fail)) | ((with_reducible refine Lf.v_idiv ?_ ?_); exact ⟨by decide, by decide⟩) | ((with_reducible apply Lf.v_appZ); (first | exact rfl | assumption | fail); (first | omega | (simp only [List.length_append, List.length_map, List.length_cons, List.length_nil]; omega) | (simp; omega) | fail)) | ((with_reducible apply Lf.v_tupleL); (first | exact rfl | assumption | fail)) | ((with_reducible apply Lf.v_listL); (first | exact rfl | assumption | fail)) | ((with_reducible refine Lf.v_yesd ?_ ?_); (first | (with_reducible rfl) | assumption | (exact fun z => z rfl) | decide +kernel | omega | fail)) | ((with_reducible refine Lf.v_nod ?_ ?_); (first | (with_reducible rfl) | assumption | (exact fun z => z rfl) | decide +kernel | omega | fail)) | ((with_reducible refine Lf.v_yesn ?_ ?_); (first | (with_reducible rfl) | assumption | (exact fun z => z rfl) | decide +kernel | omega | fail)) | ((with_reducible refine Lf.v_non ?_ ?_); (first | (with_reducible rfl) | assumption | (exact fun z => z rfl) | decide +kernel | omega | fail)) | ((with_reducible refine Lf.kP_tup ?_ ?_); first | exact rfl | exact Lf.nrs_ints _ | assumption | fail) | ((with_reducible refine Lf.v_rg1 ?_ ?_); exact Lf.small62_of (by omega) (by omega)) | fail))
end
local macro_rules | `(tactic| bv_omega) => `(tactic| repeat (first | with_reducible refine Lf.kS_nx ?_ | with_reducible refine Lf.kS_rt ?_ | with_reducible refine Lf.kS_bk ?_ | with_reducible refine Lf.kS_ct ?_ | with_reducible refine Lf.kD_rt ?_ | with_reducible refine Lf.kD_nx ?_ | with_reducible refine Lf.kF_nx ?_ | with_reducible refine Lf.kF_ct ?_ | with_reducible refine Lf.kF_bk ?_ | with_reducible refine Lf.kF_rt ?_ | with_reducible refine Lf.v_ifT ?_ | with_reducible refine Lf.v_ifF ?_ | with_reducible refine Lf.v_ifNT ?_ | with_reducible refine Lf.v_ifNF ?_ | with_reducible refine Lf.kP_int ?_ | with_reducible refine Lf.kP_bl ?_ | with_reducible refine Lf.kP_str ?_ | with_reducible refine Lf.kP_non ?_ | with_reducible refine Lf.v_iadd ?_ | with_reducible refine Lf.Wp.ok ?_ | with_reducible refine Lf.seq_wp ?_ | with_reducible refine Lf.v_bin ?_ | with_reducible refine Lf.v_cons ?_ | with_reducible refine Lf.v_call ?_ | with_reducible refine Lf.v_ret ?_ | with_reducible refine Lf.v_set ?_ | with_reducible refine Lf.v_asg ?_ | with_reducible refine Lf.v_if ?_ | with_reducible refine Lf.v_ifE ?_ | with_reducible refine Lf.v_bl ?_ | with_reducible refine Lf.v_tru ?_ | with_reducible refine Lf.v_and ?_ | with_reducible refine Lf.v_or ?_ | with_reducible refine Lf.v_not ?_ | with_reducible refine Lf.v_andV ?_ | with_reducible refine Lf.v_orV ?_ | with_reducible refine Lf.v_notV ?_ | with_reducible refine Lf.v_c ?_ | with_reducible refine Lf.v_nil ?_ | with_reducible refine Lf.v_skip ?_ | with_reducible refine Lf.v_drop ?_ | with_reducible refine Lf.v_retN ?_ | with_reducible refine Lf.v_brk ?_ | with_reducible refine Lf.v_cnt ?_ | with_reducible refine Lf.v_nm ?_ | with_reducible refine Lf.v_gnil ?_ | with_reducible refine Lf.v_gcons ?_ | with_reducible refine Lf.v_yes ?_ | with_reducible refine Lf.v_for ?_ | with_reducible refine Lf.v_lc ?_ | with_reducible refine Lf.v_rg ?_ | with_reducible refine Lf.v_iter ?_ | with_reducible refine Lf.v_iterT ?_ | with_reducible refine Lf.v_add ?_ | with_reducible refine Lf.v_sub ?_ | with_reducible refine Lf.v_neg ?_ | with_reducible refine Lf.v_lt ?_ | with_reducible refine Lf.v_le ?_ | with_reducible refine Lf.v_gt ?_ | with_reducible refine Lf.v_ge ?_ | with_reducible refine Lf.v_eqI ?_ | with_reducible refine Lf.v_neI ?_ | with_reducible refine Lf.v_abs ?_ | with_reducible refine Lf.v_intI ?_ | with_reducible refine Lf.v_intB ?_ | with_reducible refine Lf.v_max2 ?_ | with_reducible refine Lf.v_min2 ?_ | with_reducible refine Lf.v_lenT ?_ | with_reducible refine Lf.v_lenN ?_ | with_reducible refine Lf.v_nw ?_ | with_reducible refine Lf.v_un ?_ | with_reducible refine Lf.v_tup ?_ | with_reducible refine Lf.v_lst ?_ | with_reducible refine Lf.v_par2 ?_ | with_reducible refine Lf.v_par3 ?_ | with_reducible refine Lf.v_chain ?_ | with_reducible refine Lf.v_meth ?_ | with_reducible refine Lf.v_subT ?_ | with_reducible refine Lf.v_isiIB ?_ | with_reducible refine Lf.v_isiII ?_ | with_reducible refine Lf.v_sl ?_ | with_reducible refine Lf.v_noP ?_ | with_reducible refine Lf.v_pt ?_ | with_reducible refine Lf.v_cutT ?_ | ((with_reducible apply Lf.v_var); exact rfl) | ((with_reducible refine Lf.v_kw ?_ ?_); exact rfl) | ((with_reducible apply Lf.v_iterO); first | exact rfl | assumption) | ((with_reducible apply Lf.v_lenL); first | exact rfl | assumption) | ((with_reducible refine Lf.v_unp ?_ ?_); exact rfl) | ((with_reducible apply Lf.v_aug); exact rfl) | ((with_reducible refine Lf.v_mod ?_ ?_); first | decide | omega | assumption | fail) | ((with_reducible refine Lf.v_div ?_ ?_); first | exact ⟨by decide, by decide +kernel⟩ | assumption | exact Lf.log2d (by omega) ⟨by omega, by omega⟩ | fail) | ((with_reducible refine Lf.v_mul ?_ ?_); first | exact Lf.log2m ⟨by omega, by omega⟩ ⟨by omega, by omega⟩ | exact Lf.log2m (by assumption) ⟨by omega, by omega⟩ | exact Lf.log2m ⟨by omega, by omega⟩ (by assumption) | fail) | ((with_reducible refine Lf.v_pow ?_ ?_); exact ⟨by decide, by decide, by decide⟩) | ((with_reducible refine Lf.v_rg1 ?_ ?_); first | decide | fail) | ((with_reducible apply Lf.v_ixL); (first | exact rfl | assumption | fail); (first | exact rfl | assumption | fail)) | ((with_reducible apply Lf.v_ixT); (first | exact rfl | assumption | fail)) | ((with_reducible apply Lf.v_ixN); (first | exact rfl | assumption | fail)) | with_reducible refine ⟨_, rfl, ?_⟩ | (refine ⟨_, (rfl : Lf.tru _ (Lf.U.bl _) = some _), ?_⟩) | with_reducible refine ⟨_, _, rfl, ?_⟩ | with_reducible refine ⟨_, _, _, rfl, ?_⟩ | (refine ⟨(Nat.le_of_ble_eq_true rfl : List.length _ ≤ 16777216), ?_⟩) | with_reducible refine Lf.v_enum ?_ | with_reducible refine Lf.v_eqS0 ?_ | with_reducible refine Lf.v_neT ?_ | with_reducible refine Lf.v_ix0 ?_ | with_reducible refine Lf.v_tupleT ?_ | with_reducible refine Lf.v_listT ?_ | with_reducible refine Lf.v_revT ?_ | with_reducible refine Lf.v_dic0 ?_ | with_reducible refine Lf.v_dic1 ?_ | with_reducible refine Lf.v_mkE ?_ | with_reducible refine Lf.v_mkE0 ?_ | with_reducible refine Lf.v_fldS ?_ | with_reducible refine Lf.v_fldAug ?_ | with_reducible refine Lf.v_mkC ?_ | with_reducible refine Lf.v_mkW ?_ | with_reducible refine Lf.v_mth ?_ | with_reducible refine Lf.v_getK ?_ | with_reducible refine Lf.v_dic1K ?_ | with_reducible refine Lf.v_items ?_ | with_reducible refine Lf.v_subTD ?_ | with_reducible refine Lf.v_subTT ?_ | with_reducible refine Lf.v_enT ?_ | with_reducible refine Lf.v_enTT ?_ | ((with_reducible apply Lf.v_fld); (first | assumption | fail); (first | assumption | exact List.mem_cons_self .. | simp | fail); (first | rfl | decide +kernel | fail)) | ((with_reducible apply Lf.isl_and); (first | exact rfl | assumption | fail)) | ((with_reducible refine Lf.v_idiv ?_ ?_); exact ⟨by decide, by decide⟩) | ((with_reducible apply Lf.v_appZ); (first | exact rfl | assumption | fail); (first | omega | (simp only [List.length_append, List.length_map, List.length_cons, List.length_nil]; omega) | (simp; omega) | fail)) | ((with_reducible apply Lf.v_tupleL); (first | exact rfl | assumption | fail)) | ((with_reducible apply Lf.v_listL); (first | exact rfl | assumption | fail)) | ((with_reducible refine Lf.v_yesd ?_ ?_); (first | (with_reducible rfl) | assumption | (exact fun z => z rfl) | decide +kernel | omega | fail)) | ((with_reducible refine Lf.v_nod ?_ ?_); (first | (with_reducible rfl) | assumption | (exact fun z => z rfl) | decide +kernel | omega | fail)) | ((with_reducible refine Lf.v_yesn ?_ ?_); (first | (with_reducible rfl) | assumption | (exact fun z => z rfl) | decide +kernel | omega | fail)) | ((with_reducible refine Lf.v_non ?_ ?_); (first | (with_reducible rfl) | assumption | (exact fun z => z rfl) | decide +kernel | omega | fail)) | ((with_reducible refine Lf.kP_tup ?_ ?_); first | exact rfl | exact Lf.nrs_ints _ | assumption | fail) | ((with_reducible refine Lf.v_rg1 ?_ ?_); exact Lf.small62_of (by omega) (by omega)) | fail))
end Lf
set_option Elab.async false
set_option linter.all false
set_option maxRecDepth 100000
set_option maxHeartbeats 4000000
namespace PySem
end PySem
namespace Lf
open PySem PySem.Spec L2
end Lf
set_option Elab.async false
set_option linter.all false
set_option maxRecDepth 100000
set_option maxHeartbeats 4000000
namespace Lf
open PySem PySem.Spec L2
theorem InP.hd {p : Int} {ins : List Int} (hp : 2 ≤ p) (h : InP p ins) : 0 ≤ ins.headD 0 ∧ ins.headD 0 < p := by
  cases ins with
  | nil => exact ⟨by decide, by show (0 : Int) < p; omega⟩
  | cons i ins => exact h i (List.mem_cons_self ..)
local macro_rules | `(tactic| rfl') => `(tactic| repeat (first | with_reducible refine Lf.kS_nx ?_ | with_reducible refine Lf.kS_rt ?_ | with_reducible refine Lf.kS_bk ?_ | with_reducible refine Lf.kS_ct ?_ | with_reducible refine Lf.kD_rt ?_ | with_reducible refine Lf.kD_nx ?_ | with_reducible refine Lf.kF_nx ?_ | with_reducible refine Lf.kF_ct ?_ | with_reducible refine Lf.kF_bk ?_ | with_reducible refine Lf.kF_rt ?_ | with_reducible refine Lf.v_ifT ?_ | with_reducible refine Lf.v_ifF ?_ | with_reducible refine Lf.v_ifNT ?_ | with_reducible refine Lf.v_ifNF ?_ | with_reducible refine Lf.kP_int ?_ | with_reducible refine Lf.kP_bl ?_ | with_reducible refine Lf.kP_str ?_ | with_reducible refine Lf.kP_non ?_ | with_reducible refine Lf.v_iadd ?_ | with_reducible refine Lf.Wp.ok ?_ | with_reducible refine Lf.seq_wp ?_ | with_reducible refine Lf.v_bin ?_ | with_reducible refine Lf.v_cons ?_ | with_reducible refine Lf.v_call ?_ | with_reducible refine Lf.v_ret ?_ | with_reducible refine Lf.v_set ?_ | with_reducible refine Lf.v_asg ?_ | with_reducible refine Lf.v_if ?_ | with_reducible refine Lf.v_ifE ?_ | with_reducible refine Lf.v_bl ?_ | with_reducible refine Lf.v_tru ?_ | with_reducible refine Lf.v_and ?_ | with_reducible refine Lf.v_or ?_ | with_reducible refine Lf.v_not ?_ | with_reducible refine Lf.v_andV ?_ | with_reducible refine Lf.v_orV ?_ | with_reducible refine Lf.v_notV ?_ | with_reducible refine Lf.v_c ?_ | with_reducible refine Lf.v_nil ?_ | with_reducible refine Lf.v_skip ?_ | with_reducible refine Lf.v_drop ?_ | with_reducible refine Lf.v_retN ?_ | with_reducible refine Lf.v_brk ?_ | with_reducible refine Lf.v_cnt ?_ | with_reducible refine Lf.v_nm ?_ | with_reducible refine Lf.v_gnil ?_ | with_reducible refine Lf.v_gcons ?_ | with_reducible refine Lf.v_yes ?_ | with_reducible refine Lf.v_for ?_ | with_reducible refine Lf.v_lc ?_ | with_reducible refine Lf.v_rg ?_ | with_reducible refine Lf.v_iter ?_ | with_reducible refine Lf.v_iterT ?_ | with_reducible refine Lf.v_add ?_ | with_reducible refine Lf.v_sub ?_ | with_reducible refine Lf.v_neg ?_ | with_reducible refine Lf.v_lt ?_ | with_reducible refine Lf.v_le ?_ | with_reducible refine Lf.v_gt ?_ | with_reducible refine Lf.v_ge ?_ | with_reducible refine Lf.v_eqI ?_ | with_reducible refine Lf.v_neI ?_ | with_reducible refine Lf.v_abs ?_ | with_reducible refine Lf.v_intI ?_ | with_reducible refine Lf.v_intB ?_ | with_reducible refine Lf.v_max2 ?_ | with_reducible refine Lf.v_min2 ?_ | with_reducible refine Lf.v_lenT ?_ | with_reducible refine Lf.v_lenN ?_ | with_reducible refine Lf.v_nw ?_ | with_reducible refine Lf.v_un ?_ | with_reducible refine Lf.v_tup ?_ | with_reducible refine Lf.v_lst ?_ | with_reducible refine Lf.v_par2 ?_ | with_reducible refine Lf.v_par3 ?_ | with_reducible refine Lf.v_chain ?_ | with_reducible refine Lf.v_meth ?_ | with_reducible refine Lf.v_subT ?_ | with_reducible refine Lf.v_isiIB ?_ | with_reducible refine Lf.v_isiII ?_ | with_reducible refine Lf.v_sl ?_ | with_reducible refine Lf.v_noP ?_ | with_reducible refine Lf.v_pt ?_ | with_reducible refine Lf.v_cutT ?_ | ((with_reducible apply Lf.v_var); exact rfl) | ((with_reducible refine Lf.v_kw ?_ ?_); exact rfl) | ((with_reducible apply Lf.v_iterO); first | exact rfl | assumption) | ((with_reducible apply Lf.v_lenL); first | exact rfl | assumption) | ((with_reducible refine Lf.v_unp ?_ ?_); exact rfl) | ((with_reducible apply Lf.v_aug); exact rfl) | ((with_reducible refine Lf.v_mod ?_ ?_); first | decide | omega | assumption | fail) | ((with_reducible refine Lf.v_div ?_ ?_); first | exact ⟨by decide, by decide +kernel⟩ | assumption | exact Lf.log2d (by omega) ⟨by omega, by omega⟩ | fail) | ((with_reducible refine Lf.v_mul ?_ ?_); first | exact Lf.log2m ⟨by omega, by omega⟩ ⟨by omega, by omega⟩ | exact Lf.log2m (by assumption) ⟨by omega, by omega⟩ | exact Lf.log2m ⟨by omega, by omega⟩ (by assumption) | fail) | ((with_reducible refine Lf.v_pow ?_ ?_); exact ⟨by decide, by decide, by decide⟩) | ((with_reducible refine Lf.v_rg1 ?_ ?_); first | decide | fail) | ((with_reducible apply Lf.v_ixL); (first | exact rfl | assumption | fail); (first | exact rfl | assumption | fail)) | ((with_reducible apply Lf.v_ixT); (first | exact rfl | assumption | fail)) | ((with_reducible apply Lf.v_ixN); (first | exact rfl | assumption | fail)) | with_reducible refine ⟨_, rfl, ?_⟩ | (refine ⟨_, (rfl : Lf.tru _ (Lf.U.bl _) = some _), ?_⟩) | with_reducible refine ⟨_, _, rfl, ?_⟩ | with_reducible refine ⟨_, _, _, rfl, ?_⟩ | (refine ⟨(Nat.le_of_ble_eq_true rfl : List.length _ ≤ 16777216), ?_⟩) | with_reducible refine Lf.v_enum ?_ | fail))
local macro_rules | `(tactic| bv_omega) => `(tactic| repeat (first | with_reducible refine Lf.kS_nx ?_ | with_reducible refine Lf.kS_rt ?_ | with_reducible refine Lf.kS_bk ?_ | with_reducible refine Lf.kS_ct ?_ | with_reducible refine Lf.kD_rt ?_ | with_reducible refine Lf.kD_nx ?_ | with_reducible refine Lf.kF_nx ?_ | with_reducible refine Lf.kF_ct ?_ | with_reducible refine Lf.kF_bk ?_ | with_reducible refine Lf.kF_rt ?_ | with_reducible refine Lf.v_ifT ?_ | with_reducible refine Lf.v_ifF ?_ | with_reducible refine Lf.v_ifNT ?_ | with_reducible refine Lf.v_ifNF ?_ | with_reducible refine Lf.kP_int ?_ | with_reducible refine Lf.kP_bl ?_ | with_reducible refine Lf.kP_str ?_ | with_reducible refine Lf.kP_non ?_ | with_reducible refine Lf.v_iadd ?_ | with_reducible refine Lf.Wp.ok ?_ | with_reducible refine Lf.seq_wp ?_ | with_reducible refine Lf.v_bin ?_ | with_reducible refine Lf.v_cons ?_ | with_reducible refine Lf.v_call ?_ | with_reducible refine Lf.v_ret ?_ | with_reducible refine Lf.v_set ?_ | with_reducible refine Lf.v_asg ?_ | with_reducible refine Lf.v_if ?_ | with_reducible refine Lf.v_ifE ?_ | with_reducible refine Lf.v_bl ?_ | with_reducible refine Lf.v_tru ?_ | with_reducible refine Lf.v_and ?_ | with_reducible refine Lf.v_or ?_ | with_reducible refine Lf.v_not ?_ | with_reducible refine Lf.v_andV ?_ | with_reducible refine Lf.v_orV ?_ | with_reducible refine Lf.v_notV ?_ | with_reducible refine Lf.v_c ?_ | with_reducible refine Lf.v_nil ?_ | with_reducible refine Lf.v_skip ?_ | with_reducible refine Lf.v_drop ?_ | with_reducible refine Lf.v_retN ?_ | with_reducible refine Lf.v_brk ?_ | with_reducible refine Lf.v_cnt ?_ | with_reducible refine Lf.v_nm ?_ | with_reducible refine Lf.v_gnil ?_ | with_reducible refine Lf.v_gcons ?_ | with_reducible refine Lf.v_yes ?_ | with_reducible refine Lf.v_for ?_ | with_reducible refine Lf.v_lc ?_ | with_reducible refine Lf.v_rg ?_ | with_reducible refine Lf.v_iter ?_ | with_reducible refine Lf.v_iterT ?_ | with_reducible refine Lf.v_add ?_ | with_reducible refine Lf.v_sub ?_ | with_reducible refine Lf.v_neg ?_ | with_reducible refine Lf.v_lt ?_ | with_reducible refine Lf.v_le ?_ | with_reducible refine Lf.v_gt ?_ | with_reducible refine Lf.v_ge ?_ | with_reducible refine Lf.v_eqI ?_ | with_reducible refine Lf.v_neI ?_ | with_reducible refine Lf.v_abs ?_ | with_reducible refine Lf.v_intI ?_ | with_reducible refine Lf.v_intB ?_ | with_reducible refine Lf.v_max2 ?_ | with_reducible refine Lf.v_min2 ?_ | with_reducible refine Lf.v_lenT ?_ | with_reducible refine Lf.v_lenN ?_ | with_reducible refine Lf.v_nw ?_ | with_reducible refine Lf.v_un ?_ | with_reducible refine Lf.v_tup ?_ | with_reducible refine Lf.v_lst ?_ | with_reducible refine Lf.v_par2 ?_ | with_reducible refine Lf.v_par3 ?_ | with_reducible refine Lf.v_chain ?_ | with_reducible refine Lf.v_meth ?_ | with_reducible refine Lf.v_subT ?_ | with_reducible refine Lf.v_isiIB ?_ | with_reducible refine Lf.v_isiII ?_ | with_reducible refine Lf.v_sl ?_ | with_reducible refine Lf.v_noP ?_ | with_reducible refine Lf.v_pt ?_ | with_reducible refine Lf.v_cutT ?_ | ((with_reducible apply Lf.v_var); exact rfl) | ((with_reducible refine Lf.v_kw ?_ ?_); exact rfl) | ((with_reducible apply Lf.v_iterO); first | exact rfl | assumption) | ((with_reducible apply Lf.v_lenL); first | exact rfl | assumption) | ((with_reducible refine Lf.v_unp ?_ ?_); exact rfl) | ((with_reducible apply Lf.v_aug); exact rfl) | ((with_reducible refine Lf.v_mod ?_ ?_); first | decide | omega | assumption | fail) | ((with_reducible refine Lf.v_div ?_ ?_); first | exact ⟨by decide, by decide +kernel⟩ | assumption | exact Lf.log2d (by omega) ⟨by omega, by omega⟩ | fail) | ((with_reducible refine Lf.v_mul ?_ ?_); first | exact Lf.log2m ⟨by omega, by omega⟩ ⟨by omega, by omega⟩ | exact Lf.log2m (by assumption) ⟨by omega, by omega⟩ | exact Lf.log2m ⟨by omega, by omega⟩ (by assumption) | fail) | ((with_reducible refine Lf.v_pow ?_ ?_); exact ⟨by decide, by decide, by decide⟩) | ((with_reducible refine Lf.v_rg1 ?_ ?_); first | decide | fail) | ((with_reducible apply Lf.v_ixL); (first | exact rfl | assumption | fail); (first | exact rfl | assumption | fail)) | ((with_reducible apply Lf.v_ixT); (first | exact rfl | assumption | fail)) | ((with_reducible apply Lf.v_ixN); (first | exact rfl | assumption | fail)) | with_reducible refine ⟨_, rfl, ?_⟩ | (refine ⟨_, (rfl : Lf.tru _ (Lf.U.bl _) = some _), ?_⟩) | with_reducible refine ⟨_, _, rfl, ?_⟩ | with_reducible refine ⟨_, _, _, rfl, ?_⟩ | (refine ⟨(Nat.le_of_ble_eq_true rfl : List.length _ ≤ 16777216), ?_⟩) | with_reducible refine Lf.v_enum ?_ | with_reducible refine Lf.v_eqS0 ?_ | with_reducible refine Lf.v_neT ?_ | with_reducible refine Lf.v_ix0 ?_ | with_reducible refine Lf.v_tupleT ?_ | with_reducible refine Lf.v_listT ?_ | with_reducible refine Lf.v_revT ?_ | with_reducible refine Lf.v_dic0 ?_ | with_reducible refine Lf.v_dic1 ?_ | with_reducible refine Lf.v_mkE ?_ | with_reducible refine Lf.v_mkE0 ?_ | with_reducible refine Lf.v_fldS ?_ | with_reducible refine Lf.v_fldAug ?_ | with_reducible refine Lf.v_mkC ?_ | with_reducible refine Lf.v_mkW ?_ | with_reducible refine Lf.v_mth ?_ | with_reducible refine Lf.v_getK ?_ | with_reducible refine Lf.v_dic1K ?_ | with_reducible refine Lf.v_items ?_ | with_reducible refine Lf.v_subTD ?_ | with_reducible refine Lf.v_subTT ?_ | with_reducible refine Lf.v_enT ?_ | with_reducible refine Lf.v_enTT ?_ | ((with_reducible apply Lf.v_fld); (first | assumption | fail); (first | assumption | exact List.mem_cons_self .. | simp | fail); (first | rfl | decide +kernel | fail)) | ((with_reducible apply Lf.isl_and); (first | exact rfl | assumption | fail)) | ((with_reducible refine Lf.v_idiv ?_ ?_); exact ⟨by decide, by decide⟩) | ((with_reducible apply Lf.v_appZ); (first | exact rfl | assumption | fail); (first | omega | (simp only [List.length_append, List.length_map, List.length_cons, List.length_nil]; omega) | (simp; omega) | fail)) | ((with_reducible apply Lf.v_tupleL); (first | exact rfl | assumption | fail)) | ((with_reducible apply Lf.v_listL); (first | exact rfl | assumption | fail)) | ((with_reducible refine Lf.v_yesd ?_ ?_); (first | (with_reducible rfl) | assumption | (exact fun z => z rfl) | decide +kernel | omega | fail)) | ((with_reducible refine Lf.v_nod ?_ ?_); (first | (with_reducible rfl) | assumption | (exact fun z => z rfl) | decide +kernel | omega | fail)) | ((with_reducible refine Lf.v_yesn ?_ ?_); (first | (with_reducible rfl) | assumption | (exact fun z => z rfl) | decide +kernel | omega | fail)) | ((with_reducible refine Lf.v_non ?_ ?_); (first | (with_reducible rfl) | assumption | (exact fun z => z rfl) | decide +kernel | omega | fail)) | ((with_reducible refine Lf.kP_tup ?_ ?_); first | exact rfl | exact Lf.nrs_ints _ | assumption | fail) | ((with_reducible refine Lf.v_rg1 ?_ ?_); exact Lf.small62_of (by omega) (by omega)) | fail))
end Lf
set_option Elab.async false
set_option linter.all false
set_option maxRecDepth 100000
set_option maxHeartbeats 4000000
namespace Lf
open PySem PySem.Spec L2
end Lf
set_option Elab.async false
set_option linter.all false
set_option maxRecDepth 100000
set_option maxHeartbeats 4000000
namespace Lf
open PySem PySem.Spec L2
end Lf
set_option Elab.async false
set_option linter.all false
set_option maxRecDepth 100000
set_option maxHeartbeats 4000000
namespace Lf
open PySem PySem.Spec L2
def SqB (b : Bool) (K : PySem.W.Frag) (H : Hp) (a : Addr) (xs : List V) : Prop := match b with
  | true => SqL K H a xs
  | false => SqT K H a xs
def ItB (b : Bool) (h : Heap) (it l : Addr) (i : Nat) : Prop := match b with
  | true => h.IsListIter it l i
  | false => h.IsTupleIter it l i
def HqB (b : Bool) (h : Heap) (l : Addr) (vs : Array Value) : Prop := match b with
  | true => h.IsList l vs
  | false => h.IsTuple l vs
def obB (b : Bool) (l : Addr) : Obj := { cls := .type (if b then "list_iterator" else "tuple_iterator"), data := .fields #[.ref l, .int 0 0] }
theorem vals_cons {x : V} {xs : List V} {us : List Value} (r : Vals (x :: xs) us) : ∃ w ws, us = w :: ws ∧ RelV x w ∧ Vals xs ws := by
  cases r with
  | cons r rr => exact ⟨_, _, rfl, r, rr⟩
theorem vals_nil {us : List Value} (r : Vals [] us) : us = [] := by
  cases r
  rfl
theorem drawsB {prog : Program} {w : World} {A : Around} (b : Bool) (hh : A.handled = none) (it l : Addr) (hne : l ≠ it) (items : Array Value) :
    Draws prog w A it [it, l] items.size (fun i v => items[i]? = some v) (fun i h => ItB b h it l i ∧ HqB b h l items) := by
  cases b
  · exact Draws.tuple hh it l hne items
  · exact Draws.list hh it l hne items
theorem beginsB (b : Bool) (l : Addr) (items : Array Value) : Begins (.ref l) (obB b l) fun h => HqB b h l items := by
  cases b
  · exact begins_tuple l items
  · exact begins_list l items
theorem ItB.at {b : Bool} {h h' : Heap} {it l : Addr} {i : Nat} (x : ItB b h it l i) (k : ∀ o, h.get? it = some o → h'.get? it = some o) : ItB b h' it l i := by
  cases b
  · exact Heap.IsTupleIter.at x k
  · exact Heap.IsListIter.at x k
theorem ItB.obj {b : Bool} {h : Heap} {it l : Addr} {i : Nat} (x : ItB b h it l i) : ∃ o, h.get? it = some o ∧ ∀ v, o.data ≠ .cell v := by
  cases b
  · obtain ⟨o, e, _, d⟩ := x
    exact ⟨o, e, fun v q => by rw [d] at q; cases q⟩
  · obtain ⟨o, e, _, d⟩ := x
    exact ⟨o, e, fun v q => by rw [d] at q; cases q⟩
theorem ItB.new (b : Bool) {h : Heap} {it l : Addr} (e : h.get? it = some (obB b l)) : ItB b h it l 0 := by
  cases b
  · exact ⟨_, e, rfl, rfl⟩
  · exact ⟨_, e, rfl, rfl⟩
theorem sqB {X : Cx} {pins : List (Addr × Obj)} {σ : L2.St} {H : Hp} {s : Shared} {b : Bool} {a : Addr} {xs : List V} (I : Inv X pins σ H s) (h : SqB b X.K H a xs) :
    ∃ its : List Value, Vals xs its ∧ HqB b s.heap a its.toArray ∧ a < s.heap.objs.size := by
  cases b
  · obtain ⟨its, rv, p, _⟩ := I.tuple h
    refine ⟨its, rv, p, ?_⟩
    obtain ⟨o, e, _⟩ := id p
    exact Heap.lt_size e
  · obtain ⟨its, rv, p, _⟩ := I.list h
    exact ⟨its, rv, p.isList, p.lt⟩
theorem sqB_inj {X : Cx} {pins : List (Addr × Obj)} {σ : L2.St} {H : Hp} {s : Shared} {b : Bool} {a : Addr} {xs ys : List V} (I : Inv X pins σ H s) (h : SqB b X.K H a xs) (h2 : SqB b X.K H a ys) : xs = ys := by
  cases b
  · exact I.tuple_inj h h2
  · exact I.list_inj h h2
theorem sep2 (I l1 l2 : Nat) (h1 : l1 < I) (h2 : l2 < I) : ZipSep2 (I+4) (I+2) (I+3) I (I+1) [I,l1] [I+1,l2] := by
  constructor
  all_goals first
    | exact List.mem_cons_self ..
    | (intro h; have h : (_ : Nat) = _ := h; omega)
    | (intro h; rcases List.mem_cons.mp h with h | h
       · have h : (_ : Nat) = _ := h
         omega
       · have h : (_ : Nat) = _ := List.mem_singleton.mp h
         omega)
def sqAt (u : U) (n : Nat) (T : Sto) : Option (List U) := match u with
  | .tup xs => if xs.length = n then some xs else none
  | .ob k => lstAt T k n
  | _ => none
def sqK : U → Bool
  | .ob _ => true
  | _ => false
def sqN (u : U) (T : Sto) : Option Nat := match u with
  | .tup xs => some xs.length
  | .ob k => match T[k]? with
    | some (.lst xs) => some xs.length
    | _ => none
  | _ => none
theorem sqAt_ok {K : PySem.W.Frag} {ρ : List Addr} {H : Hp} {T : Sto} {u : U} {n : Nat} {xs : List U} {v : V} (s : RS K ρ H T) (r : RV K ρ H u v) (e : sqAt u n T = some xs) : ∃ a vs, v = .ref a ∧ SqB (sqK u) K H a vs ∧ RVs K ρ H xs vs ∧ xs.length = n := by
  cases r with
  | tup q rs =>
    rename_i us a vs
    unfold sqAt at e
    simp only at e
    split at e
    · rename_i hl
      cases e
      exact ⟨_, _, rfl, q, rs, hl⟩
    · cases e
  | @ob k a ea =>
    obtain ⟨h1, h2⟩ := lstAt_some (show lstAt T k n = some xs from e)
    obtain ⟨b, p, vs, f1, rs⟩ := s.get h1
    rw [ea] at p
    cases p
    exact ⟨_, vs, rfl, SqL.of f1, rs, h2⟩
  | _ => cases e
theorem sqN_ok {u : U} {T : Sto} {n : Nat} (e : sqN u T = some n) : ∃ xs, sqAt u n T = some xs := by
  unfold sqN at e
  split at e
  · rename_i xs
    cases e
    exact ⟨xs, by unfold sqAt; simp only [if_true]⟩
  · split at e
    · rename_i k xs h
      cases e
      exact ⟨xs, by unfold sqAt lstAt; simp only [h, if_true]⟩
    · cases e
  · cases e
def Itz2 (K : PySem.W.Frag) (b1 b2 : Bool) (l1 l2 : Addr) : It :=
  ⟨fun i H => ∃ (xs1 xs2 : List V) (x1 x2 : V), SqB b1 K H l1 xs1 ∧ SqB b2 K H l2 xs2 ∧ xs1[i]? = some x1 ∧ xs2[i]? = some x2,
    fun i H v H' => ∃ (T : Addr) (x1 x2 : V), v = .ref T ∧ H T = none ∧ H' = upd H T (.tup [x1, x2]) ∧ (∀ xs, SqB b1 K H l1 xs → xs[i]? = some x1) ∧ (∀ xs, SqB b2 K H l2 xs → xs[i]? = some x2),
    fun i H => ∃ (xs1 xs2 : List V), SqB b1 K H l1 xs1 ∧ SqB b2 K H l2 xs2 ∧ i ≤ xs1.length ∧ i ≤ xs2.length ∧ (i = xs1.length ∨ i = xs2.length)⟩
theorem turnZ2 {P : Program} {w : World} {K : PySem.W.Frag} {elts : List Expr} {kk : Nat} {tpos : Pos} {b1 b2 : Bool} {z TI TO i1 i2 l1 l2 : Addr} (D : ZipSep2 z TI TO i1 i2 [i1, l1] [i2, l2]) (n1 : l1 ≠ i1) (n2 : l2 ≠ i2) :
    Turn P w K (.Tuple elts kk tpos) (Itz2 K b1 b2 l1 l2) [z, TI, TO, i1, i2] z (fun i h => IsZip h z TI TO .none ∧ IsTupOf2 h TI (.ref i1) (.ref i2) ∧ (∃ a1 a2, IsTupOf2 h TO a1 a2) ∧ ItB b1 h i1 l1 i ∧ ItB b2 h i2 l2 i) where
  mem := by simp
  obj := fun i h st c hc => by
    obtain ⟨hz, hTI, ⟨y1, y2, hTO⟩, h1, h2⟩ := st
    have e' : c = z ∨ c = TI ∨ c = TO ∨ c = i1 ∨ c = i2 := by simpa using hc
    rcases e' with q | q | q | q | q
    · rw [q]; exact ⟨_, hz, fun v q => nomatch q⟩
    · rw [q]; exact ⟨_, hTI, fun v q => nomatch q⟩
    · rw [q]; exact ⟨_, hTO, fun v q => nomatch q⟩
    · rw [q]; exact h1.obj
    · rw [q]; exact h2.obj
  keep := fun i h h' st k => by
    obtain ⟨hz, hTI, ⟨y1, y2, hTO⟩, h1, h2⟩ := st
    exact ⟨k z (by simp) _ hz, k TI (by simp) _ hTI, ⟨y1, y2, k TO (by simp) _ hTO⟩, h1.at fun o q => k i1 (by simp) o q, h2.at fun o q => k i2 (by simp) o q⟩
  item := by
    intro X hP hw hK hc i pins s σ H E I hf st hg
    subst hP hw hK
    obtain ⟨hz, hTI, ⟨y1, y2, hTO⟩, h1, h2⟩ := st
    obtain ⟨xs1, xs2, x1, x2, q1, q2, e1, e2⟩ := hg
    obtain ⟨its1, rv1, p1, _⟩ := sqB I q1
    obtain ⟨u1, hu1, ru1⟩ := rv1.get e1
    have hl1 : i < its1.toArray.size := by have := (List.getElem?_eq_some_iff.mp hu1).1; simpa using this
    obtain ⟨its2, rv2, p2, _⟩ := sqB I q2
    obtain ⟨u2, hu2, ru2⟩ := rv2.get e2
    have hl2 : i < its2.toArray.size := by have := (List.getElem?_eq_some_iff.mp hu2).1; simpa using this
    have hzl : z < s.heap.objs.size := Heap.lt_size hz
    have D1 := drawsB (prog := X.prog) (w := X.w) (A := X.A.in1) b1 (I.ok.hd hc) i1 l1 n1 its1.toArray
    have D2 := drawsB (prog := X.prog) (w := X.w) (A := X.A.in1) b2 (I.ok.hd hc) i2 l2 n2 its2.toArray
    refine wpAny_pyNext_zipD2_item D D1 D2 hz hTI hTO ⟨h1, p1⟩ ⟨h2, p2⟩ hl1 hl2 fun w1 w2 h' tk f1 f2 z' TO' g1 g2 hT hsz hk => ?_
    have ew1 : w1 = u1 := by
      have : its1.toArray[i]? = some w1 := f1
      rw [List.getElem?_toArray, hu1] at this
      exact (Option.some.inj this).symm
    subst ew1
    have ew2 : w2 = u2 := by
      have : its2.toArray[i]? = some w2 := f2
      rw [List.getElem?_toArray, hu2] at this
      exact (Option.some.inj this).symm
    subst ew2
    refine ⟨_, rfl, wpAny_letOwnedTupleGo_zip (s := { s with heap := h', toks := tk }) z' fun h'' z'' sb => ?_⟩
    have hT2 : h''.get? s.heap.objs.size = some { cls := .type "tuple", data := .seq #[w1, w2] } := (sb.2 _ (Nat.ne_of_gt hzl)).trans hT
    have new : ObjOk X.prog X.w (upd H s.heap.objs.size (.tup [x1, x2])) h'' s.heap.objs.size (.tup [x1, x2]) :=
      ⟨by show 2 ≤ sizeLine; decide, [w1, w2], (.cons ru1 (.cons ru2 .nil)), ⟨_, hT2, rfl, _, rfl⟩⟩
    have I1 : Inv X pins σ (upd H s.heap.objs.size (.tup [x1, x2])) { s with heap := h'', toks := tk } :=
      I.turnedNew (t' := tk) (ch := [z, TI, TO, i1, i2]) (fun c o hb q => (sb.2 c (fun q' => hb (by simp [q']))).trans (hk c o (fun q' => hb (by simp [q'])) (fun q' => hb (by simp [q'])) (fun q' => hb (by simp [q'])) (fun q' => hb (by simp [q'])) q)) hf (Nat.le_refl _) new
    refine ⟨.ref s.heap.objs.size, _, I1, rfl, ⟨_, x1, x2, rfl, I.hok.fresh (Nat.le_refl _), rfl, fun l hl => by rw [sqB_inj I hl q1]; exact e1, fun l hl => by rw [sqB_inj I hl q2]; exact e2⟩, ⟨z'', ?_, ⟨w1, w2, ?_⟩, ?_, ?_⟩, fun c hcm => ?_⟩
    · exact (sb.2 _ D.TIz).trans (hk _ _ D.TIz D.TITO D.TIi1 D.TIi2 hTI)
    · exact (sb.2 _ D.TOz).trans TO'
    · exact g1.1.at fun o q => (sb.2 _ (D.zi1).symm).trans q
    · exact g2.1.at fun o q => (sb.2 _ (D.zi2).symm).trans q
    · have hlt : c < s.heap.objs.size := by
        have e' : c = z ∨ c = TI ∨ c = TO ∨ c = i1 ∨ c = i2 := by simpa using hcm
        rcases e' with q | q | q | q | q
        · rw [q]; exact hzl
        · rw [q]; exact Heap.lt_size hTI
        · rw [q]; exact Heap.lt_size hTO
        · rw [q]; obtain ⟨_, e1, _⟩ := h1.obj; exact Heap.lt_size e1
        · rw [q]; obtain ⟨_, e1, _⟩ := h2.obj; exact Heap.lt_size e1
      rw [upd_ne (Nat.ne_of_lt hlt)]
      exact (hf c hcm).1
  done := by
    intro X hP hw hK hc i pins s σ H E I hf st hg
    subst hP hw hK
    obtain ⟨hz, hTI, ⟨y1, y2, hTO⟩, h1, h2⟩ := st
    obtain ⟨xs1, xs2, q1, q2, e1, e2, hend⟩ := hg
    obtain ⟨its1, rv1, p1, _⟩ := sqB I q1
    have hl1 : xs1.length = its1.toArray.size := by rw [List.size_toArray]; exact rv1.length
    have D1 := drawsB (prog := X.prog) (w := X.w) (A := X.A.in1) b1 (I.ok.hd hc) i1 l1 n1 its1.toArray
    obtain ⟨its2, rv2, p2, _⟩ := sqB I q2
    have hl2 : xs2.length = its2.toArray.size := by rw [List.size_toArray]; exact rv2.length
    have D2 := drawsB (prog := X.prog) (w := X.w) (A := X.A.in1) b2 (I.ok.hd hc) i2 l2 n2 its2.toArray
    refine wpAny_pyNext_zipD2_end D D1 D2 hz hTI hTO ⟨h1, p1⟩ ⟨h2, p2⟩ (by omega) (by omega) (by omega) fun h' tk hk => ⟨rfl, I.turnedL (t' := tk) (ch := [z, TI, TO, i1, i2]) (fun c o hb q => hk c o (fun q' => hb (by simp [q'])) (fun q' => hb (by simp [q'])) (fun q' => hb (by simp [q'])) (fun q' => hb (by simp [q'])) q) hf⟩
  self := fun A i s Q E st h => wpAny_pyIter_zip st.1 h
def iZ2 (K : PySem.W.Frag) (ta : TA) : TI := fun σ H R => ta σ H fun vs H1 => ∃ (b1 b2 : Bool) (l1 l2 : Addr) (xs1 xs2 : List V), vs = [.ref l1, .ref l2] ∧ SqB b1 K H1 l1 xs1 ∧ SqB b2 K H1 l2 xs2 ∧ R (Itz2 K b1 b2 l1 l2) H1
theorem pi_z2 {X : Cx} {e e2 : Expr} {ta : TA} {p pos tpos : Pos} {elts : List Expr} {kk : Nat} (hg : Gl X "zip") (hm : X.mg "zip" = none) (ha : PA X [e, e2] ta)
    (hs : starEach [e, e2] X.env = (false, eval e X.env) :: starEach [e2] X.env := by rfl) (hpl : (backTo pos (starEach [e2] X.env)).any (·.1) = false := by rfl) :
    PI X (.Tuple elts kk tpos) (.Call (.Name "zip" p) [e, e2] [] pos) (iZ2 X.K ta) := by
  refine ⟨fun pins s σ H R I h => ?_⟩
  refine PyProof.Rows.Call_ (ld_blt I hg hm PyProof.Rows.boot_zip (PyProof.Rows.callWith_type1 (thn (ha.run pos pins s σ H _ I h) fun us s1 ⟨vs, H1, I1, r1, q1⟩ => ?_) hs hpl))
  obtain ⟨b1, b2, l1, l2, xs1, xs2, ex, q1, q2, q⟩ := q1
  subst ex
  obtain ⟨w1, us1, rfl, rw1, rr1⟩ := vals_cons r1
  obtain rfl : w1 = .ref l1 := rw1
  obtain ⟨w2, us2, rfl, rw2, rr2⟩ := vals_cons rr1
  obtain rfl : w2 = .ref l2 := rw2
  obtain rfl := vals_nil rr2
  · skip
    obtain ⟨its1, rv1, p1, lt1⟩ := sqB I1 q1
    obtain ⟨its2, rv2, p2, lt2⟩ := sqB I1 q2
    refine zip_begins2 (beginsB b1 l1 its1.toArray) (beginsB b2 l2 its2.toArray) p1 p2 fun h' hz hTI hTO h1 h2 hsz hk => wpAny_pyIter_zip hz ?_
    have I2 : Inv X pins σ H1 { s1 with heap := h' } := I1.kept (t' := s1.toks) hk
    have fresh : ∀ c, c ∈ [s1.heap.objs.size + 4, s1.heap.objs.size + 2, s1.heap.objs.size + 3, s1.heap.objs.size, s1.heap.objs.size + 1] → FpOk X pins H1 c := fun c hcm => by
      have hle : s1.heap.objs.size ≤ c := by
        simp only [List.mem_cons, List.not_mem_nil, or_false] at hcm
        omega
      exact I1.fpOk hle (I1.hok.fresh hle)
    have D := sep2 s1.heap.objs.size l1 l2 lt1 lt2
    exact ⟨s1.heap.objs.size + 4, [s1.heap.objs.size + 4, s1.heap.objs.size + 2, s1.heap.objs.size + 3, s1.heap.objs.size, s1.heap.objs.size + 1], _, _, H1, rfl, I2, turnZ2 (b1 := b1) (b2 := b2) D (Nat.ne_of_lt lt1) (Nat.ne_of_lt (Nat.lt_of_lt_of_le lt2 (Nat.le_add_right _ _))), ⟨hz, hTI, ⟨_, _, hTO⟩, .new b1 h1, .new b2 h2⟩, fresh, q⟩
def zipI2 (u1 u2 : U) (n1 n2 : Nat) : ItF := ⟨(List.range (min n1 n2)).map fun i T => (sqAt u1 n1 T).bind fun xs1 => (xs1[i]?).bind fun x1 => (sqAt u2 n2 T).bind fun xs2 => (xs2[i]?).bind fun x2 => some (.tup [x1, x2]), fun T => (sqAt u1 n1 T).isSome && (sqAt u2 n2 T).isSome⟩
theorem itOk_zipI2 {K : PySem.W.Frag} {ρ : List Addr} {H : Hp} {u1 u2 : U} {l1 l2 : Addr} {n1 n2 : Nat} (r1 : RV K ρ H u1 (.ref l1)) (r2 : RV K ρ H u2 (.ref l2)) : ItOk K ρ H (zipI2 u1 u2 n1 n2) (Itz2 K (sqK u1) (sqK u2) l1 l2) where
  go := fun i f ρ' H' T' u ef g s h => by
    have ef : ((List.range (min n1 n2)).map fun (i : Nat) (T : Sto) => (sqAt u1 n1 T).bind fun xs1 => (xs1[i]?).bind fun x1 => (sqAt u2 n2 T).bind fun xs2 => (xs2[i]?).bind fun x2 => some (U.tup [x1, x2]))[i]? = some f := ef
    rw [List.getElem?_map] at ef
    obtain ⟨j, q, rfl⟩ := Option.map_eq_some_iff.mp ef
    obtain rfl := range_at q
    obtain ⟨us1, h1a, hh1⟩ := Option.bind_eq_some_iff.mp h
    obtain ⟨y1, h1b, gg1⟩ := Option.bind_eq_some_iff.mp hh1
    obtain ⟨us2, h2a, hh2⟩ := Option.bind_eq_some_iff.mp gg1
    obtain ⟨y2, h2b, gg2⟩ := Option.bind_eq_some_iff.mp hh2
    obtain ⟨a1, vs1, ea1, sq1, rs1, _⟩ := sqAt_ok s (r1.gr g) h1a
    cases ea1
    obtain ⟨v1, c1, d1⟩ := rs1.get h1b
    obtain ⟨a2, vs2, ea2, sq2, rs2, _⟩ := sqAt_ok s (r2.gr g) h2a
    cases ea2
    obtain ⟨v2, c2, d2⟩ := rs2.get h2b
    exact ⟨vs1, vs2, v1, v2, sq1, sq2, c1, c2⟩
  yl := fun i f ρ' H' T' u x H'' ef g s h y => by
    have ef : ((List.range (min n1 n2)).map fun (i : Nat) (T : Sto) => (sqAt u1 n1 T).bind fun xs1 => (xs1[i]?).bind fun x1 => (sqAt u2 n2 T).bind fun xs2 => (xs2[i]?).bind fun x2 => some (U.tup [x1, x2]))[i]? = some f := ef
    rw [List.getElem?_map] at ef
    obtain ⟨j, q, rfl⟩ := Option.map_eq_some_iff.mp ef
    obtain rfl := range_at q
    obtain ⟨us1, h1a, hh1⟩ := Option.bind_eq_some_iff.mp h
    obtain ⟨y1, h1b, gg1⟩ := Option.bind_eq_some_iff.mp hh1
    obtain ⟨us2, h2a, hh2⟩ := Option.bind_eq_some_iff.mp gg1
    obtain ⟨y2, h2b, gg2⟩ := Option.bind_eq_some_iff.mp hh2
    obtain ⟨a1, vs1, ea1, sq1, rs1, _⟩ := sqAt_ok s (r1.gr g) h1a
    cases ea1
    obtain ⟨v1, c1, d1⟩ := rs1.get h1b
    obtain ⟨a2, vs2, ea2, sq2, rs2, _⟩ := sqAt_ok s (r2.gr g) h2a
    cases ea2
    obtain ⟨v2, c2, d2⟩ := rs2.get h2b
    cases gg2
    obtain ⟨D, z1, z2, rfl, nD, rfl, m1, m2⟩ := y
    have w1 := m1 vs1 sq1
    rw [c1] at w1
    cases w1
    have w2 := m2 vs2 sq2
    rw [c2] at w2
    cases w2
    have g2 : Gr K ρ' H' ρ' (upd H' D (.tup [v1, v2])) := Gr.fill nD
    exact ⟨g2, s.fill nD, .tup (SqT.of upd_same) (RVs.gr (vs := [v1, v2]) (.cons d1 (.cons d2 .nil)) g2)⟩
  st := fun ρ' H' T' g s h => by
    have h : ((sqAt u1 n1 T').isSome && (sqAt u2 n2 T').isSome) = true := h
    simp only [Bool.and_eq_true] at h
    obtain ⟨h1, h2⟩ := h
    obtain ⟨us1, h1a⟩ := Option.isSome_iff_exists.mp h1
    obtain ⟨a1, vs1, ea1, sq1, rs1, t1⟩ := sqAt_ok s (r1.gr g) h1a
    cases ea1
    have o1 := rs1.length
    obtain ⟨us2, h2a⟩ := Option.isSome_iff_exists.mp h2
    obtain ⟨a2, vs2, ea2, sq2, rs2, t2⟩ := sqAt_ok s (r2.gr g) h2a
    cases ea2
    have o2 := rs2.length
    have el : (zipI2 u1 u2 n1 n2).its.length = min n1 n2 := by show (List.map _ (List.range _)).length = _; rw [List.length_map, List.length_range]
    exact ⟨vs1, vs2, sq1, sq2, by omega, by omega, by omega⟩
def gZip2 : List U → M ItF := fun us T => match us with
  | [u1, u2] => match sqN u1 T, sqN u2 T with
    | some n1, some n2 => .ok (zipI2 u1 u2 n1 n2) T
    | _, _ => .no
  | _ => .no
def fZip2 (Fr : FxA) : FxI := fun η T => (Fr η T).bind fun us T1 => gZip2 us T1
theorem fi_zip2 {X : Cx} {E : XK} {e e2 : Expr} {Fr : FxA} {p pos tpos : Pos} {elts : List Expr} {kk : Nat} (hg : Gl X "zip") (hm : X.mg "zip" = none) (ha : FA X E [e, e2] Fr) (hs : starEach [e, e2] X.env = (false, eval e X.env) :: starEach [e2] X.env := by rfl) (hpl : (backTo pos (starEach [e2] X.env)).any (·.1) = false := by rfl) :
    FI X E (.Tuple elts kk tpos) (.Call (.Name "zip" p) [e, e2] [] pos) (fZip2 Fr) := by
  obtain ⟨t, k, q⟩ := ha
  refine ⟨_, pi_z2 hg hm k hs hpl, fun σ H ρ T η R s r h => ?_⟩
  refine q σ H ρ T η _ s r (OK.mono (OK.bind h) fun vs H1 ⟨ρ1, T1, us, g1, s1, r1, k1⟩ => ?_)
  unfold gZip2 at k1
  split at k1
  · split at k1
    · rename_i m1 m2 f1 f2
      obtain ⟨xs1, e1⟩ := sqN_ok f1
      obtain ⟨xs2, e2⟩ := sqN_ok f2
      match r1 with
      | .cons r1 (.cons r2 .nil) =>
        obtain ⟨a1, v1, rfl, q1, _⟩ := sqAt_ok s1 r1 e1
        obtain ⟨a2, v2, rfl, q2, _⟩ := sqAt_ok s1 r2 e2
        exact ⟨_, _, a1, a2, v1, v2, rfl, q1, q2, k1 _ _ _ Gr.refl s1 (itOk_zipI2 r1 r2)⟩
    · exact False.elim k1
  · exact False.elim k1
end Lf
set_option Elab.async false
set_option linter.all false
set_option maxRecDepth 100000
set_option maxHeartbeats 4000000
namespace Lf
open PySem PySem.Spec L2
def z2 : List U → List U → List U
  | x :: xs, y :: ys => .tup [x, y] :: z2 xs ys
  | _, _ => []
theorem z2_len : ∀ (xs ys : List U), (z2 xs ys).length = min xs.length ys.length
  | [], _ => by simp [z2]
  | _ :: _, [] => by simp [z2]
  | x :: xs, y :: ys => by
    show (z2 xs ys).length + 1 = _
    rw [z2_len xs ys, List.length_cons, List.length_cons]; omega
theorem z2_get : ∀ (xs ys : List U) (i : Nat) (x y : U), xs[i]? = some x → ys[i]? = some y → (z2 xs ys)[i]? = some (.tup [x, y])
  | x :: xs, y :: ys, 0, _, _, h1, h2 => by cases h1; cases h2; rfl
  | x :: xs, y :: ys, i + 1, a, b, h1, h2 => by
    show (z2 xs ys)[i]? = _
    exact z2_get xs ys i a b (by simpa using h1) (by simpa using h2)
  | [], _, i, _, _, h1, _ => by simp at h1
  | _ :: _, [], i, _, _, _, h2 => by simp at h2
end Lf
set_option Elab.async false
set_option linter.all false
set_option maxRecDepth 100000
set_option maxHeartbeats 4000000
namespace Lf
open PySem PySem.Spec L2
open PyProof.Rows (envOfC)
end Lf
set_option Elab.async false
set_option linter.all false
set_option maxRecDepth 100000
set_option maxHeartbeats 4000000
namespace Lf
open PySem PySem.Spec L2
open PyProof.Rows (envOfC)
theorem ps_nox {X : Cx} {st : Stmt} {t : TS} (h : PS X.nox st t) : PS X st t :=
  ⟨fun pins s σ H D I hw => wpAny_mono (h.run pins s σ H D (I.wish _) hw) (fun _ _ q => SP.unwish q) (fun _ _ z => False.elim z)⟩
theorem FS.nox {X : Cx} {E : XK} {st : Stmt} {F : FxS} (h : FS X.nox E st F) : FS X E st F := let ⟨t, k, q⟩ := h; ⟨t, ps_nox k, q⟩
theorem FT.nox {X : Cx} {E : XK} {e : Expr} {F : FxT} (h : FT X.nox E e F) : FT X E e F := let ⟨t, k, q⟩ := h; ⟨t, k.nox, q⟩
theorem FE.nox {X : Cx} {E : XK} {e : Expr} {F : FxE} (h : FE X.nox E e F) : FE X E e F := let ⟨t, k, q⟩ := h; ⟨t, k.nox, q⟩
def noex {α : Type} (r : R α) : R α := match r with
  | .ex _ _ => .no
  | r => r
theorem FnG.calm {P : Program} {w : World} {K : PySem.W.Frag} {mg : Str → Option Value} {base : Heap} {k : Nat} {f : Addr} {fd : FuncData} {ps : List Str} {g : List U → M U} (F : FnG P w K mg base (L2.CX P w) k f fd ps g) : FnG P w K mg base CX0 k f fd ps (fun us T => noex (g us T)) := by
  constructor
  intro A fr s H args ws vs us ρ T Q E room gd e0 bd rv rs ru lu h
  refine codeAny_mono (F.run A fr s H args ws vs us ρ T Q (fun _ _ _ => False) room gd e0 bd rv rs ru lu ?_) fun r s' q => ?_
  · unfold noex at h
    generalize g us T = z at h
    cases z with
    | no => exact h
    | ok a T1 => exact h
    | ex e T1 => exact False.elim h
  · cases r with
    | ok fl => cases fl <;> exact q
    | error e => exact q.elim fun _ q => q.elim fun _ q => q.elim fun _ q => q.elim fun _ q => q.elim fun _ q => False.elim q.2.2.2.2.2.2.2
structure DokX (P : Program) (w : World) (K : PySem.W.Frag) (mg : Str → Option Value) (base : Heap) (x : Str) (k : Nat) (ps : List Str) (kw : List (List Str × List Nat)) (g : List U → M U) : Prop where
  ex : ∃ f fd, FnG P w K mg base (L2.CX P w) k f fd ps g ∧ mg x = some (.ref f) ∧ PySem.W.keepIn K (.ref f) = true ∧ Binds K fd ps [] ∧
    ∀ q ∈ kw, ∀ (s : Shared) (ws : List Value), ws.length = q.1.length → BindsTo s fd ⟨[], q.1.zip ws⟩ (ps.zip (pick q.2 ws))
theorem DokX.calm {P : Program} {w : World} {K : PySem.W.Frag} {mg : Str → Option Value} {base : Heap} {x : Str} {k : Nat} {ps : List Str} {kw : List (List Str × List Nat)} {g : List U → M U} (D : DokX P w K mg base x k ps kw g) : Dok P w K mg base x k ps kw (fun us T => noex (g us T)) := by
  obtain ⟨f, fd, G, r⟩ := D.ex
  exact ⟨f, fd, G.calm, r⟩
theorem DokX.of {P : Program} {w : World} {K : PySem.W.Frag} {mg : Str → Option Value} {base : Heap} {x : Str} {k : Nat} {ps : List Str} {kw : List (List Str × List Nat)} {g : List U → M U} {f : Addr} {fd : FuncData} {name qual : Str} {params : Arguments} {body : List Stmt} {scope : Scope}
    (G : FnG P w K mg base (L2.CX P w) k f fd ps g) (hm : mg x = some (.ref f)) (D : FunD K name qual params body scope [] [] f fd)
    (hb : ∀ (kV doc pm : Value) (an : Option Addr) (cdv ct : Value) (us : List Value), us.length = ps.length → bindArgs (PySem.W.fnOf name qual params body scope .none kV doc pm an cdv ct) ⟨us, []⟩ = pure (ps.zip us))
    (hk : ∀ q ∈ kw, ∀ (kV doc pm : Value) (an : Option Addr) (cdv ct : Value) (ws : List Value), ws.length = q.1.length → bindArgs (PySem.W.fnOf name qual params body scope .none kV doc pm an cdv ct) ⟨[], q.1.zip ws⟩ = pure (ps.zip (pick q.2 ws))) : DokX P w K mg base x k ps kw g := by
  have D0 := Dok.of (P := P) (w := w) (mg := mg) (base := base) (x := x) (k := k) (kw := kw) FnG.zero hm D hb hk
  obtain ⟨f', fd', _, e, r1, r2, r3⟩ := D0.ex
  obtain ⟨oc, od, dV, kV, doc, pm, an, cdv, ct, osl, e1, lk, hcd, hD, hK⟩ := D.ex
  exact ⟨f, fd, G, hm, D.kp, D.bindsN hb, fun q hq s ws hl => by
    rcases hD with ⟨_, e2⟩ | ⟨e2, _⟩
    · subst e2
      rw [e1]
      exact .of_eq (hk q hq kV doc pm an cdv ct ws hl)
    · exact absurd rfl e2⟩
/-- the wish about exceptions told at the slots -/
structure FAs (X : Cx) (E : L2.St → XK) (es : List Expr) (F : FxA) : Prop where
  ex : ∃ t : TA, PA X es t ∧ ∀ (σ : L2.St) (H : Hp) (ρ : List Addr) (T : Sto) (η : Lo) (Q : List V → Hp → Prop), RS X.K ρ H T → RE X.K ρ H η σ → OK X.K ρ H (E σ) (rVs X.K) (F η T) Q → t σ H Q
theorem FAs.of {X : Cx} {E : L2.St → XK} {es : List Expr} {F : FxA} (h : ∀ E : XK, FA X E es F) : FAs X E es F := by
  obtain ⟨t, ht⟩ := Classical.axiomOfChoice fun E : XK => (h E).ex
  refine ⟨fun σ H Q => t (E σ) σ H Q, ⟨fun pos pins s σ H Q I q => (ht (E σ)).1.run pos pins s σ H Q I q⟩, fun σ H ρ T η Q s r q => (ht (E σ)).2 σ H ρ T η Q s r q⟩
end Lf
set_option Elab.async false
set_option linter.all false
set_option maxRecDepth 100000
set_option maxHeartbeats 4000000
namespace Lf
open PySem PySem.Spec L2
section
variable {X : Cx} {pins : List (Addr × Obj)} {σ : L2.St} {H : Hp} {s : Shared} {a C d : Addr} {gs : List (Str × V)}
/-- what a class, or a tuple of classes, is -/
def ClV (K : PySem.W.Frag) (Ok : Addr → Bool → Prop) (v : V) (H : Hp) : Prop := ∀ (C : Addr) (b : Bool), Ok C b →
  (∃ cv, (∀ u, RelV v u → u = cv) ∧ PySem.W.kitOne K (.ref C) cv = some b) ∨ ∃ (tp : Addr) (rs : List Addr), v = .ref tp ∧ SqT K H tp (rs.map V.ref) ∧ PySem.W.kitAny K (.ref C) (rs.map Value.ref) = some b
theorem ClV.gr {K : PySem.W.Frag} {Ok : Addr → Bool → Prop} {v : V} {ρ ρ' : List Addr} {H H' : Hp} (h : ClV K Ok v H) (g : Gr K ρ H ρ' H') : ClV K Ok v H' := fun C b o => (h C b o).imp id fun ⟨tp, rs, e, q, k⟩ => ⟨tp, rs, e, g.sq _ _ q, k⟩
end
/-- both kinds of facts -/
structure SaysF (fa : List He.Fa) (fn : List He.DefD) (fx : PySem.W.Frag → Bool) (K : PySem.W.Frag) : Prop where
  d : He.SaysD fa fn K
  x : fx K = true
end Lf
set_option Elab.async false
set_option linter.all false
set_option maxRecDepth 100000
set_option maxHeartbeats 4000000
namespace Lf
open PySem PySem.Spec L2
/-- the program's run, its steps known; F: what stands in the place of the raise -/
local macro_rules | `(tactic| rfl') => `(tactic| repeat (first | with_reducible refine Lf.kS_nx ?_ | with_reducible refine Lf.kS_rt ?_ | with_reducible refine Lf.kS_bk ?_ | with_reducible refine Lf.kS_ct ?_ | with_reducible refine Lf.kD_rt ?_ | with_reducible refine Lf.kD_nx ?_ | with_reducible refine Lf.kF_nx ?_ | with_reducible refine Lf.kF_ct ?_ | with_reducible refine Lf.kF_bk ?_ | with_reducible refine Lf.kF_rt ?_ | with_reducible refine Lf.v_ifT ?_ | with_reducible refine Lf.v_ifF ?_ | with_reducible refine Lf.v_ifNT ?_ | with_reducible refine Lf.v_ifNF ?_ | with_reducible refine Lf.kP_int ?_ | with_reducible refine Lf.kP_bl ?_ | with_reducible refine Lf.kP_str ?_ | with_reducible refine Lf.kP_non ?_ | with_reducible refine Lf.v_iadd ?_ | with_reducible refine Lf.Wp.ok ?_ | with_reducible refine Lf.seq_wp ?_ | with_reducible refine Lf.v_bin ?_ | with_reducible refine Lf.v_cons ?_ | with_reducible refine Lf.v_call ?_ | with_reducible refine Lf.v_ret ?_ | with_reducible refine Lf.v_set ?_ | with_reducible refine Lf.v_asg ?_ | with_reducible refine Lf.v_if ?_ | with_reducible refine Lf.v_ifE ?_ | with_reducible refine Lf.v_bl ?_ | with_reducible refine Lf.v_tru ?_ | with_reducible refine Lf.v_and ?_ | with_reducible refine Lf.v_or ?_ | with_reducible refine Lf.v_not ?_ | with_reducible refine Lf.v_andV ?_ | with_reducible refine Lf.v_orV ?_ | with_reducible refine Lf.v_notV ?_ | with_reducible refine Lf.v_c ?_ | with_reducible refine Lf.v_nil ?_ | with_reducible refine Lf.v_skip ?_ | with_reducible refine Lf.v_drop ?_ | with_reducible refine Lf.v_retN ?_ | with_reducible refine Lf.v_brk ?_ | with_reducible refine Lf.v_cnt ?_ | with_reducible refine Lf.v_nm ?_ | with_reducible refine Lf.v_gnil ?_ | with_reducible refine Lf.v_gcons ?_ | with_reducible refine Lf.v_yes ?_ | with_reducible refine Lf.v_for ?_ | with_reducible refine Lf.v_lc ?_ | with_reducible refine Lf.v_rg ?_ | with_reducible refine Lf.v_iter ?_ | with_reducible refine Lf.v_iterT ?_ | with_reducible refine Lf.v_add ?_ | with_reducible refine Lf.v_sub ?_ | with_reducible refine Lf.v_neg ?_ | with_reducible refine Lf.v_lt ?_ | with_reducible refine Lf.v_le ?_ | with_reducible refine Lf.v_gt ?_ | with_reducible refine Lf.v_ge ?_ | with_reducible refine Lf.v_eqI ?_ | with_reducible refine Lf.v_neI ?_ | with_reducible refine Lf.v_abs ?_ | with_reducible refine Lf.v_intI ?_ | with_reducible refine Lf.v_intB ?_ | with_reducible refine Lf.v_max2 ?_ | with_reducible refine Lf.v_min2 ?_ | with_reducible refine Lf.v_lenT ?_ | with_reducible refine Lf.v_lenN ?_ | with_reducible refine Lf.v_nw ?_ | with_reducible refine Lf.v_un ?_ | with_reducible refine Lf.v_tup ?_ | with_reducible refine Lf.v_lst ?_ | with_reducible refine Lf.v_par2 ?_ | with_reducible refine Lf.v_par3 ?_ | with_reducible refine Lf.v_chain ?_ | with_reducible refine Lf.v_meth ?_ | with_reducible refine Lf.v_subT ?_ | with_reducible refine Lf.v_isiIB ?_ | with_reducible refine Lf.v_isiII ?_ | with_reducible refine Lf.v_sl ?_ | with_reducible refine Lf.v_noP ?_ | with_reducible refine Lf.v_pt ?_ | with_reducible refine Lf.v_cutT ?_ | ((with_reducible apply Lf.v_var); exact rfl) | ((with_reducible refine Lf.v_kw ?_ ?_); exact rfl) | ((with_reducible apply Lf.v_iterO); first | exact rfl | assumption) | ((with_reducible apply Lf.v_lenL); first | exact rfl | assumption) | ((with_reducible refine Lf.v_unp ?_ ?_); exact rfl) | ((with_reducible apply Lf.v_aug); exact rfl) | ((with_reducible refine Lf.v_mod ?_ ?_); first | decide | omega | assumption | fail) | ((with_reducible refine Lf.v_div ?_ ?_); first | exact ⟨by decide, by decide +kernel⟩ | assumption | exact Lf.log2d (by omega) ⟨by omega, by omega⟩ | fail) | ((with_reducible refine Lf.v_mul ?_ ?_); first | exact Lf.log2m ⟨by omega, by omega⟩ ⟨by omega, by omega⟩ | exact Lf.log2m (by assumption) ⟨by omega, by omega⟩ | exact Lf.log2m ⟨by omega, by omega⟩ (by assumption) | fail) | ((with_reducible refine Lf.v_pow ?_ ?_); exact ⟨by decide, by decide, by decide⟩) | ((with_reducible refine Lf.v_rg1 ?_ ?_); first | decide | fail) | ((with_reducible apply Lf.v_ixL); (first | exact rfl | assumption | fail); (first | exact rfl | assumption | fail)) | ((with_reducible apply Lf.v_ixT); (first | exact rfl | assumption | fail)) | ((with_reducible apply Lf.v_ixN); (first | exact rfl | assumption | fail)) | with_reducible refine ⟨_, rfl, ?_⟩ | (refine ⟨_, (rfl : Lf.tru _ (Lf.U.bl _) = some _), ?_⟩) | with_reducible refine ⟨_, _, rfl, ?_⟩ | with_reducible refine ⟨_, _, _, rfl, ?_⟩ | (refine ⟨(Nat.le_of_ble_eq_true rfl : List.length _ ≤ 16777216), ?_⟩) | with_reducible refine Lf.v_enum ?_ | fail))
local macro_rules | `(tactic| bv_omega) => `(tactic| repeat (first | with_reducible refine Lf.kS_nx ?_ | with_reducible refine Lf.kS_rt ?_ | with_reducible refine Lf.kS_bk ?_ | with_reducible refine Lf.kS_ct ?_ | with_reducible refine Lf.kD_rt ?_ | with_reducible refine Lf.kD_nx ?_ | with_reducible refine Lf.kF_nx ?_ | with_reducible refine Lf.kF_ct ?_ | with_reducible refine Lf.kF_bk ?_ | with_reducible refine Lf.kF_rt ?_ | with_reducible refine Lf.v_ifT ?_ | with_reducible refine Lf.v_ifF ?_ | with_reducible refine Lf.v_ifNT ?_ | with_reducible refine Lf.v_ifNF ?_ | with_reducible refine Lf.kP_int ?_ | with_reducible refine Lf.kP_bl ?_ | with_reducible refine Lf.kP_str ?_ | with_reducible refine Lf.kP_non ?_ | with_reducible refine Lf.v_iadd ?_ | with_reducible refine Lf.Wp.ok ?_ | with_reducible refine Lf.seq_wp ?_ | with_reducible refine Lf.v_bin ?_ | with_reducible refine Lf.v_cons ?_ | with_reducible refine Lf.v_call ?_ | with_reducible refine Lf.v_ret ?_ | with_reducible refine Lf.v_set ?_ | with_reducible refine Lf.v_asg ?_ | with_reducible refine Lf.v_if ?_ | with_reducible refine Lf.v_ifE ?_ | with_reducible refine Lf.v_bl ?_ | with_reducible refine Lf.v_tru ?_ | with_reducible refine Lf.v_and ?_ | with_reducible refine Lf.v_or ?_ | with_reducible refine Lf.v_not ?_ | with_reducible refine Lf.v_andV ?_ | with_reducible refine Lf.v_orV ?_ | with_reducible refine Lf.v_notV ?_ | with_reducible refine Lf.v_c ?_ | with_reducible refine Lf.v_nil ?_ | with_reducible refine Lf.v_skip ?_ | with_reducible refine Lf.v_drop ?_ | with_reducible refine Lf.v_retN ?_ | with_reducible refine Lf.v_brk ?_ | with_reducible refine Lf.v_cnt ?_ | with_reducible refine Lf.v_nm ?_ | with_reducible refine Lf.v_gnil ?_ | with_reducible refine Lf.v_gcons ?_ | with_reducible refine Lf.v_yes ?_ | with_reducible refine Lf.v_for ?_ | with_reducible refine Lf.v_lc ?_ | with_reducible refine Lf.v_rg ?_ | with_reducible refine Lf.v_iter ?_ | with_reducible refine Lf.v_iterT ?_ | with_reducible refine Lf.v_add ?_ | with_reducible refine Lf.v_sub ?_ | with_reducible refine Lf.v_neg ?_ | with_reducible refine Lf.v_lt ?_ | with_reducible refine Lf.v_le ?_ | with_reducible refine Lf.v_gt ?_ | with_reducible refine Lf.v_ge ?_ | with_reducible refine Lf.v_eqI ?_ | with_reducible refine Lf.v_neI ?_ | with_reducible refine Lf.v_abs ?_ | with_reducible refine Lf.v_intI ?_ | with_reducible refine Lf.v_intB ?_ | with_reducible refine Lf.v_max2 ?_ | with_reducible refine Lf.v_min2 ?_ | with_reducible refine Lf.v_lenT ?_ | with_reducible refine Lf.v_lenN ?_ | with_reducible refine Lf.v_nw ?_ | with_reducible refine Lf.v_un ?_ | with_reducible refine Lf.v_tup ?_ | with_reducible refine Lf.v_lst ?_ | with_reducible refine Lf.v_par2 ?_ | with_reducible refine Lf.v_par3 ?_ | with_reducible refine Lf.v_chain ?_ | with_reducible refine Lf.v_meth ?_ | with_reducible refine Lf.v_subT ?_ | with_reducible refine Lf.v_isiIB ?_ | with_reducible refine Lf.v_isiII ?_ | with_reducible refine Lf.v_sl ?_ | with_reducible refine Lf.v_noP ?_ | with_reducible refine Lf.v_pt ?_ | with_reducible refine Lf.v_cutT ?_ | ((with_reducible apply Lf.v_var); exact rfl) | ((with_reducible refine Lf.v_kw ?_ ?_); exact rfl) | ((with_reducible apply Lf.v_iterO); first | exact rfl | assumption) | ((with_reducible apply Lf.v_lenL); first | exact rfl | assumption) | ((with_reducible refine Lf.v_unp ?_ ?_); exact rfl) | ((with_reducible apply Lf.v_aug); exact rfl) | ((with_reducible refine Lf.v_mod ?_ ?_); first | decide | omega | assumption | fail) | ((with_reducible refine Lf.v_div ?_ ?_); first | exact ⟨by decide, by decide +kernel⟩ | assumption | exact Lf.log2d (by omega) ⟨by omega, by omega⟩ | fail) | ((with_reducible refine Lf.v_mul ?_ ?_); first | exact Lf.log2m ⟨by omega, by omega⟩ ⟨by omega, by omega⟩ | exact Lf.log2m (by assumption) ⟨by omega, by omega⟩ | exact Lf.log2m ⟨by omega, by omega⟩ (by assumption) | fail) | ((with_reducible refine Lf.v_pow ?_ ?_); exact ⟨by decide, by decide, by decide⟩) | ((with_reducible refine Lf.v_rg1 ?_ ?_); first | decide | fail) | ((with_reducible apply Lf.v_ixL); (first | exact rfl | assumption | fail); (first | exact rfl | assumption | fail)) | ((with_reducible apply Lf.v_ixT); (first | exact rfl | assumption | fail)) | ((with_reducible apply Lf.v_ixN); (first | exact rfl | assumption | fail)) | with_reducible refine ⟨_, rfl, ?_⟩ | (refine ⟨_, (rfl : Lf.tru _ (Lf.U.bl _) = some _), ?_⟩) | with_reducible refine ⟨_, _, rfl, ?_⟩ | with_reducible refine ⟨_, _, _, rfl, ?_⟩ | (refine ⟨(Nat.le_of_ble_eq_true rfl : List.length _ ≤ 16777216), ?_⟩) | with_reducible refine Lf.v_enum ?_ | with_reducible refine Lf.v_eqS0 ?_ | with_reducible refine Lf.v_neT ?_ | with_reducible refine Lf.v_ix0 ?_ | with_reducible refine Lf.v_tupleT ?_ | with_reducible refine Lf.v_listT ?_ | with_reducible refine Lf.v_revT ?_ | with_reducible refine Lf.v_dic0 ?_ | with_reducible refine Lf.v_dic1 ?_ | with_reducible refine Lf.v_mkE ?_ | with_reducible refine Lf.v_mkE0 ?_ | with_reducible refine Lf.v_fldS ?_ | with_reducible refine Lf.v_fldAug ?_ | with_reducible refine Lf.v_mkC ?_ | with_reducible refine Lf.v_mkW ?_ | with_reducible refine Lf.v_mth ?_ | with_reducible refine Lf.v_getK ?_ | with_reducible refine Lf.v_dic1K ?_ | with_reducible refine Lf.v_items ?_ | with_reducible refine Lf.v_subTD ?_ | with_reducible refine Lf.v_subTT ?_ | with_reducible refine Lf.v_enT ?_ | with_reducible refine Lf.v_enTT ?_ | ((with_reducible apply Lf.v_fld); (first | assumption | fail); (first | assumption | exact List.mem_cons_self .. | simp | fail); (first | rfl | decide +kernel | fail)) | ((with_reducible apply Lf.isl_and); (first | exact rfl | assumption | fail)) | ((with_reducible refine Lf.v_idiv ?_ ?_); exact ⟨by decide, by decide⟩) | ((with_reducible apply Lf.v_appZ); (first | exact rfl | assumption | fail); (first | omega | (simp only [List.length_append, List.length_map, List.length_cons, List.length_nil]; omega) | (simp; omega) | fail)) | ((with_reducible apply Lf.v_tupleL); (first | exact rfl | assumption | fail)) | ((with_reducible apply Lf.v_listL); (first | exact rfl | assumption | fail)) | ((with_reducible refine Lf.v_yesd ?_ ?_); (first | (with_reducible rfl) | assumption | (exact fun z => z rfl) | decide +kernel | omega | fail)) | ((with_reducible refine Lf.v_nod ?_ ?_); (first | (with_reducible rfl) | assumption | (exact fun z => z rfl) | decide +kernel | omega | fail)) | ((with_reducible refine Lf.v_yesn ?_ ?_); (first | (with_reducible rfl) | assumption | (exact fun z => z rfl) | decide +kernel | omega | fail)) | ((with_reducible refine Lf.v_non ?_ ?_); (first | (with_reducible rfl) | assumption | (exact fun z => z rfl) | decide +kernel | omega | fail)) | ((with_reducible refine Lf.kP_tup ?_ ?_); first | exact rfl | exact Lf.nrs_ints _ | assumption | fail) | ((with_reducible refine Lf.v_rg1 ?_ ?_); exact Lf.small62_of (by omega) (by omega)) | fail))
end Lf
set_option Elab.async false
set_option linter.all false
set_option maxRecDepth 100000
set_option maxHeartbeats 4000000
namespace Lf
open PySem PySem.Spec L2
end Lf
set_option Elab.async false
set_option linter.all false
set_option maxRecDepth 100000
set_option maxHeartbeats 4000000
namespace Lf
open PySem PySem.Spec L2
open PyProof.Rows
def enl (xs : List U) : List U := (List.range xs.length).map fun i => .tup [.int (i : Nat), xs.getD i .non]
/-- enumerate of a tuple -/
def gEnT : List U → M ItF := fun us T => match us with
  | [.tup xs] => .ok (constI (enl xs)) T
  | _ => .no
def fEnT (Fr : FxA) : FxI := fun η T => (Fr η T).bind fun us T1 => gEnT us T1
section
variable {T : Sto} {η : Lo} {Fr : FxA} {QI : ItF → Sto → Prop}
theorem v_enT (q : Wp (Fr η T) fun us T1 => Wp (gEnT us T1) QI) : Wp (fEnT Fr η T) QI := .bind q
theorem v_enTT {xs : List U} (q : QI (constI (enl xs)) T) : Wp (gEnT [.tup xs] T) QI := .ok q
end
end Lf
set_option Elab.async false
set_option linter.all false
set_option maxRecDepth 100000
set_option maxHeartbeats 4000000
namespace Lf
open PySem PySem.Spec L2
def fDic0 : FxE := fun _ T => nw (.dic []) T
def fDic1 (k : Str) (Fv : FxE) : FxE := fun η T => (Fv η T).bind fun u T1 => nw (.dic [(.str k, u)]) T1
section
variable {X : Cx} {E : XK} {pos : Pos}
theorem fe_dic0 : FE X E (.Dict [] [] pos) fDic0 := by
  refine ⟨_, pe_dnewK, fun σ H ρ T η Q s re h => fun p n => ?_⟩
  exact h (ρ ++ [p]) _ (.ref p) (Gr.new n) (s.new n (.inl ⟨[], upd_same, .nil⟩)) (.ob (by rw [← s.len, List.getElem?_append_right (Nat.le_refl _), Nat.sub_self]; rfl))
end
def keyD : Key → PyData
  | .inl i => .int i
  | .inr x => .str x
def Dq0 (v : V) (d : PyData) : Prop := (v = .non ∧ d = .none) ∨ (∃ b, v = .bl b ∧ d = .bool b) ∨ (∃ i, v = .int i ∧ d = .int i) ∨ ∃ x, v = .str x ∧ d = .str x
def DqN (K : PySem.W.Frag) (H : Hp) : Nat → V → PyData → Prop
  | 0 => Dq0
  | n + 1 => fun v d => Dq0 v d ∨ (∃ a xs ds, v = .ref a ∧ d = .list ds ∧ SqL K H a xs ∧ Paired (DqN K H n) xs ds) ∨ (∃ a xs ds, v = .ref a ∧ d = .tuple ds ∧ SqT K H a xs ∧ Paired (DqN K H n) xs ds) ∨
      ∃ (a : Addr) (ks : List (Key × V)) (kvs : List (PyData × PyData)), v = .ref a ∧ d = .dict kvs ∧ (H a = some (.dK ks) ∨ (ks = [] ∧ H a = some (.dT []))) ∧ Paired (fun (p : Key × V) (q : PyData × PyData) => q.1 = keyD p.1 ∧ DqN K H n p.2 q.2) ks kvs
theorem dqS {K : PySem.W.Frag} {H : Hp} {n : Nat} {v : V} {d : PyData} : DqN K H (n + 1) v d ↔ (Dq0 v d ∨ (∃ a xs ds, v = .ref a ∧ d = .list ds ∧ SqL K H a xs ∧ Paired (DqN K H n) xs ds) ∨ (∃ a xs ds, v = .ref a ∧ d = .tuple ds ∧ SqT K H a xs ∧ Paired (DqN K H n) xs ds) ∨
      ∃ (a : Addr) (ks : List (Key × V)) (kvs : List (PyData × PyData)), v = .ref a ∧ d = .dict kvs ∧ (H a = some (.dK ks) ∨ (ks = [] ∧ H a = some (.dT []))) ∧ Paired (fun (p : Key × V) (q : PyData × PyData) => q.1 = keyD p.1 ∧ DqN K H n p.2 q.2) ks kvs) := Iff.rfl
theorem Dq0.up {K : PySem.W.Frag} {H : Hp} {n : Nat} {v : V} {d : PyData} (h : Dq0 v d) : DqN K H n v d := by
  cases n with
  | zero => exact h
  | succ n => exact dqS.mpr (.inl h)
theorem Dq0.reads {h : Heap} {v : V} {d : PyData} {u : Value} (q : Dq0 v d) (r : RelV v u) : ∃ as, Reads h u d as ∧ sysModules ∉ as := by
  rcases q with ⟨rfl, rfl⟩ | ⟨b, rfl, rfl⟩ | ⟨i, rfl, rfl⟩ | ⟨x, rfl, rfl⟩
  · cases r; exact ⟨_, .none, by simp⟩
  · cases r; exact ⟨_, .bool b, by simp⟩
  · obtain ⟨t, rfl⟩ := r; exact ⟨_, .int i t, by simp⟩
  · obtain ⟨t, rfl⟩ := r; exact ⟨_, .str x t, by simp⟩
def sysB (K : PySem.W.Frag) : Bool := match K.lookup sysModules with
  | some o => o.cls == .type "dict"
  | none => false
theorem sysB_ok {K : PySem.W.Frag} (h : sysB K = true) : ∃ o, K.lookup sysModules = some o ∧ o.cls = .type "dict" := by
  unfold sysB at h
  split at h
  · rename_i o e
    exact ⟨o, e, beq_iff_eq.mp h⟩
  · cases h
section
variable {X : Cx} {pins : List (Addr × Obj)} {σ : L2.St} {H : Hp} {s : Shared}
theorem allN {n : Nat} (ih : ∀ v d u, DqN X.K H n v d → RelV v u → ∃ as, Reads s.heap u d as ∧ sysModules ∉ as) {vs : List V} {ds : List PyData} (h : Paired (DqN X.K H n) vs ds) : ∀ {us : List Value}, Vals vs us → ∃ as, ReadsAll s.heap us ds as ∧ sysModules ∉ as := by
  induction h with
  | nil => intro us r; cases r; exact ⟨_, .nil, by simp⟩
  | cons h1 h2 ih2 =>
    intro us r
    cases r with
    | cons r1 r2 =>
      obtain ⟨as, q1, z1⟩ := ih _ _ _ h1 r1
      obtain ⟨bs, q2, z2⟩ := ih2 r2
      exact ⟨_, .cons q1 q2, by simp [z1, z2]⟩
theorem kvN {n : Nat} (ih : ∀ v d u, DqN X.K H n v d → RelV v u → ∃ as, Reads s.heap u d as ∧ sysModules ∉ as) {ks : List (Key × V)} {kvs : List (PyData × PyData)} (h : Paired (fun (p : Key × V) (q : PyData × PyData) => q.1 = keyD p.1 ∧ DqN X.K H n p.2 q.2) ks kvs) :
    ∀ {rs : List (Key × Value)} {es : List DictEntry}, KV ks rs → Pairs (mixKind X.prog X.w) es rs →
      ∃ as bs, ReadsAll s.heap (es.map (·.key)) (kvs.map (·.1)) as ∧ ReadsAll s.heap (es.map (·.val)) (kvs.map (·.2)) bs ∧ sysModules ∉ as ∧ sysModules ∉ bs := by
  induction h with
  | nil =>
    intro rs es r p
    cases r
    cases p
    exact ⟨_, _, .nil, .nil, by simp, by simp⟩
  | @cons a b as bs h1 h2 ih2 =>
    intro rs es r p
    cases r with
    | @cons _ c _ cs r1 r2 =>
      cases p with
      | @cons e _ es _ p1 p2 p3 =>
        obtain ⟨a1, a2⟩ := a
        obtain ⟨b1, b2⟩ := b
        obtain ⟨c1, c2⟩ := c
        obtain ⟨e1, rv⟩ := r1
        obtain ⟨f1, f2⟩ := h1
        dsimp only at e1 rv f1 f2 p2
        subst e1 f1
        obtain ⟨as', q1, z1⟩ := ih _ _ _ f2 rv
        obtain ⟨bs', cs', w1, w2, w3, w4⟩ := ih2 r2 p3
        have hk : Reads s.heap e.key (keyD a1) [] := by
          rcases keyIs_shape p1 with ⟨i, t, rfl, e2⟩ | ⟨x, t, rfl, e2⟩
          · rw [e2]; exact .int i t
          · rw [e2]; exact .str x t
        exact ⟨_, _, .cons hk w1, .cons (by show Reads s.heap e.val b2 as'; rw [p2]; exact q1) w2, by simpa using w3, by simp [z1, w4]⟩
theorem DqN.reads (I : L2.Inv X pins σ H s) (hs : sysB X.K = true) : ∀ (n : Nat) (v : V) (d : PyData) (u : Value), DqN X.K H n v d → RelV v u → ∃ as, Reads s.heap u d as ∧ sysModules ∉ as := by
  intro n
  induction n with
  | zero => exact fun v d u h r => Dq0.reads h r
  | succ n ih =>
    intro v d u h r
    rcases dqS.mp h with h | ⟨a, xs, ds, rfl, rfl, hq, hp⟩ | ⟨a, xs, ds, rfl, rfl, hq, hp⟩ | ⟨a, ks, kvs, rfl, rfl, hq, hp⟩
    · exact h.reads r
    · cases r
      obtain ⟨its, rv, ⟨o, m, ho, hc, _, hd⟩, _⟩ := I.list hq
      obtain ⟨as, q1, z1⟩ := allN ih hp rv
      refine ⟨_, .list ho hc hd q1, fun hm => ?_⟩
      rcases List.mem_cons.mp hm with e | hm
      · obtain ⟨o2, e2, c2⟩ := sysB_ok hs
        have e3 := I.kIn _ _ e2
        rw [e] at e3
        rw [ho] at e3
        cases e3
        rw [hc] at c2
        simp at c2
      · exact z1 hm
    · cases r
      obtain ⟨its, rv, ⟨o, ho, hc, m, hd⟩, _⟩ := I.tuple hq
      obtain ⟨as, q1, z1⟩ := allN ih hp rv
      exact ⟨_, .tuple ho hc hd q1, z1⟩
    · cases r
      rcases hq with hq | ⟨rfl, hq⟩
      rotate_left
      · obtain ⟨_, hne, xs, hp2, o, es, ep, ho, ⟨hc, _, _⟩, hd, he, _⟩ := (show ObjOk X.prog X.w H s.heap a (.dT []) from I.hok a _ hq)
        cases hp2
        cases hp
        rw [List.map_nil] at he
        exact ⟨_, .dict (as := []) (bs := []) ho hc hd (by rw [he]; exact .nil) (by rw [he]; exact .nil), fun hm => by
          rcases List.mem_cons.mp hm with e | hm
          · rw [← e] at hne
            simp at hne
          · cases hm⟩
      obtain ⟨_, hne, rs, rk, o, es, ep, ho, ⟨hc, _, _⟩, hd, _, hpr, _⟩ := (show ObjOk X.prog X.w H s.heap a (.dK ks) from I.hok a _ hq)
      obtain ⟨as, bs, q1, q2, z1, z2⟩ := kvN ih hp rk hpr
      refine ⟨_, .dict ho hc hd q1 q2, fun hm => ?_⟩
      rcases List.mem_append.mp hm with hm | hm
      · rcases List.mem_cons.mp hm with e | hm
        · rw [← e] at hne
          simp at hne
        · exact z1 hm
      · exact z2 hm
def rReprD (K : PySem.W.Frag) : List V → Hp → VK → Prop := fun xs H Q => ∃ (a : Addr) (n : Nat) (d : PyData), xs = [.ref a] ∧ DqN K H n (.ref a) d ∧ d.showable = true ∧ d.depth ≤ 64 ∧ d.shown.length ≤ sizeLine ∧ Q (.str d.shown) H
theorem call_reprD (hs : sysB X.K = true) (gd : X.A.guards = some []) (hu : X.A.units + 66 < cLine) : CallR X (.builtin "repr") (rReprD X.K) := by
  intro pins s σ H xs us Q I r h
  obtain ⟨a, n, d, rfl, hd, h1, h2, h3, q⟩ := h
  obtain ⟨u, rfl, rfl⟩ := vals1 r
  obtain ⟨as, rd, na⟩ := DqN.reads I hs n _ _ _ hd rfl
  exact PySem.repr_of_reads' rd h1 (fun _ => na) gd (by omega) (fun b o e => e) (fun h' u tk hk => ⟨.str _, H, I.kept hk, ⟨_, rfl⟩, q⟩) h3
end
def keysD : List (U × U) → Option (List PyData)
  | [] => some []
  | (.int i, _) :: r => (keysD r).map (PyData.int i :: ·)
  | (.str x, _) :: r => (keysD r).map (PyData.str x :: ·)
  | _ :: _ => none
def datD (T : Sto) : Nat → U → Option PyData
  | _, .non => some .none
  | _, .bl b => some (.bool b)
  | _, .int i => some (.int i)
  | _, .str x => some (.str x)
  | n + 1, .tup xs => (dats (datD T n) xs).map .tuple
  | n + 1, .ob i => match T[i]? with
    | some (.lst xs) => (dats (datD T n) xs).map .list
    | some (.dic kvs) => match keysD kvs, dats (datD T n) (kvs.map (·.2)) with
      | some ks, some vs => some (.dict (ks.zip vs))
      | _, _ => none
    | _ => none
  | _, _ => none
theorem datsD_ok {K : PySem.W.Frag} {ρ : List Addr} {H : Hp} {n : Nat} {f : U → Option PyData} (ih : ∀ u v d, RV K ρ H u v → f u = some d → DqN K H n v d) : ∀ {us : List U} {vs : List V} {ds : List PyData}, RVs K ρ H us vs → dats f us = some ds → Paired (DqN K H n) vs ds
  | [], _, ds, .nil, e => by cases e; exact .nil
  | u :: us, _, ds, .cons r rs, e => by
    unfold dats at e
    split at e
    · rename_i d ds' e1 e2
      cases e
      exact .cons (ih _ _ _ r e1) (datsD_ok ih rs e2)
    · cases e
theorem kvD_ok {K : PySem.W.Frag} {ρ : List Addr} {H : Hp} {n : Nat} {f : U → Option PyData} (ih : ∀ u v d, RV K ρ H u v → f u = some d → DqN K H n v d) {kvs : List (U × U)} {ks : List (Key × V)} (h : Paired (fun (p : U × U) (q : Key × V) => p.1 = kU q.1 ∧ RV K ρ H p.2 q.2) kvs ks) :
    ∀ {as bs : List PyData}, keysD kvs = some as → dats f (kvs.map (·.2)) = some bs → Paired (fun (p : Key × V) (q : PyData × PyData) => q.1 = keyD p.1 ∧ DqN K H n p.2 q.2) ks (as.zip bs) := by
  induction h with
  | nil => intro as bs e1 e2; cases e1; cases e2; exact .nil
  | @cons p q ps qs h1 h2 ih2 =>
    intro as bs e1 e2
    obtain ⟨p1, p2⟩ := p
    obtain ⟨q1, q2⟩ := q
    obtain ⟨f1, f2⟩ := h1
    dsimp only at f1 f2
    subst f1
    rw [List.map_cons] at e2
    unfold dats at e2
    split at e2
    · rename_i d ds e3 e4
      cases e2
      cases q1 with
      | inl i =>
        obtain ⟨as', e5, rfl⟩ := Option.map_eq_some_iff.mp (show (keysD ps).map (PyData.int i :: ·) = some as from e1)
        exact .cons ⟨rfl, ih _ _ _ f2 e3⟩ (ih2 e5 e4)
      | inr x =>
        obtain ⟨as', e5, rfl⟩ := Option.map_eq_some_iff.mp (show (keysD ps).map (PyData.str x :: ·) = some as from e1)
        exact .cons ⟨rfl, ih _ _ _ f2 e3⟩ (ih2 e5 e4)
    · cases e2
theorem datD_ok {K : PySem.W.Frag} {ρ : List Addr} {H : Hp} {T : Sto} (s : RS K ρ H T) : ∀ (n : Nat) (u : U) (v : V) (d : PyData), RV K ρ H u v → datD T n u = some d → DqN K H n v d := by
  intro n
  have base : ∀ (n : Nat) (u : U) (v : V) (d : PyData), RV K ρ H u v → (∀ xs, u ≠ .tup xs) → (∀ i, u ≠ .ob i) → datD T n u = some d → DqN K H n v d := fun n u v d r n1 n2 e => by
    cases r with
    | non => cases n <;> (cases e; exact Dq0.up (.inl ⟨rfl, rfl⟩))
    | bl b => cases n <;> (cases e; exact Dq0.up (.inr (.inl ⟨b, rfl, rfl⟩)))
    | int i => cases n <;> (cases e; exact Dq0.up (.inr (.inr (.inl ⟨i, rfl, rfl⟩))))
    | str x => cases n <;> (cases e; exact Dq0.up (.inr (.inr (.inr ⟨x, rfl, rfl⟩))))
    | tup _ _ => exact absurd rfl (n1 _)
    | ob _ => exact absurd rfl (n2 _)
    | scr _ => cases n <;> cases e
    | raw _ => cases n <;> cases e
  induction n with
  | zero =>
    intro u v d r e
    refine base 0 u v d r (fun xs z => ?_) (fun i z => ?_) e
    · subst z; cases e
    · subst z; cases e
  | succ n ih =>
    intro u v d r e
    cases id r with
    | @tup a vs us q rs =>
      obtain ⟨ds, e1, rfl⟩ := Option.map_eq_some_iff.mp (show (dats (datD T n) us).map PyData.tuple = some d from e)
      exact .inr (.inr (.inl ⟨_, _, ds, rfl, rfl, q, datsD_ok ih rs e1⟩))
    | ob ea =>
      rename_i i a
      have e : (match T[i]? with
        | some (.lst xs) => (dats (datD T n) xs).map PyData.list
        | some (.dic kvs) => match keysD kvs, dats (datD T n) (kvs.map (·.2)) with
          | some ks, some vs => some (.dict (ks.zip vs))
          | _, _ => none
        | _ => none) = some d := e
      split at e
      · rename_i xs ex
        obtain ⟨ds, e1, rfl⟩ := Option.map_eq_some_iff.mp e
        obtain ⟨b, p, vs, f1, rs⟩ := s.get ex
        rw [ea] at p
        cases p
        exact .inr (.inl ⟨_, _, ds, rfl, rfl, SqL.of f1, datsD_ok ih rs e1⟩)
      · rename_i kvs ex
        split at e
        · rename_i as bs e1 e2
          cases e
          obtain ⟨b, p, ro⟩ := s.get ex
          rw [ea] at p
          cases p
          rcases ro with ⟨ks, f1, hp⟩ | ⟨k0, ks, f1, hp⟩
          · exact .inr (.inr (.inr ⟨_, ks, _, rfl, rfl, .inl f1, kvD_ok ih hp e1 e2⟩))
          · cases hp with
            | @cons p _ ps _ h1 _ =>
              obtain ⟨p1, p2⟩ := p
              obtain ⟨h1, _⟩ := h1
              dsimp only at h1
              subst h1
              cases e1
        · cases e
      · cases e
    | non => exact base _ _ _ _ r (fun _ z => nomatch z) (fun _ z => nomatch z) e
    | bl b => exact base _ _ _ _ r (fun _ z => nomatch z) (fun _ z => nomatch z) e
    | int i => exact base _ _ _ _ r (fun _ z => nomatch z) (fun _ z => nomatch z) e
    | str x => exact base _ _ _ _ r (fun _ z => nomatch z) (fun _ z => nomatch z) e
    | scr _ => exact base _ _ _ _ r (fun _ z => nomatch z) (fun _ z => nomatch z) e
    | raw _ => exact base _ _ _ _ r (fun _ z => nomatch z) (fun _ z => nomatch z) e
/-- repr of what holds objects, dicts among them -/
def gReprD : List U → M U := fun us T => match us with
  | [.tup xs] => match datD T 66 (.tup xs) with
    | some d => if d.showable = true ∧ d.depth ≤ 64 ∧ d.shown.length ≤ 16777216 then .ok (.str d.shown) T else .no
    | none => .no
  | [.ob k] => match datD T 66 (.ob k) with
    | some d => if d.showable = true ∧ d.depth ≤ 64 ∧ d.shown.length ≤ 16777216 then .ok (.str d.shown) T else .no
    | none => .no
  | us => gRepr us T
section
variable {X : Cx} {E : XK}
theorem fcl_reprD (hs : sysB X.K = true) (gd : X.A.guards = some []) (hu : X.A.units + 66 < cLine) : FCall X E (.builtin "repr") gReprD := by
  obtain ⟨r, h1, h2⟩ := fcl_repr (X := X) (E := E) gd hu
  refine ⟨fun xs H Q => r xs H Q ∨ rReprD X.K xs H Q, fun pins s σ H xs us Q I rv h => ?_, fun ρ H T us xs Q s rv h => ?_⟩
  · rcases h with h | h
    · exact h1 pins s σ H xs us Q I rv h
    · exact call_reprD hs gd hu pins s σ H xs us Q I rv h
  · unfold gReprD at h
    split at h
    · rename_i ys
      split at h
      · rename_i d e
        split at h
        · rename_i hc
          match rv with
          | .cons rv1 .nil =>
            cases id rv1 with
            | tup q rs => exact .inr ⟨_, 66, d, rfl, datD_ok s _ _ _ _ rv1 e, hc.1, hc.2.1, by rw [sizeLine_eq]; exact hc.2.2, okV s h (.str _)⟩
        · exact False.elim h
      · exact False.elim h
    · rename_i k
      split at h
      · rename_i d e
        split at h
        · rename_i hc
          match rv with
          | .cons rv1 .nil =>
            cases id rv1 with
            | ob ea => exact .inr ⟨_, 66, d, rfl, datD_ok s _ _ _ _ rv1 e, hc.1, hc.2.1, by rw [sizeLine_eq]; exact hc.2.2, okV s h (.str _)⟩
        · exact False.elim h
      · exact False.elim h
    · exact .inl (h2 ρ H T us xs Q s rv h)
end
theorem v_reprO {T : Sto} {k : Nat} {d : PyData} {Q : U → Sto → Prop} (e : datD T 66 (.ob k) = some d) (h : d.showable = true ∧ d.depth ≤ 64 ∧ d.shown.length ≤ 16777216) (q : Q (.str d.shown) T) : Wp (gReprD [.ob k] T) Q := by
  unfold gReprD
  simp only [e]
  rw [if_pos h]
  exact .ok q
theorem v_reprT {T : Sto} {xs : List U} {d : PyData} {Q : U → Sto → Prop} (e : datD T 66 (.tup xs) = some d) (h : d.showable = true ∧ d.depth ≤ 64 ∧ d.shown.length ≤ 16777216) (q : Q (.str d.shown) T) : Wp (gReprD [.tup xs] T) Q := by
  unfold gReprD
  simp only [e]
  rw [if_pos h]
  exact .ok q
def obsS (n : Nat) (fa : List He.Fa) (fn : List He.DefD) (fx : PySem.W.Frag → Bool) (g : Addr → Option Obj) : Bool × He.AlD :=
  (fx (He.frG g (sysModules :: cStatics :: He.asD g n)), He.obsD fa fn (He.frG g (sysModules :: cStatics :: He.asD g n)))
def hookS (n : Nat) (fa : List He.Fa) (fn : List He.DefD) (fx : PySem.W.Frag → Bool) : PySem.W.Hook where
  α := Bool × He.AlD
  obs := fun s => obsS n fa fn fx s.heap.get?
  val := fun _ => (true, He.valD fn)
  says := fun _ h => ∃ K : PySem.W.Frag, K.In h ∧ SaysF fa fn fx K
  of := fun _ _ e => ⟨_, He.frG_in, congrArg (fun z : Bool × He.AlD => z.2) e, congrArg (fun z : Bool × He.AlD => z.1) e⟩
  keeps := fun _ _ _ ⟨K, hK, c⟩ k => ⟨K, PySem.W.Frag.In.keeps hK k, c⟩
theorem obsS_eq {n : Nat} {fa : List He.Fa} {fn : List He.DefD} {fx : PySem.W.Frag → Bool} {g : Addr → Option Obj} {s : Shared} (h : ∀ a, g a = s.heap.get? a) : obsS n fa fn fx g = (hookS n fa fn fx).obs s := by
  rw [funext h] <;> rfl
end Lf
set_option Elab.async false
set_option linter.all false
set_option maxRecDepth 100000
set_option maxHeartbeats 4000000
namespace Lf
open PySem PySem.Spec L2
mutual
def pu : U → Bool
  | .tup xs => pus xs
  | .ob _ => false
  | .scr _ => false
  | .raw _ => false
  | _ => true
def pus : List U → Bool
  | [] => true
  | x :: xs => pu x && pus xs
end
theorem v_isiG {u : U} {n m : String} {b : Bool} {T : Sto} {Q : U → Sto → Prop} (ht : tyU T u = some n) (hn : kitB n m = some b) (q : Q (.bl b) T) : Wp (gIsi [u, .raw (.ty m)] T) Q := by
  unfold gIsi
  simp only [ht, hn]
  exact .ok q
section
variable {T : Sto} {Q : U → Sto → Prop} {g : List U → M U} {lo hi : Int}
local macro_rules | `(tactic| rfl') => `(tactic| repeat (first | with_reducible refine Lf.kS_nx ?_ | with_reducible refine Lf.kS_rt ?_ | with_reducible refine Lf.kS_bk ?_ | with_reducible refine Lf.kS_ct ?_ | with_reducible refine Lf.kD_rt ?_ | with_reducible refine Lf.kD_nx ?_ | with_reducible refine Lf.kF_nx ?_ | with_reducible refine Lf.kF_ct ?_ | with_reducible refine Lf.kF_bk ?_ | with_reducible refine Lf.kF_rt ?_ | with_reducible refine Lf.v_ifT ?_ | with_reducible refine Lf.v_ifF ?_ | with_reducible refine Lf.v_ifNT ?_ | with_reducible refine Lf.v_ifNF ?_ | with_reducible refine Lf.kP_int ?_ | with_reducible refine Lf.kP_bl ?_ | with_reducible refine Lf.kP_str ?_ | with_reducible refine Lf.kP_non ?_ | with_reducible refine Lf.v_iadd ?_ | with_reducible refine Lf.Wp.ok ?_ | with_reducible refine Lf.seq_wp ?_ | with_reducible refine Lf.v_bin ?_ | with_reducible refine Lf.v_cons ?_ | with_reducible refine Lf.v_call ?_ | with_reducible refine Lf.v_ret ?_ | with_reducible refine Lf.v_set ?_ | with_reducible refine Lf.v_asg ?_ | with_reducible refine Lf.v_if ?_ | with_reducible refine Lf.v_ifE ?_ | with_reducible refine Lf.v_bl ?_ | with_reducible refine Lf.v_tru ?_ | with_reducible refine Lf.v_and ?_ | with_reducible refine Lf.v_or ?_ | with_reducible refine Lf.v_not ?_ | with_reducible refine Lf.v_andV ?_ | with_reducible refine Lf.v_orV ?_ | with_reducible refine Lf.v_notV ?_ | with_reducible refine Lf.v_c ?_ | with_reducible refine Lf.v_nil ?_ | with_reducible refine Lf.v_skip ?_ | with_reducible refine Lf.v_drop ?_ | with_reducible refine Lf.v_retN ?_ | with_reducible refine Lf.v_brk ?_ | with_reducible refine Lf.v_cnt ?_ | with_reducible refine Lf.v_nm ?_ | with_reducible refine Lf.v_gnil ?_ | with_reducible refine Lf.v_gcons ?_ | with_reducible refine Lf.v_yes ?_ | with_reducible refine Lf.v_for ?_ | with_reducible refine Lf.v_lc ?_ | with_reducible refine Lf.v_rg ?_ | with_reducible refine Lf.v_iter ?_ | with_reducible refine Lf.v_iterT ?_ | with_reducible refine Lf.v_add ?_ | with_reducible refine Lf.v_sub ?_ | with_reducible refine Lf.v_neg ?_ | with_reducible refine Lf.v_lt ?_ | with_reducible refine Lf.v_le ?_ | with_reducible refine Lf.v_gt ?_ | with_reducible refine Lf.v_ge ?_ | with_reducible refine Lf.v_eqI ?_ | with_reducible refine Lf.v_neI ?_ | with_reducible refine Lf.v_abs ?_ | with_reducible refine Lf.v_intI ?_ | with_reducible refine Lf.v_intB ?_ | with_reducible refine Lf.v_max2 ?_ | with_reducible refine Lf.v_min2 ?_ | with_reducible refine Lf.v_lenT ?_ | with_reducible refine Lf.v_lenN ?_ | with_reducible refine Lf.v_nw ?_ | with_reducible refine Lf.v_un ?_ | with_reducible refine Lf.v_tup ?_ | with_reducible refine Lf.v_lst ?_ | with_reducible refine Lf.v_par2 ?_ | with_reducible refine Lf.v_par3 ?_ | with_reducible refine Lf.v_chain ?_ | with_reducible refine Lf.v_meth ?_ | with_reducible refine Lf.v_subT ?_ | with_reducible refine Lf.v_isiIB ?_ | with_reducible refine Lf.v_isiII ?_ | with_reducible refine Lf.v_sl ?_ | with_reducible refine Lf.v_noP ?_ | with_reducible refine Lf.v_pt ?_ | with_reducible refine Lf.v_cutT ?_ | ((with_reducible apply Lf.v_var); exact rfl) | ((with_reducible refine Lf.v_kw ?_ ?_); exact rfl) | ((with_reducible apply Lf.v_iterO); first | exact rfl | assumption) | ((with_reducible apply Lf.v_lenL); first | exact rfl | assumption) | ((with_reducible refine Lf.v_unp ?_ ?_); exact rfl) | ((with_reducible apply Lf.v_aug); exact rfl) | ((with_reducible refine Lf.v_mod ?_ ?_); first | decide | omega | assumption | fail) | ((with_reducible refine Lf.v_div ?_ ?_); first | exact ⟨by decide, by decide +kernel⟩ | assumption | exact Lf.log2d (by omega) ⟨by omega, by omega⟩ | fail) | ((with_reducible refine Lf.v_mul ?_ ?_); first | exact Lf.log2m ⟨by omega, by omega⟩ ⟨by omega, by omega⟩ | exact Lf.log2m (by assumption) ⟨by omega, by omega⟩ | exact Lf.log2m ⟨by omega, by omega⟩ (by assumption) | fail) | ((with_reducible refine Lf.v_pow ?_ ?_); exact ⟨by decide, by decide, by decide⟩) | ((with_reducible refine Lf.v_rg1 ?_ ?_); first | decide | fail) | ((with_reducible apply Lf.v_ixL); (first | exact rfl | assumption | fail); (first | exact rfl | assumption | fail)) | ((with_reducible apply Lf.v_ixT); (first | exact rfl | assumption | fail)) | ((with_reducible apply Lf.v_ixN); (first | exact rfl | assumption | fail)) | with_reducible refine ⟨_, rfl, ?_⟩ | (refine ⟨_, (rfl : Lf.tru _ (Lf.U.bl _) = some _), ?_⟩) | with_reducible refine ⟨_, _, rfl, ?_⟩ | with_reducible refine ⟨_, _, _, rfl, ?_⟩ | (refine ⟨(Nat.le_of_ble_eq_true rfl : List.length _ ≤ 16777216), ?_⟩) | with_reducible refine Lf.v_enum ?_ | fail))
end
local macro_rules | `(tactic| rfl') => `(tactic| repeat (first | with_reducible refine Lf.kS_nx ?_ | with_reducible refine Lf.kS_rt ?_ | with_reducible refine Lf.kS_bk ?_ | with_reducible refine Lf.kS_ct ?_ | with_reducible refine Lf.kD_rt ?_ | with_reducible refine Lf.kD_nx ?_ | with_reducible refine Lf.kF_nx ?_ | with_reducible refine Lf.kF_ct ?_ | with_reducible refine Lf.kF_bk ?_ | with_reducible refine Lf.kF_rt ?_ | with_reducible refine Lf.v_ifT ?_ | with_reducible refine Lf.v_ifF ?_ | with_reducible refine Lf.v_ifNT ?_ | with_reducible refine Lf.v_ifNF ?_ | with_reducible refine Lf.kP_int ?_ | with_reducible refine Lf.kP_bl ?_ | with_reducible refine Lf.kP_str ?_ | with_reducible refine Lf.kP_non ?_ | with_reducible refine Lf.v_iadd ?_ | with_reducible refine Lf.Wp.ok ?_ | with_reducible refine Lf.seq_wp ?_ | with_reducible refine Lf.v_bin ?_ | with_reducible refine Lf.v_cons ?_ | with_reducible refine Lf.v_call ?_ | with_reducible refine Lf.v_ret ?_ | with_reducible refine Lf.v_set ?_ | with_reducible refine Lf.v_asg ?_ | with_reducible refine Lf.v_if ?_ | with_reducible refine Lf.v_ifE ?_ | with_reducible refine Lf.v_bl ?_ | with_reducible refine Lf.v_tru ?_ | with_reducible refine Lf.v_and ?_ | with_reducible refine Lf.v_or ?_ | with_reducible refine Lf.v_not ?_ | with_reducible refine Lf.v_andV ?_ | with_reducible refine Lf.v_orV ?_ | with_reducible refine Lf.v_notV ?_ | with_reducible refine Lf.v_c ?_ | with_reducible refine Lf.v_nil ?_ | with_reducible refine Lf.v_skip ?_ | with_reducible refine Lf.v_drop ?_ | with_reducible refine Lf.v_retN ?_ | with_reducible refine Lf.v_brk ?_ | with_reducible refine Lf.v_cnt ?_ | with_reducible refine Lf.v_nm ?_ | with_reducible refine Lf.v_gnil ?_ | with_reducible refine Lf.v_gcons ?_ | with_reducible refine Lf.v_yes ?_ | with_reducible refine Lf.v_for ?_ | with_reducible refine Lf.v_lc ?_ | with_reducible refine Lf.v_rg ?_ | with_reducible refine Lf.v_iter ?_ | with_reducible refine Lf.v_iterT ?_ | with_reducible refine Lf.v_add ?_ | with_reducible refine Lf.v_sub ?_ | with_reducible refine Lf.v_neg ?_ | with_reducible refine Lf.v_lt ?_ | with_reducible refine Lf.v_le ?_ | with_reducible refine Lf.v_gt ?_ | with_reducible refine Lf.v_ge ?_ | with_reducible refine Lf.v_eqI ?_ | with_reducible refine Lf.v_neI ?_ | with_reducible refine Lf.v_abs ?_ | with_reducible refine Lf.v_intI ?_ | with_reducible refine Lf.v_intB ?_ | with_reducible refine Lf.v_max2 ?_ | with_reducible refine Lf.v_min2 ?_ | with_reducible refine Lf.v_lenT ?_ | with_reducible refine Lf.v_lenN ?_ | with_reducible refine Lf.v_nw ?_ | with_reducible refine Lf.v_un ?_ | with_reducible refine Lf.v_tup ?_ | with_reducible refine Lf.v_lst ?_ | with_reducible refine Lf.v_par2 ?_ | with_reducible refine Lf.v_par3 ?_ | with_reducible refine Lf.v_chain ?_ | with_reducible refine Lf.v_meth ?_ | with_reducible refine Lf.v_subT ?_ | with_reducible refine Lf.v_isiIB ?_ | with_reducible refine Lf.v_isiII ?_ | with_reducible refine Lf.v_sl ?_ | with_reducible refine Lf.v_noP ?_ | with_reducible refine Lf.v_pt ?_ | with_reducible refine Lf.v_cutT ?_ | ((with_reducible apply Lf.v_var); exact rfl) | ((with_reducible refine Lf.v_kw ?_ ?_); exact rfl) | ((with_reducible apply Lf.v_iterO); first | exact rfl | assumption) | ((with_reducible apply Lf.v_lenL); first | exact rfl | assumption) | ((with_reducible refine Lf.v_unp ?_ ?_); exact rfl) | ((with_reducible apply Lf.v_aug); exact rfl) | ((with_reducible refine Lf.v_mod ?_ ?_); first | decide | omega | assumption | fail) | ((with_reducible refine Lf.v_div ?_ ?_); first | exact ⟨by decide, by decide +kernel⟩ | assumption | exact Lf.log2d (by omega) ⟨by omega, by omega⟩ | fail) | ((with_reducible refine Lf.v_mul ?_ ?_); first | exact Lf.log2m ⟨by omega, by omega⟩ ⟨by omega, by omega⟩ | exact Lf.log2m (by assumption) ⟨by omega, by omega⟩ | exact Lf.log2m ⟨by omega, by omega⟩ (by assumption) | fail) | ((with_reducible refine Lf.v_pow ?_ ?_); exact ⟨by decide, by decide, by decide⟩) | ((with_reducible refine Lf.v_rg1 ?_ ?_); first | decide | fail) | ((with_reducible apply Lf.v_ixL); (first | exact rfl | assumption | fail); (first | exact rfl | assumption | fail)) | ((with_reducible apply Lf.v_ixT); (first | exact rfl | assumption | fail)) | ((with_reducible apply Lf.v_ixN); (first | exact rfl | assumption | fail)) | with_reducible refine ⟨_, rfl, ?_⟩ | (refine ⟨_, (rfl : Lf.tru _ (Lf.U.bl _) = some _), ?_⟩) | with_reducible refine ⟨_, _, rfl, ?_⟩ | with_reducible refine ⟨_, _, _, rfl, ?_⟩ | (refine ⟨(Nat.le_of_ble_eq_true rfl : List.length _ ≤ 16777216), ?_⟩) | with_reducible refine Lf.v_enum ?_ | fail))
end Lf
set_option Elab.async false
set_option linter.all false
set_option maxRecDepth 100000
set_option maxHeartbeats 4000000
namespace Lf
open PySem PySem.Spec L2
abbrev Pw := List Int × U
def pt : Nat → List U → List Pw
  | 0, xs => xs.zipIdx.flatMap fun q => [([(q.2 : Int)], q.1)]
  | d + 1, xs => xs.zipIdx.flatMap fun q => match lpOf q.1 with
    | some (k, b) => (List.range k.toNat).flatMap fun t : Nat => (pt d b).map fun w => ((q.2 : Int) :: (t : Int) :: w.1, w.2)
    | none => [([(q.2 : Int)], q.1)]
local macro_rules | `(tactic| rfl') => `(tactic| repeat (first | with_reducible refine Lf.kS_nx ?_ | with_reducible refine Lf.kS_rt ?_ | with_reducible refine Lf.kS_bk ?_ | with_reducible refine Lf.kS_ct ?_ | with_reducible refine Lf.kD_rt ?_ | with_reducible refine Lf.kD_nx ?_ | with_reducible refine Lf.kF_nx ?_ | with_reducible refine Lf.kF_ct ?_ | with_reducible refine Lf.kF_bk ?_ | with_reducible refine Lf.kF_rt ?_ | with_reducible refine Lf.v_ifT ?_ | with_reducible refine Lf.v_ifF ?_ | with_reducible refine Lf.v_ifNT ?_ | with_reducible refine Lf.v_ifNF ?_ | with_reducible refine Lf.kP_int ?_ | with_reducible refine Lf.kP_bl ?_ | with_reducible refine Lf.kP_str ?_ | with_reducible refine Lf.kP_non ?_ | with_reducible refine Lf.v_iadd ?_ | with_reducible refine Lf.Wp.ok ?_ | with_reducible refine Lf.seq_wp ?_ | with_reducible refine Lf.v_bin ?_ | with_reducible refine Lf.v_cons ?_ | with_reducible refine Lf.v_call ?_ | with_reducible refine Lf.v_ret ?_ | with_reducible refine Lf.v_set ?_ | with_reducible refine Lf.v_asg ?_ | with_reducible refine Lf.v_if ?_ | with_reducible refine Lf.v_ifE ?_ | with_reducible refine Lf.v_bl ?_ | with_reducible refine Lf.v_tru ?_ | with_reducible refine Lf.v_and ?_ | with_reducible refine Lf.v_or ?_ | with_reducible refine Lf.v_not ?_ | with_reducible refine Lf.v_andV ?_ | with_reducible refine Lf.v_orV ?_ | with_reducible refine Lf.v_notV ?_ | with_reducible refine Lf.v_c ?_ | with_reducible refine Lf.v_nil ?_ | with_reducible refine Lf.v_skip ?_ | with_reducible refine Lf.v_drop ?_ | with_reducible refine Lf.v_retN ?_ | with_reducible refine Lf.v_brk ?_ | with_reducible refine Lf.v_cnt ?_ | with_reducible refine Lf.v_nm ?_ | with_reducible refine Lf.v_gnil ?_ | with_reducible refine Lf.v_gcons ?_ | with_reducible refine Lf.v_yes ?_ | with_reducible refine Lf.v_for ?_ | with_reducible refine Lf.v_lc ?_ | with_reducible refine Lf.v_rg ?_ | with_reducible refine Lf.v_iter ?_ | with_reducible refine Lf.v_iterT ?_ | with_reducible refine Lf.v_add ?_ | with_reducible refine Lf.v_sub ?_ | with_reducible refine Lf.v_neg ?_ | with_reducible refine Lf.v_lt ?_ | with_reducible refine Lf.v_le ?_ | with_reducible refine Lf.v_gt ?_ | with_reducible refine Lf.v_ge ?_ | with_reducible refine Lf.v_eqI ?_ | with_reducible refine Lf.v_neI ?_ | with_reducible refine Lf.v_abs ?_ | with_reducible refine Lf.v_intI ?_ | with_reducible refine Lf.v_intB ?_ | with_reducible refine Lf.v_max2 ?_ | with_reducible refine Lf.v_min2 ?_ | with_reducible refine Lf.v_lenT ?_ | with_reducible refine Lf.v_lenN ?_ | with_reducible refine Lf.v_nw ?_ | with_reducible refine Lf.v_un ?_ | with_reducible refine Lf.v_tup ?_ | with_reducible refine Lf.v_lst ?_ | with_reducible refine Lf.v_par2 ?_ | with_reducible refine Lf.v_par3 ?_ | with_reducible refine Lf.v_chain ?_ | with_reducible refine Lf.v_meth ?_ | with_reducible refine Lf.v_subT ?_ | with_reducible refine Lf.v_isiIB ?_ | with_reducible refine Lf.v_isiII ?_ | with_reducible refine Lf.v_sl ?_ | with_reducible refine Lf.v_noP ?_ | with_reducible refine Lf.v_pt ?_ | with_reducible refine Lf.v_cutT ?_ | ((with_reducible apply Lf.v_var); exact rfl) | ((with_reducible refine Lf.v_kw ?_ ?_); exact rfl) | ((with_reducible apply Lf.v_iterO); first | exact rfl | assumption) | ((with_reducible apply Lf.v_lenL); first | exact rfl | assumption) | ((with_reducible refine Lf.v_unp ?_ ?_); exact rfl) | ((with_reducible apply Lf.v_aug); exact rfl) | ((with_reducible refine Lf.v_mod ?_ ?_); first | decide | omega | assumption | fail) | ((with_reducible refine Lf.v_div ?_ ?_); first | exact ⟨by decide, by decide +kernel⟩ | assumption | exact Lf.log2d (by omega) ⟨by omega, by omega⟩ | fail) | ((with_reducible refine Lf.v_mul ?_ ?_); first | exact Lf.log2m ⟨by omega, by omega⟩ ⟨by omega, by omega⟩ | exact Lf.log2m (by assumption) ⟨by omega, by omega⟩ | exact Lf.log2m ⟨by omega, by omega⟩ (by assumption) | fail) | ((with_reducible refine Lf.v_pow ?_ ?_); exact ⟨by decide, by decide, by decide⟩) | ((with_reducible refine Lf.v_rg1 ?_ ?_); first | decide | fail) | ((with_reducible apply Lf.v_ixL); (first | exact rfl | assumption | fail); (first | exact rfl | assumption | fail)) | ((with_reducible apply Lf.v_ixT); (first | exact rfl | assumption | fail)) | ((with_reducible apply Lf.v_ixN); (first | exact rfl | assumption | fail)) | with_reducible refine ⟨_, rfl, ?_⟩ | (refine ⟨_, (rfl : Lf.tru _ (Lf.U.bl _) = some _), ?_⟩) | with_reducible refine ⟨_, _, rfl, ?_⟩ | with_reducible refine ⟨_, _, _, rfl, ?_⟩ | (refine ⟨(Nat.le_of_ble_eq_true rfl : List.length _ ≤ 16777216), ?_⟩) | with_reducible refine Lf.v_enum ?_ | fail))
end Lf
set_option Elab.async false
set_option linter.all false
set_option maxRecDepth 100000
set_option maxHeartbeats 4000000
namespace Lf
open PySem PySem.Spec L2
end Lf
set_option Elab.async false
set_option linter.all false
set_option maxRecDepth 100000
set_option maxHeartbeats 4000000
namespace Lf
open PySem PySem.Spec L2
/-- what lists and dicts T holds, T' holds too -/
def Kp (T T' : Sto) : Prop := (∀ (j : Nat) (xs : List U), T[j]? = some (O.lst xs) → T'[j]? = some (O.lst xs)) ∧ (∀ (j : Nat) (xs : List (U × U)), T[j]? = some (O.dic xs) → T'[j]? = some (O.dic xs))
theorem Kp.refl (T : Sto) : Kp T T := ⟨fun _ _ h => h, fun _ _ h => h⟩
theorem Kp.trans {T1 T2 T3 : Sto} (a : Kp T1 T2) (b : Kp T2 T3) : Kp T1 T3 := ⟨fun j xs h => b.1 j xs (a.1 j xs h), fun j xs h => b.2 j xs (a.2 j xs h)⟩
theorem Kp.app (T os : Sto) : Kp T (T ++ os) :=
  ⟨fun j xs h => by rw [List.getElem?_append_left (List.getElem?_eq_some_iff.mp h).1]; exact h, fun j xs h => by rw [List.getElem?_append_left (List.getElem?_eq_some_iff.mp h).1]; exact h⟩
/-- the store without what stands at i -/
def msk (i : Nat) (T : Sto) : Sto := T.set i (.exc Str.empty [])
theorem msk_ne {i j : Nat} {T : Sto} (h : j ≠ i) : (msk i T)[j]? = T[j]? := List.getElem?_set_ne (Ne.symm h)
theorem msk_at {i j : Nat} {T : Sto} {o : O} (h : (msk i T)[j]? = some o) (ho : ∀ C fs, o ≠ .exc C fs) : j ≠ i ∧ T[j]? = some o := by
  by_cases e : j = i
  · subst e
    exfalso
    unfold msk at h
    rw [List.getElem?_set] at h
    simp only [if_true] at h
    split at h
    · cases h; exact ho _ _ rfl
    · cases h
  · rw [msk_ne e] at h
    exact ⟨e, h⟩
theorem Kp.msk {i : Nat} {T : Sto} : Kp (msk i T) T := ⟨fun j xs h => (msk_at h fun _ _ z => nomatch z).2, fun j xs h => (msk_at h fun _ _ z => nomatch z).2⟩
theorem Ext.msk {i : Nat} {T T' : Sto} (e : Ext i T T') : Kp (Lf.msk i T) (Lf.msk i T') :=
  ⟨fun j xs h => by
    obtain ⟨h1, h2⟩ := msk_at h fun _ _ z => nomatch z
    rw [msk_ne h1]
    exact e.at_ h2 h1, fun j xs h => by
    obtain ⟨h1, h2⟩ := msk_at h fun _ _ z => nomatch z
    rw [msk_ne h1]
    exact e.at_ h2 h1⟩
theorem datD_kp {T T' : Sto} (k : Kp T T') : ∀ (n : Nat) (u : U) (d : PyData), datD T n u = some d → datD T' n u = some d := by
  intro n
  induction n with
  | zero =>
    intro u d e
    cases u <;> exact e
  | succ n ih =>
    have all : ∀ (xs : List U) (ds : List PyData), dats (datD T n) xs = some ds → dats (datD T' n) xs = some ds := by
      intro xs
      induction xs with
      | nil => intro ds e; exact e
      | cons x xs ihx =>
        intro ds e
        unfold dats at e
        split at e
        · rename_i d ds' e1 e2
          cases e
          exact dats_cons (ih x d e1) (ihx ds' e2)
        · cases e
    intro u d e
    cases u with
    | tup xs =>
      obtain ⟨ds, e1, rfl⟩ := Option.map_eq_some_iff.mp (show (dats (datD T n) xs).map PyData.tuple = some d from e)
      show (dats (datD T' n) xs).map PyData.tuple = _
      rw [all xs ds e1]; rfl
    | ob i =>
      have e : (match T[i]? with
        | some (.lst xs) => (dats (datD T n) xs).map PyData.list
        | some (.dic kvs) => match keysD kvs, dats (datD T n) (kvs.map fun p : U × U => p.2) with
          | some ks, some vs => some (.dict (ks.zip vs))
          | _, _ => none
        | _ => none) = some d := e
      show (match T'[i]? with
        | some (.lst xs) => (dats (datD T' n) xs).map PyData.list
        | some (.dic kvs) => match keysD kvs, dats (datD T' n) (kvs.map fun p : U × U => p.2) with
          | some ks, some vs => some (.dict (ks.zip vs))
          | _, _ => none
        | _ => none) = some d
      split at e
      · rename_i xs ex
        obtain ⟨ds, e1, rfl⟩ := Option.map_eq_some_iff.mp e
        rw [k.1 _ _ ex]
        show (dats (datD T' n) xs).map PyData.list = _
        rw [all xs ds e1]; rfl
      · rename_i kvs ex
        split at e
        · rename_i as bs e1 e2
          cases e
          rw [k.2 _ _ ex]
          simp only [e1, all _ _ e2]
        · cases e
      · cases e
    | _ => exact e
/-- a value whose text can be told, dicts among what it holds -/
def RpD (T : Sto) (u : U) (k b : Nat) : Prop := ∃ d, (∀ n, k ≤ n → datD T n u = some d) ∧ d.showable = true ∧ d.depth ≤ k ∧ d.leavesShort 1930 = true ∧ d.bulk ≤ b ∧ ∀ ns, u ≠ .scr ns
def shwD (T : Sto) (u : U) : Str := match datD T 66 u with
  | some d => d.shown
  | none => Str.empty
theorem RpD.kp {T T' : Sto} {u : U} {k b : Nat} (h : RpD T u k b) (e : Kp T T') : RpD T' u k b :=
  let ⟨d, h1, h2⟩ := h; ⟨d, fun n hn => datD_kp e n u d (h1 n hn), h2⟩
theorem RpD.mono {T : Sto} {u : U} {k b k' b' : Nat} (h : RpD T u k b) (hk : k ≤ k') (hb : b ≤ b') : RpD T u k' b' :=
  let ⟨d, h1, h2, h4, h5, h6, h7⟩ := h; ⟨d, fun n hn => h1 n (Nat.le_trans hk hn), h2, Nat.le_trans h4 hk, h5, Nat.le_trans h6 hb, h7⟩
section
variable {T : Sto}
theorem RpD.int {i : Int} (h : i.natAbs.log2 < 1920) : RpD T (.int i) 0 0 := by
  refine ⟨.int i, fun n _ => by cases n <;> rfl, by simp [PyData.showable, h], Nat.le_of_eq rfl, ?_, Nat.le_of_eq rfl, fun _ => U.noConfusion⟩
  simp only [PyData.leavesShort, decide_eq_true_eq]
  exact Nat.le_trans (PyProof.Rows.int_text_len_1921 h) (by decide)
theorem RpD.sm {i : Int} (h : Sm i) : RpD T (.int i) 0 0 := .int (by have := log2_small h; omega)
theorem RpD.non : RpD T .non 0 0 := ⟨.none, fun n _ => by cases n <;> rfl, rfl, Nat.le_of_eq rfl, rfl, Nat.le_of_eq rfl, fun _ => U.noConfusion⟩
theorem RpD.bl (b : Bool) : RpD T (.bl b) 0 0 := ⟨.bool b, fun n _ => by cases n <;> rfl, rfl, Nat.le_of_eq rfl, rfl, Nat.le_of_eq rfl, fun _ => U.noConfusion⟩
theorem short_str {x : Str} (h : PyData.strOk x = true) : PyData.leavesShort 1930 (.str x) = true := by
  unfold PyData.strOk at h
  simp only [PyData.leavesShort, List.all_eq_true, decide_eq_true_eq]
  intro c hc
  rw [Array.all_eq_true] at h
  obtain ⟨i, hi, rfl⟩ := List.mem_iff_getElem.mp hc
  have := h i (by simpa using hi)
  simp only [decide_eq_true_eq] at this
  rw [Array.getElem_toList]
  omega
theorem RpD.str {x : Str} (h : PyData.strOk x = true) : RpD T (.str x) 0 x.cps.size :=
  ⟨.str x, fun n _ => by cases n <;> rfl, rfl, Nat.le_of_eq rfl, short_str h, Nat.le_of_eq rfl, fun _ => U.noConfusion⟩
def RpDs (T : Sto) (us : List U) (k b : Nat) : Prop := ∃ ds, (∀ n, k ≤ n → dats (datD T n) us = some ds) ∧ PyData.showableAll ds = true ∧ PyData.depthAll ds ≤ k ∧ PyData.leavesShortAll 1930 ds = true ∧ PyData.bulkAll ds ≤ b
theorem RpDs.nil {k : Nat} : RpDs T [] k 0 := ⟨[], fun _ _ => rfl, rfl, Nat.zero_le _, rfl, Nat.le_of_eq rfl⟩
theorem RpDs.cons {u : U} {us : List U} {k b c : Nat} (h : RpD T u k b) (h2 : RpDs T us k c) : RpDs T (u :: us) k (b + 1 + c) := by
  obtain ⟨d, a1, a2, a4, a5, a6, _⟩ := h
  obtain ⟨ds, b1, b2, b4, b5, b6⟩ := h2
  refine ⟨d :: ds, fun n hn => dats_cons (a1 n hn) (b1 n hn), ?_, ?_, ?_, ?_⟩
  · simp only [PyData.showableAll, a2, b2, Bool.and_self]
  · simp only [PyData.depthAll]; omega
  · simp only [PyData.leavesShortAll, a5, b5, Bool.and_self]
  · simp only [PyData.bulkAll]; omega
theorem RpD.tup {us : List U} {k b : Nat} (h : RpDs T us k b) : RpD T (.tup us) (k + 1) b := by
  obtain ⟨ds, b1, b2, b4, b5, b6⟩ := h
  refine ⟨.tuple ds, fun n hn => ?_, ?_, ?_, ?_, ?_, fun _ => U.noConfusion⟩
  · obtain ⟨n, rfl⟩ : ∃ m, n = m + 1 := ⟨n - 1, by omega⟩
    show (dats (datD T n) us).map PyData.tuple = _
    rw [b1 n (by omega)]; rfl
  · simpa only [PyData.showable] using b2
  · simp only [PyData.depth]; omega
  · simpa only [PyData.leavesShort] using b5
  · simpa only [PyData.bulk] using b6
theorem RpD.ob {us : List U} {i k b : Nat} (e : T[i]? = some (.lst us)) (h : RpDs T us k b) : RpD T (.ob i) (k + 1) b := by
  obtain ⟨ds, b1, b2, b4, b5, b6⟩ := h
  refine ⟨.list ds, fun n hn => ?_, ?_, ?_, ?_, ?_, fun _ => U.noConfusion⟩
  · obtain ⟨n, rfl⟩ : ∃ m, n = m + 1 := ⟨n - 1, by omega⟩
    show (match T[i]? with
      | some (.lst xs) => (dats (datD T n) xs).map PyData.list
      | some (.dic kvs) => match keysD kvs, dats (datD T n) (kvs.map fun p : U × U => p.2) with
        | some ks, some vs => some (.dict (ks.zip vs))
        | _, _ => none
      | _ => none) = _
    rw [e]
    show (dats (datD T n) us).map PyData.list = _
    rw [b1 n (by omega)]; rfl
  · simpa only [PyData.showable] using b2
  · simp only [PyData.depth]; omega
  · simpa only [PyData.leavesShort] using b5
  · simpa only [PyData.bulk] using b6
theorem RpD.dic0 {i : Nat} (e : T[i]? = some (.dic [])) : RpD T (.ob i) 1 0 := by
  refine ⟨.dict [], fun n hn => ?_, rfl, Nat.le_of_eq rfl, rfl, Nat.le_of_eq rfl, fun _ => U.noConfusion⟩
  obtain ⟨n, rfl⟩ : ∃ m, n = m + 1 := ⟨n - 1, by omega⟩
  show (match T[i]? with
    | some (.lst xs) => (dats (datD T n) xs).map PyData.list
    | some (.dic kvs) => match keysD kvs, dats (datD T n) (kvs.map fun p : U × U => p.2) with
      | some ks, some vs => some (.dict (ks.zip vs))
      | _, _ => none
    | _ => none) = _
  rw [e]; rfl
/-- a dict whose keys are texts -/
def RpKs (T : Sto) (kvs : List (U × U)) (k b : Nat) : Prop := ∃ ks vs, keysD kvs = some ks ∧ (∀ n, k ≤ n → dats (datD T n) (kvs.map fun p : U × U => p.2) = some vs) ∧ PyData.showableKv (ks.zip vs) = true ∧ PyData.depthKv (ks.zip vs) ≤ k ∧ PyData.leavesShortKv 1930 (ks.zip vs) = true ∧ PyData.bulkKv (ks.zip vs) ≤ b
theorem RpKs.nil {k : Nat} : RpKs T [] k 0 := ⟨[], [], rfl, fun _ _ => rfl, rfl, Nat.zero_le _, rfl, Nat.le_of_eq rfl⟩
theorem RpKs.cons {x : Str} {v : U} {r : List (U × U)} {k b c : Nat} (hx : PyData.strOk x = true) (h : RpD T v k b) (h2 : RpKs T r k c) : RpKs T ((.str x, v) :: r) k (x.cps.size + b + 2 + c) := by
  obtain ⟨d, a1, a2, a4, a5, a6, _⟩ := h
  obtain ⟨ks, vs, c1, b1, b2, b4, b5, b6⟩ := h2
  refine ⟨.str x :: ks, d :: vs, ?_, fun n hn => dats_cons (a1 n hn) (b1 n hn), ?_, ?_, ?_, ?_⟩
  · show (keysD r).map (PyData.str x :: ·) = _
    rw [c1]; rfl
  · show (PyData.showable (.str x) && d.showable && PyData.showableKv (ks.zip vs)) = true
    rw [a2, b2]; rfl
  · show max (max (PyData.depth (.str x)) d.depth) (PyData.depthKv (ks.zip vs)) ≤ k
    have : PyData.depth (.str x) = 0 := rfl
    omega
  · show (PyData.leavesShort 1930 (.str x) && d.leavesShort 1930 && PyData.leavesShortKv 1930 (ks.zip vs)) = true
    rw [a5, b5, short_str hx]; rfl
  · show PyData.bulk (.str x) + d.bulk + 2 + PyData.bulkKv (ks.zip vs) ≤ _
    have : PyData.bulk (.str x) = x.cps.size := rfl
    omega
theorem RpD.dic {kvs : List (U × U)} {i k b : Nat} (e : T[i]? = some (.dic kvs)) (h : RpKs T kvs k b) : RpD T (.ob i) (k + 1) b := by
  obtain ⟨ks, vs, c1, b1, b2, b4, b5, b6⟩ := h
  refine ⟨.dict (ks.zip vs), fun n hn => ?_, ?_, ?_, ?_, ?_, fun _ => U.noConfusion⟩
  · obtain ⟨n, rfl⟩ : ∃ m, n = m + 1 := ⟨n - 1, by omega⟩
    show (match T[i]? with
      | some (.lst xs) => (dats (datD T n) xs).map PyData.list
      | some (.dic kvs) => match keysD kvs, dats (datD T n) (kvs.map fun p : U × U => p.2) with
        | some ks, some vs => some (.dict (ks.zip vs))
        | _, _ => none
      | _ => none) = _
    rw [e]
    simp only [c1, b1 n (by omega)]
  · simpa only [PyData.showable] using b2
  · simp only [PyData.depth]; omega
  · simpa only [PyData.leavesShort] using b5
  · simpa only [PyData.bulk] using b6
theorem v_reprRD {u : U} {k b : Nat} {Q : U → Sto → Prop} (h : RpD T u k b) (hk : k ≤ 64) (hb : b ≤ 8000) (q : Q (.str (shwD T u)) T) : Wp (gReprD [u] T) Q := by
  obtain ⟨d, h1, h2, h4, h5, h6, h7⟩ := h
  have e := h1 66 (by omega)
  have hl := PyData.shown_le_bulk 1930 (by decide) d h5
  have hl2 : (1930 + 2) * d.bulk ≤ (1930 + 2) * 8000 := Nat.mul_le_mul_left _ (by omega)
  have es : shwD T u = d.shown := by unfold shwD; rw [e]
  rw [es] at q
  cases u with
  | non => cases e; exact .ok q
  | bl b => cases e; exact .ok q
  | int i =>
    cases e
    show Wp (gRepr [.int i] T) Q
    unfold gRepr
    simp only [PyData.showable, decide_eq_true_eq] at h2
    simp only [h2, if_true]
    exact .ok q
  | str x =>
    cases e
    have hl : (reprText x).length ≤ (1930 + 2) * (PyData.str x).bulk + 1930 := hl
    show Wp (gRepr [.str x] T) Q
    unfold gRepr
    simp only []
    rw [if_pos (by omega)]
    exact .ok q
  | tup xs => exact v_reprT e ⟨h2, by omega, by omega⟩ q
  | ob j => exact v_reprO e ⟨h2, by omega, by omega⟩ q
  | scr ns => exact absurd rfl (h7 ns)
  | raw v => cases e
end
theorem v_dic0 {η : Lo} {T : Sto} {Q : U → Sto → Prop} (q : Q (.ob T.length) (T ++ [.dic []])) : Wp (fDic0 η T) Q := .ok q
theorem v_dic1 {k : Str} {Fv : FxE} {η : Lo} {T : Sto} {Q : U → Sto → Prop} (q : Wp (Fv η T) fun u T1 => Q (.ob T1.length) (T1 ++ [.dic [(.str k, u)]])) : Wp (fDic1 k Fv η T) Q := .bindE q fun _ _ q => .ok q
end Lf
set_option Elab.async false
set_option linter.all false
set_option maxRecDepth 100000
set_option maxHeartbeats 4000000
namespace Lf
open PySem PySem.Spec L2
def isD0 (T : Sto) : U → Bool
  | .ob k => match T[k]? with
    | some (.dic _) => true
    | _ => false
  | _ => false
def gEqT0 : U → U → M U := fun u w T => match u, w with
  | .tup xs, .tup [] => .ok (.bl xs.isEmpty) T
  | u, w => gEq false u w T
theorem op_eqT0 {X : Cx} (hu : X.A.units + 1 < cLine) : OpR X (compareOp .Eq) (fun x y H Q => ∃ a b xs, x = .ref a ∧ y = .ref b ∧ SqT X.K H a xs ∧ SqT X.K H b [] ∧ Q (.bl xs.isEmpty) H) := by
  intro pins s σ H x y v u Q I rx ry h
  obtain ⟨a, b, xs, rfl, rfl, ha, hb, q⟩ := h
  cases rx
  cases ry
  obtain ⟨us, r1, p1, _⟩ := I.tuple ha
  obtain ⟨ws, r2, p2, _⟩ := I.tuple hb
  cases r2
  refine PySem.SeqAt.eq_tupleAt (e := fun _ => true) p1 p2 (by omega) (fun j h1 h2 => absurd h2 (Nat.not_lt_zero _)) ?_
  refine ⟨.bl _, H, I, ?_, q⟩
  cases r1 with
  | nil => rfl
  | cons _ _ => rfl
theorem fop_eqT0 {X : Cx} {E : XK} (hu : X.A.units + 64 < cLine) : FOp X E (compareOp .Eq) gEqT0 := by
  obtain ⟨r, h1, h2⟩ := fop_eq (X := X) (E := E) hu
  refine ⟨_, OpR.or (op_eqT0 (by omega)) h1, fun ρ H T u w x y Q s ru rw h => ?_⟩
  unfold gEqT0 at h
  split at h
  · rename_i xs
    cases ru with
    | @tup a vs us q rs =>
      cases rw with
      | @tup b vs2 us2 q2 rs2 =>
        cases rs2
        refine .inl ⟨_, _, vs, rfl, rfl, q, q2, ?_⟩
        have e : vs.isEmpty = xs.isEmpty := by
          cases rs with
          | nil => rfl
          | cons _ _ => rfl
        rw [e]
        exact okV s h (.bl _)
  · exact .inr (h2 ρ H T _ _ x y Q s ru rw h)
theorem v_eqT0 {xs : List U} {T : Sto} {Q : U → Sto → Prop} (q : Q (.bl xs.isEmpty) T) : Wp (gEqT0 (.tup xs) (.tup []) T) Q := .ok q
end Lf
set_option Elab.async false
set_option linter.all false
set_option maxRecDepth 100000
set_option maxHeartbeats 4000000
namespace Lf
open PySem PySem.Spec L2
abbrev StI (h : Heap) (i1 : Addr) (z : Str) (t : Tok) (i : Nat) : Prop := h.IsStrIter i1 (PySem.strIterType z) z t i
theorem StI.keep {h h' : Heap} {i1 : Addr} {z : Str} {t : Tok} {i : Nat} (x : StI h i1 z t i) (k : ∀ o, h.get? i1 = some o → h'.get? i1 = some o) : StI h' i1 z t i := by
  obtain ⟨o, e, r⟩ := x
  exact ⟨o, k o e, r⟩
theorem StI.obj {h : Heap} {i1 : Addr} {z : Str} {t : Tok} {i : Nat} (x : StI h i1 z t i) : ∃ o, h.get? i1 = some o ∧ ∀ v, o.data ≠ .cell v := by
  obtain ⟨o, e, _, d⟩ := x
  exact ⟨o, e, fun v q => by rw [d] at q; cases q⟩
end Lf
set_option Elab.async false
set_option linter.all false
set_option maxRecDepth 100000
set_option maxHeartbeats 4000000
namespace Lf
open PySem PySem.W PySem.HandSPX Builtin Builtin.ObjectAttr
end Lf
namespace Lf
open PySem PySem.Spec L2
open PyProof.Rows (envOfC)
def fMkE (x f : Str) (Fe : FxE) : FxE := fun η T => (Fe η T).bind fun u T1 => nw (.exc x [(f, u)]) T1
def fMkE0 (x : Str) : FxE := fun _ T => nw (.exc x []) T
theorem v_mkE {x f : Str} {Fe : FxE} {η : Lo} {T : Sto} {Q : U → Sto → Prop} (q : Wp (Fe η T) fun u T1 => Q (.ob T1.length) (T1 ++ [.exc x [(f, u)]])) : Wp (fMkE x f Fe η T) Q := .bindE q fun _ _ q => .ok q
theorem v_mkE0 {x : Str} {η : Lo} {T : Sto} {Q : U → Sto → Prop} (q : Q (.ob T.length) (T ++ [.exc x []])) : Wp (fMkE0 x η T) Q := .ok q
end Lf
set_option Elab.async false
set_option linter.all false
set_option maxRecDepth 100000
set_option maxHeartbeats 4000000
namespace Lf
open PySem PySem.Spec L2
def getA (fs : List (Str × U)) (f : Str) : Option U := (fs.find? fun p => decide (p.1 = f)).map (·.2)
def putA (f : Str) (v : U) : List (Str × U) → List (Str × U)
  | [] => [(f, v)]
  | (g, x) :: r => if g = f then (g, v) :: r else (g, x) :: putA f v r
abbrev PaA (K : PySem.W.Frag) (ρ : List Addr) (H : Hp) : List (Str × U) → List (Str × V) → Prop := Paired (fun (p : Str × U) (q : Str × V) => p.1 = q.1 ∧ RV K ρ H p.2 q.2)
theorem PaA.gr {K : PySem.W.Frag} {ρ ρ' : List Addr} {H H' : Hp} {fs : List (Str × U)} {gs : List (Str × V)} (h : PaA K ρ H fs gs) (g : Gr K ρ H ρ' H') : PaA K ρ' H' fs gs := Paired.mapP h fun _ _ z => ⟨z.1, z.2.gr g⟩
/-- an own class, and names that it has not -/
structure ClA (K : PySem.W.Frag) (C : Str) (fs : List Str) : Prop where
  c : Cls K (He.ga K C)
  n : ∀ f ∈ fs, NoAttr K (He.ga K C) f
def gFld (L : List Str) (f : Str) : U → M U := fun u T => match u with
  | .ob k => match T[k]? with
    | some (.ins C fs) => if C ∈ L then match getA fs f with
      | some v => .ok v T
      | none => .no else .no
    | _ => .no
  | _ => .no
/-- where an attribute is set -/
def putO (L : List Str) (f : Str) (x y : U) (T : Sto) : Option Sto := match x with
  | .ob k => match T[k]? with
    | some (.ins C fs) => if C ∈ L ∧ fs.length < 1000 then some (T.set k (.ins C (putA f y fs))) else none
    | _ => none
  | _ => none
def fFldS (L : List Str) (f : Str) (Fo Fv : FxE) : FxS := fun η T => (Fv η T).bind fun y T1 => (Fo η T1).bind fun x T2 => match putO L f x y T2 with
  | some T3 => .ok (.nx, η) T3
  | none => .no
def clsO (x : U) (T : Sto) : Str := match x with
  | .ob k => match T[k]? with
    | some (.ins C _) => C
    | _ => ""
  | _ => ""
def fFldAug (L : List Str) (f : Str) (g : U → U → M U) (Fo Fv : FxE) : FxS := fun η T => (Fo η T).bind fun x T1 => (gFld L f x T1).bind fun v _ => (Fv η T1).bind fun y T2 => (g v y T2).bind fun z T3 => match putO [clsO x T1] f x z T3 with
  | some T4 => .ok (.nx, η) T4
  | none => .no
/-- a method of a class does what g tells -/
structure DokM (P : Program) (w : World) (K : PySem.W.Frag) (mg : Str → Option Value) (base : Heap) (CX : CXT) (C m : Str) (k : Nat) (ps : List Str) (g : List U → M U) : Prop where
  ex : ∃ fd, FnG P w K mg base CX k (He.ma K (He.ga K C) m) fd ps g ∧ Binds K fd ps []
/-- D's method m is C's -/
structure MeA (K : PySem.W.Frag) (D C m : Str) : Prop where
  m : Meth K (He.ga K D) m (He.ma K (He.ga K C) m)
def fMkC (C : Str) (n : Nat) (g : List U → M U) (Fr : FxA) : FxE := fun η T => (Fr η T).bind fun us T1 => if us.length + 1 = n then (g (.ob T1.length :: us) (T1 ++ [.ins C []])).bind fun v T2 => match v with
  | .non => .ok (.ob T1.length) T2
  | _ => .no else .no
/-- o.m(..): the classes that o may have, what m does there -/
def selM (m : Str) (tab : List (Str × (List U → M U))) (o : U) (T : Sto) : Option (List U → M U) := match o with
  | .ob k => match T[k]? with
    | some (.ins C fs) => if getA fs m = none then (tab.find? fun p => decide (p.1 = C)).map (·.2) else none
    | _ => none
  | _ => none
def fMth (m : Str) (n : Nat) (tab : List (Str × (List U → M U))) (Fo : FxE) (Fr : FxA) : FxE := fun η T => (Fo η T).bind fun o T1 => match selM m tab o T1 with
  | some g => (Fr η T1).bind fun us T2 => if us.length + 1 = n then g (o :: us) T2 else .no
  | none => .no
/-- what is asked of a class of a method call -/
structure MtOk (X : Cx) (CX : CXT) (m : Str) (ps : List Str) (p : Str × (List U → M U)) : Prop where
  c : Cls X.K (He.ga X.K p.1)
  ex : ∃ (f : Addr) (fd : FuncData) (k : Nat), Meth X.K (He.ga X.K p.1) m f ∧ FnG X.prog X.w X.K X.mg X.base CX k f fd ps p.2 ∧ Binds X.K fd ps [] ∧ Room k X.A
theorem MtOk.of {X : Cx} {CX : CXT} {D C m : Str} {ps fs : List Str} {j k : Nat} {g : List U → M U} (c : ClA X.K D fs) (M : MeA X.K D C m) (d : DokM X.prog X.w X.K X.mg X.base CX C m j ps g) (room : Room k X.A) (hjk : Nat.ble j k = true) : MtOk X CX m ps (D, g) :=
  ⟨c.c, let ⟨fd, F, hb⟩ := d.ex; ⟨_, fd, j, M.m, F, hb, room.mono (Nat.le_of_ble_eq_true hjk)⟩⟩
theorem DokM.of {P : Program} {w : World} {K : PySem.W.Frag} {mg : Str → Option Value} {base : Heap} {CX : CXT} {C m : Str} {k : Nat} {ps : List Str} {g : List U → M U} {fd : FuncData} {name qual : Str} {params : Arguments} {body : List Stmt} {scope : Scope}
    (G : FnG P w K mg base CX k (He.ma K (He.ga K C) m) fd ps g) (D : FunD K name qual params body scope [] [] (He.ma K (He.ga K C) m) fd)
    (hb : ∀ (kV doc pm : Value) (an : Option Addr) (cdv ct : Value) (us : List Value), us.length = ps.length → bindArgs (PySem.W.fnOf name qual params body scope .none kV doc pm an cdv ct) ⟨us, []⟩ = pure (ps.zip us)) : DokM P w K mg base CX C m k ps g :=
  ⟨fd, G, D.bindsN hb⟩
theorem v_fld {L : List Str} {f C : Str} {k : Nat} {fs : List (Str × U)} {v : U} {T : Sto} {Q : U → Sto → Prop} (e : T[k]? = some (.ins C fs)) (hC : C ∈ L) (ev : getA fs f = some v) (q : Q v T) : Wp (gFld L f (.ob k) T) Q := by
  unfold gFld
  simp only [e, hC, ev, if_true]
  exact .ok q
theorem v_fldS {L : List Str} {f : Str} {Fo Fv : FxE} {η : Lo} {T : Sto} {Q : Fl × Lo → Sto → Prop} (q : Wp (Fv η T) fun y T1 => Wp (Fo η T1) fun x T2 => ∃ T3, putO L f x y T2 = some T3 ∧ Q (.nx, η) T3) : Wp (fFldS L f Fo Fv η T) Q := .bindE q fun _ _ q => .bindE q fun _ _ ⟨T3, e, q⟩ => by
  rw [e]
  exact .ok q
theorem v_fldAug {L : List Str} {f : Str} {g : U → U → M U} {Fo Fv : FxE} {η : Lo} {T : Sto} {Q : Fl × Lo → Sto → Prop}
    (q : Wp (Fo η T) fun x T1 => Wp (gFld L f x T1) fun v _ => Wp (Fv η T1) fun y T2 => Wp (g v y T2) fun z T3 => ∃ T4, putO [clsO x T1] f x z T3 = some T4 ∧ Q (.nx, η) T4) : Wp (fFldAug L f g Fo Fv η T) Q :=
  .bindE q fun _ _ q => .bindE q fun _ _ q => .bindE q fun _ _ q => .bindE q fun _ _ ⟨T4, e, q⟩ => by
    rw [e]
    exact .ok q
theorem v_mkC {C : Str} {n : Nat} {g : List U → M U} {Fr : FxA} {η : Lo} {T : Sto} {Q : U → Sto → Prop} (q : Wp (Fr η T) fun us T1 => us.length + 1 = n ∧ Wp (g (.ob T1.length :: us) (T1 ++ [.ins C []])) fun v T2 => v = .non ∧ Q (.ob T1.length) T2) : Wp (fMkC C n g Fr η T) Q := .bindE q fun _ _ q => by
  rw [if_pos q.1]
  exact .bindE q.2 fun _ _ ⟨e, q⟩ => by
    subst e
    exact .ok q
theorem v_mth {m : Str} {n : Nat} {tab : List (Str × (List U → M U))} {Fo : FxE} {Fr : FxA} {η : Lo} {T : Sto} {Q : U → Sto → Prop} (q : Wp (Fo η T) fun o T1 => ∃ g, selM m tab o T1 = some g ∧ Wp (Fr η T1) fun us T2 => us.length + 1 = n ∧ Wp (g (o :: us) T2) Q) : Wp (fMth m n tab Fo Fr η T) Q := .bindE q fun _ _ ⟨g, e, q⟩ => by
  rw [e]
  exact .bindE q fun _ _ q => by
    rw [if_pos q.1]
    exact q.2
end Lf
set_option Elab.async false
set_option linter.all false
set_option maxRecDepth 100000
set_option maxHeartbeats 4000000
namespace Lf
open PySem PySem.Spec L2
def keyOf : U → Option Key
  | .int i => some (.inl i)
  | .str x => some (.inr x)
  | _ => none
theorem keyOf_kU (k : Key) : keyOf (kU k) = some k := by cases k <;> rfl
theorem keyOf_inv {u : U} {k : Key} (h : keyOf u = some k) : u = kU k := by
  unfold keyOf at h
  split at h
  · cases h; rfl
  · cases h; rfl
  · cases h
def isK : List (U × U) → Bool
  | [] => true
  | p :: _ => (keyOf p.1).isSome
def lkK (kvs : List (U × U)) (k : Key) : Option U := (kvs.find? fun p => decide (keyOf p.1 = some k)).map (·.2)
def putKU (kvs : List (U × U)) (k : Key) (u : U) : List (U × U) :=
  if (kvs.any fun p => decide (keyOf p.1 = some k)) = true then kvs.map (fun p => if keyOf p.1 = some k then (p.1, u) else p) else kvs ++ [(kU k, u)]
abbrev PaK (K : PySem.W.Frag) (ρ : List Addr) (H : Hp) : List (U × U) → List (Key × V) → Prop := Paired (fun (p : U × U) (q : Key × V) => p.1 = kU q.1 ∧ RV K ρ H p.2 q.2)
section
variable {K : PySem.W.Frag} {ρ ρ' : List Addr} {H H' : Hp} {kvs : List (U × U)} {ks : List (Key × V)} {k : Key}
theorem RV.key (k : Key) : RV K ρ H (kU k) (kV k) := by
  cases k with
  | inl i => exact .int i
  | inr x => exact .str x
theorem rv_key {u : U} {v : V} (r : RV K ρ H u v) (h : keyOf u = some k) : v = kV k := by
  obtain rfl := keyOf_inv h
  cases k with
  | inl i => cases r; rfl
  | inr x => cases r; rfl
theorem PaK.gr (h : PaK K ρ H kvs ks) (g : Gr K ρ H ρ' H') : PaK K ρ' H' kvs ks := Paired.mapP h fun _ _ z => ⟨z.1, z.2.gr g⟩
end
theorem paired_at {α β : Type} {F : α → β → Prop} : ∀ {l : List α} {m : List β}, Paired F l m → ∀ {i : Nat} {a : α} {b : β}, l[i]? = some a → m[i]? = some b → F a b
  | _, _, .nil, i, _, _, e, _ => by simp at e
  | _, _, .cons h _, 0, _, _, e1, e2 => by
    simp only [List.getElem?_cons_zero, Option.some.injEq] at e1 e2
    subst e1 e2
    exact h
  | _, _, .cons _ t, i + 1, _, _, e1, e2 => paired_at t (i := i) (by simpa using e1) (by simpa using e2)
def gSetD (o i v : U) (T : Sto) : Option Sto := match o, keyOf i with
  | .ob j, some k => match T[j]? with
    | some (.dic kvs) => if isK kvs = true ∧ kvs.length < 16777216 then some (T.set j (.dic (putKU kvs k v))) else none
    | _ => none
  | _, _ => none
def gSubTD (Fo Fi : FxE) : U → Lo → M Lo := fun v η T => (Fo η T).bind fun o T1 => (Fi η T1).bind fun i T2 => match gSetD o i v T2 with
  | some T3 => .ok η T3
  | none => .no
def gGetK : U → U → U → M U := fun u w z T => match u, keyOf w with
  | .ob j, some k => match T[j]? with
    | some (.dic kvs) => if isK kvs = true then .ok ((lkK kvs k).getD z) T else .no
    | _ => .no
  | _, _ => .no
def fGetK (Fo Fe Fz : FxE) : FxE := fun η T => (Fo η T).bind fun o T1 => if isD0 T1 o = true then (Fe η T1).bind fun k T2 => (Fz η T2).bind fun z T3 => gGetK o k z T3 else .no
def fDic1K (Fk Fv : FxE) : FxE := fun η T => (Fk η T).bind fun k T1 => (Fv η T1).bind fun u T2 => match keyOf k with
  | some k => nw (.dic [(kU k, u)]) T2
  | none => .no
def itemsU (kvs : List (U × U)) : List U := kvs.map fun p => .tup [p.1, p.2]
def fItems (Fe : FxE) : FxI := fun η T => (Fe η T).bind fun u T1 => match u with
  | .ob k => match T1[k]? with
    | some (.lk kvs) => .ok (constI (itemsU kvs)) T1
    | _ => .no
  | _ => .no
theorem v_subTD {Fo Fi : FxE} {v : U} {η : Lo} {T : Sto} {Q : Lo → Sto → Prop} (q : Wp (Fo η T) fun o T1 => Wp (Fi η T1) fun i T2 => ∃ T3, gSetD o i v T2 = some T3 ∧ Q η T3) : Wp (gSubTD Fo Fi v η T) Q := .bindE q fun _ _ q => .bindE q fun _ _ ⟨T3, e, q⟩ => by
  rw [e]
  exact .ok q
theorem v_getK {Fo Fe Fz : FxE} {η : Lo} {T : Sto} {Q : U → Sto → Prop} (q : Wp (Fo η T) fun o T1 => isD0 T1 o = true ∧ Wp (Fe η T1) fun k T2 => Wp (Fz η T2) fun z T3 => Wp (gGetK o k z T3) Q) : Wp (fGetK Fo Fe Fz η T) Q := .bindE q fun _ _ q => by
  rw [if_pos q.1]
  exact .bindE q.2 fun _ _ q => .bind q
theorem v_dic1K {Fk Fv : FxE} {η : Lo} {T : Sto} {Q : U → Sto → Prop} (q : Wp (Fk η T) fun k T1 => Wp (Fv η T1) fun u T2 => ∃ key, keyOf k = some key ∧ Q (.ob T2.length) (T2 ++ [.dic [(kU key, u)]])) : Wp (fDic1K Fk Fv η T) Q := .bindE q fun _ _ q => .bindE q fun _ _ ⟨k, e, q⟩ => by
  rw [e]
  exact .ok q
theorem v_items {Fe : FxE} {η : Lo} {T : Sto} {Q : ItF → Sto → Prop} (q : Wp (Fe η T) fun u T1 => ∃ k kvs, u = .ob k ∧ T1[k]? = some (.lk kvs) ∧ Q (constI (itemsU kvs)) T1) : Wp (fItems Fe η T) Q := .bindE q fun _ _ ⟨k, kvs, e, e2, q⟩ => by
  subst e
  simp only [e2]
  exact .ok q
end Lf
set_option Elab.async false
set_option linter.all false
set_option maxRecDepth 100000
set_option maxHeartbeats 4000000
namespace Lf
open PySem PySem.Spec L2
end Lf
set_option Elab.async false
set_option linter.all false
set_option maxRecDepth 100000
set_option maxHeartbeats 4000000
namespace Lf
open PySem PySem.Spec L2
theorem wp_forXG {G : U → Lo → M Lo} {Fb : FxS} {fin : Sto → Bool} {its : List (Sto → Option U)} {ys : List U} (I : Nat → Lo → Sto → Prop) {Q : Fl × Lo → Sto → Prop} (hl : its.length = ys.length)
    (hv : ∀ i x η T f, ys[i]? = some x → its[i]? = some f → I i η T → f T = some x) (hf : ∀ η T, I ys.length η T → fin T = true)
    (step : ∀ i x η T, ys[i]? = some x → I i η T → Wp (G x η T) fun η1 T1 => Wp (Fb η1 T1) (kF (I (i + 1)) Q))
    (hend : ∀ η T, I ys.length η T → Q (.nx, η) T) : ∀ n i η T, i + n = ys.length → I i η T → Wp (forN G Fb fin (its.drop i) η T) Q
  | 0, i, η, T, e, h => by
    have e : i = ys.length := by omega
    subst e
    rw [← hl, List.drop_length]
    show Wp (if fin T = true then .ok (.nx, η) T else .no) Q
    rw [if_pos (hf η T h)]
    exact .ok (hend _ _ h)
  | n + 1, i, η, T, e, h => by
    have hi : i < ys.length := by omega
    have hi2 : i < its.length := by omega
    rw [List.drop_eq_getElem_cons hi2]
    unfold forN
    rw [hv i ys[i] η T its[i] (List.getElem?_eq_getElem hi) (List.getElem?_eq_getElem hi2) h]
    refine .bindE (step i ys[i] η T (List.getElem?_eq_getElem hi) h) fun η1 T1 h1 => .bindE h1 fun p T2 h2 => ?_
    obtain ⟨f, η2⟩ := p
    cases f with
    | nx => exact wp_forXG I hl hv hf step hend n (i + 1) η2 T2 (by omega) h2
    | ct => exact wp_forXG I hl hv hf step hend n (i + 1) η2 T2 (by omega) h2
    | bk => exact .ok h2
    | rt u => exact .ok h2
theorem wp_forX {G : U → Lo → M Lo} {Fb : FxS} {it : ItF} (ys : List U) (I : Nat → Lo → Sto → Prop) {Q : Fl × Lo → Sto → Prop} {η : Lo} {T : Sto} (hl : it.its.length = ys.length) (h0 : I 0 η T)
    (hv : ∀ i x η T f, ys[i]? = some x → it.its[i]? = some f → I i η T → f T = some x) (hf : ∀ η T, I ys.length η T → it.fin T = true)
    (step : ∀ i x η T, ys[i]? = some x → I i η T → Wp (G x η T) fun η1 T1 => Wp (Fb η1 T1) (kF (I (i + 1)) Q))
    (hend : ∀ η T, I ys.length η T → Q (.nx, η) T) : Wp (forN G Fb it.fin it.its η T) Q := by
  have := wp_forXG (Q := Q) I hl hv hf step hend ys.length 0 η T (Nat.zero_add _) h0
  rwa [List.drop_zero] at this
theorem wp_lcXG {G : U → Lo → M Lo} {Ft : FxT} {Fe : FxE} {η : Lo} {fin : Sto → Bool} {its : List (Sto → Option U)} {ys : List U} (I : Nat → List U → Sto → Prop) {Q : U → Sto → Prop} (hl : its.length = ys.length)
    (hv : ∀ i x acc T f, ys[i]? = some x → its[i]? = some f → I i acc T → f T = some x) (hf : ∀ acc T, I ys.length acc T → fin T = true)
    (step : ∀ i x acc T, ys[i]? = some x → I i acc T → Wp (G x η T) fun η1 T1 => Wp (Ft η1 T1) fun b T2 => (b = true → Wp (Fe η1 T2) fun y T3 => acc.length < 16777216 ∧ I (i + 1) (acc ++ [y]) T3) ∧ (b = false → I (i + 1) acc T2))
    (hend : ∀ acc T, I ys.length acc T → Q (.ob T.length) (T ++ [.lst acc])) : ∀ n i acc T, i + n = ys.length → I i acc T → Wp (lcN G Ft Fe fin η (its.drop i) acc T) Q
  | 0, i, acc, T, e, h => by
    have e : i = ys.length := by omega
    subst e
    rw [← hl, List.drop_length]
    show Wp (if fin T = true then nw (.lst acc) T else .no) Q
    rw [if_pos (hf acc T h)]
    exact .ok (hend _ _ h)
  | n + 1, i, acc, T, e, h => by
    have hi : i < ys.length := by omega
    have hi2 : i < its.length := by omega
    rw [List.drop_eq_getElem_cons hi2]
    unfold lcN
    rw [hv i ys[i] acc T its[i] (List.getElem?_eq_getElem hi) (List.getElem?_eq_getElem hi2) h]
    refine .bindE (step i ys[i] acc T (List.getElem?_eq_getElem hi) h) fun η1 T1 h1 => .bindE h1 fun b T2 h2 => ?_
    cases b with
    | true =>
      rw [if_pos rfl]
      refine .bindE (h2.1 rfl) fun y T3 h3 => ?_
      rw [if_pos h3.1]
      exact wp_lcXG I hl hv hf step hend n (i + 1) _ T3 (by omega) h3.2
    | false =>
      rw [if_neg (by decide)]
      exact wp_lcXG I hl hv hf step hend n (i + 1) acc T2 (by omega) (h2.2 rfl)
theorem wp_lcX {G : U → Lo → M Lo} {Ft : FxT} {Fe : FxE} {η : Lo} {it : ItF} (ys : List U) (I : Nat → List U → Sto → Prop) {Q : U → Sto → Prop} {T : Sto} (hl : it.its.length = ys.length) (h0 : I 0 [] T)
    (hv : ∀ i x acc T f, ys[i]? = some x → it.its[i]? = some f → I i acc T → f T = some x) (hf : ∀ acc T, I ys.length acc T → it.fin T = true)
    (step : ∀ i x acc T, ys[i]? = some x → I i acc T → Wp (G x η T) fun η1 T1 => Wp (Ft η1 T1) fun b T2 => (b = true → Wp (Fe η1 T2) fun y T3 => acc.length < 16777216 ∧ I (i + 1) (acc ++ [y]) T3) ∧ (b = false → I (i + 1) acc T2))
    (hend : ∀ acc T, I ys.length acc T → Q (.ob T.length) (T ++ [.lst acc])) : Wp (lcN G Ft Fe it.fin η it.its [] T) Q := by
  have := wp_lcXG (Q := Q) (G := G) (Ft := Ft) (Fe := Fe) (η := η) I hl hv hf step hend ys.length 0 [] T (Nat.zero_add _) h0
  rwa [List.drop_zero] at this
theorem v_zip2 {Fr : FxA} {η : Lo} {T : Sto} {Q : ItF → Sto → Prop} (h : Wp (Fr η T) fun us T1 => ∃ u1 u2 n1 n2, us = [u1, u2] ∧ sqN u1 T1 = some n1 ∧ sqN u2 T1 = some n2 ∧ Q (zipI2 u1 u2 n1 n2) T1) : Wp (fZip2 Fr η T) Q := by
  unfold fZip2
  refine Wp.bind (h.mono fun us T1 ⟨u1, u2, n1, n2, e, e1, e2, q⟩ => ?_)
  subst e
  unfold gZip2
  simp only [e1, e2]
  exact .ok q
theorem zip2_its {u1 u2 : U} {n1 n2 : Nat} : (zipI2 u1 u2 n1 n2).its.length = min n1 n2 := by simp [zipI2]
theorem zip2_at {u1 u2 : U} {n1 n2 : Nat} {T : Sto} {xs ys : List U} (h1 : sqAt u1 n1 T = some xs) (h2 : sqAt u2 n2 T = some ys) {i : Nat} {f : Sto → Option U} {x : U} (ex : (z2 xs ys)[i]? = some x) (ef : (zipI2 u1 u2 n1 n2).its[i]? = some f) : f T = some x := by
  unfold zipI2 at ef
  dsimp only at ef
  rw [List.getElem?_map] at ef
  obtain ⟨j, hj, rfl⟩ := Option.map_eq_some_iff.mp ef
  obtain rfl := range_at hj
  have hi := (List.getElem?_eq_some_iff.mp ex).1
  rw [z2_len] at hi
  have e1 : xs[j]? = some xs[j] := List.getElem?_eq_getElem (by omega)
  have e2 : ys[j]? = some ys[j] := List.getElem?_eq_getElem (by omega)
  rw [z2_get xs ys j _ _ e1 e2] at ex
  simp only [h1, h2, Option.bind_some, e1, e2]
  exact ex
theorem zip2_fin {u1 u2 : U} {n1 n2 : Nat} {T : Sto} {xs ys : List U} (h1 : sqAt u1 n1 T = some xs) (h2 : sqAt u2 n2 T = some ys) : (zipI2 u1 u2 n1 n2).fin T = true := by
  show ((sqAt u1 n1 T).isSome && (sqAt u2 n2 T).isSome) = true
  rw [h1, h2]
  rfl
theorem z2_inv {xs ys : List U} {i : Nat} {z : U} (h : (z2 xs ys)[i]? = some z) : ∃ x y, xs[i]? = some x ∧ ys[i]? = some y ∧ z = .tup [x, y] := by
  have hi := (List.getElem?_eq_some_iff.mp h).1
  rw [z2_len] at hi
  have e1 : xs[i]? = some xs[i] := List.getElem?_eq_getElem (by omega)
  have e2 : ys[i]? = some ys[i] := List.getElem?_eq_getElem (by omega)
  rw [z2_get xs ys i _ _ e1 e2] at h
  exact ⟨_, _, e1, e2, (Option.some.inj h).symm⟩
end Lf
set_option Elab.async false
set_option linter.all false
set_option maxRecDepth 100000
set_option maxHeartbeats 4000000
namespace Lf
open PySem PySem.Spec L2
theorem constI_at {ys : List U} {i : Nat} {x : U} {f : Sto → Option U} {T : Sto} (h : ys[i]? = some x) (e : (constI ys).its[i]? = some f) : f T = some x := by
  unfold constI at e
  dsimp only at e
  rw [List.getElem?_map, h] at e
  cases e
  rfl
theorem constI_len {ys : List U} : (constI ys).its.length = ys.length := by simp [constI]
/-- what a walk's items are, as long as the store keeps `K` -/
structure ItsOk (it : ItF) (ys : List U) (K : Sto → Prop) : Prop where
  l : it.its.length = ys.length
  at_ : ∀ (i : Nat) (x : U) (T : Sto) (f : Sto → Option U), ys[i]? = some x → it.its[i]? = some f → K T → f T = some x
  fin : ∀ T : Sto, K T → it.fin T = true
theorem itsOk_const {xs : List U} : ItsOk (constI xs) xs (fun _ => True) := ⟨constI_len, fun i x T f h1 h2 _ => constI_at h1 h2, fun _ _ => rfl⟩
theorem itsOk_obj {k : Nat} {xs : List U} : ItsOk (objI k xs.length) xs (fun T => T[k]? = some (.lst xs)) := by
  refine ⟨by simp [objI], fun i x T f h1 h2 h => ?_, fun T h => ?_⟩
  · unfold objI at h2
    dsimp only at h2
    rw [List.getElem?_map] at h2
    obtain ⟨j, hj, rfl⟩ := Option.map_eq_some_iff.mp h2
    obtain rfl := range_at hj
    simp [lstAt, h, h1]
  · simp [objI, lstAt, h]
theorem itsOk_zip2 {u1 u2 : U} {n1 n2 : Nat} {xs ys : List U} (h1 : xs.length = n1) (h2 : ys.length = n2) : ItsOk (zipI2 u1 u2 n1 n2) (z2 xs ys) (fun T => sqAt u1 n1 T = some xs ∧ sqAt u2 n2 T = some ys) := by
  refine ⟨?_, fun i x T f e1 e2 h => zip2_at h.1 h.2 e1 e2, fun T h => zip2_fin h.1 h.2⟩
  rw [zip2_its, z2_len, h1, h2]
theorem wp_forI {G : U → Lo → M Lo} {Fb : FxS} {it : ItF} {ys : List U} {K : Sto → Prop} (o : ItsOk it ys K) (I : Nat → Lo → Sto → Prop) {Q : Fl × Lo → Sto → Prop} {η : Lo} {T : Sto} (h0 : I 0 η T)
    (hK : ∀ i η T, I i η T → K T)
    (step : ∀ i x η T, ys[i]? = some x → I i η T → Wp (G x η T) fun η1 T1 => Wp (Fb η1 T1) (kF (I (i + 1)) Q))
    (hend : ∀ η T, I ys.length η T → Q (.nx, η) T) : Wp (forN G Fb it.fin it.its η T) Q :=
  wp_forX ys I o.l h0 (fun i x η T f h1 h2 h => o.at_ i x T f h1 h2 (hK i η T h)) (fun η T h => o.fin T (hK _ η T h)) step hend
theorem wp_lcI2 {G : U → Lo → M Lo} {Ft : FxT} {Fe : FxE} {η : Lo} {it : ItF} {ys : List U} {K : Sto → Prop} (o : ItsOk it ys K) (I : Nat → List U → Sto → Prop) {Q : U → Sto → Prop} {T : Sto} (h0 : I 0 [] T)
    (hK : ∀ i acc T, I i acc T → K T)
    (step : ∀ i x acc T, ys[i]? = some x → I i acc T → Wp (G x η T) fun η1 T1 => Wp (Ft η1 T1) fun b T2 => (b = true → Wp (Fe η1 T2) fun y T3 => acc.length < 16777216 ∧ I (i + 1) (acc ++ [y]) T3) ∧ (b = false → I (i + 1) acc T2))
    (hend : ∀ acc T, I ys.length acc T → Q (.ob T.length) (T ++ [.lst acc])) : Wp (lcN G Ft Fe it.fin η it.its [] T) Q :=
  wp_lcX ys I o.l h0 (fun i x acc T f h1 h2 h => o.at_ i x T f h1 h2 (hK i acc T h)) (fun acc T h => o.fin T (hK _ acc T h)) step hend
end Lf
set_option Elab.async false
set_option linter.all false
set_option maxRecDepth 100000
set_option maxHeartbeats 4000000
namespace Lf
open PySem PySem.Spec L2
/-- C's __init__ does what g tells, called with n values and keywords ks -/
structure DokW (P : Program) (w : World) (K : PySem.W.Frag) (mg : Str → Option Value) (base : Heap) (CX : CXT) (C : Str) (k : Nat) (ps : List Str) (n : Nat) (ks : List Str) (gU : List U → List U → List U) (g : List U → M U) : Prop where
  ex : ∃ (fd : FuncData) (gW : List Value → List Value → List Value) (gV : List V → List V → List V), FnG P w K mg base CX k (He.ma K (He.ga K C) "__init__") fd ps g ∧ KBn K fd ps (n + 1) ks gW gV ∧
    (∀ {ρ : List Addr} {H : Hp} {us zs : List U} {vs ws : List V}, RVs K ρ H us vs → RVs K ρ H zs ws → RVs K ρ H (gU us zs) (gV vs ws)) ∧ ∀ us zs : List U, us.length = n + 1 → zs.length = ks.length → (gU us zs).length = ps.length
/-- some keyword-only parameters lack (their defaults are None), the others are given by name -/
theorem DokW.of {P : Program} {w : World} {K : PySem.W.Frag} {mg : Str → Option Value} {base : Heap} {CX : CXT} {C : Str} {k : Nat} {ps : List Str} {g : List U → M U} {fd : FuncData} {name qual : Str} {params : Arguments} {body : List Stmt} {scope : Scope} {kws : List (Str × V)}
    (G : FnG P w K mg base CX k (He.ma K (He.ga K C) "__init__") fd ps g) (D : FunD K name qual params body scope [] kws (He.ma K (He.ga K C) "__init__") fd) (n : Nat) (ks : List Str) (ms : List (Str × V)) (gg : {α : Type} → List α → List α → List α → List α) (hk : kws ≠ []) (hms : ∀ q ∈ ms, q ∈ kws)
    (hnon : ms.map (·.2) = ms.map fun _ => V.non)
    (hrel : ∀ {vs mz zs : List V} {us mv ws : List Value}, Vals vs us → Vals mz mv → Vals zs ws → Vals (gg vs mz zs) (gg us mv ws))
    (hrelU : ∀ {ρ : List Addr} {H : Hp} {us mz zs : List U} {vs mv ws : List V}, RVs K ρ H us vs → RVs K ρ H mz mv → RVs K ρ H zs ws → RVs K ρ H (gg us mz zs) (gg vs mv ws))
    (hlen : ∀ us mz zs : List U, us.length = n + 1 → mz.length = ms.length → zs.length = ks.length → (gg us mz zs).length = ps.length)
    (h : ∀ (D : Addr) (doc pm : Value) (an : Option Addr) (cdv ct : Value) (us mv ws : List Value), us.length = n + 1 → mv.length = ms.length → ws.length = ks.length →
      KwChain D ((ms.map (·.1)).zip mv) (bindArgs (PySem.W.fnOf name qual params body scope .none (.ref D) doc pm an cdv ct) ⟨us, ks.zip ws⟩) (ps.zip (gg us mv ws))) :
    DokW P w K mg base CX C k ps n ks (fun us zs => gg us (ms.map fun _ => U.non) zs) g := by
  obtain ⟨mv, hb⟩ := D.kbinds0 (n + 1) ks ms gg hk hms hrel h
  refine ⟨fd, _, _, G, hb, fun r1 r2 => ?_, fun us zs h1 h2 => hlen _ _ _ h1 (List.length_map ..) h2⟩
  rw [hnon]
  refine hrelU r1 ?_ r2
  generalize ms = l
  induction l with
  | nil => exact .nil
  | cons a l ih => exact .cons .non ih
def fMkW (C : Str) (n m : Nat) (gU : List U → List U → List U) (g : List U → M U) (Fr Fk : FxA) : FxE := fun η T => (Fr η T).bind fun us T1 => (Fk η T1).bind fun zs T2 => if us.length = n ∧ zs.length = m then (g (gU (.ob T2.length :: us) zs) (T2 ++ [.ins C []])).bind fun v T3 => match v with
  | .non => .ok (.ob T2.length) T3
  | _ => .no else .no
theorem v_mkW {C : Str} {n m : Nat} {gU : List U → List U → List U} {g : List U → M U} {Fr Fk : FxA} {η : Lo} {T : Sto} {Q : U → Sto → Prop} (q : Wp (Fr η T) fun us T1 => Wp (Fk η T1) fun zs T2 => (us.length = n ∧ zs.length = m) ∧ Wp (g (gU (.ob T2.length :: us) zs) (T2 ++ [.ins C []])) fun v T3 => v = .non ∧ Q (.ob T2.length) T3) : Wp (fMkW C n m gU g Fr Fk η T) Q := .bindE q fun _ _ q => .bindE q fun _ _ q => by
  rw [if_pos q.1]
  refine .bindE q.2 fun v T3 ⟨e, q⟩ => ?_
  subst e
  exact .ok q
end Lf
set_option Elab.async false
set_option linter.all false
set_option maxRecDepth 100000
set_option maxHeartbeats 4000000
namespace Lf
open PySem PySem.Spec L2
end Lf
set_option Elab.async false
set_option linter.all false
set_option maxRecDepth 100000
set_option maxHeartbeats 4000000
namespace Lf
open PySem PySem.Spec L2
def gIDiv : U → U → M U := fun u w T => match u, w with
  | .int i, .int j => if 0 < j ∧ j < 1073741824 then .ok (.int (i / j)) T else .no
  | _, _ => .no
theorem v_idiv {i j : Int} {T : Sto} {Q : U → Sto → Prop} (h : 0 < j ∧ j < 1073741824) (q : Q (.int (i / j)) T) : Wp (gIDiv (.int i) (.int j) T) Q := by
  unfold gIDiv
  simp only [h, and_self, if_true]
  exact .ok q
end Lf
set_option Elab.async false
set_option linter.all false
set_option maxRecDepth 100000
set_option maxHeartbeats 4000000
namespace Lf
open PySem PySem.Spec L2
end Lf
set_option Elab.async false
set_option linter.all false
set_option maxRecDepth 100000
set_option maxHeartbeats 4000000
namespace Lf
open PySem PySem.Spec L2 PyProof.Rows HT
end Lf
set_option Elab.async false
set_option linter.all false
set_option maxRecDepth 100000
set_option maxHeartbeats 4000000
namespace Lf
open PySem PySem.Spec L2
end Lf
set_option Elab.async false
set_option linter.all false
set_option maxRecDepth 100000
set_option maxHeartbeats 4000000
namespace Lf
open PySem PySem.Spec L2
section
variable {K : PySem.W.Frag} {ρ : List Addr} {H H' : Hp} {T : Sto}
theorem Gr.ext (g : ∀ b o, H b = some o → H' b = some o) : Gr K ρ H ρ H' :=
  ⟨fun _ _ e => e, fun a vs q => by
    rcases q with (q | ⟨o, q⟩) | q
    · exact .inl (.inl (g _ _ q))
    · exact .inl (.inr ⟨o, g _ _ q⟩)
    · exact .inr q, fun a vs q => by
    rcases q with ⟨o, q⟩ | q
    · exact .inl ⟨o, g _ _ q⟩
    · exact .inr q, fun _ _ _ e => g _ _ e, fun _ h k => absurd h k, fun _ _ e => g _ _ e, fun _ _ _ e => g _ _ e⟩
end
end Lf
set_option Elab.async false
set_option linter.all false
set_option maxRecDepth 100000
set_option maxHeartbeats 4000000
namespace Lf
open PySem PySem.Spec L2
section
variable {X : Cx} {E : XK}
def rLtW (K : PySem.W.Frag) : R2 := fun x y H Q => ∃ d e, Dp K H x d ∧ Dp K H y e ∧ PySem.W.alike d e = true ∧ d ≠ .none ∧ min d.depth e.depth ≤ 60 ∧ Q (.bl (PySem.W.dataLt d e)) H
theorem op_ltW (hu : X.A.units + 64 < cLine) : OpR X (compareOp .Lt) (rLtW X.K) := by
  intro pins s σ H x y v u Q I rx ry h
  obtain ⟨d, e, hd, he, ha, hn, hl, q⟩ := h
  obtain ⟨as, r1⟩ := Dp.reads I d x v hd rx
  obtain ⟨bs, r2⟩ := Dp.reads I e y u he ry
  exact PySem.W.lt_data r1 r2 ha hn (by omega) ⟨.bl _, H, I, rfl, q⟩
def nNo : PyData → Bool
  | .none => false
  | _ => true
theorem nNo_ne {d : PyData} (h : nNo d = true) : d ≠ .none := by rintro rfl; cases h
def gLtT : U → U → M U := fun u w T => match dat T 66 u, dat T 66 w with
  | some d, some e => if PySem.W.alike d e = true ∧ nNo d = true ∧ min d.depth e.depth ≤ 60 then .ok (.bl (PySem.W.dataLt d e)) T else .no
  | _, _ => .no
theorem fop_ltT (hu : X.A.units + 64 < cLine) : FOp X E (compareOp .Lt) gLtT := by
  refine ⟨_, op_ltW hu, fun ρ H T u w x y Q s ru rw_ h => ?_⟩
  unfold gLtT at h
  split at h
  · rename_i d e e1 e2
    split at h
    · rename_i hl
      exact ⟨d, e, dat_ok s _ _ _ _ ru e1, dat_ok s _ _ _ _ rw_ e2, hl.1, nNo_ne hl.2.1, hl.2.2, okV s h (.bl _)⟩
    · exact False.elim h
  · exact False.elim h
end
theorem alike_ints : ∀ (a b : List Int), PySem.W.alikeAll (a.map PyData.int) (b.map PyData.int) = true
  | [], _ => by simp [PySem.W.alikeAll]
  | _ :: _, [] => by simp [PySem.W.alikeAll]
  | x :: a, y :: b => by
    rw [List.map_cons, List.map_cons, PySem.W.alikeAll, alike_ints a b]; simp [PySem.W.alike]
theorem v_ltT {a b : List Int} {T : Sto} {Q : U → Sto → Prop} (q : Q (.bl (PySem.W.dataLt (.tuple (a.map .int)) (.tuple (b.map .int)))) T) : Wp (gLtT (.tup (a.map .int)) (.tup (b.map .int)) T) Q := by
  unfold gLtT
  rw [dat_ints, dat_ints]
  dsimp only
  rw [if_pos ⟨by rw [PySem.W.alike]; exact alike_ints a b, rfl, by simp [PyData.depth, depInts]⟩]
  exact .ok q
end Lf
set_option Elab.async false
set_option linter.all false
set_option maxRecDepth 100000
set_option maxHeartbeats 4000000
namespace Lf
open PySem PySem.Spec L2
theorem dataLt_pr (a b c d : Int) : PySem.W.dataLt (.tuple [.int a, .int b]) (.tuple [.int c, .int d]) = decide (a < c ∨ (a = c ∧ b < d)) := by
  have e1 : PyData.eqv (.int a) (.int c) = decide (a = c) := by unfold PyData.eqv; rfl
  have e2 : PyData.eqv (.int b) (.int d) = decide (b = d) := by unfold PyData.eqv; rfl
  rw [PySem.W.dataLt_pair (by simp [PySem.W.alike]) (by simp [PySem.W.alike]), e1, e2, PySem.W.dataLt_int, PySem.W.dataLt_int]
  by_cases h1 : a = c
  · subst h1
    rw [decide_eq_true rfl, if_pos rfl]
    by_cases h2 : b = d
    · subst h2
      rw [decide_eq_true rfl, if_pos rfl, decide_eq_false]; omega
    · rw [decide_eq_false h2, if_neg (by decide)]
      refine decide_eq_decide.mpr ?_; omega
  · rw [decide_eq_false h1, if_neg (by decide)]
    refine decide_eq_decide.mpr ?_; omega
theorem v_ltP {a b c d : Int} {T : Sto} {Q : U → Sto → Prop} (q : Q (.bl (decide (a < c ∨ (a = c ∧ b < d)))) T) : Wp (gLtT (.tup [.int a, .int b]) (.tup [.int c, .int d]) T) Q := by
  refine v_ltT (a := [a, b]) (b := [c, d]) ?_
  rw [show PySem.W.dataLt (.tuple ([a, b].map .int)) (.tuple ([c, d].map .int)) = decide (a < c ∨ (a = c ∧ b < d)) from dataLt_pr a b c d]
  exact q
end Lf
set_option Elab.async false
set_option linter.all false
set_option maxRecDepth 100000
set_option maxHeartbeats 4000000
namespace Lf
open PySem PySem.Spec L2
end Lf
set_option Elab.async false
set_option linter.all false
set_option maxRecDepth 100000
set_option maxHeartbeats 4000000
namespace Lf
open PySem PySem.Spec L2
section
variable {X : Cx} {pins : List (Addr × Obj)} {σ : St} {H : Hp} {s : Shared} {a : Addr}
theorem inv_dT (I : Inv X pins σ H s) (e : H a = some (.dK [])) : Inv X pins σ (upd H a (.dT [])) s := by
  obtain ⟨z, hd, vs, rel, dd⟩ := dk_of I.hok e
  cases rel
  obtain ⟨o, es, ep, ho, hx, hdt, hk, hp, hn⟩ := dd
  have he : es.toList = [] := by
    generalize es.toList = l at hp
    cases hp
    rfl
  exact d_write (t' := s.toks) (h' := s.heap) I (by rw [e]; exact True.intro) ⟨rfl, fun _ _ => rfl⟩ ⟨o, ho⟩ ⟨Nat.zero_le _, hd, [], .nil, o, es, ep, ho, hx, hdt, he, .nil⟩
def rSetT : TSet := fun o i v H Q => ∃ (a b : Addr) (kvs : List (List Key × V)) (k : List Key), o = .ref a ∧ i = .ref b ∧ (H a = some (.dT kvs) ∨ (kvs = [] ∧ H a = some (.dK []))) ∧ H b = some (.tup (k.map kV)) ∧ kvs.length < sizeLine ∧ Q (upd H a (.dT (putK kvs k v)))
theorem set_dictT (hu : X.A.units + 1 < cLine) : PSet X rSetT := by
  intro pins s σ H o i v ov iv u Q I ro ri rv h
  obtain ⟨a, b, kvs, k, eo, ei, hH, hb, hl, q⟩ := h
  subst eo ei
  cases (show ov = Value.ref a from ro)
  rcases hH with hH | ⟨rfl, hH⟩
  · exact d_setItem hu I (DPut.t hH hb hl) ri rv fun s' I' => ⟨_, I', q⟩
  · have I1 := inv_dT I hH
    have hab : b ≠ a := fun z => by rw [z, hH] at hb; cases hb
    refine d_setItem hu I1 (DPut.t (kvs := []) upd_same (by rw [upd_ne hab]; exact hb) hl) ri rv fun s' I' => ⟨_, ?_, q⟩
    rwa [upd_upd] at I'
end
def keysOf : List U → Option (List Key)
  | [] => some []
  | u :: us => match keyOf u, keysOf us with
    | some k, some ks => some (k :: ks)
    | _, _ => none
theorem keysOf_map : ∀ ks : List Key, keysOf (ks.map kU) = some ks
  | [] => rfl
  | k :: ks => by
    show (match keyOf (kU k), keysOf (ks.map kU) with
      | some k, some ks => some (k :: ks)
      | _, _ => none) = _
    rw [keyOf_kU, keysOf_map ks]
theorem keysOf_inv : ∀ {us : List U} {ks : List Key}, keysOf us = some ks → us = ks.map kU
  | [], ks, e => by cases e; rfl
  | u :: us, ks, e => by
    have e : (match keyOf u, keysOf us with
      | some k, some ks => some (k :: ks)
      | _, _ => none) = some ks := e
    cases h1 : keyOf u with
    | none => rw [h1] at e; cases e
    | some k =>
      cases h2 : keysOf us with
      | none => rw [h1, h2] at e; cases e
      | some ks' =>
        rw [h1, h2] at e
        cases e
        rw [keyOf_inv h1, keysOf_inv h2]
        rfl
def keyT : U → Option (List Key)
  | .tup us => keysOf us
  | _ => none
def isT (kvs : List (U × U)) : Bool := kvs.all fun p => (keyT p.1).isSome
def putTU (kvs : List (U × U)) (k : List Key) (u : U) : List (U × U) :=
  if (kvs.any fun p => decide (keyT p.1 = some k)) = true then kvs.map (fun p => if keyT p.1 = some k then (p.1, u) else p) else kvs ++ [(.tup (k.map kU), u)]
abbrev PaT (K : PySem.W.Frag) (ρ : List Addr) (H : Hp) : List (U × U) → List (List Key × V) → Prop := Paired (fun (p : U × U) (q : List Key × V) => p.1 = .tup (q.1.map kU) ∧ RV K ρ H p.2 q.2)
section
variable {K : PySem.W.Frag} {ρ ρ' : List Addr} {H H' : Hp} {kvs : List (U × U)} {ks : List (List Key × V)} {k : List Key}
theorem keyT_tup (k : List Key) : keyT (.tup (k.map kU)) = some k := keysOf_map k
theorem rvs_keys : ∀ {k : List Key} {vs : List V}, RVs K ρ H (k.map kU) vs → vs = k.map kV
  | [], _, r => by cases r; rfl
  | k :: ks, _, r => by
    cases r with
    | cons a b => rw [rvs_keys b, rv_key a (keyOf_kU k)]; rfl
theorem any_okT (h : PaT K ρ H kvs ks) : (kvs.any fun p => decide (keyT p.1 = some k)) = ks.any fun kv => decide (kv.1 = k) := by
  induction h with
  | nil => rfl
  | @cons p q ps qs a _ ih =>
    rw [List.any_cons, List.any_cons, ih, a.1, keyT_tup]
    congr 1
    exact decide_eq_decide.mpr ⟨fun e => Option.some.inj e, fun e => by rw [e]⟩
theorem putTU_ok {u : U} {v : V} (r : RV K ρ H u v) (h : PaT K ρ H kvs ks) : PaT K ρ H (putTU kvs k u) (putK ks k v) := by
  unfold putTU putK
  rw [any_okT h]
  split
  · rename_i h0
    clear h0
    induction h with
    | nil => exact .nil
    | @cons p q ps qs a _ ih =>
      rw [List.map_cons, List.map_cons]
      refine .cons ?_ ih
      obtain ⟨a1, a2⟩ := a
      by_cases hq : q.1 = k
      · rw [if_pos hq, if_pos (by rw [a1, hq, keyT_tup])]
        exact ⟨a1, r⟩
      · rw [if_neg hq, if_neg (fun e => hq (by rw [a1, keyT_tup] at e; exact Option.some.inj e))]
        exact ⟨a1, a2⟩
  · rename_i h0
    clear h0
    induction h with
    | nil => exact .cons ⟨rfl, r⟩ .nil
    | cons a _ ih => exact .cons a ih
theorem PaT.gr (h : PaT K ρ H kvs ks) (g : Gr K ρ H ρ' H') : PaT K ρ' H' kvs ks := Paired.mapP h fun _ _ z => ⟨z.1, z.2.gr g⟩
theorem isT_ok {a : Addr} (h : RO K ρ H (.dic kvs) a) (e : isT kvs = true) : ∃ ks, PaT K ρ H kvs ks ∧ (H a = some (.dT ks) ∨ (ks = [] ∧ H a = some (.dK []))) := by
  rcases h with ⟨ks, f, hp⟩ | ⟨k0, ks, f, hp⟩
  · cases hp with
    | nil => exact ⟨[], .nil, .inr ⟨rfl, f⟩⟩
    | @cons p q ps qs h1 _ =>
      have e : ((keyT p.1).isSome && _) = true := e
      rw [h1.1] at e
      have e2 : keyT (kU q.1) = none := by cases q.1 <;> rfl
      rw [e2] at e
      cases e
  · exact ⟨_, hp, .inl f⟩
theorem putK_ne {v : V} : ∃ k0 r, putK ks k v = k0 :: r := by
  unfold putK
  cases ks with
  | nil => exact ⟨_, _, rfl⟩
  | cons a l =>
    split
    · exact ⟨_, _, rfl⟩
    · exact ⟨_, _, rfl⟩
end
def gSetT (o : U) (us : List U) (v : U) (T : Sto) : Option Sto := match o, keysOf us with
  | .ob j, some k => match T[j]? with
    | some (.dic kvs) => if isT kvs = true ∧ kvs.length < 16777216 then some (T.set j (.dic (putTU kvs k v))) else none
    | _ => none
  | _, _ => none
theorem gSetT_some {o v : U} {us : List U} {T T3 : Sto} (h : gSetT o us v T = some T3) : ∃ (j : Nat) (k : List Key) (kvs : List (U × U)), o = .ob j ∧ keysOf us = some k ∧ T[j]? = some (.dic kvs) ∧ isT kvs = true ∧ kvs.length < 16777216 ∧ T3 = T.set j (.dic (putTU kvs k v)) := by
  unfold gSetT at h
  split at h
  · rename_i j k ek
    split at h
    · rename_i kvs e
      split at h
      · rename_i hc
        cases h
        exact ⟨j, k, kvs, rfl, ek, e, hc.1, hc.2, rfl⟩
      · cases h
    · cases h
  · cases h
def gSubTT (Fo : FxE) (Fr : FxA) : U → Lo → M Lo := fun v η T => (Fo η T).bind fun o T1 => (Fr η T1).bind fun us T2 => if us.length ≤ 16777216 then match gSetT o us v T2 with
  | some T3 => .ok η T3
  | none => .no else .no
section
variable {X : Cx} {E : XK} {pos tpos : Pos}
theorem fg_subTT {o : Expr} {es : List Expr} {kc : Nat} {Fo : FxE} {Fr : FxA} (hu : X.A.units + 64 < cLine) (ho : FE X E o Fo) (hi : FA X E es Fr)
    (ha : ∀ v, assign (.Subscript o (.Tuple es kc tpos) pos) X.env v = (do
      let ov ← holding [v] (eval o X.env)
      let iv ← holding [v, ov] (eval (.Tuple es kc tpos) X.env)
      standAt pos
      holding [v, ov, iv] (setItem ov iv v)
      release [v, ov, iv] []) := by intro _; rfl) : FG X E (.Subscript o (.Tuple es kc tpos) pos) [] (gSubTT Fo Fr) := by
  obtain ⟨t, k, q⟩ := ho
  obtain ⟨tr, kr, qr⟩ := hi
  refine ⟨_, pg_sub k (pe_tup kr) (set_dictT (by omega)) ha, fun σ H ρ T η u v Q s r rv h => ?_⟩
  have h' := OK.bind (rel := rV X.K) h
  refine q σ H ρ T η _ s r (OK.mono h' fun x H1 ⟨ρ1, T1, uo, g1, s1, r1, k1⟩ => ?_)
  refine qr σ H1 ρ1 T1 η _ s1 (r.gr g1) (OK.mono (OK.bind k1) fun xs H2 ⟨ρ2, T2, us, g2, s2, r2, kk⟩ => ?_)
  split at kk
  rotate_left
  · exact False.elim kk
  rename_i hul
  cases eT : gSetT uo us u T2 with
  | none => rw [eT] at kk; exact False.elim kk
  | some T3 =>
    rw [eT] at kk
    obtain ⟨j, key, kvs, rfl, ek, e1, hk, hl, rfl⟩ := gSetT_some eT
    obtain rfl := keysOf_inv ek
    have hlen := RVs.length r2
    obtain rfl := rvs_keys r2
    refine ⟨by rw [← hlen, sizeLine_eq]; exact hul, fun p n => ?_⟩
    have gf : Gr X.K ρ2 H2 ρ2 (upd H2 p (.tup (key.map kV))) := Gr.fill n
    have s3 : RS X.K ρ2 (upd H2 p (.tup (key.map kV))) T2 := s2.fill n
    have rv3 := ((rv.gr g1).gr g2).gr gf
    have re3 := ((r.gr g1).gr g2).gr gf
    have r13 := (r1.gr g2).gr gf
    have hp0 : (upd H2 p (.tup (key.map kV))) p = some (.tup (key.map kV)) := upd_same
    generalize upd H2 p (.tup (key.map kV)) = H3 at gf s3 rv3 re3 r13 hp0 ⊢
    cases r13 with
    | @ob _ a ea =>
      obtain ⟨a', p1, ro⟩ := s3.get e1
      rw [ea] at p1
      cases p1
      obtain ⟨ks, hp, hH⟩ := isT_ok ro hk
      have g3 : Gr X.K ρ2 H3 ρ2 (upd H3 a (.dT (putK ks key v))) := Gr.put s3 ea (by
        rcases hH with h | ⟨_, h⟩
        · exact nf_dT h
        · exact nf_dK h)
      obtain ⟨k0, rr, ep⟩ := putK_ne (ks := ks) (k := key) (v := v)
      have hpt := putTU_ok (k := key) (rv3.gr g3) (PaT.gr hp g3)
      refine ⟨a, p, ks, key, rfl, rfl, hH, hp0, by rw [← Paired.length hp, sizeLine_eq]; exact hl, kk ρ2 _ σ (gf.trans g3) (s3.put ea (.inr ⟨k0, rr, by rw [← ep]; exact upd_same, by rw [← ep]; exact hpt⟩)) ⟨re3.gr g3, Wr.refl⟩⟩
end
end Lf
set_option Elab.async false
set_option linter.all false
set_option maxRecDepth 100000
set_option maxHeartbeats 4000000
namespace Lf
open PySem PySem.Spec L2
open PyProof.Rows hiding St
def prB : Int := 1000000000000000000000000000000
def leP (p q : Int × Int) : Prop := p.1 < q.1 ∨ (p.1 = q.1 ∧ p.2 ≤ q.2)
instance (p q : Int × Int) : Decidable (leP p q) := inferInstanceAs (Decidable (_ ∨ _))
def bdP (p : Int × Int) : Prop := 0 ≤ p.1 ∧ p.1 < prB ∧ 0 ≤ p.2 ∧ p.2 < prB
instance (p : Int × Int) : Decidable (bdP p) := inferInstanceAs (Decidable (_ ∧ _))
def lsP (p : Int × Int) : List Int := [p.1, p.2]
def ofL : List Int → Int × Int
  | [a, b] => (a, b)
  | _ => (0, 0)
theorem bdP_bd {p : Int × Int} (h : bdP p) : TS.Bd prB (lsP p) := fun m hm => by
  rcases List.mem_cons.mp hm with rfl | hm
  · exact ⟨h.1, h.2.1⟩
  · rw [List.mem_singleton.mp hm]; exact ⟨h.2.2.1, h.2.2.2⟩
def rSortDT (K : PySem.W.Frag) : List V → Hp → VK → Prop := fun xs H Q => ∃ (a : Addr) (kvs : List (List Key × V)) (ps : List (Int × Int)), xs = [.ref a] ∧ (H a = some (.dT kvs) ∨ (kvs = [] ∧ H a = some (.dK []))) ∧ kvs.map (·.1) = ps.map (fun p => [Sum.inl p.1, Sum.inl p.2]) ∧ ps.length < 64 ∧ (∀ p ∈ ps, bdP p) ∧
    ∀ (qs : List (Int × Int)) (ys : List V) (p : Addr), qs.Perm ps → qs.Pairwise leP → Paired (fun (y : V) (q : Int × Int) => ∃ t, y = V.ref t ∧ SqT K H t [.int q.1, .int q.2]) ys qs → H p = none → Q (.ref p) (upd H p (.lst ys))
theorem paired_maps {α β γ : Type} {F : β → γ → Prop} {f : α → β} {g : α → γ} : ∀ {l : List α}, (∀ a ∈ l, F (f a) (g a)) → Paired F (l.map f) (l.map g)
  | [], _ => .nil
  | a :: l, h => .cons (h a (List.mem_cons_self ..)) (paired_maps fun b hb => h b (List.mem_cons_of_mem _ hb))
section
variable {X : Cx} {pins : List (Addr × Obj)} {σ : St} {H : Hp} {s : Shared} {a : Addr}
/-- what stands at such a dict -/
theorem dT_raw {kvs : List (List Key × V)} (I : Inv X pins σ H s) (h : H a = some (.dT kvs) ∨ (kvs = [] ∧ H a = some (.dK []))) :
    ∃ (o : Obj) (es : Array DictEntry) (ep : Nat) (bs : List Addr), (a == sysModules) = false ∧ s.heap.get? a = some o ∧ o.ExactDict ∧ o.data = .dict es ep ∧ es.toList.map (·.key) = bs.map Value.ref ∧ IsKeys H kvs bs := by
  rcases h with h | ⟨rfl, h⟩
  · obtain ⟨z, hs, ks, pr, o, es, ep, ho, hx, hdt, he, hn⟩ := (show ObjOk X.prog X.w H s.heap a (.dT kvs) from I.hok a _ h)
    refine ⟨o, es, ep, ks.map fun x => x.2.1, hs, ho, hx, hdt, ?_, isKeys_of pr⟩
    rw [he, List.map_map, List.map_map]; rfl
  · obtain ⟨z, hd, vs, rel, dd⟩ := dk_of I.hok h
    cases rel
    obtain ⟨o, es, ep, ho, hx, hdt, hk, hp, hn⟩ := dd
    refine ⟨o, es, ep, [], hd, ho, hx, hdt, ?_, .nil⟩
    generalize es.toList = l at hp
    cases hp
    rfl
theorem call_sortedDT (hcalm : X.calm = true) : CallR X (.builtin "sorted") (rSortDT X.K) := by
  intro pins s σ H xs us Q I r q
  obtain ⟨a, kvs, ps, ex, hH, hks, h64, hbd, q⟩ := q
  subst ex
  obtain ⟨u, eu, rx⟩ := vals1 r
  subst eu
  cases rx
  obtain ⟨o, es, ep, bs, lo, ho, hx, hdt, hes, hik⟩ := dT_raw I hH
  have hbl : bs.length = ps.length := by
    have e1 := Paired.length hik
    have e2 := congrArg List.length hks
    rw [List.length_map, List.length_map] at e2
    omega
  have hel : es.size = bs.length := by
    have e := congrArg List.length hes
    rw [List.length_map, List.length_map, Array.length_toList] at e
    exact e
  refine Calls.call_function_entry PyProof.Rows.kind_sorted PyProof.Rows.plain_sorted PyProof.Rows.entry_sorted (PyProof.Rows.args_sorted1 _) ?_
  unfold Builtin.«sorted»
  refine wpAny_bind (m := checkCount "sorted" 1 1 _) (wpAny_pure ?_)
  refine wpAny_bind (PySem.W.kdu_collect (A := X.A.in1) (kdl_raw lo hx hdt) (I.ok.hd hcalm) ho (by rw [hel, hbl, sizeLine_eq]; omega) fun h' tk acc hk hacc => ?_)
  have hal : acc.toList.length = bs.length := by rw [Array.length_toList, hacc.1, hel]
  have hae : acc.toList = bs.map Value.ref := by
    rw [← hes]
    refine List.ext_getElem? fun j => ?_
    rw [List.getElem?_map]
    cases hj : acc.toList[j]? with
    | none =>
      have h1 := List.getElem?_eq_none_iff.mp hj
      rw [List.getElem?_eq_none (by rw [Array.length_toList]; omega)]; rfl
    | some v =>
      obtain ⟨en, hen, hv⟩ := hacc.2 j v (by rw [← Array.getElem?_toList]; exact hj)
      rw [Array.getElem?_toList, hen, hv]; rfl
  have I1 : Inv X pins σ H { s with heap := h', toks := tk } := I.kept hk
  -- each key is a pair
  have key : ∀ (j : Nat) (b : Addr), bs[j]? = some b → ∃ p, ps[j]? = some p ∧ H b = some (.tup [.int p.1, .int p.2]) := fun j b hb => by
    have hj := (List.getElem?_eq_some_iff.mp hb).1
    obtain ⟨p, hp⟩ : ∃ p, ps[j]? = some p := ⟨_, List.getElem?_eq_getElem (by omega)⟩
    have hkl : j < kvs.length := by have := Paired.length hik; omega
    obtain ⟨kv, hkv⟩ : ∃ kv, kvs[j]? = some kv := ⟨_, List.getElem?_eq_getElem hkl⟩
    have h1 := paired_at hik hkv hb
    have h2 : (kvs.map (·.1))[j]? = some kv.1 := by rw [List.getElem?_map, hkv]; rfl
    rw [hks, List.getElem?_map, hp] at h2
    rw [← Option.some.inj h2] at h1
    exact ⟨p, hp, h1⟩
  have hval : ∀ v ∈ acc.toList, ∃ t p, v = Value.ref t ∧ p ∈ ps ∧ SqT X.K H t [.int p.1, .int p.2] := fun v hv => by
    rw [hae] at hv
    obtain ⟨b, hb, rfl⟩ := List.mem_map.mp hv
    obtain ⟨j, hj⟩ := List.mem_iff_getElem?.mp hb
    obtain ⟨p, hp, hH⟩ := key j b hj
    exact ⟨b, p, rfl, List.mem_of_getElem? hp, SqT.of hH⟩
  have hoL : (h'.push (seqObj "list" acc.toList.toArray 0)).get? h'.objs.size = some (seqObj "list" acc.toList.toArray 0) := Heap.get?_push_size _ rfl
  have keep : ∀ b o, h'.get? b = some o → o.cls = .type "tuple" → (h'.push (seqObj "list" acc.toList.toArray 0)).get? b = some o := fun b o e _ => Heap.get?_push_of_some _ e
  have hraw : ∀ (t : Addr) (p : Int × Int), SqT X.K H t [.int p.1, .int p.2] → TS.TupInts (h'.push (seqObj "list" acc.toList.toArray 0)) (.ref t) (lsP p) := fun t p h => (tupI_raw I1 (ns := lsP p) h).keeps keep
  refine wpAny_bind (wpAny_newList ?_ (by rw [hal, sizeLine_eq]; omega))
  show wpAny _ _ _ _ _ { s with heap := h'.push (seqObj "list" acc.toList.toArray 0), toks := tk }
  refine wpAny_bind (wpAny_holding (wpAny_call_entry PyProof.Rows.slot_list_sort ⟨_, hoL, rfl⟩ PyProof.Rows.entry_list_sort
    (TS.sort_tups (s := { s with heap := h'.push (seqObj "list" acc.toList.toArray 0), toks := tk }) (d := 2) (B := prB) hoL (by rw [hal, hbl]; exact h64) (by decide)
      (fun v hv => by
        obtain ⟨t, p, rfl, hp, hs⟩ := hval v hv
        exact ⟨lsP p, hraw t p hs, rfl, bdP_bd (hbd p hp)⟩)
      (fun v => TS.code prB (TS.intsOf (h'.push (seqObj "list" acc.toList.toArray 0)) v)) (fun v _ ns t => by
        show TS.code prB (TS.intsOf _ v) = TS.code prB ns
        rw [t.ints]) fun out g1 g2 => ⟨_, rfl, ?_⟩) (PyProof.Rows.args_list_sort _)))
  obtain ⟨e', he'⟩ := PyProof.Rows.sortedHeap_at (vs := acc.toList) (out := out) hoL
  have hov : ∀ v ∈ out.toList, ∃ t p, v = Value.ref t ∧ p ∈ ps ∧ SqT X.K H t [.int p.1, .int p.2] := fun v hv => hval v (g1.mem_iff.mp hv)
  have hint : ∀ v t p, v = Value.ref t → SqT X.K H t [.int p.1, .int p.2] → TS.intsOf (h'.push (seqObj "list" acc.toList.toArray 0)) v = lsP p := fun v t p e h => by subst e; exact (hraw t p h).ints
  have hps : acc.toList.map (fun v => ofL (TS.intsOf (h'.push (seqObj "list" acc.toList.toArray 0)) v)) = ps := by
    refine List.ext_getElem? fun j => ?_
    rw [List.getElem?_map]
    cases hj : bs[j]? with
    | none =>
      have h1 := List.getElem?_eq_none_iff.mp hj
      rw [List.getElem?_eq_none (by omega), List.getElem?_eq_none (by omega)]; rfl
    | some b =>
      obtain ⟨p, hp, hH⟩ := key j b hj
      rw [hae, List.getElem?_map, hj, hp]
      show some (ofL (TS.intsOf _ (Value.ref b))) = _
      rw [← hae, hint _ b p rfl (SqT.of hH)]; rfl
  have hrefs : ∀ v ∈ out.toList, ∃ t, v = Value.ref t := fun v hv => let ⟨t, _, e, _⟩ := hov v hv; ⟨t, e⟩
  have hlen : (out.toList.map bkV).length ≤ sizeLine := by
    rw [List.length_map, g1.length_eq, hal, hbl]
    exact Nat.le_trans (Nat.le_of_lt h64) (by decide)
  refine wpAny_pure ⟨_, rfl, .ref h'.objs.size, upd H h'.objs.size (.lst (out.toList.map bkV)), I1.laid (t' := tk) (fun b u e => ?_) (Nat.le_refl _)
    (show ObjOk X.prog X.w _ _ _ (.lst (out.toList.map bkV)) from ⟨hlen, out.toList, e', bkV_vals hrefs, by rw [Array.toArray_toList]; exact he'⟩), rfl, q (out.toList.map fun v => ofL (TS.intsOf (h'.push (seqObj "list" acc.toList.toArray 0)) v)) _ _ ?_ ?_ ?_ (I1.hok.fresh (Nat.le_refl _))⟩
  · have hb : b < h'.objs.size := Heap.lt_size e
    rw [PyProof.Rows.sortedHeap_old (Nat.ne_of_lt hb) (by rw [size_push']; exact Nat.lt_succ_of_lt hb)]
    exact Heap.get?_push_of_some _ e
  · have := g1.map (fun v => ofL (TS.intsOf (h'.push (seqObj "list" acc.toList.toArray 0)) v))
    rwa [hps] at this
  · rw [List.pairwise_map]
    refine List.Pairwise.imp_of_mem (fun {u v} hu hv h => ?_) g2
    obtain ⟨t, p, e, hp, hs⟩ := hov u hu
    obtain ⟨t2, p2, e2, hp2, hs2⟩ := hov v hv
    rw [hint u t p e hs, hint v t2 p2 e2 hs2] at h ⊢
    exact code_lex (bdP_bd (hbd p hp)) (bdP_bd (hbd p2 hp2)) h
  · refine paired_maps fun v hv => ?_
    obtain ⟨t, p, e, hp, hs⟩ := hov v hv
    rw [hint v t p e hs]
    subst e
    exact ⟨t, rfl, hs⟩
end
def keysP : List (U × U) → Option (List (Int × Int))
  | [] => some []
  | (.tup [.int a, .int b], _) :: l => (keysP l).map ((a, b) :: ·)
  | _ => none
def prU (p : Int × Int) : U := .tup [.int p.1, .int p.2]
theorem keysP_cons {x : U × U} {l : List (U × U)} {ps : List (Int × Int)} (h : keysP (x :: l) = some ps) : ∃ p rs u, x = (prU p, u) ∧ keysP l = some rs ∧ ps = p :: rs := by
  unfold keysP at h
  split at h
  · rename_i heq; cases heq
  · rename_i a b w l' heq
    cases heq
    obtain ⟨rs, h1, h2⟩ := Option.map_eq_some_iff.mp h
    exact ⟨(a, b), rs, w, rfl, h1, h2.symm⟩
  · cases h
theorem keysP_isT : ∀ {kvs : List (U × U)} {ps : List (Int × Int)}, keysP kvs = some ps → isT kvs = true
  | [], _, _ => rfl
  | x :: l, ps, h => by
    obtain ⟨p, rs, u, rfl, h1, _⟩ := keysP_cons h
    show ((keyT (prU p)).isSome && isT l) = true
    rw [keysP_isT h1]; rfl
theorem keysP_ok {K : PySem.W.Frag} {ρ : List Addr} {H : Hp} : ∀ {kvs : List (U × U)} {ks : List (List Key × V)} {ps : List (Int × Int)}, PaT K ρ H kvs ks → keysP kvs = some ps → ks.map (·.1) = ps.map fun p => [Sum.inl p.1, Sum.inl p.2]
  | _, _, ps, .nil, e => by
    have : ps = [] := (Option.some.inj e).symm
    subst this; rfl
  | _, _, ps, .cons (b := q) a h, e => by
    obtain ⟨p, rs, u, rfl, h1, rfl⟩ := keysP_cons e
    rw [List.map_cons, List.map_cons, keysP_ok h h1]
    have e1 : prU p = .tup (q.1.map kU) := a.1
    have e2 : keyT (prU p) = some q.1 := by rw [e1, keyT_tup]
    have e3 : q.1 = [Sum.inl p.1, Sum.inl p.2] := (Option.some.inj e2).symm
    rw [e3]
def insP (k : Int × Int) : List (Int × Int) → List (Int × Int)
  | [] => [k]
  | x :: l => if leP k x then k :: x :: l else x :: insP k l
def srtP (ps : List (Int × Int)) : List (Int × Int) := ps.foldr insP []
theorem insP_perm {k : Int × Int} : ∀ {l : List (Int × Int)}, (insP k l).Perm (k :: l)
  | [] => .refl _
  | x :: l => by
    unfold insP
    split
    · exact .refl _
    · exact (insP_perm.cons x).trans (.swap k x l)
theorem srtP_perm : ∀ (ps : List (Int × Int)), (srtP ps).Perm ps
  | [] => .refl _
  | n :: ns => (insP_perm (l := srtP ns)).trans ((srtP_perm ns).cons n)
theorem leP_trans {p q r : Int × Int} (h1 : leP p q) (h2 : leP q r) : leP p r := by
  unfold leP at *; omega
theorem leP_total {p q : Int × Int} (h : ¬ leP p q) : leP q p := by
  unfold leP at *; omega
theorem leP_anti {p q : Int × Int} (h1 : leP p q) (h2 : leP q p) : p = q := by
  obtain ⟨a, b⟩ := p
  obtain ⟨c, d⟩ := q
  unfold leP at *
  dsimp only at *
  have : a = c := by omega
  have : b = d := by omega
  subst_vars; rfl
theorem insP_asc {k : Int × Int} : ∀ {l : List (Int × Int)}, l.Pairwise leP → (insP k l).Pairwise leP
  | [], _ => by simp [insP]
  | x :: l, h => by
    obtain ⟨h1, h2⟩ := List.pairwise_cons.mp h
    unfold insP
    split
    · rename_i hk
      refine List.pairwise_cons.mpr ⟨fun y hy => ?_, h⟩
      rcases List.mem_cons.mp hy with rfl | hy
      · exact hk
      · exact leP_trans hk (h1 y hy)
    · rename_i hk
      refine List.pairwise_cons.mpr ⟨fun y hy => ?_, insP_asc h2⟩
      rcases List.mem_cons.mp (insP_perm.mem_iff.mp hy) with rfl | hy
      · exact leP_total hk
      · exact h1 y hy
theorem srtP_asc : ∀ (ps : List (Int × Int)), (srtP ps).Pairwise leP
  | [] => .nil
  | n :: ns => insP_asc (srtP_asc ns)
theorem perm_ascP : ∀ {l m : List (Int × Int)}, l.Perm m → l.Pairwise leP → m.Pairwise leP → l = m
  | [], m, h, _, _ => h.nil_eq
  | x :: l, [], h, _, _ => absurd h.length_eq (by simp)
  | x :: l, y :: m, h, h1, h2 => by
    obtain ⟨a1, a2⟩ := List.pairwise_cons.mp h1
    obtain ⟨b1, b2⟩ := List.pairwise_cons.mp h2
    have e : x = y := by
      rcases List.mem_cons.mp (h.mem_iff.mpr (List.mem_cons_self ..)) with e | e
      · exact e.symm
      · rcases List.mem_cons.mp (h.mem_iff.mp (List.mem_cons_self ..)) with e2 | e2
        · exact e2
        · exact leP_anti (a1 y e) (b1 x e2)
    subst e
    rw [perm_ascP (h.cons_inv) a2 b2]
theorem rvs_pairs {K : PySem.W.Frag} {ρ : List Addr} {H : Hp} : ∀ {ys : List V} {qs : List (Int × Int)}, Paired (fun (y : V) (q : Int × Int) => ∃ t, y = V.ref t ∧ SqT K H t [.int q.1, .int q.2]) ys qs → RVs K ρ H (qs.map prU) ys
  | _, _, .nil => .nil
  | _, _, .cons h t => by
    obtain ⟨a, e, hs⟩ := h
    subst e
    exact .cons (.tup hs (RVs.ints [_, _])) (rvs_pairs t)
def gSortT : List U → M U := fun us T => match us with
  | [.ob k] => match T[k]? with
    | some (.dic kvs) => match keysP kvs with
      | some ps => if ps.length < 64 ∧ ∀ p ∈ ps, bdP p then nw (.lst ((srtP ps).map prU)) T else .no
      | none => .no
    | _ => .no
  | _ => .no
section
variable {X : Cx} {E : XK}
theorem fcl_sortT (hc : X.calm = true) : FCall X E (.builtin "sorted") gSortT := by
  refine ⟨_, call_sortedDT hc, fun ρ H T us xs Q s r h => ?_⟩
  unfold gSortT at h
  split at h
  rotate_left
  · exact False.elim h
  rename_i j
  split at h
  rotate_left
  · exact False.elim h
  rename_i kvs eT
  split at h
  rotate_left
  · exact False.elim h
  rename_i ps ek
  split at h
  rotate_left
  · exact False.elim h
  rename_i hl
  match r with
  | .cons (.ob (a := d) ea) .nil =>
    obtain ⟨b, p, ro⟩ := s.get eT
    rw [ea] at p
    cases p
    obtain ⟨ks, hp, hH⟩ := isT_ok ro (keysP_isT ek)
    refine ⟨d, ks, ps, rfl, hH, keysP_ok hp ek, hl.1, hl.2, fun qs ys p hperm hasc hpr n => ?_⟩
    have e : qs = srtP ps := perm_ascP (hperm.trans (srtP_perm ps).symm) hasc (srtP_asc ps)
    subst e
    exact okNew s h (rvs_pairs hpr) n
end
theorem v_sortT {k : Nat} {kvs : List (U × U)} {ps : List (Int × Int)} {T : Sto} {Q : U → Sto → Prop} (e : T[k]? = some (.dic kvs)) (ek : keysP kvs = some ps) (hl : ps.length < 64) (hb : ∀ p ∈ ps, bdP p) (q : Q (.ob T.length) (T ++ [.lst ((srtP ps).map prU)])) : Wp (gSortT [.ob k] T) Q := by
  unfold gSortT
  simp only [e, ek]
  rw [if_pos ⟨hl, hb⟩]
  exact .ok q
theorem v_subTT {Fo : FxE} {Fr : FxA} {v : U} {η : Lo} {T : Sto} {Q : Lo → Sto → Prop} (q : Wp (Fo η T) fun o T1 => Wp (Fr η T1) fun us T2 => us.length ≤ 16777216 ∧ ∃ T3, gSetT o us v T2 = some T3 ∧ Q η T3) : Wp (gSubTT Fo Fr v η T) Q := .bindE q fun _ _ q => .bindE q fun us T2 ⟨hl, T3, e, q⟩ => by
  rw [if_pos hl]
  simp only [e]
  exact .ok q
/-- the keys after a put: pairs -/
def putP (ps : List (Int × Int)) (p : Int × Int) : List (Int × Int) := if p ∈ ps then ps else ps ++ [p]
theorem keysOf_two (a b : Int) : keysOf [.int a, .int b] = some [Sum.inl a, Sum.inl b] := rfl
theorem keyT_prU (p : Int × Int) : keyT (prU p) = some [Sum.inl p.1, Sum.inl p.2] := rfl
theorem keysP_put : ∀ {kvs : List (U × U)} {ps : List (Int × Int)} {a b : Int} {u : U}, keysP kvs = some ps → keysP (putTU kvs [Sum.inl a, Sum.inl b] u) = some (putP ps (a, b)) := by
  intro kvs ps a b u h
  have hany : ∀ {kvs : List (U × U)} {ps : List (Int × Int)}, keysP kvs = some ps → (kvs.any fun p => decide (keyT p.1 = some [Sum.inl a, Sum.inl b])) = decide ((a, b) ∈ ps) := by
    intro kvs
    induction kvs with
    | nil => intro ps h; cases h; rfl
    | cons x l ih =>
      intro ps h
      obtain ⟨p, rs, w, rfl, h1, rfl⟩ := keysP_cons h
      rw [List.any_cons, ih h1]
      show (decide (keyT (prU p) = some [Sum.inl a, Sum.inl b]) || decide ((a, b) ∈ rs)) = _
      rw [keyT_prU]
      obtain ⟨c, d⟩ := p
      simp only [List.mem_cons, Bool.decide_or]
      congr 1
      refine decide_eq_decide.mpr ⟨fun e => ?_, fun e => ?_⟩
      · simp only [Option.some.injEq, List.cons.injEq, Sum.inl.injEq, and_true] at e
        rw [e.1, e.2]
      · cases e; rfl
  unfold putTU putP
  rw [hany h]
  by_cases hm : (a, b) ∈ ps
  · rw [if_pos (decide_eq_true hm), if_pos hm]
    clear hm hany
    induction kvs generalizing ps with
    | nil => exact h
    | cons x l ih =>
      obtain ⟨p, rs, w, rfl, h1, rfl⟩ := keysP_cons h
      rw [List.map_cons]
      have e : (if keyT (prU p) = some [Sum.inl a, Sum.inl b] then (prU p, u) else (prU p, w)) = (prU p, if keyT (prU p) = some [Sum.inl a, Sum.inl b] then u else w) := by split <;> rfl
      rw [e]
      show (keysP (l.map _)).map ((p.1, p.2) :: ·) = some (p :: rs)
      rw [ih h1]; rfl
  · rw [if_neg (by simpa using hm), if_neg hm]
    clear hm hany
    induction kvs generalizing ps with
    | nil => cases h; rfl
    | cons x l ih =>
      obtain ⟨p, rs, w, rfl, h1, rfl⟩ := keysP_cons h
      show (keysP (l ++ _)).map ((p.1, p.2) :: ·) = some (p :: rs ++ [(a, b)])
      rw [ih h1]; rfl
theorem gSetT_of {j : Nat} {a b : Int} {v : U} {kvs : List (U × U)} {T : Sto} (e : T[j]? = some (.dic kvs)) (hk : isT kvs = true) (hl : kvs.length < 16777216) : gSetT (.ob j) [.int a, .int b] v T = some (T.set j (.dic (putTU kvs [Sum.inl a, Sum.inl b] v))) := by
  unfold gSetT
  rw [keysOf_two]
  simp only [e]
  rw [if_pos ⟨hk, hl⟩]
end Lf
set_option Elab.async false
set_option linter.all false
set_option maxRecDepth 100000
set_option maxHeartbeats 0
namespace Hd
open PySem PySem.Spec PyProof.Rows L2
def tp (i : Nat) : Stmt := PySem.Challenge.pw_leastjournal_k37_plans_of_any_value.main.body.getD i (.Pass ⟨0, 0, 0, 0⟩)
def d_is_entry : He.DefD := ⟨("is_entry", none), "is_entry", "is_entry", defArgs (tp 2), defBody (tp 2), defScope (tp 2), [], []⟩
def d_is_plan : He.DefD := ⟨("is_plan", none), "is_plan", "is_plan", defArgs (tp 3), defBody (tp 3), defScope (tp 3), [], []⟩
def d__law_pot : He.DefD := ⟨("_law_pot", none), "_law_pot", "_law_pot", defArgs (tp 5), defBody (tp 5), defScope (tp 5), [], []⟩
def d__law_take : He.DefD := ⟨("_law_take", none), "_law_take", "_law_take", defArgs (tp 6), defBody (tp 6), defScope (tp 6), [], []⟩
def d__law_of : He.DefD := ⟨("_law_of", none), "_law_of", "_law_of", defArgs (tp 7), defBody (tp 7), defScope (tp 7), [], []⟩
def d__law_odd : He.DefD := ⟨("_law_odd", none), "_law_odd", "_law_odd", defArgs (tp 8), defBody (tp 8), defScope (tp 8), [], []⟩
def d__law_element : He.DefD := ⟨("_law_element", none), "_law_element", "_law_element", defArgs (tp 9), defBody (tp 9), defScope (tp 9), [], []⟩
def d__law_due : He.DefD := ⟨("_law_due", none), "_law_due", "_law_due", defArgs (tp 10), defBody (tp 10), defScope (tp 10), [], []⟩
def d__law_case : He.DefD := ⟨("_law_case", none), "_law_case", "_law_case", defArgs (tp 11), defBody (tp 11), defScope (tp 11), [], []⟩
def d_law : He.DefD := ⟨("law", none), "law", "law", defArgs (tp 12), defBody (tp 12), defScope (tp 12), [], []⟩
def fn : List He.DefD := [d_is_entry, d_is_plan, d__law_pot, d__law_take, d__law_of, d__law_odd, d__law_element, d__law_due, d__law_case, d_law]
def fa : List He.Fa := [.glo "is_entry", .glo "is_plan", .glo "_law_pot", .glo "_law_take", .glo "_law_of", .glo "_law_odd", .glo "_law_element", .glo "_law_due", .glo "_law_case", .glo "law", .free "abs", .free "all", .free "bool", .free "int", .free "isinstance", .free "len", .free "list", .free "max", .free "min", .free "range", .free "repr", .free "sorted", .free "tuple", .free "zip", .int "ENTRY_PARTS" (2)]
def loose0 : List PySem.Str := ["ENTRY_PARTS", "is_entry", "is_plan", "_law_pot", "_law_take", "_law_of", "_law_odd", "_law_element", "_law_due", "_law_case"]
def loose : List PySem.Str := loose0
def steps : Nat := 20000
abbrev Rr : PySem.W.OpenRow := PySem.W.OpenLaw.row PySem.Challenge.rw_leastjournal_k37_plans_of_any_value
open Lf in
def fxs : List (PySem.W.Frag → Bool) := [fun K => sysB K]
def fx (K : PySem.W.Frag) : Bool := fxs.all fun f => f K
abbrev hk : PySem.W.Hook := Lf.hookS 5 fa fn fx
def ob (s : PySem.W.SharedT) : Bool × He.AlD := Lf.obsS 5 fa fn fx (HandSHeadRun.getT s)
theorem ob_eq (s : PySem.W.SharedT) : ob s = hk.obs s.abs := Lf.obsS_eq (HandSHeadRun.getT_eq s)
theorem run (w : World) : HandSHeadRun.RunEq Rr (PySem.W.view Rr.prog [12]) hk ob steps loose w := by
  intro os
  kernel_rfl
end Hd
set_option Elab.async false
set_option linter.all false
set_option maxRecDepth 100000
set_option maxHeartbeats 0
namespace Fn
open PySem PySem.Spec L2 Lf
/-- the names that the top leaves alone, and its constants -/
structure Mf (P : Program) (w : World) (K : PySem.W.Frag) (mg : Str → Option Value) (base : Heap) : Prop where
  sysm : sysB K = true
  m_abs : mg "abs" = none
  m_all : mg "all" = none
  m_bool : mg "bool" = none
  m_int : mg "int" = none
  m_isinstance : mg "isinstance" = none
  m_len : mg "len" = none
  m_list : mg "list" = none
  m_max : mg "max" = none
  m_min : mg "min" = none
  m_range : mg "range" = none
  m_repr : mg "repr" = none
  m_sorted : mg "sorted" = none
  m_tuple : mg "tuple" = none
  m_zip : mg "zip" = none
  c_ENTRY_PARTS : ∃ t, mg "ENTRY_PARTS" = some (.int 2 t)
namespace Bt
theorem abs : bootBuiltins "abs" = some (.builtin "abs") := by decide +kernel
theorem all : bootBuiltins "all" = some (.builtin "all") := by decide +kernel
theorem int : bootBuiltins "int" = some (.type "int") := by decide +kernel
theorem isinstance : bootBuiltins "isinstance" = some (.builtin "isinstance") := by decide +kernel
theorem len : bootBuiltins "len" = some (.builtin "len") := by decide +kernel
theorem list : bootBuiltins "list" = some (.type "list") := by decide +kernel
theorem max : bootBuiltins "max" = some (.builtin "max") := by decide +kernel
theorem min : bootBuiltins "min" = some (.builtin "min") := by decide +kernel
theorem repr : bootBuiltins "repr" = some (.builtin "repr") := by decide +kernel
theorem sorted : bootBuiltins "sorted" = some (.builtin "sorted") := by decide +kernel
theorem tuple : bootBuiltins "tuple" = some (.type "tuple") := by decide +kernel
end Bt
def f_is_entry : FxS :=
  fSeq (fIf (fOr (fNot (fTru (fCall gIsi (fCons (fVar 2) (fCons (fC (.raw (.ty "tuple"))) (fNil)))))) (fBl (fBin (gEq true) (fCall gLen (fCons (fVar 2) (fNil))) (fC (.int 2))))) (fRet (fC (.bl false))) (fSkip)) (fSeq (fIf (fNot (fTru (fCall gAll (fCons (fLc [3] (fIter (fVar 2)) (gNm 3) (fYes) (fAndV (fCall gIsi (fCons (fVar 3) (fCons (fC (.raw (.ty "int"))) (fNil)))) (fNotV (fCall gIsi (fCons (fVar 3) (fCons (fC (.raw (.ty "bool"))) (fNil))))))) (fNil))))) (fRet (fC (.bl false))) (fSkip)) (fRet (fAndV (fChain gLe gLe (fC (.int 0)) (fBin gIx (fVar 2) (fC (.int 0))) (fVar 1)) (fChain gLe gLt (fC (.int 0)) (fBin gIx (fVar 2) (fC (.int 1))) (fVar 0)))))
def g_is_entry : List U → M U := gDef 4 f_is_entry
abbrev N_is_entry : List Str := ["n", "moment", "value", "part"]
theorem sc_is_entry : FnScope N_is_entry ["n", "moment", "value"] Hd.d_is_entry.scope := ⟨rfl, rfl, rfl, by decide +kernel, rfl, by decide +kernel, by decide +kernel⟩
theorem b_is_entry {P : Program} {w : World} {K : PySem.W.Frag} {mg : Str → Option Value} {base : Heap} (mf : Mf P w K mg base)  {f : Addr} {cv : Value} {A : Around} {fr : List Env} {s : Shared} {H : Hp} {E : XK} (hr0 : Room 1 (A.deeper (PyProof.Rows.envOfC "is_entry" Hd.d_is_entry.scope s.heap.objs.size f cv))) (gd : A.guards = some []) :
    FSs (cxOf CX0 P w K mg base N_is_entry "is_entry" Hd.d_is_entry.scope f cv A fr s H E).nox E Hd.d_is_entry.body f_is_entry := by
  have sc := sc_is_entry
  have hr : Room 1 (cxOf CX0 P w K mg base N_is_entry "is_entry" Hd.d_is_entry.scope f cv A fr s H E).nox.A := hr0
  exact (fss_cons (fs_if (ft_w (fw_or (ft_not (ft_tru (fe_callB fcl_isi (by rfl) mf.m_isinstance Bt.isinstance (fa_cons (fe_var 2) (fa_cons (fe_ty (by rfl) mf.m_tuple PyProof.Rows.boot_tuple) fa_nil))))) (fw_or1 (ft_cmp (fop_ne (by exact hr.units)) (fe_callB fcl_len (by rfl) mf.m_len Bt.len (fa_cons (fe_var 2) fa_nil)) (fe_gint (by rfl) mf.c_ENTRY_PARTS.choose_spec))))) (fss_one (fs_ret fe_bl)) fss_nil) (fss_cons (fs_if (ft_not (ft_tru (fe_callB (fcl_all rfl) (by rfl) mf.m_all Bt.all (fa_cons (fe_comp (own := [("part", 3)]) rfl sc.nd (blkOk_by (by kernel_rfl)) (fi_seq (fe_var 2)) (by decide) (fun _ => (fg_name (i := 3) sc.nd rfl (by first | exact .inl rfl | exact .inr rfl))) (fun _ => fts_nil) (fun _ => (fe_and (fe_callB fcl_isi (by rfl) mf.m_isinstance Bt.isinstance (fa_cons (fe_var 3) (fa_cons (fe_ty (by rfl) mf.m_int PyProof.Rows.boot_int) fa_nil))) (fe_one (fe_not (fe_callB fcl_isi (by rfl) mf.m_isinstance Bt.isinstance (fa_cons (fe_var 3) (fa_cons (fe_ty (by rfl) mf.m_bool PyProof.Rows.boot_bool) fa_nil)))))))) fa_nil)))) (fss_one (fs_ret fe_bl)) fss_nil) (fss_one (fs_ret (fe_and (fe_chain fop_le fop_le fe_int (fe_ix (fe_var 2) fe_int) (fe_var 1)) (fe_one (fe_chain fop_le fop_lt fe_int (fe_ix (fe_var 2) fe_int) (fe_var 0))))))))
theorem ok_is_entry {P : Program} {w : World} {K : PySem.W.Frag} {mg : Str → Option Value} {base : Heap} (mf : Mf P w K mg base)  {f : Addr} {fd : FuncData} (hm : mg "is_entry" = some (.ref f)) (D : FunD K "is_entry" "is_entry" Hd.d_is_entry.params Hd.d_is_entry.body Hd.d_is_entry.scope [] [] f fd) : Dok P w K mg base "is_entry" 2 ["n", "moment", "value"] [] g_is_entry :=
  .of (fnG_of (N := N_is_entry) (F := f_is_entry) D sc_is_entry fun cv A fr s H E hr gd => (b_is_entry mf  hr gd).nox) hm D (fun _ _ _ _ _ _ us hl => match us, hl with | [_, _, _], _ => rfl) (fun q hq => nomatch hq)
def f_is_plan : FxS :=
  fSeq (fIf (fOr (fNot (fTru (fCall gIsi (fCons (fVar 3) (fCons (fC (.raw (.ty "tuple"))) (fNil)))))) (fNot (fTru (fCall gAll (fCons (fLc [4] (fIter (fVar 3)) (gNm 4) (fYes) (fCall (kdG .len 3 g_is_entry) (fCons (fVar 0) (fCons (fVar 2) (fCons (fVar 4) (fNil)))))) (fNil)))))) (fRet (fC (.bl false))) (fSkip)) (fRet (fCall gAll (fCons (fLc [5, 6] (fZip2 (fCons (fVar 3) (fCons (fSl (fVar 3) (fPt (fC (.int 1))) fNoP) (fNil)))) (gUnp 2 (gCons (gNm 5) (gCons (gNm 6) (gNil)))) (fYes) (fBin gLtT (fVar 5) (fVar 6))) (fNil))))
def g_is_plan : List U → M U := gDef 7 f_is_plan
abbrev N_is_plan : List Str := ["n", "program", "moment", "value", "entry", "one", "other"]
theorem sc_is_plan : FnScope N_is_plan ["n", "program", "moment", "value"] Hd.d_is_plan.scope := ⟨rfl, rfl, rfl, by decide +kernel, rfl, by decide +kernel, by decide +kernel⟩
theorem b_is_plan {P : Program} {w : World} {K : PySem.W.Frag} {mg : Str → Option Value} {base : Heap} (mf : Mf P w K mg base) (D_is_entry : Dok P w K mg base "is_entry" 2 ["n", "moment", "value"] [] g_is_entry) {f : Addr} {cv : Value} {A : Around} {fr : List Env} {s : Shared} {H : Hp} {E : XK} (hr0 : Room 2 (A.deeper (PyProof.Rows.envOfC "is_plan" Hd.d_is_plan.scope s.heap.objs.size f cv))) (gd : A.guards = some []) :
    FSs (cxOf CX0 P w K mg base N_is_plan "is_plan" Hd.d_is_plan.scope f cv A fr s H E).nox E Hd.d_is_plan.body f_is_plan := by
  have sc := sc_is_plan
  have hr : Room 2 (cxOf CX0 P w K mg base N_is_plan "is_plan" Hd.d_is_plan.scope f cv A fr s H E).nox.A := hr0
  exact (fss_cons (fs_if (ft_w (fw_or (ft_not (ft_tru (fe_callB fcl_isi (by rfl) mf.m_isinstance Bt.isinstance (fa_cons (fe_var 3) (fa_cons (fe_ty (by rfl) mf.m_tuple PyProof.Rows.boot_tuple) fa_nil))))) (fw_or1 (ft_not (ft_tru (fe_callB (fcl_all rfl) (by rfl) mf.m_all Bt.all (fa_cons (fe_comp (own := [("entry", 4)]) rfl sc.nd (blkOk_by (by kernel_rfl)) (fi_seq (fe_var 3)) (by decide) (fun _ => (fg_name (i := 4) sc.nd rfl (by first | exact .inl rfl | exact .inr rfl))) (fun _ => fts_nil) (fun _ => (fe_def .len D_is_entry (by exact hr) (by rfl) (by exact gd) (by rfl) (fa_cons (fe_var 0) (fa_cons (fe_var 2) (fa_cons (fe_var 4) fa_nil)))))) fa_nil))))))) (fss_one (fs_ret fe_bl)) fss_nil) (fss_one (fs_ret (fe_callB (fcl_all rfl) (by rfl) mf.m_all Bt.all (fa_cons (fe_comp (own := [("one", 5), ("other", 6)]) rfl sc.nd (blkOk_by (by kernel_rfl)) (fi_zip2 (by rfl) mf.m_zip (fa_cons (fe_var 3) (fa_cons (fe_slice (fe_var 3) (fo_some fe_int) fo_none) fa_nil))) (by decide) (fun _ => (fg_tup rfl (fgs_cons (fg_name (i := 5) sc.nd rfl (by first | exact .inl rfl | exact .inr rfl)) (fgs_cons (fg_name (i := 6) sc.nd rfl (by first | exact .inl rfl | exact .inr rfl)) fgs_nil)))) (fun _ => fts_nil) (fun _ => (fe_cmp (fop_ltT (by exact hr.units)) (fe_var 5) (fe_var 6)))) fa_nil)))))
theorem ok_is_plan {P : Program} {w : World} {K : PySem.W.Frag} {mg : Str → Option Value} {base : Heap} (mf : Mf P w K mg base) (D_is_entry : Dok P w K mg base "is_entry" 2 ["n", "moment", "value"] [] g_is_entry) {f : Addr} {fd : FuncData} (hm : mg "is_plan" = some (.ref f)) (D : FunD K "is_plan" "is_plan" Hd.d_is_plan.params Hd.d_is_plan.body Hd.d_is_plan.scope [] [] f fd) : Dok P w K mg base "is_plan" 3 ["n", "program", "moment", "value"] [] g_is_plan :=
  .of (fnG_of (N := N_is_plan) (F := f_is_plan) D sc_is_plan fun cv A fr s H E hr gd => (b_is_plan mf D_is_entry hr gd).nox) hm D (fun _ _ _ _ _ _ us hl => match us, hl with | [_, _, _, _], _ => rfl) (fun q hq => nomatch hq)
def f_law_pot : FxS :=
  fSeq (fSet 2 (fIfE (fBl (fBin gLt (fVar 1) (fCall gLen (fCons (fVar 0) (fNil))))) (fBin gIx (fVar 0) (fVar 1)) (fBin gAdd (fBin gMul (fC (.int 5)) (fVar 1)) (fC (.int 2))))) (fSeq (fSet 3 (fBin gMul (fBin gMul (fBin gMul (fBin gMul (fBin gPow (fC (.int 10)) (fC (.int 60))) (fBin gPow (fC (.int 10)) (fC (.int 60)))) (fBin gPow (fC (.int 10)) (fC (.int 60)))) (fBin gPow (fC (.int 10)) (fC (.int 60)))) (fBin gPow (fC (.int 10)) (fC (.int 60))))) (fSeq (fSet 4 (fBin gMul (fBin gMod (fCall gAbs (fCons (fVar 2) (fNil))) (fVar 3)) (fCall gInt (fCons (fBin gGe (fCall gAbs (fCons (fVar 2) (fNil))) (fBin gPow (fC (.int 10)) (fC (.int 18)))) (fNil))))) (fSeq (fSet 5 (fBin gMul (fBin gAdd (fBin gAdd (fBin gMod (fVar 2) (fC (.int 2305843009213693951))) (fBin gMul (fBin gMul (fC (.int 104729)) (fVar 1)) (fVar 1))) (fC (.int 17))) (fC (.int 69621)))) (fRet (fLst (fCons (fVar 4) (fCons (fBin gMod (fVar 5) (fC (.int 2305843009213693921))) (fCons (fC (.int 0)) (fNil)))))))))
def g_law_pot : List U → M U := gDef 6 f_law_pot
abbrev N_law_pot : List Str := ["_law_script", "_law_k", "_law_cell", "_law_far", "_law_great", "_law_mixed"]
theorem sc_law_pot : FnScope N_law_pot ["_law_script", "_law_k"] Hd.d__law_pot.scope := ⟨rfl, rfl, rfl, by decide +kernel, rfl, by decide +kernel, by decide +kernel⟩
theorem b_law_pot {P : Program} {w : World} {K : PySem.W.Frag} {mg : Str → Option Value} {base : Heap} (mf : Mf P w K mg base)  {f : Addr} {cv : Value} {A : Around} {fr : List Env} {s : Shared} {H : Hp} {E : XK} (hr0 : Room 1 (A.deeper (PyProof.Rows.envOfC "_law_pot" Hd.d__law_pot.scope s.heap.objs.size f cv))) (gd : A.guards = some []) :
    FSs (cxOf CX0 P w K mg base N_law_pot "_law_pot" Hd.d__law_pot.scope f cv A fr s H E).nox E Hd.d__law_pot.body f_law_pot := by
  have sc := sc_law_pot
  have hr : Room 1 (cxOf CX0 P w K mg base N_law_pot "_law_pot" Hd.d__law_pot.scope f cv A fr s H E).nox.A := hr0
  exact (fss_cons (fs_set (i := 2) sc.nd rfl (by first | exact .inl rfl | exact .inr rfl) (fe_if (ft_cmp fop_lt (fe_var 1) (fe_callB fcl_len (by rfl) mf.m_len Bt.len (fa_cons (fe_var 0) fa_nil))) (fe_ix (fe_var 0) (fe_var 1)) (fe_op fop_add (fe_op fop_mul fe_int (fe_var 1)) fe_int))) (fss_cons (fs_set (i := 3) sc.nd rfl (by first | exact .inl rfl | exact .inr rfl) (fe_op fop_mul (fe_op fop_mul (fe_op fop_mul (fe_op fop_mul (fe_op fop_pow fe_int fe_int) (fe_op fop_pow fe_int fe_int)) (fe_op fop_pow fe_int fe_int)) (fe_op fop_pow fe_int fe_int)) (fe_op fop_pow fe_int fe_int))) (fss_cons (fs_set (i := 4) sc.nd rfl (by first | exact .inl rfl | exact .inr rfl) (fe_op fop_mul (fe_op fop_mod (fe_callB fcl_abs (by rfl) mf.m_abs Bt.abs (fa_cons (fe_var 2) fa_nil)) (fe_var 3)) (fe_callTy fcl_int (by rfl) mf.m_int Bt.int (fa_cons (fe_cmp fop_ge (fe_callB fcl_abs (by rfl) mf.m_abs Bt.abs (fa_cons (fe_var 2) fa_nil)) (fe_op fop_pow fe_int fe_int)) fa_nil)))) (fss_cons (fs_set (i := 5) sc.nd rfl (by first | exact .inl rfl | exact .inr rfl) (fe_op fop_mul (fe_op fop_add (fe_op fop_add (fe_op fop_mod (fe_var 2) fe_int) (fe_op fop_mul (fe_op fop_mul fe_int (fe_var 1)) (fe_var 1))) fe_int) fe_int)) (fss_one (fs_ret (fe_lst (fa_cons (fe_var 4) (fa_cons (fe_op fop_mod (fe_var 5) fe_int) (fa_cons fe_int fa_nil))))))))))
theorem ok_law_pot {P : Program} {w : World} {K : PySem.W.Frag} {mg : Str → Option Value} {base : Heap} (mf : Mf P w K mg base)  {f : Addr} {fd : FuncData} (hm : mg "_law_pot" = some (.ref f)) (D : FunD K "_law_pot" "_law_pot" Hd.d__law_pot.params Hd.d__law_pot.body Hd.d__law_pot.scope [] [] f fd) : Dok P w K mg base "_law_pot" 2 ["_law_script", "_law_k"] [] g_law_pot :=
  .of (fnG_of (N := N_law_pot) (F := f_law_pot) D sc_law_pot fun cv A fr s H E hr gd => (b_law_pot mf  hr gd).nox) hm D (fun _ _ _ _ _ _ us hl => match us, hl with | [_, _], _ => rfl) (fun q hq => nomatch hq)
def f_law_take : FxS :=
  fSeq (fIf (fBl (fBin gGt (fBin gIx (fVar 0) (fC (.int 0))) (fC (.int 0)))) (fSeq (fSet 2 (fBin gMod (fBin gIx (fVar 0) (fC (.int 0))) (fVar 1))) (fSeq (fAsg (fBin gDiv (fBin gIx (fVar 0) (fC (.int 0))) (fVar 1)) (gSubT (fVar 0) (fC (.int 0)))) (fRet (fVar 2)))) (fSkip)) (fSeq (fAsg (fBin gAdd (fBin gIx (fVar 0) (fC (.int 2))) (fC (.int 1))) (gSubT (fVar 0) (fC (.int 2)))) (fSeq (fSet 3 (fBin gMod (fBin gMul (fBin gAdd (fBin gAdd (fBin gIx (fVar 0) (fC (.int 1))) (fBin gMul (fBin gMul (fC (.int 7368787)) (fBin gIx (fVar 0) (fC (.int 2)))) (fBin gIx (fVar 0) (fC (.int 2))))) (fC (.int 13))) (fC (.int 40692))) (fC (.int 2305843009213693951)))) (fSeq (fSet 3 (fBin gMod (fBin gMul (fVar 3) (fBin gAdd (fBin gMod (fVar 3) (fC (.int 999983))) (fBin gMul (fC (.int 15485863)) (fBin gIx (fVar 0) (fC (.int 2)))))) (fC (.int 2305843009213693907)))) (fRet (fBin gMod (fBin gAdd (fBin gDiv (fVar 3) (fC (.int 89))) (fBin gDiv (fVar 3) (fC (.int 1000003)))) (fVar 1))))))
def g_law_take : List U → M U := gDef 4 f_law_take
abbrev N_law_take : List Str := ["_law_pot_here", "_law_many", "_law_digit", "_law_drawn"]
theorem sc_law_take : FnScope N_law_take ["_law_pot_here", "_law_many"] Hd.d__law_take.scope := ⟨rfl, rfl, rfl, by decide +kernel, rfl, by decide +kernel, by decide +kernel⟩
theorem b_law_take {P : Program} {w : World} {K : PySem.W.Frag} {mg : Str → Option Value} {base : Heap} (mf : Mf P w K mg base)  {f : Addr} {cv : Value} {A : Around} {fr : List Env} {s : Shared} {H : Hp} {E : XK} (hr0 : Room 1 (A.deeper (PyProof.Rows.envOfC "_law_take" Hd.d__law_take.scope s.heap.objs.size f cv))) (gd : A.guards = some []) :
    FSs (cxOf CX0 P w K mg base N_law_take "_law_take" Hd.d__law_take.scope f cv A fr s H E).nox E Hd.d__law_take.body f_law_take := by
  have sc := sc_law_take
  have hr : Room 1 (cxOf CX0 P w K mg base N_law_take "_law_take" Hd.d__law_take.scope f cv A fr s H E).nox.A := hr0
  exact (fss_cons (fs_if (ft_cmp fop_gt (fe_ix (fe_var 0) fe_int) fe_int) (fss_cons (fs_set (i := 2) sc.nd rfl (by first | exact .inl rfl | exact .inr rfl) (fe_op fop_mod (fe_ix (fe_var 0) fe_int) (fe_var 1))) (fss_cons (fs_asg (fe_op fop_div (fe_ix (fe_var 0) fe_int) (fe_var 1)) (fg_sub (fe_var 0) fe_int)) (fss_one (fs_ret (fe_var 2))))) fss_nil) (fss_cons (fs_asg (fe_op fop_add (fe_ix (fe_var 0) fe_int) fe_int) (fg_sub (fe_var 0) fe_int)) (fss_cons (fs_set (i := 3) sc.nd rfl (by first | exact .inl rfl | exact .inr rfl) (fe_op fop_mod (fe_op fop_mul (fe_op fop_add (fe_op fop_add (fe_ix (fe_var 0) fe_int) (fe_op fop_mul (fe_op fop_mul fe_int (fe_ix (fe_var 0) fe_int)) (fe_ix (fe_var 0) fe_int))) fe_int) fe_int) fe_int)) (fss_cons (fs_set (i := 3) sc.nd rfl (by first | exact .inl rfl | exact .inr rfl) (fe_op fop_mod (fe_op fop_mul (fe_var 3) (fe_op fop_add (fe_op fop_mod (fe_var 3) fe_int) (fe_op fop_mul fe_int (fe_ix (fe_var 0) fe_int)))) fe_int)) (fss_one (fs_ret (fe_op fop_mod (fe_op fop_add (fe_op fop_div (fe_var 3) fe_int) (fe_op fop_div (fe_var 3) fe_int)) (fe_var 1))))))))
theorem ok_law_take {P : Program} {w : World} {K : PySem.W.Frag} {mg : Str → Option Value} {base : Heap} (mf : Mf P w K mg base)  {f : Addr} {fd : FuncData} (hm : mg "_law_take" = some (.ref f)) (D : FunD K "_law_take" "_law_take" Hd.d__law_take.params Hd.d__law_take.body Hd.d__law_take.scope [] [] f fd) : Dok P w K mg base "_law_take" 2 ["_law_pot_here", "_law_many"] [] g_law_take :=
  .of (fnG_of (N := N_law_take) (F := f_law_take) D sc_law_take fun cv A fr s H E hr gd => (b_law_take mf  hr gd).nox) hm D (fun _ _ _ _ _ _ us hl => match us, hl with | [_, _], _ => rfl) (fun q hq => nomatch hq)
def f_law_of : FxS :=
  fRet (fBin gIx (fVar 1) (fCall (kdG .urn 2 g_law_take) (fCons (fVar 0) (fCons (fCall gLen (fCons (fVar 1) (fNil))) (fNil)))))
def g_law_of : List U → M U := gDef 2 f_law_of
abbrev N_law_of : List Str := ["_law_pot_here", "_law_some"]
theorem sc_law_of : FnScope N_law_of ["_law_pot_here", "_law_some"] Hd.d__law_of.scope := ⟨rfl, rfl, rfl, by decide +kernel, rfl, by decide +kernel, by decide +kernel⟩
theorem b_law_of {P : Program} {w : World} {K : PySem.W.Frag} {mg : Str → Option Value} {base : Heap} (mf : Mf P w K mg base) (D_law_take : Dok P w K mg base "_law_take" 2 ["_law_pot_here", "_law_many"] [] g_law_take) {f : Addr} {cv : Value} {A : Around} {fr : List Env} {s : Shared} {H : Hp} {E : XK} (hr0 : Room 2 (A.deeper (PyProof.Rows.envOfC "_law_of" Hd.d__law_of.scope s.heap.objs.size f cv))) (gd : A.guards = some []) :
    FSs (cxOf CX0 P w K mg base N_law_of "_law_of" Hd.d__law_of.scope f cv A fr s H E).nox E Hd.d__law_of.body f_law_of := by
  have sc := sc_law_of
  have hr : Room 2 (cxOf CX0 P w K mg base N_law_of "_law_of" Hd.d__law_of.scope f cv A fr s H E).nox.A := hr0
  exact (fss_one (fs_ret (fe_ix (fe_var 1) (fe_def .urn D_law_take (by exact hr) (by rfl) (by exact gd) (by rfl) (fa_cons (fe_var 0) (fa_cons (fe_callB fcl_len (by rfl) mf.m_len Bt.len (fa_cons (fe_var 1) fa_nil)) fa_nil))))))
theorem ok_law_of {P : Program} {w : World} {K : PySem.W.Frag} {mg : Str → Option Value} {base : Heap} (mf : Mf P w K mg base) (D_law_take : Dok P w K mg base "_law_take" 2 ["_law_pot_here", "_law_many"] [] g_law_take) {f : Addr} {fd : FuncData} (hm : mg "_law_of" = some (.ref f)) (D : FunD K "_law_of" "_law_of" Hd.d__law_of.params Hd.d__law_of.body Hd.d__law_of.scope [] [] f fd) : Dok P w K mg base "_law_of" 3 ["_law_pot_here", "_law_some"] [] g_law_of :=
  .of (fnG_of (N := N_law_of) (F := f_law_of) D sc_law_of fun cv A fr s H E hr gd => (b_law_of mf D_law_take hr gd).nox) hm D (fun _ _ _ _ _ _ us hl => match us, hl with | [_, _], _ => rfl) (fun q hq => nomatch hq)
def f_law_odd (self : List U → M U) : FxS :=
  fSeq (fSet 2 (fCall (kdG .urn 2 g_law_take) (fCons (fVar 0) (fCons (fC (.int 8)) (fNil))))) (fSeq (fIf (fOr (fNot (fTru (fCall gIsi (fCons (fVar 1) (fCons (fC (.raw (.ty "tuple"))) (fNil)))))) (fOr (fBl (fBin gEqT0 (fVar 1) (fTup (fNil)))) (fBl (fBin (gEq false) (fVar 2) (fC (.int 0)))))) (fSeq (fSet 3 (fLst (fCons (fC .non) (fCons (fC (.bl true)) (fCons (fC (.bl false)) (fCons (fC (.str "")) (fCons (fC (.str "sum")) (fCons (fC (.str "apart")) (fCons (fTup (fNil)) (fCons (fLst (fNil)) (fCons (fDic0) (fCons (fUn gNeg (fC (.int 1))) (fCons (fC (.int 0)) (fCons (fC (.int 1)) (fCons (fC (.int 2)) (fCons (fBin gPow (fC (.int 10)) (fC (.int 30))) (fCons (fTup (fCons (fC (.int 0)) (fNil))) (fCons (fLst (fCons (fVar 1) (fNil))) (fCons (fTup (fCons (fVar 1) (fNil))) (fNil)))))))))))))))))))) (fRet (fCall (kdG .len 2 g_law_of) (fCons (fVar 0) (fCons (fVar 3) (fNil)))))) (fSkip)) (fSeq (fSet 4 (fCall (kdG .urn 2 g_law_take) (fCons (fVar 0) (fCons (fCall gLen (fCons (fVar 1) (fNil))) (fNil))))) (fSeq (fIf (fBl (fBin (gEq false) (fVar 2) (fC (.int 1)))) (fRet (fBin gAdd (fSl (fVar 1) fNoP (fPt (fVar 4))) (fSl (fVar 1) (fPt (fBin gAdd (fVar 4) (fC (.int 1)))) fNoP))) (fSkip)) (fSeq (fIf (fBl (fBin (gEq false) (fVar 2) (fC (.int 2)))) (fRet (fBin gAdd (fSl (fVar 1) fNoP (fPt (fBin gAdd (fVar 4) (fC (.int 1))))) (fSl (fVar 1) (fPt (fVar 4)) fNoP))) (fSkip)) (fSeq (fIf (fBl (fBin (gEq false) (fVar 2) (fC (.int 3)))) (fRet (fCall gList (fCons (fVar 1) (fNil)))) (fSkip)) (fSeq (fIf (fBl (fBin (gEq false) (fVar 2) (fC (.int 4)))) (fRet (fBin gAdd (fVar 1) (fTup (fCons (fCall (kdG .len 2 g_law_of) (fCons (fVar 0) (fCons (fLst (fCons (fC (.int 0)) (fCons (fC .non) (fCons (fTup (fNil)) (fCons (fBin gIx (fVar 1) (fVar 4)) (fNil)))))) (fNil)))) (fNil))))) (fSkip)) (fRet (fBin gAdd (fBin gAdd (fSl (fVar 1) fNoP (fPt (fVar 4))) (fTup (fCons (fCall (kdG .len 2 self) (fCons (fVar 0) (fCons (fBin gIx (fVar 1) (fVar 4)) (fNil)))) (fNil)))) (fSl (fVar 1) (fPt (fBin gAdd (fVar 4) (fC (.int 1)))) fNoP)))))))))
def g_law_odd : Nat → List U → M U
  | 0 => fun _ _ => .no
  | n + 1 => gDef 5 (f_law_odd (g_law_odd n))
abbrev N_law_odd : List Str := ["_law_pot_here", "_law_value", "_law_way", "_law_some", "_law_at"]
theorem sc_law_odd : FnScope N_law_odd ["_law_pot_here", "_law_value"] Hd.d__law_odd.scope := ⟨rfl, rfl, rfl, by decide +kernel, rfl, by decide +kernel, by decide +kernel⟩
theorem b_law_odd {P : Program} {w : World} {K : PySem.W.Frag} {mg : Str → Option Value} {base : Heap} (mf : Mf P w K mg base) (D_law_take : Dok P w K mg base "_law_take" 2 ["_law_pot_here", "_law_many"] [] g_law_take) (D_law_of : Dok P w K mg base "_law_of" 3 ["_law_pot_here", "_law_some"] [] g_law_of) {m : Nat} (hs : Nat.ble (3 + m) (3 + m) = true) {self : List U → M U} (D_law_odd : Dok P w K mg base "_law_odd" (3 + m) ["_law_pot_here", "_law_value"] [] self) {f : Addr} {cv : Value} {A : Around} {fr : List Env} {s : Shared} {H : Hp} {E : XK} (hr0 : Room (3 + m) (A.deeper (PyProof.Rows.envOfC "_law_odd" Hd.d__law_odd.scope s.heap.objs.size f cv))) (gd : A.guards = some []) :
    FSs (cxOf CX0 P w K mg base N_law_odd "_law_odd" Hd.d__law_odd.scope f cv A fr s H E).nox E Hd.d__law_odd.body (f_law_odd self) := by
  have sc := sc_law_odd
  have hr : Room (3 + m) (cxOf CX0 P w K mg base N_law_odd "_law_odd" Hd.d__law_odd.scope f cv A fr s H E).nox.A := hr0
  exact (fss_cons (fs_set (i := 2) sc.nd rfl (by first | exact .inl rfl | exact .inr rfl) (fe_def .urn D_law_take (by exact hr) (Nat.ble_eq_true_of_le (by omega)) (by exact gd) (by rfl) (fa_cons (fe_var 0) (fa_cons fe_int fa_nil)))) (fss_cons (fs_if (ft_w (fw_or (ft_not (ft_tru (fe_callB fcl_isi (by rfl) mf.m_isinstance Bt.isinstance (fa_cons (fe_var 1) (fa_cons (fe_ty (by rfl) mf.m_tuple PyProof.Rows.boot_tuple) fa_nil))))) (fw_or (ft_cmp (fop_eqT0 (by exact hr.units)) (fe_var 1) (fe_tup fa_nil)) (fw_or1 (ft_cmp (fop_eq (by exact hr.units)) (fe_var 2) fe_int))))) (fss_cons (fs_set (i := 3) sc.nd rfl (by first | exact .inl rfl | exact .inr rfl) (fe_lst (fa_cons fe_non (fa_cons fe_bl (fa_cons fe_bl (fa_cons fe_str (fa_cons fe_str (fa_cons fe_str (fa_cons (fe_tup fa_nil) (fa_cons (fe_lst fa_nil) (fa_cons fe_dic0 (fa_cons (fe_un fun_neg fe_int) (fa_cons fe_int (fa_cons fe_int (fa_cons fe_int (fa_cons (fe_op fop_pow fe_int fe_int) (fa_cons (fe_tup (fa_cons fe_int fa_nil)) (fa_cons (fe_lst (fa_cons (fe_var 1) fa_nil)) (fa_cons (fe_tup (fa_cons (fe_var 1) fa_nil)) fa_nil))))))))))))))))))) (fss_one (fs_ret (fe_def .len D_law_of (by exact hr) (Nat.ble_eq_true_of_le (by omega)) (by exact gd) (by rfl) (fa_cons (fe_var 0) (fa_cons (fe_var 3) fa_nil)))))) fss_nil) (fss_cons (fs_set (i := 4) sc.nd rfl (by first | exact .inl rfl | exact .inr rfl) (fe_def .urn D_law_take (by exact hr) (Nat.ble_eq_true_of_le (by omega)) (by exact gd) (by rfl) (fa_cons (fe_var 0) (fa_cons (fe_callB fcl_len (by rfl) mf.m_len Bt.len (fa_cons (fe_var 1) fa_nil)) fa_nil)))) (fss_cons (fs_if (ft_cmp (fop_eq (by exact hr.units)) (fe_var 2) fe_int) (fss_one (fs_ret (fe_op fop_add (fe_slice (fe_var 1) fo_none (fo_some (fe_var 4))) (fe_slice (fe_var 1) (fo_some (fe_op fop_add (fe_var 4) fe_int)) fo_none)))) fss_nil) (fss_cons (fs_if (ft_cmp (fop_eq (by exact hr.units)) (fe_var 2) fe_int) (fss_one (fs_ret (fe_op fop_add (fe_slice (fe_var 1) fo_none (fo_some (fe_op fop_add (fe_var 4) fe_int))) (fe_slice (fe_var 1) (fo_some (fe_var 4)) fo_none)))) fss_nil) (fss_cons (fs_if (ft_cmp (fop_eq (by exact hr.units)) (fe_var 2) fe_int) (fss_one (fs_ret (fe_callTy fcl_list (by rfl) mf.m_list Bt.list (fa_cons (fe_var 1) fa_nil)))) fss_nil) (fss_cons (fs_if (ft_cmp (fop_eq (by exact hr.units)) (fe_var 2) fe_int) (fss_one (fs_ret (fe_op fop_add (fe_var 1) (fe_tup (fa_cons (fe_def .len D_law_of (by exact hr) (Nat.ble_eq_true_of_le (by omega)) (by exact gd) (by rfl) (fa_cons (fe_var 0) (fa_cons (fe_lst (fa_cons fe_int (fa_cons fe_non (fa_cons (fe_tup fa_nil) (fa_cons (fe_ix (fe_var 1) (fe_var 4)) fa_nil))))) fa_nil))) fa_nil))))) fss_nil) (fss_one (fs_ret (fe_op fop_add (fe_op fop_add (fe_slice (fe_var 1) fo_none (fo_some (fe_var 4))) (fe_tup (fa_cons (fe_def .len D_law_odd (by exact hr) hs (by exact gd) (by rfl) (fa_cons (fe_var 0) (fa_cons (fe_ix (fe_var 1) (fe_var 4)) fa_nil))) fa_nil))) (fe_slice (fe_var 1) (fo_some (fe_op fop_add (fe_var 4) fe_int)) fo_none)))))))))))
theorem ok_law_odd {P : Program} {w : World} {K : PySem.W.Frag} {mg : Str → Option Value} {base : Heap} (mf : Mf P w K mg base) (D_law_take : Dok P w K mg base "_law_take" 2 ["_law_pot_here", "_law_many"] [] g_law_take) (D_law_of : Dok P w K mg base "_law_of" 3 ["_law_pot_here", "_law_some"] [] g_law_of) {f : Addr} {fd : FuncData} (hm : mg "_law_odd" = some (.ref f)) (D : FunD K "_law_odd" "_law_odd" Hd.d__law_odd.params Hd.d__law_odd.body Hd.d__law_odd.scope [] [] f fd) : ∀ m, Dok P w K mg base "_law_odd" (3 + m) ["_law_pot_here", "_law_value"] [] (g_law_odd m)
  | 0 => .of .zero hm D (fun _ _ _ _ _ _ us hl => match us, hl with | [_, _], _ => rfl) (fun q hq => nomatch hq)
  | m + 1 => .of (fnG_of D sc_law_odd fun cv A fr s H E hr gd => (b_law_odd mf D_law_take D_law_of (Nat.ble_eq_true_of_le (Nat.le_refl _)) (ok_law_odd mf D_law_take D_law_of hm D m) hr gd).nox) hm D (fun _ _ _ _ _ _ us hl => match us, hl with | [_, _], _ => rfl) (fun q hq => nomatch hq)
def f_law_element : FxS :=
  fRet (fAndV (fCall gIsi (fCons (fVar 1) (fCons (fC (.raw (.ty "int"))) (fNil)))) (fAndV (fNotV (fCall gIsi (fCons (fVar 1) (fCons (fC (.raw (.ty "bool"))) (fNil))))) (fChain gLe gLt (fC (.int 0)) (fVar 1) (fVar 0))))
def g_law_element : List U → M U := gDef 2 f_law_element
abbrev N_law_element : List Str := ["_law_p", "_law_value"]
theorem sc_law_element : FnScope N_law_element ["_law_p", "_law_value"] Hd.d__law_element.scope := ⟨rfl, rfl, rfl, by decide +kernel, rfl, by decide +kernel, by decide +kernel⟩
theorem b_law_element {P : Program} {w : World} {K : PySem.W.Frag} {mg : Str → Option Value} {base : Heap} (mf : Mf P w K mg base)  {f : Addr} {cv : Value} {A : Around} {fr : List Env} {s : Shared} {H : Hp} {E : XK} (hr0 : Room 1 (A.deeper (PyProof.Rows.envOfC "_law_element" Hd.d__law_element.scope s.heap.objs.size f cv))) (gd : A.guards = some []) :
    FSs (cxOf CX0 P w K mg base N_law_element "_law_element" Hd.d__law_element.scope f cv A fr s H E).nox E Hd.d__law_element.body f_law_element := by
  have sc := sc_law_element
  have hr : Room 1 (cxOf CX0 P w K mg base N_law_element "_law_element" Hd.d__law_element.scope f cv A fr s H E).nox.A := hr0
  exact (fss_one (fs_ret (fe_and (fe_callB fcl_isi (by rfl) mf.m_isinstance Bt.isinstance (fa_cons (fe_var 1) (fa_cons (fe_ty (by rfl) mf.m_int PyProof.Rows.boot_int) fa_nil))) (fe_and (fe_not (fe_callB fcl_isi (by rfl) mf.m_isinstance Bt.isinstance (fa_cons (fe_var 1) (fa_cons (fe_ty (by rfl) mf.m_bool PyProof.Rows.boot_bool) fa_nil)))) (fe_one (fe_chain fop_le fop_lt fe_int (fe_var 1) (fe_var 0)))))))
theorem ok_law_element {P : Program} {w : World} {K : PySem.W.Frag} {mg : Str → Option Value} {base : Heap} (mf : Mf P w K mg base)  {f : Addr} {fd : FuncData} (hm : mg "_law_element" = some (.ref f)) (D : FunD K "_law_element" "_law_element" Hd.d__law_element.params Hd.d__law_element.body Hd.d__law_element.scope [] [] f fd) : Dok P w K mg base "_law_element" 2 ["_law_p", "_law_value"] [] g_law_element :=
  .of (fnG_of (N := N_law_element) (F := f_law_element) D sc_law_element fun cv A fr s H E hr gd => (b_law_element mf  hr gd).nox) hm D (fun _ _ _ _ _ _ us hl => match us, hl with | [_, _], _ => rfl) (fun q hq => nomatch hq)
def f_law_due : FxS :=
  fSeq (fIf (fNot (fTru (fCall gIsi (fCons (fVar 2) (fCons (fC (.raw (.ty "tuple"))) (fNil)))))) (fRet (fC (.bl false))) (fSkip)) (fSeq (fFor (fIter (fVar 2)) (gNm 3) (fSeq (fIf (fOr (fNot (fTru (fCall gIsi (fCons (fVar 3) (fCons (fC (.raw (.ty "tuple"))) (fNil)))))) (fBl (fBin (gEq true) (fCall gLen (fCons (fVar 3) (fNil))) (fC (.int 2))))) (fRet (fC (.bl false))) (fSkip)) (fIf (fOr (fNot (fTru (fCall (kdG .len 2 g_law_element) (fCons (fBin gAdd (fVar 1) (fC (.int 1))) (fCons (fBin gIx (fVar 3) (fC (.int 0))) (fNil)))))) (fNot (fTru (fCall (kdG .len 2 g_law_element) (fCons (fVar 0) (fCons (fBin gIx (fVar 3) (fC (.int 1))) (fNil))))))) (fRet (fC (.bl false))) (fSkip)))) (fRet (fCall gAll (fCons (fLc [4] (fRg gRg1 (fCons (fBin gSub (fCall gLen (fCons (fVar 2) (fNil))) (fC (.int 1))) (fNil))) (gNm 4) (fYes) (fBin gLtT (fBin gIx (fVar 2) (fVar 4)) (fBin gIx (fVar 2) (fBin gAdd (fVar 4) (fC (.int 1)))))) (fNil)))))
def g_law_due : List U → M U := gDef 5 f_law_due
abbrev N_law_due : List Str := ["_law_n", "_law_moment", "_law_value", "_law_entry", "_law_at"]
theorem sc_law_due : FnScope N_law_due ["_law_n", "_law_moment", "_law_value"] Hd.d__law_due.scope := ⟨rfl, rfl, rfl, by decide +kernel, rfl, by decide +kernel, by decide +kernel⟩
theorem b_law_due {P : Program} {w : World} {K : PySem.W.Frag} {mg : Str → Option Value} {base : Heap} (mf : Mf P w K mg base) (D_law_element : Dok P w K mg base "_law_element" 2 ["_law_p", "_law_value"] [] g_law_element) {f : Addr} {cv : Value} {A : Around} {fr : List Env} {s : Shared} {H : Hp} {E : XK} (hr0 : Room 2 (A.deeper (PyProof.Rows.envOfC "_law_due" Hd.d__law_due.scope s.heap.objs.size f cv))) (gd : A.guards = some []) :
    FSs (cxOf CX0 P w K mg base N_law_due "_law_due" Hd.d__law_due.scope f cv A fr s H E).nox E Hd.d__law_due.body f_law_due := by
  have sc := sc_law_due
  have hr : Room 2 (cxOf CX0 P w K mg base N_law_due "_law_due" Hd.d__law_due.scope f cv A fr s H E).nox.A := hr0
  exact (fss_cons (fs_if (ft_not (ft_tru (fe_callB fcl_isi (by rfl) mf.m_isinstance Bt.isinstance (fa_cons (fe_var 2) (fa_cons (fe_ty (by rfl) mf.m_tuple PyProof.Rows.boot_tuple) fa_nil))))) (fss_one (fs_ret fe_bl)) fss_nil) (fss_cons (fs_for .never rfl (fi_seq (fe_var 2)) (fg_name (i := 3) sc.nd rfl (by first | exact .inl rfl | exact .inr rfl)) (fss_cons (fs_if (ft_w (fw_or (ft_not (ft_tru (fe_callB fcl_isi (by rfl) mf.m_isinstance Bt.isinstance (fa_cons (fe_var 3) (fa_cons (fe_ty (by rfl) mf.m_tuple PyProof.Rows.boot_tuple) fa_nil))))) (fw_or1 (ft_cmp (fop_ne (by exact hr.units)) (fe_callB fcl_len (by rfl) mf.m_len Bt.len (fa_cons (fe_var 3) fa_nil)) fe_int)))) (fss_one (fs_ret fe_bl)) fss_nil) (fss_one (fs_if (ft_w (fw_or (ft_not (ft_tru (fe_def .len D_law_element (by exact hr) (by rfl) (by exact gd) (by rfl) (fa_cons (fe_op fop_add (fe_var 1) fe_int) (fa_cons (fe_ix (fe_var 3) fe_int) fa_nil))))) (fw_or1 (ft_not (ft_tru (fe_def .len D_law_element (by exact hr) (by rfl) (by exact gd) (by rfl) (fa_cons (fe_var 0) (fa_cons (fe_ix (fe_var 3) fe_int) fa_nil)))))))) (fss_one (fs_ret fe_bl)) fss_nil)))) (fss_one (fs_ret (fe_callB (fcl_all rfl) (by rfl) mf.m_all Bt.all (fa_cons (fe_comp (own := [("_law_at", 4)]) rfl sc.nd (blkOk_by (by kernel_rfl)) (fi_range1 (by rfl) mf.m_range (fa_cons (fe_op fop_sub (fe_callB fcl_len (by rfl) mf.m_len Bt.len (fa_cons (fe_var 2) fa_nil)) fe_int) fa_nil)) (by decide) (fun _ => (fg_name (i := 4) sc.nd rfl (by first | exact .inl rfl | exact .inr rfl))) (fun _ => fts_nil) (fun _ => (fe_cmp (fop_ltT (by exact hr.units)) (fe_ix (fe_var 2) (fe_var 4)) (fe_ix (fe_var 2) (fe_op fop_add (fe_var 4) fe_int))))) fa_nil))))))
theorem ok_law_due {P : Program} {w : World} {K : PySem.W.Frag} {mg : Str → Option Value} {base : Heap} (mf : Mf P w K mg base) (D_law_element : Dok P w K mg base "_law_element" 2 ["_law_p", "_law_value"] [] g_law_element) {f : Addr} {fd : FuncData} (hm : mg "_law_due" = some (.ref f)) (D : FunD K "_law_due" "_law_due" Hd.d__law_due.params Hd.d__law_due.body Hd.d__law_due.scope [] [] f fd) : Dok P w K mg base "_law_due" 3 ["_law_n", "_law_moment", "_law_value"] [] g_law_due :=
  .of (fnG_of (N := N_law_due) (F := f_law_due) D sc_law_due fun cv A fr s H E hr gd => (b_law_due mf D_law_element hr gd).nox) hm D (fun _ _ _ _ _ _ us hl => match us, hl with | [_, _, _], _ => rfl) (fun q hq => nomatch hq)
def f_law_case : FxS :=
  fSeq (fSet 1 (fBin gAdd (fC (.int 1)) (fCall (kdG .urn 2 g_law_take) (fCons (fVar 0) (fCons (fC (.int 8)) (fNil)))))) (fSeq (fSet 2 (fCall (kdG .len 2 g_law_of) (fCons (fVar 0) (fCons (fLst (fCons (fC (.int 3)) (fCons (fBin gPow (fC (.int 10)) (fC (.int 18))) (fCons (fBin gAdd (fC (.int 1)) (fCall (kdG .urn 2 g_law_take) (fCons (fVar 0) (fCons (fBin gPow (fC (.int 10)) (fC (.int 18))) (fNil))))) (fCons (fC (.int 1)) (fNil)))))) (fNil))))) (fSeq (fSet 3 (fTup (fCons (fTup (fCons (fC (.str "set")) (fCons (fC (.int 0)) (fCons (fC (.int 1)) (fNil))))) (fCons (fTup (fCons (fC (.str "loop")) (fCons (fVar 2) (fCons (fTup (fCons (fTup (fCons (fC (.str "scale")) (fCons (fBin gSub (fVar 1) (fC (.int 1))) (fCons (fC (.int 0)) (fNil))))) (fCons (fTup (fCons (fC (.str "scale")) (fCons (fC (.int 0)) (fCons (fC (.int 1)) (fNil))))) (fNil)))) (fNil))))) (fNil))))) (fSeq (fSet 4 (fCall (kdG .len 2 g_law_of) (fCons (fVar 0) (fCons (fLst (fCons (fBin gAdd (fBin gMul (fC (.int 2)) (fVar 2)) (fC (.int 1))) (fCons (fCall (kdG .urn 2 g_law_take) (fCons (fVar 0) (fCons (fBin gAdd (fBin gMul (fC (.int 2)) (fVar 2)) (fC (.int 2))) (fNil)))) (fCons (fC (.int 0)) (fCons (fC (.int 1)) (fNil)))))) (fNil))))) (fSeq (fSet 5 (fDic0)) (fSeq (fFor (fRg gRg1 (fCons (fCall (kdG .urn 2 g_law_take) (fCons (fVar 0) (fCons (fC (.int 7)) (fNil)))) (fNil))) (gNm 6) (fAsg (fC (.bl true)) (gSubTT (fVar 5) (fCons (fCall (kdG .len 2 g_law_of) (fCons (fVar 0) (fCons (fLst (fCons (fC (.int 0)) (fCons (fVar 4) (fCons (fCall (kdG .urn 2 g_law_take) (fCons (fVar 0) (fCons (fBin gAdd (fVar 4) (fC (.int 1))) (fNil)))) (fNil))))) (fNil)))) (fCons (fCall (kdG .urn 2 g_law_take) (fCons (fVar 0) (fCons (fVar 1) (fNil)))) (fNil)))))) (fSeq (fSet 7 (fCall gTuple (fCons (fCall gSortT (fCons (fVar 5) (fNil))) (fNil)))) (fSeq (fSet 8 (fLst (fCons (fVar 7) (fCons (fUn gRev (fVar 7)) (fCons (fBin gAdd (fVar 7) (fSl (fVar 7) (fPt (fUn gNeg (fC (.int 1)))) fNoP)) (fCons (fBin gAdd (fVar 7) (fTup (fCons (fTup (fCons (fVar 4) (fCons (fVar 1) (fNil)))) (fNil)))) (fCons (fBin gAdd (fVar 7) (fTup (fCons (fTup (fCons (fBin gAdd (fVar 4) (fC (.int 1))) (fCons (fC (.int 0)) (fNil)))) (fNil)))) (fCons (fBin gAdd (fTup (fCons (fTup (fCons (fUn gNeg (fC (.int 1))) (fCons (fC (.int 0)) (fNil)))) (fNil))) (fVar 7)) (fNil))))))))) (fSeq (fSet 8 (fBin gAdd (fVar 8) (fLst (fCons (fTup (fCons (fTup (fCons (fC (.int 0)) (fCons (fC (.bl true)) (fNil)))) (fNil))) (fCons (fTup (fCons (fTup (fCons (fC (.bl false)) (fCons (fC (.int 0)) (fNil)))) (fNil))) (fCons (fTup (fCons (fTup (fCons (fC (.int 0)) (fCons (fC (.int 0)) (fCons (fC (.int 0)) (fNil))))) (fNil))) (fCons (fTup (fCons (fTup (fCons (fC (.int 0)) (fNil))) (fNil))) (fCons (fTup (fCons (fLst (fCons (fC (.int 0)) (fCons (fC (.int 0)) (fNil)))) (fNil))) (fCons (fLst (fNil)) (fCons (fTup (fNil)) (fCons (fC .non) (fCons (fC (.str "")) (fCons (fC (.int 0)) (fCons (fDic0) (fNil))))))))))))))) (fSeq (fSet 8 (fBin gAdd (fVar 8) (fLc [6] (fRg gRg1 (fCons (fC (.int 12)) (fNil))) (gNm 6) (fYes) (fCall (kdG .len 2 (g_law_odd 30)) (fCons (fVar 0) (fCons (fVar 7) (fNil))))))) (fSeq (fFor (fIter (fVar 8)) (gNm 9) (fSeq (fPar2 10 11 (fCons (fCall gReprD (fCons (fVar 9) (fNil))) (fCons (fCall (kdG .len 3 g_law_due) (fCons (fVar 1) (fCons (fVar 4) (fCons (fVar 9) (fNil))))) (fNil)))) (fIf (fOr (fBl (fBin (gEq true) (fCall gReprD (fCons (fCall (kdG .len 4 g_is_plan) (fCons (fVar 1) (fCons (fVar 3) (fCons (fVar 4) (fCons (fVar 9) (fNil)))))) (fNil))) (fCall gReprD (fCons (fVar 11) (fNil))))) (fBl (fBin (gEq true) (fCall gReprD (fCons (fVar 9) (fNil))) (fVar 10)))) (fRet (fC (.bl false))) (fSkip)))) (fRet (fBin (gIs false) (fCall (kdG .len 4 g_is_plan) (fCons (fVar 1) (fCons (fVar 3) (fCons (fVar 4) (fCons (fVar 7) (fNil)))))) (fC (.bl true))))))))))))))
def g_law_case : List U → M U := gDef 12 f_law_case
abbrev N_law_case : List Str := ["_law_pot_here", "_law_n", "_law_rounds", "_law_program", "_law_moment", "_law_drawn", "_law_turn", "_law_plan", "_law_some", "_law_value", "_law_kept", "_law_due_here"]
theorem sc_law_case : FnScope N_law_case ["_law_pot_here"] Hd.d__law_case.scope := ⟨rfl, rfl, rfl, by decide +kernel, rfl, by decide +kernel, by decide +kernel⟩
theorem b_law_case {P : Program} {w : World} {K : PySem.W.Frag} {mg : Str → Option Value} {base : Heap} (mf : Mf P w K mg base) (D_law_of : Dok P w K mg base "_law_of" 3 ["_law_pot_here", "_law_some"] [] g_law_of) (D_law_take : Dok P w K mg base "_law_take" 2 ["_law_pot_here", "_law_many"] [] g_law_take) (D_is_plan : Dok P w K mg base "is_plan" 3 ["n", "program", "moment", "value"] [] g_is_plan) (D_law_odd : Dok P w K mg base "_law_odd" 33 ["_law_pot_here", "_law_value"] [] (g_law_odd 30)) (D_law_due : Dok P w K mg base "_law_due" 3 ["_law_n", "_law_moment", "_law_value"] [] g_law_due) {f : Addr} {cv : Value} {A : Around} {fr : List Env} {s : Shared} {H : Hp} {E : XK} (hr0 : Room 33 (A.deeper (PyProof.Rows.envOfC "_law_case" Hd.d__law_case.scope s.heap.objs.size f cv))) (gd : A.guards = some []) :
    FSs (cxOf CX0 P w K mg base N_law_case "_law_case" Hd.d__law_case.scope f cv A fr s H E).nox E Hd.d__law_case.body f_law_case := by
  have sc := sc_law_case
  have hr : Room 33 (cxOf CX0 P w K mg base N_law_case "_law_case" Hd.d__law_case.scope f cv A fr s H E).nox.A := hr0
  exact (fss_cons (fs_set (i := 1) sc.nd rfl (by first | exact .inl rfl | exact .inr rfl) (fe_op fop_add fe_int (fe_def .urn D_law_take (by exact hr) (by rfl) (by exact gd) (by rfl) (fa_cons (fe_var 0) (fa_cons fe_int fa_nil))))) (fss_cons (fs_set (i := 2) sc.nd rfl (by first | exact .inl rfl | exact .inr rfl) (fe_def .len D_law_of (by exact hr) (by rfl) (by exact gd) (by rfl) (fa_cons (fe_var 0) (fa_cons (fe_lst (fa_cons fe_int (fa_cons (fe_op fop_pow fe_int fe_int) (fa_cons (fe_op fop_add fe_int (fe_def .urn D_law_take (by exact hr) (by rfl) (by exact gd) (by rfl) (fa_cons (fe_var 0) (fa_cons (fe_op fop_pow fe_int fe_int) fa_nil)))) (fa_cons fe_int fa_nil))))) fa_nil)))) (fss_cons (fs_set (i := 3) sc.nd rfl (by first | exact .inl rfl | exact .inr rfl) (fe_tup (fa_cons (fe_tup (fa_cons fe_str (fa_cons fe_int (fa_cons fe_int fa_nil)))) (fa_cons (fe_tup (fa_cons fe_str (fa_cons (fe_var 2) (fa_cons (fe_tup (fa_cons (fe_tup (fa_cons fe_str (fa_cons (fe_op fop_sub (fe_var 1) fe_int) (fa_cons fe_int fa_nil)))) (fa_cons (fe_tup (fa_cons fe_str (fa_cons fe_int (fa_cons fe_int fa_nil)))) fa_nil))) fa_nil)))) fa_nil)))) (fss_cons (fs_set (i := 4) sc.nd rfl (by first | exact .inl rfl | exact .inr rfl) (fe_def .len D_law_of (by exact hr) (by rfl) (by exact gd) (by rfl) (fa_cons (fe_var 0) (fa_cons (fe_lst (fa_cons (fe_op fop_add (fe_op fop_mul fe_int (fe_var 2)) fe_int) (fa_cons (fe_def .urn D_law_take (by exact hr) (by rfl) (by exact gd) (by rfl) (fa_cons (fe_var 0) (fa_cons (fe_op fop_add (fe_op fop_mul fe_int (fe_var 2)) fe_int) fa_nil))) (fa_cons fe_int (fa_cons fe_int fa_nil))))) fa_nil)))) (fss_cons (fs_set (i := 5) sc.nd rfl (by first | exact .inl rfl | exact .inr rfl) fe_dic0) (fss_cons (fs_for .never rfl (fi_range1 (by rfl) mf.m_range (fa_cons (fe_def .urn D_law_take (by exact hr) (by rfl) (by exact gd) (by rfl) (fa_cons (fe_var 0) (fa_cons fe_int fa_nil))) fa_nil)) (fg_name (i := 6) sc.nd rfl (by first | exact .inl rfl | exact .inr rfl)) (fss_one (fs_asg fe_bl (fg_subTT (by exact hr.units) (fe_var 5) (fa_cons (fe_def .len D_law_of (by exact hr) (by rfl) (by exact gd) (by rfl) (fa_cons (fe_var 0) (fa_cons (fe_lst (fa_cons fe_int (fa_cons (fe_var 4) (fa_cons (fe_def .urn D_law_take (by exact hr) (by rfl) (by exact gd) (by rfl) (fa_cons (fe_var 0) (fa_cons (fe_op fop_add (fe_var 4) fe_int) fa_nil))) fa_nil)))) fa_nil))) (fa_cons (fe_def .urn D_law_take (by exact hr) (by rfl) (by exact gd) (by rfl) (fa_cons (fe_var 0) (fa_cons (fe_var 1) fa_nil))) fa_nil)))))) (fss_cons (fs_set (i := 7) sc.nd rfl (by first | exact .inl rfl | exact .inr rfl) (fe_callTy fcl_tuple (by rfl) mf.m_tuple Bt.tuple (fa_cons (fe_callB (fcl_sortT rfl) (by rfl) mf.m_sorted Bt.sorted (fa_cons (fe_var 5) fa_nil)) fa_nil))) (fss_cons (fs_set (i := 8) sc.nd rfl (by first | exact .inl rfl | exact .inr rfl) (fe_lst (fa_cons (fe_var 7) (fa_cons (fe_rev (fe_var 7)) (fa_cons (fe_op fop_add (fe_var 7) (fe_slice (fe_var 7) (fo_some (fe_un fun_neg fe_int)) fo_none)) (fa_cons (fe_op fop_add (fe_var 7) (fe_tup (fa_cons (fe_tup (fa_cons (fe_var 4) (fa_cons (fe_var 1) fa_nil))) fa_nil))) (fa_cons (fe_op fop_add (fe_var 7) (fe_tup (fa_cons (fe_tup (fa_cons (fe_op fop_add (fe_var 4) fe_int) (fa_cons fe_int fa_nil))) fa_nil))) (fa_cons (fe_op fop_add (fe_tup (fa_cons (fe_tup (fa_cons (fe_un fun_neg fe_int) (fa_cons fe_int fa_nil))) fa_nil)) (fe_var 7)) fa_nil)))))))) (fss_cons (fs_set (i := 8) sc.nd rfl (by first | exact .inl rfl | exact .inr rfl) (fe_op fop_add (fe_var 8) (fe_lst (fa_cons (fe_tup (fa_cons (fe_tup (fa_cons fe_int (fa_cons fe_bl fa_nil))) fa_nil)) (fa_cons (fe_tup (fa_cons (fe_tup (fa_cons fe_bl (fa_cons fe_int fa_nil))) fa_nil)) (fa_cons (fe_tup (fa_cons (fe_tup (fa_cons fe_int (fa_cons fe_int (fa_cons fe_int fa_nil)))) fa_nil)) (fa_cons (fe_tup (fa_cons (fe_tup (fa_cons fe_int fa_nil)) fa_nil)) (fa_cons (fe_tup (fa_cons (fe_lst (fa_cons fe_int (fa_cons fe_int fa_nil))) fa_nil)) (fa_cons (fe_lst fa_nil) (fa_cons (fe_tup fa_nil) (fa_cons fe_non (fa_cons fe_str (fa_cons fe_int (fa_cons fe_dic0 fa_nil)))))))))))))) (fss_cons (fs_set (i := 8) sc.nd rfl (by first | exact .inl rfl | exact .inr rfl) (fe_op fop_add (fe_var 8) (fe_comp (own := [("_law_turn", 6)]) rfl sc.nd (blkOk_by (by kernel_rfl)) (fi_range1 (by rfl) mf.m_range (fa_cons fe_int fa_nil)) (by decide) (fun _ => (fg_name (i := 6) sc.nd rfl (by first | exact .inl rfl | exact .inr rfl))) (fun _ => fts_nil) (fun _ => (fe_def .len D_law_odd (by exact hr) (by rfl) (by exact gd) (by rfl) (fa_cons (fe_var 0) (fa_cons (fe_var 7) fa_nil))))))) (fss_cons (fs_for .never rfl (fi_seq (fe_var 8)) (fg_name (i := 9) sc.nd rfl (by first | exact .inl rfl | exact .inr rfl)) (fss_cons (fs_par2 (i := 10) (j := 11) rfl sc.nd rfl rfl (by decide) rfl rfl (fa_cons (fe_callB (fcl_reprD mf.sysm (by exact gd) (by exact u66 hr)) (by rfl) mf.m_repr Bt.repr (fa_cons (fe_var 9) fa_nil)) (fa_cons (fe_def .len D_law_due (by exact hr) (by rfl) (by exact gd) (by rfl) (fa_cons (fe_var 1) (fa_cons (fe_var 4) (fa_cons (fe_var 9) fa_nil)))) fa_nil))) (fss_one (fs_if (ft_w (fw_or (ft_cmp (fop_ne (by exact hr.units)) (fe_callB (fcl_reprD mf.sysm (by exact gd) (by exact u66 hr)) (by rfl) mf.m_repr Bt.repr (fa_cons (fe_def .len D_is_plan (by exact hr) (by rfl) (by exact gd) (by rfl) (fa_cons (fe_var 1) (fa_cons (fe_var 3) (fa_cons (fe_var 4) (fa_cons (fe_var 9) fa_nil))))) fa_nil)) (fe_callB (fcl_reprD mf.sysm (by exact gd) (by exact u66 hr)) (by rfl) mf.m_repr Bt.repr (fa_cons (fe_var 11) fa_nil))) (fw_or1 (ft_cmp (fop_ne (by exact hr.units)) (fe_callB (fcl_reprD mf.sysm (by exact gd) (by exact u66 hr)) (by rfl) mf.m_repr Bt.repr (fa_cons (fe_var 9) fa_nil)) (fe_var 10))))) (fss_one (fs_ret fe_bl)) fss_nil)))) (fss_one (fs_ret (fe_cmp fop_is (fe_def .len D_is_plan (by exact hr) (by rfl) (by exact gd) (by rfl) (fa_cons (fe_var 1) (fa_cons (fe_var 3) (fa_cons (fe_var 4) (fa_cons (fe_var 7) fa_nil))))) fe_bl))))))))))))))
theorem ok_law_case {P : Program} {w : World} {K : PySem.W.Frag} {mg : Str → Option Value} {base : Heap} (mf : Mf P w K mg base) (D_law_of : Dok P w K mg base "_law_of" 3 ["_law_pot_here", "_law_some"] [] g_law_of) (D_law_take : Dok P w K mg base "_law_take" 2 ["_law_pot_here", "_law_many"] [] g_law_take) (D_is_plan : Dok P w K mg base "is_plan" 3 ["n", "program", "moment", "value"] [] g_is_plan) (D_law_odd : Dok P w K mg base "_law_odd" 33 ["_law_pot_here", "_law_value"] [] (g_law_odd 30)) (D_law_due : Dok P w K mg base "_law_due" 3 ["_law_n", "_law_moment", "_law_value"] [] g_law_due) {f : Addr} {fd : FuncData} (hm : mg "_law_case" = some (.ref f)) (D : FunD K "_law_case" "_law_case" Hd.d__law_case.params Hd.d__law_case.body Hd.d__law_case.scope [] [] f fd) : Dok P w K mg base "_law_case" 34 ["_law_pot_here"] [] g_law_case :=
  .of (fnG_of (N := N_law_case) (F := f_law_case) D sc_law_case fun cv A fr s H E hr gd => (b_law_case mf D_law_of D_law_take D_is_plan D_law_odd D_law_due hr gd).nox) hm D (fun _ _ _ _ _ _ us hl => match us, hl with | [_], _ => rfl) (fun q hq => nomatch hq)
def f_law : FxS :=
  fRet (fCall gAll (fCons (fLc [1] (fRg gRg1 (fCons (fCall gMax2 (fCons (fC (.int 1)) (fCons (fCall gMin2 (fCons (fC (.int 3)) (fCons (fCall gLen (fCons (fVar 0) (fNil))) (fNil)))) (fNil)))) (fNil))) (gNm 1) (fYes) (fCall (kdG .urn 1 g_law_case) (fCons (fCall (kdG .pur 2 g_law_pot) (fCons (fVar 0) (fCons (fVar 1) (fNil)))) (fNil)))) (fNil)))
def g_law : List U → M U := gDef 2 f_law
abbrev N_law : List Str := ["_law_script", "_law_k"]
theorem sc_law : FnScope N_law ["_law_script"] Hd.d_law.scope := ⟨rfl, rfl, rfl, by decide +kernel, rfl, by decide +kernel, by decide +kernel⟩
theorem b_law {P : Program} {w : World} {K : PySem.W.Frag} {mg : Str → Option Value} {base : Heap} (mf : Mf P w K mg base) (D_law_case : Dok P w K mg base "_law_case" 34 ["_law_pot_here"] [] g_law_case) (D_law_pot : Dok P w K mg base "_law_pot" 2 ["_law_script", "_law_k"] [] g_law_pot) {f : Addr} {cv : Value} {A : Around} {fr : List Env} {s : Shared} {H : Hp} {E : XK} (hr0 : Room 34 (A.deeper (PyProof.Rows.envOfC "law" Hd.d_law.scope s.heap.objs.size f cv))) (gd : A.guards = some []) :
    FSs (cxOf CX0 P w K mg base N_law "law" Hd.d_law.scope f cv A fr s H E).nox E Hd.d_law.body f_law := by
  have sc := sc_law
  have hr : Room 34 (cxOf CX0 P w K mg base N_law "law" Hd.d_law.scope f cv A fr s H E).nox.A := hr0
  exact (fss_one (fs_ret (fe_callB (fcl_all rfl) (by rfl) mf.m_all Bt.all (fa_cons (fe_comp (own := [("_law_k", 1)]) rfl sc.nd (blkOk_by (by kernel_rfl)) (fi_range1 (by rfl) mf.m_range (fa_cons (fe_callB (fcl_max2 rfl) (by rfl) mf.m_max Bt.max (fa_cons fe_int (fa_cons (fe_callB (fcl_min2 rfl) (by rfl) mf.m_min Bt.min (fa_cons fe_int (fa_cons (fe_callB fcl_len (by rfl) mf.m_len Bt.len (fa_cons (fe_var 0) fa_nil)) fa_nil))) fa_nil))) fa_nil)) (by decide) (fun _ => (fg_name (i := 1) sc.nd rfl (by first | exact .inl rfl | exact .inr rfl))) (fun _ => fts_nil) (fun _ => (fe_def .urn D_law_case (by exact hr) (by rfl) (by exact gd) (by rfl) (fa_cons (fe_def .pur D_law_pot (by exact hr) (by rfl) (by exact gd) (by rfl) (fa_cons (fe_var 0) (fa_cons (fe_var 1) fa_nil))) fa_nil)))) fa_nil))))
theorem facts {P : Program} {w : World} {K : PySem.W.Frag} {h : Heap} {mg : Str → Option Value} {f : Addr} (X : K.In h) (G : h.Ns mainGlobals mg) (hfa : mg ("law" : Str) = some (.ref f)) (c0 : SaysF Hd.fa Hd.fn Hd.fx K) :
    ∃ fd : FuncData, (∀ (s : Shared) (v : Value), BindsTo s fd ⟨[v], []⟩ [("_law_script", v)]) ∧ ∀ base : Heap, K.In base → base.Ns mainGlobals mg → FnG P w K mg base CX0 35 f fd ["_law_script"] g_law := by
  have c := c0.d
  obtain ⟨fd_is_entry, F_is_entry⟩ := c.def_ 0 (d := Hd.d_is_entry) rfl
  have m_is_entry := He.glo_ok X G (c.fact 0 (f := .glo "is_entry") rfl)
  obtain ⟨fd_is_plan, F_is_plan⟩ := c.def_ 1 (d := Hd.d_is_plan) rfl
  have m_is_plan := He.glo_ok X G (c.fact 1 (f := .glo "is_plan") rfl)
  obtain ⟨fd_law_pot, F_law_pot⟩ := c.def_ 2 (d := Hd.d__law_pot) rfl
  have m_law_pot := He.glo_ok X G (c.fact 2 (f := .glo "_law_pot") rfl)
  obtain ⟨fd_law_take, F_law_take⟩ := c.def_ 3 (d := Hd.d__law_take) rfl
  have m_law_take := He.glo_ok X G (c.fact 3 (f := .glo "_law_take") rfl)
  obtain ⟨fd_law_of, F_law_of⟩ := c.def_ 4 (d := Hd.d__law_of) rfl
  have m_law_of := He.glo_ok X G (c.fact 4 (f := .glo "_law_of") rfl)
  obtain ⟨fd_law_odd, F_law_odd⟩ := c.def_ 5 (d := Hd.d__law_odd) rfl
  have m_law_odd := He.glo_ok X G (c.fact 5 (f := .glo "_law_odd") rfl)
  obtain ⟨fd_law_element, F_law_element⟩ := c.def_ 6 (d := Hd.d__law_element) rfl
  have m_law_element := He.glo_ok X G (c.fact 6 (f := .glo "_law_element") rfl)
  obtain ⟨fd_law_due, F_law_due⟩ := c.def_ 7 (d := Hd.d__law_due) rfl
  have m_law_due := He.glo_ok X G (c.fact 7 (f := .glo "_law_due") rfl)
  obtain ⟨fd_law_case, F_law_case⟩ := c.def_ 8 (d := Hd.d__law_case) rfl
  have m_law_case := He.glo_ok X G (c.fact 8 (f := .glo "_law_case") rfl)
  obtain ⟨fd_law, F_law⟩ := c.def_ 9 (d := Hd.d_law) rfl
  have m_law := He.glo_ok X G (c.fact 9 (f := .glo "law") rfl)
  have e := hfa.symm.trans m_law
  cases e
  have b := FunD.bindsA (ps := ["_law_script"]) F_law fun _ _ _ _ _ _ us hl => match us, hl with | [_], _ => rfl
  refine ⟨fd_law, fun s v => b s [v] rfl, fun base _ _ => ?_⟩
  have hx := List.all_eq_true.mp (show (Hd.fxs.all fun f => f K) = true from c0.x)
  have sysm : sysB K = true := id (hx _ (List.mem_of_getElem? (i := 0) rfl))
  have mf : Mf P w K mg base := ⟨sysm, He.free_ok X G (c.fact 10 (f := .free "abs") rfl), He.free_ok X G (c.fact 11 (f := .free "all") rfl), He.free_ok X G (c.fact 12 (f := .free "bool") rfl), He.free_ok X G (c.fact 13 (f := .free "int") rfl), He.free_ok X G (c.fact 14 (f := .free "isinstance") rfl), He.free_ok X G (c.fact 15 (f := .free "len") rfl), He.free_ok X G (c.fact 16 (f := .free "list") rfl), He.free_ok X G (c.fact 17 (f := .free "max") rfl), He.free_ok X G (c.fact 18 (f := .free "min") rfl), He.free_ok X G (c.fact 19 (f := .free "range") rfl), He.free_ok X G (c.fact 20 (f := .free "repr") rfl), He.free_ok X G (c.fact 21 (f := .free "sorted") rfl), He.free_ok X G (c.fact 22 (f := .free "tuple") rfl), He.free_ok X G (c.fact 23 (f := .free "zip") rfl), He.int_ok X G (c.fact 24 rfl)⟩
  have D_is_entry := ok_is_entry (P := P) (w := w) (base := base) mf  m_is_entry F_is_entry
  have D_is_plan := ok_is_plan (P := P) (w := w) (base := base) mf D_is_entry m_is_plan F_is_plan
  have D_law_pot := ok_law_pot (P := P) (w := w) (base := base) mf  m_law_pot F_law_pot
  have D_law_take := ok_law_take (P := P) (w := w) (base := base) mf  m_law_take F_law_take
  have D_law_of := ok_law_of (P := P) (w := w) (base := base) mf D_law_take m_law_of F_law_of
  have D_law_odd := ok_law_odd (P := P) (w := w) (base := base) mf D_law_take D_law_of m_law_odd F_law_odd 30
  have D_law_element := ok_law_element (P := P) (w := w) (base := base) mf  m_law_element F_law_element
  have D_law_due := ok_law_due (P := P) (w := w) (base := base) mf D_law_element m_law_due F_law_due
  have D_law_case := ok_law_case (P := P) (w := w) (base := base) mf D_law_of D_law_take D_is_plan D_law_odd D_law_due m_law_case F_law_case
  exact fnG_of (N := N_law) (F := f_law) F_law sc_law fun cv A fr s H E hr gd => (b_law mf D_law_case D_law_pot hr gd).nox
end Fn
set_option Elab.async false
set_option linter.all false
set_option maxRecDepth 100000
set_option maxHeartbeats 0
open PySem PySem.W PySem.Calls PyProof.Rows in
set_option maxRecDepth 100000 in
set_option maxHeartbeats 0 in
theorem Fm.fin (law_true : ∀ ns : List Int, ∃ T, Fn.g_law [Lf.U.scr ns] [] = Lf.R.ok (Lf.U.bl true) T) : PySem.Challenge.rw_leastjournal_k37_plans_of_any_value.Holds := by
  w_on; o_law
  refine HandSHeadRun.head_any (r := OpenLaw.row PySem.Challenge.rw_leastjournal_k37_plans_of_any_value) (q := view (OpenLaw.row PySem.Challenge.rw_leastjournal_k37_plans_of_any_value).prog [12]) (H := Hd.hk) (ob := Hd.ob) (M := Hd.steps) (loose := Hd.loose) (d := HandSHeadRun.topDef (OpenLaw.row PySem.Challenge.rw_leastjournal_k37_plans_of_any_value).prog 12) (kwd := []) Hd.ob_eq
    (by kernel_rfl) (fun s => by kernel_rfl) Hd.run (by kernel_rfl) (by kernel_rfl) (by kernel_rfl) (by rfl) (by first | assumption | decide +kernel) (by decide +kernel) ⟨rfl, rfl, rfl, rfl, rfl, by decide +kernel⟩ ?hw ?hc
  case hw => w_witness2
  case hc =>
    refine Lf.walk_end (l := PySem.Challenge.rw_leastjournal_k37_plans_of_any_value) (n := 63) (k := 35) (x := "_law_script") rfl (by decide) (by kernel_rfl) ⟨rfl, by decide, by decide⟩ ?F
    intro w mg fa h Y G hmg0
    obtain ⟨K, KX, c⟩ := Y
    have hmg : mg ("law" : PySem.Str) = some (.ref fa) := by
      have e : (HandSHeadRun.topDef (OpenLaw.row PySem.Challenge.rw_leastjournal_k37_plans_of_any_value).prog 12).name = ("law" : PySem.Str) := by kernel_rfl
      rw [← e]
      exact hmg0
    obtain ⟨fd, hb, hF⟩ := Fn.facts (P := (PySem.Challenge.rw_leastjournal_k37_plans_of_any_value).prog) (w := w) KX G hmg c
    exact ⟨K, fd, Fn.g_law, KX, hb, fun ns _ => law_true ns, hF⟩
set_option Elab.async false
set_option linter.all false
set_option maxRecDepth 100000
set_option maxHeartbeats 4000000
namespace Mx
open PySem PySem.Spec L2 Lf
structure Kf (T T' : Sto) : Prop where
  le : T.length ≤ T'.length
  kp : ∀ j, j < T.length → T'[j]? = T[j]?
theorem Kf.refl (T : Sto) : Kf T T := ⟨Nat.le_refl _, fun _ _ => rfl⟩
theorem Kf.trans {T T1 T2 : Sto} (a : Kf T T1) (b : Kf T1 T2) : Kf T T2 := ⟨Nat.le_trans a.le b.le, fun j h => (b.kp j (Nat.lt_of_lt_of_le h a.le)).trans (a.kp j h)⟩
theorem Kf.set {T T1 : Sto} (a : Kf T T1) {k : Nat} {o : O} (h : T.length ≤ k) : Kf T (T1.set k o) := ⟨by rw [List.length_set]; exact a.le, fun j hj => by rw [List.getElem?_set_ne (by omega)]; exact a.kp j hj⟩
theorem Kf.at_ {T T' : Sto} (a : Kf T T') {j : Nat} {o : O} (h : T[j]? = some o) : T'[j]? = some o := (a.kp j (lt_at h)).trans h
theorem ap {T l : Sto} {k : Nat} {o : O} (h : T[k]? = some o) : (T ++ l)[k]? = some o := by rw [List.getElem?_append_left (lt_at h)]; exact h
theorem ap0 {T : Sto} {o : O} : (T ++ [o])[T.length]? = some o := by rw [List.getElem?_append_right (Nat.le_refl _), Nat.sub_self]; rfl
theorem take_snoc {α : Type} {l : List α} {i : Nat} {x : α} (h : l[i]? = some x) : l.take (i + 1) = l.take i ++ [x] := by rw [List.take_add_one, h]; rfl
theorem rgU_at {n i : Nat} {x : U} (h : (rgU 0 n)[i]? = some x) : i < n ∧ x = .int (i : Nat) := by
  have h1 := (List.getElem?_eq_some_iff.mp h).1
  rw [rgU_len] at h1
  refine ⟨h1, ?_⟩
  unfold rgU at h
  rw [List.getElem?_map] at h
  obtain ⟨j, hj, rfl⟩ := Option.map_eq_some_iff.mp h
  rw [range_at hj, Int.zero_add]
theorem atI_nat {xs : List U} {i : Nat} {u : U} (h : xs[i]? = some u) : atI xs (i : Int) = some u := by
  have hi := (List.getElem?_eq_some_iff.mp h).1
  unfold atI ixN
  rw [if_pos (Int.natCast_nonneg i), if_pos (by omega)]
  simpa using h
end Mx
local macro_rules | `(tactic| infer_instance) => `(tactic| ((with_reducible refine Lf.v_rg1 ?_ ?_); exact Lf.small62_of (by omega) (by omega)))
local macro_rules | `(tactic| infer_instance) => `(tactic| ((with_reducible refine Lf.kP_tup ?_ ?_); first | exact rfl | exact Lf.nrs_ints _ | assumption | fail))
local macro_rules | `(tactic| infer_instance) => `(tactic| ((with_reducible refine Lf.v_non ?_ ?_); (first | (with_reducible rfl) | assumption | (exact fun z => z rfl) | decide +kernel | omega | fail)))
local macro_rules | `(tactic| infer_instance) => `(tactic| ((with_reducible refine Lf.v_yesn ?_ ?_); (first | (with_reducible rfl) | assumption | (exact fun z => z rfl) | decide +kernel | omega | fail)))
local macro_rules | `(tactic| infer_instance) => `(tactic| ((with_reducible refine Lf.v_nod ?_ ?_); (first | (with_reducible rfl) | assumption | (exact fun z => z rfl) | decide +kernel | omega | fail)))
local macro_rules | `(tactic| infer_instance) => `(tactic| ((with_reducible refine Lf.v_yesd ?_ ?_); (first | (with_reducible rfl) | assumption | (exact fun z => z rfl) | decide +kernel | omega | fail)))
local macro_rules | `(tactic| infer_instance) => `(tactic| ((with_reducible apply Lf.v_listL); (first | exact rfl | assumption | fail)))
local macro_rules | `(tactic| infer_instance) => `(tactic| ((with_reducible apply Lf.v_tupleL); (first | exact rfl | assumption | fail)))
local macro_rules | `(tactic| infer_instance) => `(tactic| ((with_reducible apply Lf.v_appZ); (first | exact rfl | assumption | fail); (first | omega | (simp only [List.length_append, List.length_map, List.length_cons, List.length_nil]; omega) | (simp; omega) | fail)))
local macro_rules | `(tactic| infer_instance) => `(tactic| ((with_reducible refine Lf.v_idiv ?_ ?_); exact ⟨by decide, by decide⟩))
local macro_rules | `(tactic| infer_instance) => `(tactic| ((with_reducible apply Lf.isl_and); (first | exact rfl | assumption | fail)))
local macro_rules | `(tactic| infer_instance) => `(tactic| ((with_reducible apply Lf.v_fld); (first | assumption | fail); (first | assumption | exact List.mem_cons_self .. | simp | fail); (first | rfl | decide +kernel | fail)))
local macro_rules | `(tactic| infer_instance) => `(tactic| with_reducible refine Lf.v_enTT ?_)
local macro_rules | `(tactic| infer_instance) => `(tactic| with_reducible refine Lf.v_enT ?_)
local macro_rules | `(tactic| infer_instance) => `(tactic| with_reducible refine Lf.v_subTT ?_)
local macro_rules | `(tactic| infer_instance) => `(tactic| with_reducible refine Lf.v_subTD ?_)
local macro_rules | `(tactic| infer_instance) => `(tactic| with_reducible refine Lf.v_items ?_)
local macro_rules | `(tactic| infer_instance) => `(tactic| with_reducible refine Lf.v_dic1K ?_)
local macro_rules | `(tactic| infer_instance) => `(tactic| with_reducible refine Lf.v_getK ?_)
local macro_rules | `(tactic| infer_instance) => `(tactic| with_reducible refine Lf.v_mth ?_)
local macro_rules | `(tactic| infer_instance) => `(tactic| with_reducible refine Lf.v_mkW ?_)
local macro_rules | `(tactic| infer_instance) => `(tactic| with_reducible refine Lf.v_mkC ?_)
local macro_rules | `(tactic| infer_instance) => `(tactic| with_reducible refine Lf.v_fldAug ?_)
local macro_rules | `(tactic| infer_instance) => `(tactic| with_reducible refine Lf.v_fldS ?_)
local macro_rules | `(tactic| infer_instance) => `(tactic| with_reducible refine Lf.v_mkE0 ?_)
local macro_rules | `(tactic| infer_instance) => `(tactic| with_reducible refine Lf.v_mkE ?_)
local macro_rules | `(tactic| infer_instance) => `(tactic| with_reducible refine Lf.v_dic1 ?_)
local macro_rules | `(tactic| infer_instance) => `(tactic| with_reducible refine Lf.v_dic0 ?_)
local macro_rules | `(tactic| infer_instance) => `(tactic| with_reducible refine Lf.v_revT ?_)
local macro_rules | `(tactic| infer_instance) => `(tactic| with_reducible refine Lf.v_listT ?_)
local macro_rules | `(tactic| infer_instance) => `(tactic| with_reducible refine Lf.v_tupleT ?_)
local macro_rules | `(tactic| infer_instance) => `(tactic| with_reducible refine Lf.v_ix0 ?_)
local macro_rules | `(tactic| infer_instance) => `(tactic| with_reducible refine Lf.v_neT ?_)
local macro_rules | `(tactic| infer_instance) => `(tactic| with_reducible refine Lf.v_eqS0 ?_)
local macro_rules | `(tactic| infer_instance) => `(tactic| with_reducible refine Lf.v_enum ?_)
local macro_rules | `(tactic| infer_instance) => `(tactic| (refine ⟨(Nat.le_of_ble_eq_true rfl : List.length _ ≤ 16777216), ?_⟩))
local macro_rules | `(tactic| infer_instance) => `(tactic| with_reducible refine ⟨_, _, _, rfl, ?_⟩)
local macro_rules | `(tactic| infer_instance) => `(tactic| with_reducible refine ⟨_, _, rfl, ?_⟩)
local macro_rules | `(tactic| infer_instance) => `(tactic| (refine ⟨_, (rfl : Lf.tru _ (Lf.U.bl _) = some _), ?_⟩))
local macro_rules | `(tactic| infer_instance) => `(tactic| with_reducible refine ⟨_, rfl, ?_⟩)
local macro_rules | `(tactic| infer_instance) => `(tactic| ((with_reducible apply Lf.v_ixN); (first | exact rfl | assumption | fail)))
local macro_rules | `(tactic| infer_instance) => `(tactic| ((with_reducible apply Lf.v_ixT); (first | exact rfl | assumption | fail)))
local macro_rules | `(tactic| infer_instance) => `(tactic| ((with_reducible apply Lf.v_ixL); (first | exact rfl | assumption | fail); (first | exact rfl | assumption | fail)))
local macro_rules | `(tactic| infer_instance) => `(tactic| ((with_reducible refine Lf.v_rg1 ?_ ?_); first | decide | fail))
local macro_rules | `(tactic| infer_instance) => `(tactic| ((with_reducible refine Lf.v_pow ?_ ?_); exact ⟨by decide, by decide, by decide⟩))
local macro_rules | `(tactic| infer_instance) => `(tactic| ((with_reducible refine Lf.v_mul ?_ ?_); first | exact Lf.log2m ⟨by omega, by omega⟩ ⟨by omega, by omega⟩ | exact Lf.log2m (by assumption) ⟨by omega, by omega⟩ | exact Lf.log2m ⟨by omega, by omega⟩ (by assumption) | fail))
local macro_rules | `(tactic| infer_instance) => `(tactic| ((with_reducible refine Lf.v_div ?_ ?_); first | exact ⟨by decide, by decide +kernel⟩ | assumption | exact Lf.log2d (by omega) ⟨by omega, by omega⟩ | fail))
local macro_rules | `(tactic| infer_instance) => `(tactic| ((with_reducible refine Lf.v_mod ?_ ?_); first | decide | omega | assumption | fail))
local macro_rules | `(tactic| infer_instance) => `(tactic| ((with_reducible apply Lf.v_aug); exact rfl))
local macro_rules | `(tactic| infer_instance) => `(tactic| ((with_reducible refine Lf.v_unp ?_ ?_); exact rfl))
local macro_rules | `(tactic| infer_instance) => `(tactic| ((with_reducible apply Lf.v_lenL); first | exact rfl | assumption))
local macro_rules | `(tactic| infer_instance) => `(tactic| ((with_reducible apply Lf.v_iterO); first | exact rfl | assumption))
local macro_rules | `(tactic| infer_instance) => `(tactic| ((with_reducible refine Lf.v_kw ?_ ?_); exact rfl))
local macro_rules | `(tactic| infer_instance) => `(tactic| ((with_reducible apply Lf.v_var); exact rfl))
local macro_rules | `(tactic| infer_instance) => `(tactic| with_reducible refine Lf.v_cutT ?_)
local macro_rules | `(tactic| infer_instance) => `(tactic| with_reducible refine Lf.v_pt ?_)
local macro_rules | `(tactic| infer_instance) => `(tactic| with_reducible refine Lf.v_noP ?_)
local macro_rules | `(tactic| infer_instance) => `(tactic| with_reducible refine Lf.v_sl ?_)
local macro_rules | `(tactic| infer_instance) => `(tactic| with_reducible refine Lf.v_isiII ?_)
local macro_rules | `(tactic| infer_instance) => `(tactic| with_reducible refine Lf.v_isiIB ?_)
local macro_rules | `(tactic| infer_instance) => `(tactic| with_reducible refine Lf.v_subT ?_)
local macro_rules | `(tactic| infer_instance) => `(tactic| with_reducible refine Lf.v_meth ?_)
local macro_rules | `(tactic| infer_instance) => `(tactic| with_reducible refine Lf.v_chain ?_)
local macro_rules | `(tactic| infer_instance) => `(tactic| with_reducible refine Lf.v_par3 ?_)
local macro_rules | `(tactic| infer_instance) => `(tactic| with_reducible refine Lf.v_par2 ?_)
local macro_rules | `(tactic| infer_instance) => `(tactic| with_reducible refine Lf.v_lst ?_)
local macro_rules | `(tactic| infer_instance) => `(tactic| with_reducible refine Lf.v_tup ?_)
local macro_rules | `(tactic| infer_instance) => `(tactic| with_reducible refine Lf.v_un ?_)
local macro_rules | `(tactic| infer_instance) => `(tactic| with_reducible refine Lf.v_nw ?_)
local macro_rules | `(tactic| infer_instance) => `(tactic| with_reducible refine Lf.v_lenN ?_)
local macro_rules | `(tactic| infer_instance) => `(tactic| with_reducible refine Lf.v_lenT ?_)
local macro_rules | `(tactic| infer_instance) => `(tactic| with_reducible refine Lf.v_min2 ?_)
local macro_rules | `(tactic| infer_instance) => `(tactic| with_reducible refine Lf.v_max2 ?_)
local macro_rules | `(tactic| infer_instance) => `(tactic| with_reducible refine Lf.v_intB ?_)
local macro_rules | `(tactic| infer_instance) => `(tactic| with_reducible refine Lf.v_intI ?_)
local macro_rules | `(tactic| infer_instance) => `(tactic| with_reducible refine Lf.v_abs ?_)
local macro_rules | `(tactic| infer_instance) => `(tactic| with_reducible refine Lf.v_neI ?_)
local macro_rules | `(tactic| infer_instance) => `(tactic| with_reducible refine Lf.v_eqI ?_)
local macro_rules | `(tactic| infer_instance) => `(tactic| with_reducible refine Lf.v_ge ?_)
local macro_rules | `(tactic| infer_instance) => `(tactic| with_reducible refine Lf.v_gt ?_)
local macro_rules | `(tactic| infer_instance) => `(tactic| with_reducible refine Lf.v_le ?_)
local macro_rules | `(tactic| infer_instance) => `(tactic| with_reducible refine Lf.v_lt ?_)
local macro_rules | `(tactic| infer_instance) => `(tactic| with_reducible refine Lf.v_neg ?_)
local macro_rules | `(tactic| infer_instance) => `(tactic| with_reducible refine Lf.v_sub ?_)
local macro_rules | `(tactic| infer_instance) => `(tactic| with_reducible refine Lf.v_add ?_)
local macro_rules | `(tactic| infer_instance) => `(tactic| with_reducible refine Lf.v_iterT ?_)
local macro_rules | `(tactic| infer_instance) => `(tactic| with_reducible refine Lf.v_iter ?_)
local macro_rules | `(tactic| infer_instance) => `(tactic| with_reducible refine Lf.v_rg ?_)
local macro_rules | `(tactic| infer_instance) => `(tactic| with_reducible refine Lf.v_lc ?_)
local macro_rules | `(tactic| infer_instance) => `(tactic| with_reducible refine Lf.v_for ?_)
local macro_rules | `(tactic| infer_instance) => `(tactic| with_reducible refine Lf.v_yes ?_)
local macro_rules | `(tactic| infer_instance) => `(tactic| with_reducible refine Lf.v_gcons ?_)
local macro_rules | `(tactic| infer_instance) => `(tactic| with_reducible refine Lf.v_gnil ?_)
local macro_rules | `(tactic| infer_instance) => `(tactic| with_reducible refine Lf.v_nm ?_)
local macro_rules | `(tactic| infer_instance) => `(tactic| with_reducible refine Lf.v_cnt ?_)
local macro_rules | `(tactic| infer_instance) => `(tactic| with_reducible refine Lf.v_brk ?_)
local macro_rules | `(tactic| infer_instance) => `(tactic| with_reducible refine Lf.v_retN ?_)
local macro_rules | `(tactic| infer_instance) => `(tactic| with_reducible refine Lf.v_drop ?_)
local macro_rules | `(tactic| infer_instance) => `(tactic| with_reducible refine Lf.v_skip ?_)
local macro_rules | `(tactic| infer_instance) => `(tactic| with_reducible refine Lf.v_nil ?_)
local macro_rules | `(tactic| infer_instance) => `(tactic| with_reducible refine Lf.v_c ?_)
local macro_rules | `(tactic| infer_instance) => `(tactic| with_reducible refine Lf.v_notV ?_)
local macro_rules | `(tactic| infer_instance) => `(tactic| with_reducible refine Lf.v_orV ?_)
local macro_rules | `(tactic| infer_instance) => `(tactic| with_reducible refine Lf.v_andV ?_)
local macro_rules | `(tactic| infer_instance) => `(tactic| with_reducible refine Lf.v_not ?_)
local macro_rules | `(tactic| infer_instance) => `(tactic| with_reducible refine Lf.v_or ?_)
local macro_rules | `(tactic| infer_instance) => `(tactic| with_reducible refine Lf.v_and ?_)
local macro_rules | `(tactic| infer_instance) => `(tactic| with_reducible refine Lf.v_tru ?_)
local macro_rules | `(tactic| infer_instance) => `(tactic| with_reducible refine Lf.v_bl ?_)
local macro_rules | `(tactic| infer_instance) => `(tactic| with_reducible refine Lf.v_ifE ?_)
local macro_rules | `(tactic| infer_instance) => `(tactic| with_reducible refine Lf.v_if ?_)
local macro_rules | `(tactic| infer_instance) => `(tactic| with_reducible refine Lf.v_asg ?_)
local macro_rules | `(tactic| infer_instance) => `(tactic| with_reducible refine Lf.v_set ?_)
local macro_rules | `(tactic| infer_instance) => `(tactic| with_reducible refine Lf.v_ret ?_)
local macro_rules | `(tactic| infer_instance) => `(tactic| with_reducible refine Lf.v_call ?_)
local macro_rules | `(tactic| infer_instance) => `(tactic| with_reducible refine Lf.v_cons ?_)
local macro_rules | `(tactic| infer_instance) => `(tactic| with_reducible refine Lf.v_bin ?_)
local macro_rules | `(tactic| infer_instance) => `(tactic| with_reducible refine Lf.seq_wp ?_)
local macro_rules | `(tactic| infer_instance) => `(tactic| with_reducible refine Lf.Wp.ok ?_)
local macro_rules | `(tactic| infer_instance) => `(tactic| with_reducible refine Lf.v_iadd ?_)
local macro_rules | `(tactic| infer_instance) => `(tactic| with_reducible refine Lf.kP_non ?_)
local macro_rules | `(tactic| infer_instance) => `(tactic| with_reducible refine Lf.kP_str ?_)
local macro_rules | `(tactic| infer_instance) => `(tactic| with_reducible refine Lf.kP_bl ?_)
local macro_rules | `(tactic| infer_instance) => `(tactic| with_reducible refine Lf.kP_int ?_)
local macro_rules | `(tactic| infer_instance) => `(tactic| with_reducible refine Lf.v_ifNF ?_)
local macro_rules | `(tactic| infer_instance) => `(tactic| with_reducible refine Lf.v_ifNT ?_)
local macro_rules | `(tactic| infer_instance) => `(tactic| with_reducible refine Lf.v_ifF ?_)
local macro_rules | `(tactic| infer_instance) => `(tactic| with_reducible refine Lf.v_ifT ?_)
local macro_rules | `(tactic| infer_instance) => `(tactic| with_reducible refine Lf.kF_rt ?_)
local macro_rules | `(tactic| infer_instance) => `(tactic| with_reducible refine Lf.kF_bk ?_)
local macro_rules | `(tactic| infer_instance) => `(tactic| with_reducible refine Lf.kF_ct ?_)
local macro_rules | `(tactic| infer_instance) => `(tactic| with_reducible refine Lf.kF_nx ?_)
local macro_rules | `(tactic| infer_instance) => `(tactic| with_reducible refine Lf.kD_nx ?_)
local macro_rules | `(tactic| infer_instance) => `(tactic| with_reducible refine Lf.kD_rt ?_)
local macro_rules | `(tactic| infer_instance) => `(tactic| with_reducible refine Lf.kS_ct ?_)
local macro_rules | `(tactic| infer_instance) => `(tactic| with_reducible refine Lf.kS_bk ?_)
local macro_rules | `(tactic| infer_instance) => `(tactic| with_reducible refine Lf.kS_rt ?_)
local macro_rules | `(tactic| infer_instance) => `(tactic| with_reducible refine Lf.kS_nx ?_)
local macro_rules | `(tactic| bv_omega) => `(tactic| repeat infer_instance)
set_option Elab.async false
set_option linter.all false
set_option maxRecDepth 100000
set_option maxHeartbeats 4000000
namespace Mx
open PySem PySem.Spec L2 Lf
def PotB (b : Nat) (o : O) : Prop := ∃ a x c : Int, o = .lst [.int a, .int x, .int c] ∧ 0 ≤ x ∧ x < 2305843009213693921 ∧ 0 ≤ c ∧ c ≤ b
theorem PotB.mono {b b' : Nat} {o : O} (h : PotB b o) (hb : b ≤ b') : PotB b' o := by
  obtain ⟨a, x, c, e, h1, h2, h3, h4⟩ := h
  exact ⟨a, x, c, e, h1, h2, h3, by omega⟩
theorem PotB.nr {b : Nat} {o : O} (h : PotB b o) : nrO o = true := by
  obtain ⟨a, x, c, rfl, _⟩ := h
  rfl
structure PE (i b : Nat) (T T' : Sto) : Prop where
  pot : ∃ o, T'[i]? = some o ∧ PotB b o
  kp : ∀ j, j ≠ i → j < T.length → T'[j]? = T[j]?
  le : T.length ≤ T'.length
theorem PE.refl {i b : Nat} {T : Sto} (h : ∃ o, T[i]? = some o ∧ PotB b o) : PE i b T T := ⟨h, fun _ _ _ => rfl, Nat.le_refl _⟩
theorem PE.trans {i b1 b2 : Nat} {T T1 T2 : Sto} (a : PE i b1 T T1) (c : PE i b2 T1 T2) : PE i b2 T T2 := ⟨c.pot, fun j h1 h2 => (c.kp j h1 (Nat.lt_of_lt_of_le h2 a.le)).trans (a.kp j h1 h2), Nat.le_trans a.le c.le⟩
theorem PE.mono {i b b' : Nat} {T T' : Sto} (a : PE i b T T') (h : b ≤ b') : PE i b' T T' := ⟨let ⟨o, h1, h2⟩ := a.pot; ⟨o, h1, h2.mono h⟩, a.kp, a.le⟩
theorem PE.app {i b : Nat} {T T' l : Sto} (a : PE i b T T') : PE i b T (T' ++ l) := ⟨let ⟨o, h1, h2⟩ := a.pot; ⟨o, ap h1, h2⟩, fun j h1 h2 => by rw [List.getElem?_append_left (Nat.lt_of_lt_of_le h2 a.le)]; exact a.kp j h1 h2, by rw [List.length_append]; have := a.le; omega⟩
theorem PE.at_ {i b j : Nat} {T T' : Sto} {o : O} (a : PE i b T T') (h : T[j]? = some o) (hj : j ≠ i) : T'[j]? = some o := (a.kp j hj (lt_at h)).trans h
theorem PE.set {i b : Nat} {T T' : Sto} {k : Nat} {o : O} (a : PE i b T T') (h : T.length ≤ k) (hik : i ≠ k) : PE i b T (T'.set k o) := ⟨let ⟨o', h1, h2⟩ := a.pot; ⟨o', by rw [List.getElem?_set_ne (Ne.symm hik)]; exact h1, h2⟩, fun j h1 h2 => by rw [List.getElem?_set_ne (by omega)]; exact a.kp j h1 h2, by rw [List.length_set]; exact a.le⟩
theorem potW {n : Nat} {g : List U → M U} {i : Nat} {r : List U} {T : Sto} {Q : U → Sto → Prop} {b b' : Nat} (R : U → Prop) (hn : r.length + 1 = n) (hr : nrs r = true) (a : ∃ o, T[i]? = some o ∧ PotB b o)
    (h : ∀ o, PotB b o → Wp (g (.ob 0 :: r) [o]) fun u T' => (∃ o', T'[0]? = some o' ∧ PotB b' o') ∧ nr u = true ∧ R u) (q : ∀ u T', R u → PE i b' T T' → T'.length = T.length → Q u T') : Wp (kdG .urn n g (.ob i :: r) T) Q := by
  obtain ⟨o, ht, u⟩ := a
  refine urn_wp hn hr ht u.nr ((h o u).mono ?_)
  rintro v T' ⟨⟨o', e, u'⟩, h1, h2⟩
  match T', e with
  | z :: l, e =>
    cases e
    exact ⟨_, _, rfl, u'.nr, h1, q _ _ h2 ⟨⟨_, List.getElem?_set_self (lt_at ht), u'⟩, fun j h1 _ => List.getElem?_set_ne (Ne.symm h1), by rw [List.length_set]; exact Nat.le_refl _⟩ (List.length_set ..)⟩
theorem take_pot {T : Sto} {i b : Nat} {n : Int} (a : ∃ o, T[i]? = some o ∧ PotB b o) (hb : b ≤ 100000) (hn : 0 < n) (hn2 : n < 1000000000000000000000000000000) {Q : U → Sto → Prop} (q : ∀ j T', 0 ≤ j → j < n → PE i (b + 1) T T' → T'.length = T.length → Q (.int j) T') : Wp (kdG .urn 2 Fn.g_law_take [.ob i, .int n] T) Q := by
  refine potW (r := [.int n]) (b' := b + 1) (fun u => ∃ j, u = .int j ∧ 0 ≤ j ∧ j < n) rfl rfl a (fun o u => ?_) (fun u T' ⟨j, e, h1, h2⟩ e1 e2 => by subst e; exact q j T' h1 h2 e1 e2)
  obtain ⟨a, x, c, rfl, x0, x1, c0, c1⟩ := u
  refine gDef_wp ?_
  unfold Fn.f_law_take
  have hc1 : 0 ≤ 7368787 * (c + 1) ∧ 7368787 * (c + 1) ≤ 7368787 * 100001 := by omega
  have hcc : 0 ≤ 7368787 * (c + 1) * (c + 1) ∧ 7368787 * (c + 1) * (c + 1) ≤ 7368787 * 100001 * 100001 := ⟨Int.mul_nonneg hc1.1 (by omega), Int.mul_le_mul hc1.2 (by omega) (by omega) (by decide)⟩
  bv_omega
  refine v_ifd (fun h => ?_) (fun h => ?_)
  · bv_omega
    have hm := emod_bd (a := a) hn
    exact ⟨⟨_, rfl, _, _, _, rfl, x0, x1, c0, by omega⟩, rfl, _, rfl, hm.1, hm.2⟩
  · bv_omega
    have hy := emod_bd (a := (x + 7368787 * (c + 1) * (c + 1) + 13) * 40692) (n := 2305843009213693951) (by decide)
    generalize (x + 7368787 * (c + 1) * (c + 1) + 13) * 40692 % 2305843009213693951 = z at hy ⊢
    have hz := emod_bd (a := z) (n := 999983) (by decide)
    bv_omega
    have hw := emod_bd (a := z * (z % 999983 + 15485863 * (c + 1))) (n := 2305843009213693907) (by decide)
    generalize z * (z % 999983 + 15485863 * (c + 1)) % 2305843009213693907 = w at hw ⊢
    bv_omega
    have hfin : ∀ y : Int, 0 ≤ y % n ∧ y % n < n := fun y => emod_bd hn
    exact ⟨⟨_, rfl, _, _, _, rfl, x0, x1, by omega, by omega⟩, rfl, _, rfl, (hfin _).1, (hfin _).2⟩
theorem of_pot {T : Sto} {i k b : Nat} {xs : List U} (a : ∃ o, T[i]? = some o ∧ PotB b o) (hb : b ≤ 100000) (hx : T[k]? = some (.lst xs)) (hik : i ≠ k) (h0 : xs ≠ []) (hl : xs.length ≤ 1000000) {Q : U → Sto → Prop} (q : ∀ x T', x ∈ xs → PE i (b + 1) T T' → T'.length = T.length → Q x T') : Wp (kdG .len 2 Fn.g_law_of [.ob i, .ob k] T) Q := by
  refine len_wp rfl (gDef_wp ?_)
  unfold Fn.f_law_of
  have hl0 : 0 < xs.length := List.length_pos_iff.mpr h0
  bv_omega
  refine take_pot a hb (by omega) (by omega) fun j T' j0 j1 e el => ?_
  have hx' := e.at_ hx (Ne.symm hik)
  obtain ⟨j, rfl⟩ : ∃ j' : Nat, j = j' := ⟨j.toNat, by omega⟩
  have hj : xs[j]? = some xs[j] := List.getElem?_eq_getElem (by omega)
  refine v_ixL hx' (atI_nat hj) ?_
  bv_omega
  exact q _ T' (List.getElem_mem _) e el
end Mx
set_option Elab.async false
set_option linter.all false
set_option maxRecDepth 100000
set_option maxHeartbeats 4000000
namespace Mx
open PySem PySem.Spec L2 Lf
theorem RpD.mem {T : Sto} {xs : List U} {k b : Nat} (h : RpD T (.tup xs) k b) : xs.length ≤ b ∧ ∀ x ∈ xs, RpD T x k b := by
  obtain ⟨d, h1, g2, g4, g5, g6, g7⟩ := h
  clear g7
  have hd : ∃ ds, d = .tuple ds ∧ ∀ n, k ≤ n → dats (datD T n) xs = some ds := by
    have e : datD T (k + 1) (.tup xs) = some d := h1 (k + 1) (by omega)
    obtain ⟨ds, e1, e2⟩ := Option.map_eq_some_iff.mp (show (dats (datD T k) xs).map PyData.tuple = some d from e)
    refine ⟨ds, e2.symm, fun n hn => ?_⟩
    have e' : datD T (n + 1) (.tup xs) = some d := h1 (n + 1) (by omega)
    obtain ⟨ds', e1', e2'⟩ := Option.map_eq_some_iff.mp (show (dats (datD T n) xs).map PyData.tuple = some d from e')
    rw [← e2] at e2'
    cases e2'
    exact e1'
  obtain ⟨ds, rfl, hds⟩ := hd
  have h2 : PyData.showableAll ds = true := by simpa only [PyData.showable] using g2
  have h4 : PyData.depthAll ds ≤ k := by simp only [PyData.depth] at g4; omega
  have h5 : PyData.leavesShortAll 1930 ds = true := by simpa only [PyData.leavesShort] using g5
  have h6 : PyData.bulkAll ds ≤ b := by simpa only [PyData.bulk] using g6
  clear h1 g2 g4 g5 g6
  induction xs generalizing ds b with
  | nil => exact ⟨Nat.zero_le _, fun _ h => nomatch h⟩
  | cons x xs ih =>
    have hk := hds k (Nat.le_refl _)
    unfold dats at hk
    split at hk
    · rename_i dx ds' e1 e2
      cases hk
      have hall : ∀ n, k ≤ n → datD T n x = some dx ∧ dats (datD T n) xs = some ds' := fun n hn => by
        have := hds n hn
        unfold dats at this
        split at this
        · rename_i dx2 ds2 f1 f2
          cases this
          exact ⟨f1, f2⟩
        · cases this
      simp only [PyData.showableAll, Bool.and_eq_true] at h2
      simp only [PyData.depthAll] at h4
      simp only [PyData.leavesShortAll, Bool.and_eq_true] at h5
      simp only [PyData.bulkAll] at h6
      have a4 : PyData.depthAll ds' ≤ k := by omega
      have a6 : PyData.bulkAll ds' ≤ b := by omega
      have i2 := (ih (b := b) ds' (fun n hn => (hall n hn).2) h2.2 a4 h5.2 a6).2
      have j1 := (ih (b := PyData.bulkAll ds') ds' (fun n hn => (hall n hn).2) h2.2 a4 h5.2 (Nat.le_refl _)).1
      refine ⟨by rw [List.length_cons]; omega, fun y hy => ?_⟩
      rcases List.mem_cons.mp hy with rfl | hy
      · refine ⟨dx, fun n hn => (hall n hn).1, h2.1, by omega, h5.1, by omega, fun ns e => ?_⟩
        rw [e] at e1
        cases k <;> cases e1
      · exact i2 y hy
    · cases hk
theorem RpD.ty {T : Sto} {u : U} {k b : Nat} (h : RpD T u k b) : ∃ n, tyU T u = some n ∧ ((∃ b, u = .bl b) ∨ (∃ i, u = .int i) ∨ kitB n "int" = some false) ∧ ((∃ z, u = .str z) ∨ kitB n "str" = some false) ∧ ((∃ z, u = .tup z) ∨ kitB n "tuple" = some false) := by
  obtain ⟨d, h1, _, _, _, _, h7⟩ := h
  have e := h1 (k + 1) (by omega)
  cases u with
  | non => exact ⟨"NoneType", rfl, .inr (.inr rfl), .inr rfl, .inr rfl⟩
  | bl b => exact ⟨"bool", rfl, .inl ⟨_, rfl⟩, .inr rfl, .inr rfl⟩
  | int i => exact ⟨"int", rfl, .inr (.inl ⟨_, rfl⟩), .inr rfl, .inr rfl⟩
  | str z => exact ⟨"str", rfl, .inr (.inr rfl), .inl ⟨_, rfl⟩, .inr rfl⟩
  | tup xs => exact ⟨"tuple", rfl, .inr (.inr rfl), .inr rfl, .inl ⟨_, rfl⟩⟩
  | scr ns => exact absurd rfl (h7 ns)
  | raw v => cases e
  | ob i =>
    have e : (match T[i]? with
      | some (O.lst xs) => (dats (datD T k) xs).map PyData.list
      | some (O.dic kvs) => match keysD kvs, dats (datD T k) (kvs.map (·.2)) with
        | some ks, some vs => some (.dict (ks.zip vs))
        | _, _ => none
      | _ => none) = some d := e
    split at e
    · rename_i xs ex
      exact ⟨"list", by unfold tyU; simp only [ex], .inr (.inr rfl), .inr rfl, .inr rfl⟩
    · rename_i kvs ex
      exact ⟨"dict", by unfold tyU; simp only [ex], .inr (.inr rfl), .inr rfl, .inr rfl⟩
    · cases e
section
variable {T : Sto} {Q : U → Sto → Prop} {k b : Nat} {u : U}
theorem isiT (h : RpD T u k b) (q : Q (.bl (match u with | .tup _ => true | _ => false)) T) : Wp (gIsi [u, .raw (.ty "tuple")] T) Q := by
  obtain ⟨n, h1, _, _, h2⟩ := RpD.ty h
  rcases h2 with ⟨z, rfl⟩ | h2
  · exact v_isiG (n := "tuple") (b := true) rfl rfl q
  · refine v_isiG h1 h2 ?_
    cases u with
    | tup xs => cases h1; cases h2
    | _ => exact q
theorem len2 {xs : List U} (h : (xs.length : Int) = 2) : ∃ x c, xs = [x, c] := by
  rcases xs with _ | ⟨x, _ | ⟨c, _ | ⟨z, r⟩⟩⟩
  · cases h
  · cases h
  · exact ⟨x, c, rfl⟩
  · simp at h; omega
end
theorem RpD.tup_inv {T : Sto} {xs : List U} {k b : Nat} (h : RpD T (.tup xs) k b) : ∃ k', k = k' + 1 ∧ RpDs T xs k' b := by
  obtain ⟨d, h1, g2, g4, g5, g6, g7⟩ := h
  have e0 : datD T (k + 1) (.tup xs) = some d := h1 (k + 1) (by omega)
  obtain ⟨ds0, _, e2⟩ := Option.map_eq_some_iff.mp (show (dats (datD T k) xs).map PyData.tuple = some d from e0)
  subst e2
  have hk : 1 ≤ k := by simp only [PyData.depth] at g4; omega
  obtain ⟨k', rfl⟩ : ∃ k', k = k' + 1 := ⟨k - 1, by omega⟩
  refine ⟨k', rfl, ds0, fun n hn => ?_, by simpa only [PyData.showable] using g2, by simp only [PyData.depth] at g4; omega, by simpa only [PyData.leavesShort] using g5, by simpa only [PyData.bulk] using g6⟩
  have e' : datD T (n + 1) (.tup xs) = some (.tuple ds0) := h1 (n + 1) (by omega)
  obtain ⟨ds', e1', e2'⟩ := Option.map_eq_some_iff.mp (show (dats (datD T n) xs).map PyData.tuple = some (.tuple ds0) from e')
  cases e2'
  exact e1'
theorem RpDs.inv {T : Sto} {x : U} {xs : List U} {k b : Nat} (h : RpDs T (x :: xs) k b) : ∃ b1 b2, RpD T x k b1 ∧ RpDs T xs k b2 ∧ b1 + 1 + b2 ≤ b := by
  obtain ⟨ds, h1, h2, h4, h5, h6⟩ := h
  have hk := h1 k (Nat.le_refl _)
  unfold dats at hk
  split at hk
  · rename_i dx ds' e1 e2
    cases hk
    have hall : ∀ n, k ≤ n → datD T n x = some dx ∧ dats (datD T n) xs = some ds' := fun n hn => by
      have := h1 n hn
      unfold dats at this
      split at this
      · rename_i dx2 ds2 f1 f2
        cases this
        exact ⟨f1, f2⟩
      · cases this
    simp only [PyData.showableAll, Bool.and_eq_true] at h2
    simp only [PyData.depthAll] at h4
    simp only [PyData.leavesShortAll, Bool.and_eq_true] at h5
    simp only [PyData.bulkAll] at h6
    refine ⟨dx.bulk, PyData.bulkAll ds', ⟨dx, fun n hn => (hall n hn).1, h2.1, by omega, h5.1, Nat.le_refl _, fun ns e => ?_⟩, ⟨ds', fun n hn => (hall n hn).2, h2.2, by omega, h5.2, Nat.le_refl _⟩, h6⟩
    rw [e] at e1
    cases k <;> cases e1
  · cases hk
theorem RpDs.mono {T : Sto} {xs : List U} {k b k' b' : Nat} (h : RpDs T xs k b) (hk : k ≤ k') (hb : b ≤ b') : RpDs T xs k' b' :=
  let ⟨ds, h1, h2, h4, h5, h6⟩ := h; ⟨ds, fun n hn => h1 n (Nat.le_trans hk hn), h2, Nat.le_trans h4 hk, h5, Nat.le_trans h6 hb⟩
theorem RpDs.app {T : Sto} {k : Nat} : ∀ {xs ys : List U} {b c : Nat}, RpDs T xs k b → RpDs T ys k c → RpDs T (xs ++ ys) k (b + c)
  | [], ys, b, c, _, h2 => RpDs.mono h2 (Nat.le_refl _) (by omega)
  | x :: xs, ys, b, c, h, h2 => by
    obtain ⟨b1, b2, i1, i2, i3⟩ := RpDs.inv h
    exact RpDs.mono (RpDs.cons i1 (RpDs.app i2 h2)) (Nat.le_refl _) (by omega)
theorem RpDs.split {T : Sto} {k : Nat} : ∀ {xs ys : List U} {b : Nat}, RpDs T (xs ++ ys) k b → ∃ b1 b2, RpDs T xs k b1 ∧ RpDs T ys k b2 ∧ b1 + b2 ≤ b
  | [], ys, b, h => ⟨0, b, .nil, h, by omega⟩
  | x :: xs, ys, b, h => by
    obtain ⟨b1, b2, i1, i2, i3⟩ := RpDs.inv h
    obtain ⟨c1, c2, j1, j2, j3⟩ := RpDs.split i2
    exact ⟨b1 + 1 + c1, c2, RpDs.cons i1 j1, j2, by omega⟩
theorem RpDs.len {T : Sto} {k : Nat} : ∀ {xs : List U} {b : Nat}, RpDs T xs k b → xs.length ≤ b
  | [], _, _ => Nat.zero_le _
  | x :: xs, b, h => by
    obtain ⟨b1, b2, i1, i2, i3⟩ := RpDs.inv h
    have := RpDs.len i2
    rw [List.length_cons]
    omega
theorem RpDs.kp {T T' : Sto} {k : Nat} (e : Kp T T') : ∀ {xs : List U} {b : Nat}, RpDs T xs k b → RpDs T' xs k b
  | [], _, h => RpDs.mono .nil (Nat.le_refl _) (Nat.zero_le _)
  | x :: xs, b, h => by
    obtain ⟨b1, b2, i1, i2, i3⟩ := RpDs.inv h
    exact RpDs.mono (RpDs.cons (i1.kp e) (RpDs.kp e i2)) (Nat.le_refl _) i3
theorem RpDs.one {T : Sto} {u : U} {k b : Nat} (h : RpD T u k b) : RpDs T [u] k (b + 1) := RpDs.cons h .nil
theorem rpS {T : Sto} {k n : Nat} {s : Str} (h : PyData.strOk s = true) (e : s.cps.size ≤ n) : RpD T (.str s) k n := .mono (.str h) (Nat.zero_le _) e
section
variable {l r : List U} {x : U}
theorem cl0 : cutU (l ++ x :: r) none (some (l.length : Int)) = l := by rw [cut_take _ rfl, List.take_left]
theorem cl1 : cutU (l ++ x :: r) none (some ((l.length : Int) + 1)) = l ++ [x] := by
  rw [cut_take (n := l.length + 1) _ (by omega), List.take_length_add_append]
  rfl
theorem cr0 : cutU (l ++ x :: r) (some (l.length : Int)) none = x :: r := by rw [cut_drop _ rfl, List.drop_left]
theorem cr1 : cutU (l ++ x :: r) (some ((l.length : Int) + 1)) none = r := by
  rw [cut_drop (n := l.length + 1) _ (by omega), List.drop_length_add_append]
  rfl
end
theorem shwD_kp {T T' : Sto} {v : U} {k b : Nat} (h : RpD T v k b) (hk : k ≤ 66) (e : Kp T T') : shwD T' v = shwD T v := by
  obtain ⟨d, h1, _⟩ := h
  have e1 := h1 66 hk
  unfold shwD
  rw [e1, datD_kp e 66 v d e1]
end Mx
set_option Elab.async false
set_option linter.all false
set_option maxRecDepth 100000
set_option maxHeartbeats 4000000
namespace Mx
open PySem PySem.Spec L2 Lf
def isN : U → Bool
  | .int _ => true
  | _ => false
def entOk (n m : Int) : U → Bool
  | .tup [.int a, .int b] => (decide (0 ≤ a) && decide (a ≤ m)) && (decide (0 ≤ b) && decide (b < n))
  | _ => false
theorem entry_ok {n m : Int} {T : Sto} {u : U} {k b : Nat} (h : RpD T u k b) (hb : b < 1000000) {Q : U → Sto → Prop} (q : ∀ os, Q (.bl (entOk n m u)) (T ++ os)) : Wp (kdG .len 3 Fn.g_is_entry [.int n, .int m, u] T) Q := by
  refine len_wp rfl (gDef_wp ?_)
  unfold Fn.f_is_entry
  have q0 : entOk n m u = false → ∀ os, Q (.bl false) (T ++ os) := fun e os => by have := q os; rwa [e] at this
  have q00 : entOk n m u = false → Q (.bl false) T := fun e => by have := q0 e []; rwa [List.append_nil] at this
  bv_omega
  refine isiT h ?_
  by_cases ht : ∃ xs, u = .tup xs
  rotate_left
  · have hf : entOk n m u = false := by
      cases u with
      | tup xs => exact absurd ⟨xs, rfl⟩ ht
      | _ => rfl
    cases u with
    | tup xs => exact absurd ⟨xs, rfl⟩ ht
    | _ =>
      bv_omega
      exact q00 hf
  obtain ⟨xs, rfl⟩ := ht
  obtain ⟨hl, hm⟩ := RpD.mem h
  bv_omega
  refine v_ifd (fun h2 => ?_) (fun h2 => ?_)
  · bv_omega
    refine q00 ?_
    unfold entOk
    split
    · rename_i e; cases e; exact absurd rfl h2
    · rfl
  obtain ⟨x, c, rfl⟩ := len2 (xs := xs) (by omega)
  have hx := hm x (List.mem_cons_self ..)
  have hc := hm c (List.mem_cons_of_mem _ (List.mem_cons_self ..))
  bv_omega
  refine wp_lcI2 itsOk_const (fun i acc T' => T' = T ∧ acc = ([isN x, isN c].take i).map .bl ∧ i ≤ 2) ⟨rfl, rfl, by decide⟩ (fun _ _ _ _ => trivial) (fun i y acc T' hi ⟨eT, ea, hil⟩ => ?_) (fun acc T' ⟨eT, ea, hil⟩ => ?_)
  · subst eT
    have hil2 : i < 2 := (List.getElem?_eq_some_iff.mp hi).1
    have hy : RpD T' y _ _ := hm y (List.mem_of_getElem? hi)
    have hz : [isN x, isN c][i]? = some (isN y) := by
      match i, hil2 with
      | 0, _ => have := Option.some.inj (show some x = some y from hi); subst this; rfl
      | 1, _ => have := Option.some.inj (show some c = some y from hi); subst this; rfl
    cases y with
    | int z =>
      bv_omega
      refine ⟨by rw [ea, List.length_map, List.length_take]; simp; omega, rfl, ?_, by omega⟩
      rw [ea, take_snoc hz, List.map_append]; rfl
    | bl z =>
      bv_omega
      refine v_isiG (n := "bool") rfl (b := true) (by decide +kernel) ?_
      bv_omega
      refine v_isiG (n := "bool") rfl (b := true) (by decide +kernel) ?_
      bv_omega
      refine ⟨by rw [ea, List.length_map, List.length_take]; simp; omega, rfl, ?_, by omega⟩
      rw [ea, take_snoc hz, List.map_append]; rfl
    | _ =>
      obtain ⟨nm, h1, h2, _, _⟩ := RpD.ty hy
      rcases h2 with ⟨_, e⟩ | ⟨_, e⟩ | h2
      · cases e
      · cases e
      bv_omega
      refine v_isiG h1 h2 ?_
      bv_omega
      refine ⟨by rw [ea, List.length_map, List.length_take]; simp; omega, rfl, ?_, by omega⟩
      rw [ea, take_snoc hz, List.map_append]; rfl
  · subst eT
    rw [List.take_of_length_le (by simp)] at ea
    subst ea
    have hq1 := q [O.lst ([isN x, isN c].map U.bl)]
    have hq0 := fun e => q0 e [O.lst ([isN x, isN c].map U.bl)]
    have hl1 := ap0 (T := T') (o := O.lst ([isN x, isN c].map U.bl))
    generalize T' ++ [O.lst ([isN x, isN c].map U.bl)] = T1 at hq1 hq0 hl1 ⊢
    generalize T'.length = k1 at hl1 ⊢
    bv_omega
    refine v_allM hl1 ?_
    by_cases hxc : (∃ a, x = .int a) ∧ ∃ a, c = .int a
    · obtain ⟨⟨a, rfl⟩, c, rfl⟩ := hxc
      rw [show [isN (.int a), isN (.int c)].all id = true from rfl]
      have e0 : entOk n m (.tup [.int a, .int c]) = ((decide (0 ≤ a) && decide (a ≤ m)) && (decide (0 ≤ c) && decide (c < n))) := rfl
      rw [e0] at hq1
      by_cases h1 : 0 ≤ a
      · by_cases h2 : a ≤ m
        · by_cases h3 : 0 ≤ c
          · rw [decide_eq_true h1, decide_eq_true h2, decide_eq_true h3] at hq1
            bv_omega
            exact hq1
          · rw [decide_eq_true h1, decide_eq_true h2, decide_eq_false h3] at hq1
            bv_omega
            exact hq1
        · rw [decide_eq_true h1, decide_eq_false h2] at hq1
          bv_omega
          exact hq1
      · rw [decide_eq_false h1] at hq1
        bv_omega
        exact hq1
    · have hf : [isN x, isN c].all id = false := by
        show (isN x && (isN c && true)) = false
        cases x with
        | int a =>
          cases c with
          | int d => exact absurd ⟨⟨_, rfl⟩, _, rfl⟩ hxc
          | _ => rfl
        | _ => rfl
      rw [hf]
      bv_omega
      refine hq0 ?_
      unfold entOk
      split
      · rename_i e; cases e; exact absurd ⟨⟨_, rfl⟩, _, rfl⟩ hxc
      · rfl
def el (p : Int) : U → Bool
  | .int a => decide (0 ≤ a) && decide (a < p)
  | _ => false
theorem elem_ok {p : Int} {T : Sto} {u : U} {k b : Nat} (h : RpD T u k b) {Q : U → Sto → Prop} (q : Q (.bl (el p u)) T) : Wp (kdG .len 2 Fn.g_law_element [.int p, u] T) Q := by
  refine len_wp rfl (gDef_wp ?_)
  unfold Fn.f_law_element
  cases u with
  | int i =>
    have q : Q (.bl (decide (0 ≤ i) && decide (i < p))) T := q
    by_cases h1 : 0 ≤ i
    · rw [decide_eq_true h1] at q
      bv_omega
      exact q
    · rw [decide_eq_false h1] at q
      bv_omega
      exact q
  | bl i =>
    bv_omega
    refine v_isiG (n := "bool") rfl (b := true) (by decide +kernel) ?_
    bv_omega
    refine v_isiG (n := "bool") rfl (b := true) (by decide +kernel) ?_
    bv_omega
    exact q
  | _ =>
    obtain ⟨nm, h1, h2, _, _⟩ := RpD.ty h
    rcases h2 with ⟨_, e⟩ | ⟨_, e⟩ | h2
    · cases e
    · cases e
    · bv_omega
      refine v_isiG h1 h2 ?_
      bv_omega
      exact q
end Mx
set_option Elab.async false
set_option linter.all false
set_option maxRecDepth 100000
set_option maxHeartbeats 4000000
namespace Mx
open PySem PySem.Spec L2 Lf
def ofU : U → Int × Int
  | .tup [.int a, .int b] => (a, b)
  | _ => (0, 0)
theorem ofU_prU (p : Int × Int) : ofU (prU p) = p := rfl
def ltB (p q : Int × Int) : Bool := decide (p.1 < q.1 ∨ (p.1 = q.1 ∧ p.2 < q.2))
def adj (ps : List (Int × Int)) : List Bool := (List.range (ps.length - 1)).map fun i => ltB (ps.getD i (0, 0)) (ps.getD (i + 1) (0, 0))
theorem adj_len (ps : List (Int × Int)) : (adj ps).length = ps.length - 1 := by unfold adj; rw [List.length_map, List.length_range]
theorem adj_at {ps : List (Int × Int)} {i : Nat} {p q : Int × Int} (h1 : ps[i]? = some p) (h2 : ps[i + 1]? = some q) : (adj ps)[i]? = some (ltB p q) := by
  have := (List.getElem?_eq_some_iff.mp h2).1
  unfold adj
  rw [List.getElem?_map, List.getElem?_range (by omega)]
  show some (ltB (ps.getD i (0, 0)) (ps.getD (i + 1) (0, 0))) = _
  rw [List.getD_eq_getElem?_getD, List.getD_eq_getElem?_getD, h1, h2]; rfl
def planB (n m : Int) : U → Bool
  | .tup xs => xs.all (entOk n m) && (adj (xs.map ofU)).all id
  | _ => false
theorem ent_pr {n m : Int} {u : U} (h : entOk n m u = true) : u = prU (ofU u) := by
  unfold entOk at h
  split at h
  · rfl
  · cases h
theorem all_pr {n m : Int} : ∀ {xs : List U}, xs.all (entOk n m) = true → xs = (xs.map ofU).map prU
  | [], _ => rfl
  | x :: xs, h => by
    rw [List.all_cons, Bool.and_eq_true] at h
    rw [List.map_cons, List.map_cons, ← ent_pr h.1, ← all_pr h.2]
theorem all_map {n m : Int} (xs : List U) : (xs.map (entOk n m)).all id = xs.all (entOk n m) := by
  rw [List.all_map]; rfl
theorem of_prs (ps : List (Int × Int)) : (ps.map prU).map ofU = ps := by
  rw [List.map_map]
  exact (List.map_congr_left fun p _ => ofU_prU p).trans (List.map_id _)
theorem sqN_tup' {xs : List U} {T : Sto} : sqN (.tup xs) T = some xs.length := rfl
theorem sqAt_tup' {xs : List U} {T : Sto} : sqAt (.tup xs) xs.length T = some xs := by simp [sqAt]
theorem plan_ok {n m : Int} {prog : U} {T : Sto} {u : U} {k b : Nat} (h : RpD T u k b) (hb : b < 1000000) {Q : U → Sto → Prop} (q : ∀ os, Q (.bl (planB n m u)) (T ++ os)) : Wp (kdG .len 4 Fn.g_is_plan [.int n, prog, .int m, u] T) Q := by
  refine len_wp rfl (gDef_wp ?_)
  unfold Fn.f_is_plan
  have q00 : planB n m u = false → Q (.bl false) T := fun e => by have := q []; rwa [e, List.append_nil] at this
  bv_omega
  refine isiT h ?_
  by_cases ht : ∃ xs, u = .tup xs
  rotate_left
  · have hf : planB n m u = false := by
      cases u with
      | tup xs => exact absurd ⟨xs, rfl⟩ ht
      | _ => rfl
    cases u with
    | tup xs => exact absurd ⟨xs, rfl⟩ ht
    | _ =>
      bv_omega
      exact q00 hf
  obtain ⟨xs, rfl⟩ := ht
  obtain ⟨hl, hm⟩ := RpD.mem h
  bv_omega
  refine wp_lcI2 itsOk_const (fun i acc T' => (∃ os, T' = T ++ os) ∧ acc = ((xs.map (entOk n m)).take i).map .bl ∧ i ≤ xs.length) ⟨⟨[], (List.append_nil T).symm⟩, rfl, Nat.zero_le _⟩ (fun _ _ _ _ => trivial) (fun i y acc T' hi ⟨⟨os, eT⟩, ea, hil⟩ => ?_) (fun acc T' ⟨⟨os, eT⟩, ea, hil⟩ => ?_)
  · have hil2 := (List.getElem?_eq_some_iff.mp hi).1
    have hy : RpD T' y k b := by rw [eT]; exact (hm y (List.mem_of_getElem? hi)).kp (Kp.app T os)
    have hz : (xs.map (entOk n m))[i]? = some (entOk n m y) := by rw [List.getElem?_map, hi]; rfl
    bv_omega
    refine entry_ok hy hb fun os2 => ?_
    refine ⟨by rw [ea, List.length_map, List.length_take, List.length_map]; omega, ⟨os ++ os2, by rw [eT, List.append_assoc]⟩, ?_, by omega⟩
    rw [ea, take_snoc hz, List.map_append]; rfl
  rw [List.take_of_length_le (by rw [List.length_map]; exact Nat.le_refl _)] at ea
  subst ea eT
  have hl1 := ap0 (T := T ++ os) (o := O.lst ((xs.map (entOk n m)).map U.bl))
  have hq1 := fun os2 => q (os ++ ([O.lst ((xs.map (entOk n m)).map U.bl)] ++ os2))
  simp only [← List.append_assoc] at hq1
  generalize T ++ os ++ [O.lst ((xs.map (entOk n m)).map U.bl)] = T1 at hl1 hq1 ⊢
  generalize (T ++ os).length = k1 at hl1 ⊢
  bv_omega
  refine v_allM hl1 ?_
  rw [all_map]
  cases ha : xs.all (entOk n m) with
  | false =>
    have hf : planB n m (.tup xs) = false := by show (xs.all (entOk n m) && _) = false; rw [ha]; rfl
    have := hq1 []
    rw [hf, List.append_nil] at this
    bv_omega
    exact this
  | true =>
    have hp : planB n m (.tup xs) = (adj (xs.map ofU)).all id := by show (xs.all (entOk n m) && _) = _; rw [ha]; rfl
    rw [hp] at hq1
    have hxs := all_pr ha
    generalize xs.map ofU = ps at hxs hq1
    subst hxs
    rw [List.length_map] at hl
    bv_omega
    refine v_zip2 ?_
    bv_omega
    rw [show cutU (ps.map prU) (some 1) none = (ps.map prU).drop 1 from cut_drop (n := 1) _ rfl]
    refine ⟨_, _, _, _, rfl, sqN_tup', sqN_tup', ?_⟩
    have hzl : (z2 (ps.map prU) ((ps.map prU).drop 1)).length = ps.length - 1 := by rw [z2_len, List.length_drop, List.length_map]; omega
    refine wp_lcI2 (itsOk_zip2 rfl rfl) (fun i acc T' => T' = T1 ∧ acc = ((adj ps).take i).map .bl ∧ i ≤ ps.length) ⟨rfl, rfl, Nat.zero_le _⟩ (fun i acc T' h => ⟨sqAt_tup', sqAt_tup'⟩) (fun i y acc T' hi ⟨eT, ea, hil⟩ => ?_) (fun acc T' ⟨eT, ea, hil⟩ => ?_)
    · subst eT
      obtain ⟨y1, y2, e1, e2, rfl⟩ := z2_inv hi
      rw [List.getElem?_drop] at e2
      rw [List.getElem?_map] at e1 e2
      obtain ⟨a, ha1, rfl⟩ := Option.map_eq_some_iff.mp e1
      obtain ⟨c, hc1, rfl⟩ := Option.map_eq_some_iff.mp e2
      rw [Nat.add_comm] at hc1
      have hz := adj_at ha1 hc1
      have hj := (List.getElem?_eq_some_iff.mp hc1).1
      unfold prU
      bv_omega
      refine v_ltP ?_
      refine ⟨by rw [ea, List.length_map, List.length_take, adj_len]; omega, rfl, ?_, by omega⟩
      rw [ea, take_snoc hz, List.map_append]; rfl
    · subst eT
      rw [hzl, List.take_of_length_le (by rw [adj_len]; exact Nat.le_refl _)] at ea
      subst ea
      have := hq1 [O.lst ((adj ps).map U.bl)]
      bv_omega
      refine v_allM ap0 ?_
      bv_omega
      exact this
theorem ent_el {n m : Int} {a c : U} : entOk n m (.tup [a, c]) = (el (m + 1) a && el n c) := by
  cases a with
  | int a =>
    cases c with
    | int c =>
      show (decide (0 ≤ a) && decide (a ≤ m) && (decide (0 ≤ c) && decide (c < n))) = ((decide (0 ≤ a) && decide (a < m + 1)) && (decide (0 ≤ c) && decide (c < n)))
      rw [show decide (a < m + 1) = decide (a ≤ m) from decide_eq_decide.mpr (by omega)]
    | _ => show false = (_ && false); rw [Bool.and_false]
  | _ => rfl
theorem due_ok {n m : Int} {T : Sto} {u : U} {k b : Nat} (h : RpD T u k b) (hb : b < 1000000) {Q : U → Sto → Prop} (q : ∀ os, Q (.bl (planB n m u)) (T ++ os)) : Wp (kdG .len 3 Fn.g_law_due [.int n, .int m, u] T) Q := by
  refine len_wp rfl (gDef_wp ?_)
  unfold Fn.f_law_due
  have q00 : planB n m u = false → Q (.bl false) T := fun e => by have := q []; rwa [e, List.append_nil] at this
  bv_omega
  refine isiT h ?_
  by_cases ht : ∃ xs, u = .tup xs
  rotate_left
  · have hf : planB n m u = false := by
      cases u with
      | tup xs => exact absurd ⟨xs, rfl⟩ ht
      | _ => rfl
    cases u with
    | tup xs => exact absurd ⟨xs, rfl⟩ ht
    | _ =>
      bv_omega
      exact q00 hf
  obtain ⟨xs, rfl⟩ := ht
  obtain ⟨hl, hm⟩ := RpD.mem h
  have bad : ∀ x ∈ xs, entOk n m x = false → planB n m (.tup xs) = false := fun x hx e => by
    show (xs.all (entOk n m) && _) = false
    have : xs.all (entOk n m) = false := by
      rw [List.all_eq_false]
      exact ⟨x, hx, by rw [e]; decide⟩
    rw [this]; rfl
  bv_omega
  refine wp_forC (fun rest η T1 => T1 = T ∧ ∃ (done : List U) (o3 : Option U), xs = done ++ rest ∧ done.all (entOk n m) = true ∧ η = [some (.int n), some (.int m), some (.tup xs), o3, none]) ⟨rfl, [], _, rfl, rfl, rfl⟩ (fun x rest η T1 ⟨eT, done, o3, ex, hd, e⟩ => ?_) (fun η T1 ⟨eT, done, o3, ex, hd, e⟩ => ?_)
  · subst e eT
    have hxx : x ∈ xs := by rw [ex]; exact List.mem_append_right _ (List.mem_cons_self ..)
    have enx : xs = (done ++ [x]) ++ rest := by rw [ex]; simp
    have hx := hm x hxx
    bv_omega
    refine isiT hx ?_
    by_cases ht : ∃ ys, x = .tup ys
    rotate_left
    · have hf : entOk n m x = false := by
        cases x with
        | tup ys => exact absurd ⟨ys, rfl⟩ ht
        | _ => rfl
      have := q00 (bad x hxx hf)
      cases x with
      | tup ys => exact absurd ⟨ys, rfl⟩ ht
      | _ =>
        bv_omega
        exact this
    obtain ⟨ys, rfl⟩ := ht
    obtain ⟨hyl, hym⟩ := RpD.mem hx
    bv_omega
    refine v_ifd (fun h2 => ?_) (fun h2 => ?_)
    · have hf : entOk n m (.tup ys) = false := by
        unfold entOk
        split
        · rename_i e; cases e; exact absurd rfl h2
        · rfl
      have := q00 (bad _ hxx hf)
      bv_omega
      exact this
    obtain ⟨a, c, rfl⟩ := len2 (xs := ys) (by omega)
    have ha := hym a (List.mem_cons_self ..)
    have hc := hym c (List.mem_cons_of_mem _ (List.mem_cons_self ..))
    have hel := ent_el (n := n) (m := m) (a := a) (c := c)
    have hi0 : atI [a, c] 0 = some a := rfl
    have hi1 : atI [a, c] 1 = some c := rfl
    bv_omega
    refine elem_ok ha ?_
    cases h1 : el (m + 1) a with
    | false =>
      rw [h1] at hel
      have := q00 (bad _ hxx (by rw [hel]; rfl))
      bv_omega
      exact this
    | true =>
      bv_omega
      refine elem_ok hc ?_
      cases h3 : el n c with
      | false =>
        rw [h1, h3] at hel
        have := q00 (bad _ hxx (by rw [hel]; rfl))
        bv_omega
        exact this
      | true =>
        rw [h1, h3] at hel
        bv_omega
        refine ⟨rfl, done ++ [.tup [a, c]], _, enx, ?_, rfl⟩
        rw [List.all_append, hd, List.all_cons, hel]; rfl
  · subst e eT
    rw [List.append_nil] at ex
    subst ex
    have hp : planB n m (.tup xs) = (adj (xs.map ofU)).all id := by show (xs.all (entOk n m) && _) = _; rw [hd]; rfl
    rw [hp] at q
    have hxs := all_pr hd
    generalize xs.map ofU = ps at hxs q
    subst hxs
    rw [List.length_map] at hl
    bv_omega
    try rw [List.length_map]
    try refine v_rg1 (small62_of (by omega) (by omega)) ?_
    bv_omega
    refine wp_lcI2 itsOk_const (fun i acc T' => T' = T1 ∧ acc = ((adj ps).take i).map .bl ∧ i ≤ ps.length) ⟨rfl, rfl, Nat.zero_le _⟩ (fun _ _ _ _ => trivial) (fun i y acc T' hi ⟨eT, ea, hil⟩ => ?_) (fun acc T' ⟨eT, ea, hil⟩ => ?_)
    · subst eT
      obtain ⟨hin, rfl⟩ := rgU_at hi
      have hin : i + 1 < ps.length := by omega
      obtain ⟨p, hp1⟩ : ∃ p, ps[i]? = some p := ⟨_, List.getElem?_eq_getElem (by omega)⟩
      obtain ⟨r, hr1⟩ : ∃ r, ps[i + 1]? = some r := ⟨_, List.getElem?_eq_getElem hin⟩
      have hz := adj_at hp1 hr1
      have hx1 : atI (ps.map prU) (i : Int) = some (.tup [.int p.1, .int p.2]) := atI_nat (by rw [List.getElem?_map, hp1]; rfl)
      have hx2 : atI (ps.map prU) ((i : Int) + 1) = some (.tup [.int r.1, .int r.2]) := by
        have := atI_nat (xs := ps.map prU) (i := i + 1) (u := prU r) (by rw [List.getElem?_map, hr1]; rfl)
        rwa [show ((i + 1 : Nat) : Int) = (i : Int) + 1 by omega] at this
      bv_omega
      refine v_ltP ?_
      refine ⟨by rw [ea, List.length_map, List.length_take, adj_len]; omega, rfl, ?_, by omega⟩
      rw [ea, take_snoc hz, List.map_append]; rfl
    · subst eT
      rw [List.take_of_length_le (by rw [adj_len, rgU_len]; omega)] at ea
      subst ea
      have := q [O.lst ((adj ps).map U.bl)]
      bv_omega
      refine v_allM ap0 ?_
      bv_omega
      exact this
end Mx
set_option Elab.async false
set_option linter.all false
set_option maxRecDepth 100000
set_option maxHeartbeats 4000000
namespace Mx
open PySem PySem.Spec L2 Lf
theorem PE.msk {i b : Nat} {T T' : Sto} (e : PE i b T T') : Kp (Lf.msk i T) (Lf.msk i T') :=
  ⟨fun j xs h => by
    obtain ⟨h1, h2⟩ := msk_at h fun _ _ z => nomatch z
    rw [msk_ne h1]
    exact e.at_ h2 h1, fun j xs h => by
    obtain ⟨h1, h2⟩ := msk_at h fun _ _ z => nomatch z
    rw [msk_ne h1]
    exact e.at_ h2 h1⟩
theorem some_ok {i : Nat} {T1 : Sto} {v : U} {k b c : Nat} (a : ∃ o, T1[i]? = some o ∧ PotB c o) (hc : c ≤ 90000) (hv : RpD (Lf.msk i T1) v k b) {P : U → Sto → Prop} (q : ∀ u T', PE i (c + 1) T1 T' → RpD (Lf.msk i T') u (k + 3) (2 * b + 40) → P u T') :
    Wp (kdG .len 2 Fn.g_law_of [.ob i, .ob (T1 ++ [O.lst []] ++ [O.dic []] ++ [O.lst [v]]).length] (T1 ++ [O.lst []] ++ [O.dic []] ++ [O.lst [v]] ++ [O.lst [U.non, U.bl true, U.bl false, U.str (Str.ofString ""), U.str (Str.ofString "sum"), U.str (Str.ofString "apart"), U.tup [], U.ob (List.length T1), U.ob (List.length (T1 ++ [O.lst []])), U.int (-1), U.int 0, U.int 1, U.int 2, U.int 1000000000000000000000000000000, U.tup [U.int 0], U.ob (List.length (T1 ++ [O.lst []] ++ [O.dic []])), U.tup [v]]])) P := by
  have hi := lt_at a.choose_spec.1
  have E0 : PE i c T1 (T1 ++ [O.lst []] ++ [O.dic []] ++ [O.lst [v]] ++ [O.lst [U.non, U.bl true, U.bl false, U.str (Str.ofString ""), U.str (Str.ofString "sum"), U.str (Str.ofString "apart"), U.tup [], U.ob (List.length T1), U.ob (List.length (T1 ++ [O.lst []])), U.int (-1), U.int 0, U.int 1, U.int 2, U.int 1000000000000000000000000000000, U.tup [U.int 0], U.ob (List.length (T1 ++ [O.lst []] ++ [O.dic []])), U.tup [v]]]) := (((PE.refl a).app.app).app).app
  generalize eX : [U.non, U.bl true, U.bl false, U.str (Str.ofString ""), U.str (Str.ofString "sum"), U.str (Str.ofString "apart"), U.tup [], U.ob (List.length T1), U.ob (List.length (T1 ++ [O.lst []])), U.int (-1), U.int 0, U.int 1, U.int 2, U.int 1000000000000000000000000000000, U.tup [U.int 0], U.ob (List.length (T1 ++ [O.lst []] ++ [O.dic []])), U.tup [v]] = X at E0 ⊢
  have lX : X.length = 17 := by rw [← eX]; rfl
  have l1 : (T1 ++ [O.lst []] ++ [O.dic []] ++ [O.lst [v]] ++ [O.lst X])[T1.length]? = some (.lst []) := ap (ap (ap ap0))
  have l2 : (T1 ++ [O.lst []] ++ [O.dic []] ++ [O.lst [v]] ++ [O.lst X])[(T1 ++ [O.lst []]).length]? = some (.dic []) := ap (ap ap0)
  have l3 : (T1 ++ [O.lst []] ++ [O.dic []] ++ [O.lst [v]] ++ [O.lst X])[(T1 ++ [O.lst []] ++ [O.dic []]).length]? = some (.lst [v]) := ap ap0
  have l4 := ap0 (T := T1 ++ [O.lst []] ++ [O.dic []] ++ [O.lst [v]]) (o := O.lst X)
  have n1 : i ≠ T1.length := by omega
  have n2 : i ≠ (T1 ++ [O.lst []]).length := by simp; omega
  have n3 : i ≠ (T1 ++ [O.lst []] ++ [O.dic []]).length := by simp; omega
  have n4 : i ≠ (T1 ++ [O.lst []] ++ [O.dic []] ++ [O.lst [v]]).length := by simp; omega
  generalize T1 ++ [O.lst []] ++ [O.dic []] ++ [O.lst [v]] ++ [O.lst X] = B at E0 l1 l2 l3 l4 ⊢
  generalize (T1 ++ [O.lst []] ++ [O.dic []] ++ [O.lst [v]]).length = j4 at l4 n4 ⊢
  refine of_pot E0.pot (by omega) l4 n4 (fun e => by rw [e] at lX; cases lX) (by omega) fun x T' hx e1 _ => ?_
  have E1 := E0.trans e1
  have hv' := hv.kp E1.msk
  have m1 : (Lf.msk i T')[T1.length]? = some (.lst []) := by rw [msk_ne (Ne.symm n1)]; exact e1.at_ l1 (Ne.symm n1)
  have m2 : (Lf.msk i T')[(T1 ++ [O.lst []]).length]? = some (.dic []) := by rw [msk_ne (Ne.symm n2)]; exact e1.at_ l2 (Ne.symm n2)
  have m3 : (Lf.msk i T')[(T1 ++ [O.lst []] ++ [O.dic []]).length]? = some (.lst [v]) := by rw [msk_ne (Ne.symm n3)]; exact e1.at_ l3 (Ne.symm n3)
  refine q x T' E1 ?_
  clear l1 l2 l3 l4 E0 e1 q lX E1
  subst eX
  simp only [List.mem_cons, List.not_mem_nil, or_false] at hx
  rcases hx with rfl | rfl | rfl | rfl | rfl | rfl | rfl | rfl | rfl | rfl | rfl | rfl | rfl | rfl | rfl | rfl | rfl
  · exact .mono .non (by omega) (by omega)
  · exact .mono (.bl _) (by omega) (by omega)
  · exact .mono (.bl _) (by omega) (by omega)
  · exact (rpS (k := 0) (n := 10) (by decide +kernel) (by decide +kernel)).mono (by omega) (by omega)
  · exact (rpS (k := 0) (n := 10) (by decide +kernel) (by decide +kernel)).mono (by omega) (by omega)
  · exact (rpS (k := 0) (n := 10) (by decide +kernel) (by decide +kernel)).mono (by omega) (by omega)
  · exact (RpD.tup RpDs.nil).mono (k := 1) (b := 0) (by omega) (by omega)
  · exact (RpD.ob (k := 0) m1 RpDs.nil).mono (by omega) (by omega)
  · exact (RpD.dic0 m2).mono (by omega) (by omega)
  · exact (RpD.int (by decide +kernel)).mono (by omega) (by omega)
  · exact (RpD.int (by decide +kernel)).mono (by omega) (by omega)
  · exact (RpD.int (by decide +kernel)).mono (by omega) (by omega)
  · exact (RpD.int (by decide +kernel)).mono (by omega) (by omega)
  · exact (RpD.int (by decide +kernel)).mono (by omega) (by omega)
  · exact (RpD.tup (RpDs.one (RpD.int (i := 0) (by decide +kernel)))).mono (by omega) (by omega)
  · exact (RpD.ob m3 (RpDs.one hv')).mono (by omega) (by omega)
  · exact (RpD.tup (RpDs.one hv')).mono (by omega) (by omega)
theorem odd_ok {i : Nat} : ∀ (k m : Nat), k < m → ∀ (T : Sto) (v : U) (b c : Nat) (Q : U → Sto → Prop), b ≤ 100000 → (∃ o, T[i]? = some o ∧ PotB c o) → c + 3 * (k + 1) ≤ 90000 → RpD (Lf.msk i T) v k b →
    (∀ u T', PE i (c + 3 * (k + 1)) T T' → RpD (Lf.msk i T') u (k + 3) (2 * b + 40) → Q u T') → Wp (kdG .len 2 (Fn.g_law_odd m) [.ob i, v] T) Q := by
  intro k
  induction k using Nat.strongRecOn with
  | ind k ih =>
    intro m hm T v b c Q hb a hc hv q
    obtain ⟨m, rfl⟩ : ∃ m', m = m' + 1 := ⟨m - 1, by omega⟩
    refine len_wp rfl ?_
    show Wp (gDef 5 (Fn.f_law_odd (Fn.g_law_odd m)) _ _) _
    refine gDef_wp ?_
    unfold Fn.f_law_odd
    have h30 : (10 : Int) ^ Int.toNat 30 = 1000000000000000000000000000000 := by decide +kernel
    bv_omega
    refine take_pot a (by omega) (by decide) (by decide) fun w T1 w0 w1 e1 _ => ?_
    have hv1 := hv.kp e1.msk
    bv_omega
    refine isiT (hv1.kp Kp.msk) ?_
    by_cases ht : ∃ xs, v = .tup xs
    rotate_left
    · cases v with
      | tup xs => exact absurd ⟨xs, rfl⟩ ht
      | _ =>
        bv_omega
        rw [h30]
        bv_omega
        refine some_ok e1.pot (by omega) hv1 fun u T' e h => ?_
        bv_omega
        exact q u T' ((e1.trans e).mono (by omega)) h
    obtain ⟨xs, rfl⟩ := ht
    bv_omega
    refine v_eqT0 ?_
    cases hxs : xs with
    | nil =>
      rw [hxs] at hv1
      rw [List.isEmpty_nil]
      bv_omega
      rw [h30]
      bv_omega
      refine some_ok e1.pot (by omega) hv1 fun u T' e h => ?_
      bv_omega
      exact q u T' ((e1.trans e).mono (by omega)) h
    | cons x0 r0 =>
      rw [List.isEmpty_cons, ← hxs]
      have hlen : 0 < xs.length := by rw [hxs]; simp
      clear hxs
      bv_omega
      refine v_ifd (fun hj => ?_) (fun hj => ?_)
      · bv_omega
        rw [h30]
        bv_omega
        refine some_ok e1.pot (by omega) hv1 fun u T' e h => ?_
        bv_omega
        exact q u T' ((e1.trans e).mono (by omega)) h
      bv_omega
      obtain ⟨k', rfl, hds⟩ := RpD.tup_inv hv1
      have hlb := RpDs.len hds
      refine take_pot e1.pot (by omega) (by omega) (by omega) fun j T2 j0 j1 e2 _ => ?_
      have e13 := e1.trans e2
      obtain ⟨l, x, r, rfl, rfl⟩ : ∃ l x r, j = ((l : List U).length : Int) ∧ xs = l ++ x :: r := by
        have hj : j.toNat < xs.length := by omega
        refine ⟨xs.take j.toNat, xs[j.toNat], xs.drop (j.toNat + 1), ?_, ?_⟩
        · rw [List.length_take]; omega
        · rw [← List.drop_eq_getElem_cons hj, List.take_append_drop]
      have hds2 := RpDs.kp e2.msk hds
      obtain ⟨b1, b2, d1, d2, d3⟩ := RpDs.split hds2
      obtain ⟨b4, b5, d4, d5, d6⟩ := RpDs.inv d2
      have hl1 := RpDs.len d1
      have hl2 := RpDs.len d5
      have ix : atI (l ++ x :: r) (l.length : Int) = some x := by
        unfold atI ixN
        rw [if_pos (by omega), if_pos (by simp; omega)]
        simp
      bv_omega
      refine v_ifd (fun hw => ?_) (fun hw => ?_)
      · bv_omega
        rw [cl0, cr1]
        refine v_addT (by omega) ?_
        bv_omega
        exact q _ _ (e13.mono (by omega)) (.mono (.tup (RpDs.app d1 d5)) (by omega) (by omega))
      bv_omega
      refine v_ifd (fun hw => ?_) (fun hw => ?_)
      · bv_omega
        rw [cl1, cr0]
        refine v_addT (by simp; omega) ?_
        bv_omega
        exact q _ _ (e13.mono (by omega)) (.mono (.tup (RpDs.app (RpDs.app d1 (RpDs.one d4)) d2)) (by omega) (by omega))
      bv_omega
      refine v_ifd (fun hw => ?_) (fun hw => ?_)
      · bv_omega
        have hi2 := lt_at e13.pot.choose_spec.1
        have e34 : PE i (c + 1 + 1) T (T2 ++ [O.lst (l ++ x :: r)]) := e13.app
        have hk34 : Kp (Lf.msk i T2) (Lf.msk i (T2 ++ [O.lst (l ++ x :: r)])) := PE.msk (PE.app (PE.refl e13.pot))
        refine q _ _ (e34.mono (by omega)) (.mono (.ob (us := l ++ x :: r) ?_ (RpDs.kp hk34 hds2)) (by omega) (by omega))
        rw [msk_ne (by omega)]
        exact ap0
      bv_omega
      refine v_ifd (fun hw => ?_) (fun hw => ?_)
      · bv_omega
        try refine v_ixT ix ?_
        bv_omega
        have hi2 := lt_at e13.pot.choose_spec.1
        have e35 := PE.app (l := [O.lst [U.int 0, U.non, U.tup [], x]]) (PE.refl e13.pot)
        refine of_pot (xs := [U.int 0, U.non, U.tup [], x]) e35.pot (by omega) ap0 (by omega) (List.cons_ne_nil _ _) (by simp) fun y T4 hy e4 _ => ?_
        have E4 := e35.trans e4
        have hy2 : RpD (Lf.msk i T4) y (k' + 1) (b4 + 1) := by
          simp only [List.mem_cons, List.not_mem_nil, or_false] at hy
          rcases hy with rfl | rfl | rfl | rfl
          · exact (RpD.int (by decide +kernel)).mono (by omega) (by omega)
          · exact .mono .non (by omega) (by omega)
          · exact (RpD.tup RpDs.nil).mono (k := 1) (b := 0) (by omega) (by omega)
          · exact (d4.kp E4.msk).mono (by omega) (by omega)
        bv_omega
        refine v_addT (by simp; omega) ?_
        bv_omega
        exact q _ _ ((e13.trans E4).mono (by omega)) (.mono (.tup (RpDs.app (RpDs.mono (RpDs.kp E4.msk hds2) (Nat.le_succ k') (Nat.le_refl _)) (RpDs.one hy2))) (by omega) (by omega))
      · bv_omega
        rw [cl0]
        try refine v_ixT ix ?_
        bv_omega
        refine ih k' (Nat.lt_succ_self _) m (by omega) T2 x b4 _ _ (by omega) e13.pot (by omega) d4 fun u T4 e4 hu => ?_
        bv_omega
        have d1' := RpDs.kp e4.msk d1
        have d5' := RpDs.kp e4.msk d5
        refine v_addT (by simp; omega) ?_
        bv_omega
        rw [cr1]
        refine v_addT (by simp; omega) ?_
        bv_omega
        exact q _ _ ((e13.trans e4).mono (by omega)) (.mono (.tup (RpDs.app (RpDs.app (RpDs.mono (k' := k' + 3) d1' (by omega) (Nat.le_refl _)) (RpDs.one hu)) (RpDs.mono (k' := k' + 3) d5' (by omega) (Nat.le_refl _)))) (by omega) (by omega))
end Mx
set_option Elab.async false
set_option linter.all false
set_option maxRecDepth 100000
set_option maxHeartbeats 4000000
namespace Mx
open PySem PySem.Spec L2 Lf
theorem pot_ok {ns : List Int} {k : Int} {T : Sto} {Q : U → Sto → Prop} (hk : 0 ≤ k) (hk2 : k < 1000) (q : ∀ o, PotB 0 o → Q (.ob T.length) (T ++ [o])) : Wp (kdG .pur 2 Fn.g_law_pot [.scr ns, .int k] T) Q := by
  refine pur_wp rfl rfl (gDef_wp ?_)
  unfold Fn.f_law_pot
  have hkk : 0 ≤ 104729 * k * k ∧ 104729 * k * k ≤ 104729 * 1000 * 1000 := ⟨Int.mul_nonneg (by omega) hk, Int.mul_le_mul (by omega) (by omega) hk (by decide)⟩
  refine seq_wp (v_set (.mono (Q := fun u T1 => ∃ c, u = .int c ∧ T1 = []) ?_ ?_))
  · bv_omega
    refine v_ifd (fun h => ?_) (fun h => ?_)
    · bv_omega
      obtain ⟨x, e, _⟩ := atI_mem (xs := ns) hk h
      refine v_ixN e ?_
      exact ⟨_, rfl, rfl⟩
    · bv_omega
      rfl
  rintro _ _ ⟨c, rfl, rfl⟩
  have hpw : ∀ {η : Lo} {T : Sto} {P : U → Sto → Prop}, P (.int ((10 : Int) ^ (60 : Int).toNat)) T → Wp (fBin gPow (fC (.int 10)) (fC (.int 60)) η T) P := fun q => v_bin (v_c (v_c (v_pow ⟨by decide, by decide, by decide⟩ q)))
  generalize hA : (10 : Int) ^ (60 : Int).toNat = A at hpw
  refine seq_wp (v_set (.mono (Q := fun u T1 => ∃ M : Int, u = .int M ∧ T1 = [] ∧ 0 < M ∧ M < 2 ^ 1999) ?_ ?_))
  · have m2 : A.natAbs.log2 + A.natAbs.log2 < 1000000 := by subst hA; decide +kernel
    have m3 : (A * A).natAbs.log2 + A.natAbs.log2 < 1000000 := by subst hA; decide +kernel
    have m4 : (A * A * A).natAbs.log2 + A.natAbs.log2 < 1000000 := by subst hA; decide +kernel
    have m5 : (A * A * A * A).natAbs.log2 + A.natAbs.log2 < 1000000 := by subst hA; decide +kernel
    have b1 : 0 < A * A * A * A * A := by subst hA; decide +kernel
    have b2 : A * A * A * A * A < 2 ^ 1999 := by subst hA; decide +kernel
    exact v_bin (v_bin (v_bin (v_bin (hpw (hpw (v_mul m2 (hpw (v_mul m3 (hpw (v_mul m4 (hpw (v_mul m5 ⟨_, rfl, rfl, b1, b2⟩))))))))))))
  clear hpw
  rintro _ _ ⟨M, rfl, rfl, hp, he⟩
  clear hA A
  set_option exponentiation.threshold 4000 in
  have hm : ((if c < 0 then -c else c) % M).natAbs.log2 < 999998 := by
    have h := emod_bd (a := if c < 0 then -c else c) hp
    generalize (if c < 0 then -c else c) % M = z at h
    by_cases h0 : z.natAbs = 0
    · rw [h0]; decide
    · refine Nat.lt_trans ((Nat.log2_lt h0).mpr (?_ : z.natAbs < 2 ^ 1999)) (by decide)
      have e1 : ((z.natAbs : Nat) : Int) = z := Int.natAbs_of_nonneg h.1
      have e2 : (((2 ^ 1999 : Nat)) : Int) = (2 : Int) ^ 1999 := by decide +kernel
      omega
  bv_omega
  try refine v_mod hp ?_
  generalize (if c < 0 then -c else c) % M = z at hm ⊢
  bv_omega
  refine v_mul ?_ ?_
  · have this : ∀ b : Bool, (if b = true then (1 : Int) else 0).natAbs.log2 ≤ 1 := by decide
    exact Nat.lt_of_le_of_lt (Nat.add_le_add_left (this _) _) (by omega)
  have hc := emod_bd (a := c) (n := 2305843009213693951) (by decide)
  bv_omega
  exact ⟨rfl, q _ ⟨_, _, _, rfl, (emod_bd (by decide)).1, (emod_bd (by decide)).2, by decide, by decide⟩⟩
end Mx
set_option Elab.async false
set_option linter.all false
set_option maxRecDepth 100000
set_option maxHeartbeats 4000000
namespace Mx
open PySem PySem.Spec L2 Lf
theorem rp_prs {T : Sto} : ∀ {ps : List (Int × Int)}, (∀ p ∈ ps, bdP p) → RpDs T (ps.map prU) 1 (3 * ps.length)
  | [], _ => RpDs.mono .nil (Nat.zero_le _) (Nat.zero_le _)
  | p :: ps, h => by
    have hp := h p (List.mem_cons_self ..)
    have hb : ∀ z : Int, 0 ≤ z → z < prB → RpD T (.int z) 0 0 := fun z z0 z1 => RpD.int (by
      have h1 : z.natAbs.log2 < 100 := by
        by_cases hz : z.natAbs = 0
        · rw [hz]; decide
        · exact (Nat.log2_lt hz).mpr (by unfold prB at z1; omega)
      omega)
    have h1 : RpD T (prU p) 1 2 := RpD.mono (RpD.tup (RpDs.cons (hb p.1 hp.1 hp.2.1) (RpDs.one (hb p.2 hp.2.2.1 hp.2.2.2)))) (Nat.le_refl _) (by omega)
    have h2 := rp_prs (T := T) fun q hq => h q (List.mem_cons_of_mem _ hq)
    exact RpDs.mono (RpDs.cons h1 h2) (Nat.le_refl _) (by rw [List.length_cons]; omega)
theorem RpDs.sub {T : Sto} {k b a c : Nat} {xs : List U} (h : RpDs T xs k b) : RpDs T ((xs.take a).drop c) k b := by
  obtain ⟨b1, b2, h1, _, h3⟩ := RpDs.split (xs := xs.take a) (ys := xs.drop a) (by rw [List.take_append_drop]; exact h)
  obtain ⟨b4, b5, _, h5, h6⟩ := RpDs.split (xs := (xs.take a).take c) (ys := (xs.take a).drop c) (by rw [List.take_append_drop]; exact h1)
  exact RpDs.mono h5 (Nat.le_refl _) (by omega)
theorem RpDs.rev {T : Sto} {k : Nat} : ∀ {xs : List U} {b : Nat}, RpDs T xs k b → RpDs T xs.reverse k b
  | [], b, h => h
  | x :: xs, b, h => by
    obtain ⟨b1, b2, h1, h2, h3⟩ := RpDs.inv h
    rw [List.reverse_cons]
    exact RpDs.mono (RpDs.app (RpDs.rev h2) (RpDs.one h1)) (Nat.le_refl _) (by omega)
theorem put_mem {ps : List (Int × Int)} {p x : Int × Int} (h : x ∈ putP ps p) : x ∈ ps ∨ x = p := by
  unfold putP at h
  split at h
  · exact .inl h
  · rcases List.mem_append.mp h with h | h
    · exact .inl h
    · exact .inr (List.mem_singleton.mp h)
theorem put_nd {ps : List (Int × Int)} {p : Int × Int} (h : ps.Nodup) : (putP ps p).Nodup := by
  unfold putP
  split
  · exact h
  · rename_i hn
    rw [List.nodup_append]
    exact ⟨h, by simp, fun a ha b hb => by rw [List.mem_singleton.mp hb]; rintro rfl; exact hn ha⟩
theorem put_len {ps : List (Int × Int)} {p : Int × Int} : (putP ps p).length ≤ ps.length + 1 := by
  unfold putP
  split
  · omega
  · rw [List.length_append]; exact Nat.le_refl _
/-- bounded, distinct, sorted: a plan -/
theorem srt_plan {n m : Int} {ps : List (Int × Int)} (hnd : ps.Nodup) (hb : ∀ p ∈ ps, 0 ≤ p.1 ∧ p.1 ≤ m ∧ 0 ≤ p.2 ∧ p.2 < n) : planB n m (.tup ((srtP ps).map prU)) = true := by
  have hnd2 : (srtP ps).Nodup := (srtP_perm ps).nodup_iff.mpr hnd
  have hb2 : ∀ p ∈ srtP ps, 0 ≤ p.1 ∧ p.1 ≤ m ∧ 0 ≤ p.2 ∧ p.2 < n := fun p hp => hb p ((srtP_perm ps).mem_iff.mp hp)
  have hasc := srtP_asc ps
  generalize srtP ps = qs at hnd2 hb2 hasc
  show (((qs.map prU).all (entOk n m)) && (adj ((qs.map prU).map ofU)).all id) = true
  rw [of_prs, Bool.and_eq_true]
  refine ⟨List.all_eq_true.mpr fun x hx => ?_, List.all_eq_true.mpr fun y hy => ?_⟩
  · obtain ⟨p, hp, rfl⟩ := List.mem_map.mp hx
    obtain ⟨h1, h2, h3, h4⟩ := hb2 p hp
    show ((decide (0 ≤ p.1) && decide (p.1 ≤ m)) && (decide (0 ≤ p.2) && decide (p.2 < n))) = true
    rw [decide_eq_true h1, decide_eq_true h2, decide_eq_true h3, decide_eq_true h4]; rfl
  · unfold adj at hy
    obtain ⟨i, hi, rfl⟩ := List.mem_map.mp hy
    have hi := List.mem_range.mp hi
    have hi2 : i + 1 < qs.length := by omega
    show ltB (qs.getD i (0, 0)) (qs.getD (i + 1) (0, 0)) = true
    rw [List.getD_eq_getElem?_getD, List.getD_eq_getElem?_getD, List.getElem?_eq_getElem (by omega), List.getElem?_eq_getElem hi2]
    show ltB qs[i] qs[i + 1] = true
    have h1 := List.pairwise_iff_getElem.mp hasc i (i + 1) (by omega) hi2 (by omega)
    have h2 := List.pairwise_iff_getElem.mp hnd2 i (i + 1) (by omega) hi2 (by omega)
    generalize qs[i] = a at h1 h2 ⊢
    generalize qs[i + 1] = c at h1 h2 ⊢
    unfold ltB
    refine decide_eq_true ?_
    rcases h1 with h1 | ⟨h1, h3⟩
    · exact .inl h1
    · refine .inr ⟨h1, ?_⟩
      by_cases e : a.2 = c.2
      · exact absurd (Prod.ext h1 e) h2
      · omega
theorem case_ok {T : Sto} {i : Nat} (a : ∃ o, T[i]? = some o ∧ PotB 0 o) {Q : U → Sto → Prop} (g : ∀ T', Q (.bl true) T') : Wp (kdG .urn 1 Fn.g_law_case [.ob i] T) Q := by
  refine potW (r := []) (b' := 4000) (fun u => u = .bl true) rfl rfl a (fun o u => ?_) (fun u T' e _ _ => by subst e; exact g T')
  refine gDef_wp ?_
  unfold Fn.f_law_case
  have h18 : (10 : Int) ^ Int.toNat 18 = 1000000000000000000 := by decide +kernel
  have hp0 : ∃ o', ([o] : Sto)[0]? = some o' ∧ PotB 0 o' := ⟨o, rfl, u⟩
  bv_omega
  refine take_pot hp0 (by omega) (by decide) (by decide) fun n T1 n0 n1 e1 _ => ?_
  obtain ⟨n, hn⟩ : ∃ z : Nat, 1 + n = z := ⟨(1 + n).toNat, by omega⟩
  bv_omega
  rw [hn, h18]
  bv_omega
  refine take_pot e1.pot (by omega) (by decide) (by decide) fun r T2 r0 r1 e2 _ => ?_
  have E2 := e1.trans e2
  bv_omega
  have E2' := E2.app (l := [O.lst [U.int 3, U.int 1000000000000000000, U.int (1 + r), U.int 1]])
  refine of_pot (xs := [U.int 3, U.int 1000000000000000000, U.int (1 + r), U.int 1]) E2'.pot (by omega) ap0 (by have := lt_at E2.pot.choose_spec.1; omega) (List.cons_ne_nil _ _) (by simp) fun y T3 hy e3 _ => ?_
  have E3 := E2'.trans e3
  have hk : ∃ k : Nat, y = .int (k : Nat) ∧ k ≤ 1000000000000000000 ∧ 1 ≤ k := by
    simp only [List.mem_cons, List.not_mem_nil, or_false] at hy
    rcases hy with rfl | rfl | rfl | rfl
    · exact ⟨3, rfl, by omega, by omega⟩
    · exact ⟨1000000000000000000, rfl, by omega, by omega⟩
    · exact ⟨(1 + r).toNat, by congr 1; omega, by omega, by omega⟩
    · exact ⟨1, rfl, by omega, by omega⟩
  obtain ⟨k, rfl, hk2, hk1⟩ := hk
  clear hy
  have E3 := E3.mono (b' := 10) (by omega)
  clear e1 e2 e3 E2 E2'
  bv_omega
  refine take_pot E3.pot (by omega) (by omega) (by omega) fun t T4 t0 t1 e4 _ => ?_
  have E4 := (E3.trans e4).mono (b' := 11) (by omega)
  bv_omega
  have E4' := E4.app (l := [O.lst [U.int (2 * k + 1), U.int t, U.int 0, U.int 1]])
  refine of_pot (xs := [U.int (2 * k + 1), U.int t, U.int 0, U.int 1]) E4'.pot (by omega) ap0 (by have := lt_at E4.pot.choose_spec.1; omega) (List.cons_ne_nil _ _) (by simp) fun y T5 hy e5 _ => ?_
  have E5 := (E4'.trans e5).mono (b' := 12) (by omega)
  have hm : ∃ m : Nat, y = .int (m : Nat) ∧ m ≤ 2000000000000000002 := by
    simp only [List.mem_cons, List.not_mem_nil, or_false] at hy
    rcases hy with rfl | rfl | rfl | rfl
    · exact ⟨2 * k + 1, by congr 1, by omega⟩
    · exact ⟨t.toNat, by congr 1; omega, by omega⟩
    · exact ⟨0, rfl, by omega⟩
    · exact ⟨1, rfl, by omega⟩
  obtain ⟨m, rfl, hm⟩ := hm
  clear hy e4 E4 E4' e5 E3
  generalize hpr : U.tup [U.tup [U.str (Str.ofString "set"), U.int 0, U.int 1], U.tup [U.str (Str.ofString "loop"), U.int k, U.tup [U.tup [U.str (Str.ofString "scale"), U.int ((n : Int) - 1), U.int 0], U.tup [U.str (Str.ofString "scale"), U.int 0, U.int 1]]]] = prog at *
  bv_omega
  have hk0 : 0 ≠ T5.length := by have := lt_at E5.pot.choose_spec.1; omega
  have E5' := PE.app (l := [O.dic []]) (PE.refl E5.pot)
  refine take_pot E5'.pot (by omega) (by decide) (by decide) fun cc T6 c0 c1 e6 _ => ?_
  have E6 := E5'.trans e6
  have hd6 := e6.at_ (ap0 (T := T5) (o := O.dic [])) (Ne.symm hk0)
  bv_omega
  refine wp_forI itsOk_const (fun j η T' => PE 0 (13 + 3 * j) T5 T' ∧ j ≤ 7 ∧ ∃ (kvs : List (U × U)) (ps : List (Int × Int)) (o6 : Option U), T'[T5.length]? = some (.dic kvs) ∧ keysP kvs = some ps ∧ kvs.length ≤ j ∧ ps.length ≤ j ∧ ps.Nodup ∧ (∀ p ∈ ps, 0 ≤ p.1 ∧ p.1 ≤ (m : Int) ∧ 0 ≤ p.2 ∧ p.2 < (n : Int)) ∧ η = [some (.ob 0), some (.int n), some (.int k), some prog, some (.int m), some (.ob T5.length), o6, none, none, none, none, none])
    ⟨E6.mono (by omega), by decide, [], [], _, hd6, rfl, by simp, by simp, .nil, (fun _ h => nomatch h), by rw [← hpr]; rfl⟩ (fun _ _ _ _ => trivial) (fun j y η T' hj ⟨E, hj7, kvs, ps, o6, hd, hkp, hl1, hl2, hnd, hbd, eη⟩ => ?_) (fun η T' ⟨E, hj7, kvs, ps, o6, hd, hkp, hl1, hl2, hnd, hbd, eη⟩ => ?_)
  · subst eη
    have hjl := (List.getElem?_eq_some_iff.mp hj).1
    rw [rgU_len] at hjl
    bv_omega
    refine take_pot E.pot (by omega) (by omega) (by omega) fun t Ta t0 t1 ea _ => ?_
    have Ea := E.trans ea
    bv_omega
    have Ea' := Ea.app (l := [O.lst [U.int 0, U.int m, U.int t]])
    refine of_pot (xs := [U.int 0, U.int m, U.int t]) Ea'.pot (by omega) ap0 (by have := lt_at Ea.pot.choose_spec.1; omega) (List.cons_ne_nil _ _) (by simp) fun y Tb hy eb _ => ?_
    have Eb := Ea'.trans eb
    have ha : ∃ a : Int, y = .int a ∧ 0 ≤ a ∧ a ≤ m := by
      simp only [List.mem_cons, List.not_mem_nil, or_false] at hy
      rcases hy with rfl | rfl | rfl
      · exact ⟨0, rfl, by omega, by omega⟩
      · exact ⟨m, rfl, by omega, by omega⟩
      · exact ⟨t, rfl, by omega, by omega⟩
    obtain ⟨a, rfl, a0, a1⟩ := ha
    bv_omega
    refine take_pot Eb.pot (by omega) (by omega) (by omega) fun x Tc x0 x1 ec _ => ?_
    have Ec := (Eb.trans ec).mono (b' := 13 + 3 * (j + 1)) (by omega)
    have hdc : Tc[T5.length]? = some (.dic kvs) := ec.at_ (eb.at_ (ap (ea.at_ hd (Ne.symm hk0))) (Ne.symm hk0)) (Ne.symm hk0)
    bv_omega
    refine ⟨_, gSetT_of hdc (keysP_isT hkp) (by omega), ?_⟩
    bv_omega
    have hpl := put_len (ps := ps) (p := (a, x))
    refine ⟨Ec.set (Nat.le_refl _) hk0, by omega, putTU kvs [Sum.inl a, Sum.inl x] (.bl true), putP ps (a, x), _, List.getElem?_set_self (lt_at hdc), keysP_put hkp, ?_, by omega, put_nd hnd, fun p hp => ?_, rfl⟩
    · have : (putTU kvs [Sum.inl a, Sum.inl x] (U.bl true)).length ≤ kvs.length + 1 := by
        unfold putTU
        split
        · rw [List.length_map]; omega
        · rw [List.length_append]; exact Nat.le_refl _
      omega
    · rcases put_mem hp with h | rfl
      · exact hbd p h
      · exact ⟨a0, a1, x0, x1⟩
  subst eη
  have hc6 : (rgU 0 cc.toNat).length ≤ 6 := by rw [rgU_len]; omega
  generalize (rgU 0 cc.toNat).length = jj at E hl1 hl2 hc6
  have hbP : ∀ p ∈ ps, bdP p := fun p hp => by
    obtain ⟨h1, h2, h3, h4⟩ := hbd p hp
    unfold bdP prB
    omega
  have hplan := srt_plan hnd hbd
  have hlq : (srtP ps).length ≤ 6 := by rw [(srtP_perm ps).length_eq]; omega
  have hbq : ∀ p ∈ srtP ps, bdP p := fun p hp => hbP p ((srtP_perm ps).mem_iff.mp hp)
  bv_omega
  refine v_sortT hd hkp (by omega) hbP ?_
  generalize srtP ps = qs at hplan hlq hbq ⊢
  have hso := ap0 (T := T') (o := O.lst (qs.map prU))
  have Es := (E.app (l := [O.lst (qs.map prU)])).mono (b' := 40) (by omega)
  generalize T' ++ [O.lst (qs.map prU)] = Ts at hso Es ⊢
  generalize T'.length = ks at hso ⊢
  have hrp : RpDs (Lf.msk 0 Ts) (qs.map prU) 1 18 := RpDs.mono (rp_prs hbq) (Nat.le_refl _) (by omega)
  generalize hX : qs.map prU = X at hso hrp hplan ⊢
  have hXl : X.length ≤ 6 := by rw [← hX, List.length_map]; exact hlq
  bv_omega
  have hcl : (cutU X (some (-1)) none).length ≤ 6 := by
    unfold cutU
    rw [List.length_take, List.length_drop]; omega
  have hcr : RpDs (Lf.msk 0 Ts) (cutU X (some (-1)) none) 1 18 := by
    unfold cutU
    rw [List.take_drop]
    exact RpDs.sub hrp
  generalize cutU X (some (-1)) none = Y at hcl hcr ⊢
  refine v_addT (by omega) ?_
  bv_omega
  refine v_addT (by simp; omega) ?_
  bv_omega
  refine v_addT (by simp; omega) ?_
  bv_omega
  refine v_addT (by simp; omega) ?_
  bv_omega
  generalize hL1 : ([U.tup X, U.tup X.reverse, U.tup (X ++ Y), U.tup (X ++ [U.tup [U.int m, U.int n]]), U.tup (X ++ [U.tup [U.int ((m : Int) + 1), U.int 0]]), U.tup ([U.tup [U.int (-1), U.int 0]] ++ X)] : List U) = L1
  have l1l : L1.length = 6 := by rw [← hL1]; rfl
  generalize hk1 : (Ts ++ [O.lst L1]).length = A1
  generalize hk2 : (Ts ++ [O.lst L1] ++ [O.lst [U.int 0, U.int 0]]).length = A2
  generalize hk3 : (Ts ++ [O.lst L1] ++ [O.lst [U.int 0, U.int 0]] ++ [O.lst []]).length = A3
  generalize hL2 : ([U.tup [U.tup [U.int 0, U.bl true]], U.tup [U.tup [U.bl false, U.int 0]], U.tup [U.tup [U.int 0, U.int 0, U.int 0]], U.tup [U.tup [U.int 0]], U.tup [U.ob A1], U.ob A2, U.tup [], U.non, U.str (Str.ofString ""), U.int 0, U.ob A3] : List U) = L2
  have l2l : L2.length = 11 := by rw [← hL2]; rfl
  have hs0 := lt_at Es.pot.choose_spec.1
  have b0 : (Ts ++ [O.lst L1] ++ [O.lst [U.int 0, U.int 0]] ++ [O.lst []] ++ [O.dic []])[Ts.length]? = some (.lst L1) := ap (ap (ap ap0))
  have b1 : (Ts ++ [O.lst L1] ++ [O.lst [U.int 0, U.int 0]] ++ [O.lst []] ++ [O.dic []])[A1]? = some (.lst [U.int 0, U.int 0]) := by rw [← hk1]; exact ap (ap ap0)
  have b2 : (Ts ++ [O.lst L1] ++ [O.lst [U.int 0, U.int 0]] ++ [O.lst []] ++ [O.dic []])[A2]? = some (.lst []) := by rw [← hk2]; exact ap ap0
  have b3 : (Ts ++ [O.lst L1] ++ [O.lst [U.int 0, U.int 0]] ++ [O.lst []] ++ [O.dic []])[A3]? = some (.dic []) := by rw [← hk3]; exact ap0
  have n1 : A1 ≠ 0 := by rw [← hk1]; simp
  have n2 : A2 ≠ 0 := by rw [← hk2]; simp
  have n3 : A3 ≠ 0 := by rw [← hk3]; simp
  have ET : PE 0 40 Ts (Ts ++ [O.lst L1] ++ [O.lst [U.int 0, U.int 0]] ++ [O.lst []] ++ [O.dic []]) := (((PE.refl Es.pot).app).app).app.app
  generalize Ts ++ [O.lst L1] ++ [O.lst [U.int 0, U.int 0]] ++ [O.lst []] ++ [O.dic []] = B0 at b0 b1 b2 b3 ET ⊢
  refine v_addL (x := L1) (y := L2) (ap b0) ap0 (by omega) ?_
  have hs := ap0 (T := B0 ++ [O.lst L2]) (o := O.lst (L1 ++ L2))
  have b1 := ap (l := [O.lst (L1 ++ L2)]) (ap (l := [O.lst L2]) b1)
  have b2 := ap (l := [O.lst (L1 ++ L2)]) (ap (l := [O.lst L2]) b2)
  have b3 := ap (l := [O.lst (L1 ++ L2)]) (ap (l := [O.lst L2]) b3)
  have ET := (ET.app (l := [O.lst L2])).app (l := [O.lst (L1 ++ L2)])
  have hkl : (B0 ++ [O.lst L2]).length ≠ 0 := by simp
  clear b0
  generalize B0 ++ [O.lst L2] ++ [O.lst (L1 ++ L2)] = B at hs b1 b2 b3 ET ⊢
  generalize (B0 ++ [O.lst L2]).length = kL at hs hkl ⊢
  have hrB := RpDs.kp ET.msk hrp
  have hcB := RpDs.kp ET.msk hcr
  have hV : ∀ u ∈ L1 ++ L2, RpD (Lf.msk 0 B) u 8 200 := fun u hu => by
    have c1 : (Lf.msk 0 B)[A1]? = some (.lst [U.int 0, U.int 0]) := by rw [msk_ne n1]; exact b1
    have c2 : (Lf.msk 0 B)[A2]? = some (.lst []) := by rw [msk_ne n2]; exact b2
    have c3 : (Lf.msk 0 B)[A3]? = some (.dic []) := by rw [msk_ne n3]; exact b3
    clear hs b1 b2 b3 ET hrp hcr
    have ri : ∀ z : Int, z.natAbs < 10000000000000000000000 → RpD (Lf.msk 0 B) (.int z) 0 0 := fun z hz => RpD.int (by
      have h1 : z.natAbs.log2 < 100 := by
        by_cases h0 : z.natAbs = 0
        · rw [h0]; decide
        · exact (Nat.log2_lt h0).mpr (by omega)
      omega)
    have rp2 : ∀ x y : Int, x.natAbs < 10000000000000000000000 → y.natAbs < 10000000000000000000000 → RpD (Lf.msk 0 B) (.tup [.int x, .int y]) 1 2 := fun x y hx hy => RpD.mono (RpD.tup (RpDs.cons (ri x hx) (RpDs.one (ri y hy)))) (Nat.le_refl _) (by omega)
    subst hL1 hL2
    simp only [List.cons_append, List.nil_append, List.mem_cons, List.not_mem_nil, or_false] at hu
    rcases hu with rfl | rfl | rfl | rfl | rfl | rfl | rfl | rfl | rfl | rfl | rfl | rfl | rfl | rfl | rfl | rfl | rfl
    · exact RpD.mono (RpD.tup hrB) (by omega) (by omega)
    · exact RpD.mono (RpD.tup (RpDs.rev hrB)) (by omega) (by omega)
    · exact RpD.mono (RpD.tup (RpDs.app hrB hcB)) (by omega) (by omega)
    · exact RpD.mono (RpD.tup (RpDs.app hrB (RpDs.one (rp2 m n (by omega) (by omega))))) (by omega) (by omega)
    · exact RpD.mono (RpD.tup (RpDs.app hrB (RpDs.one (rp2 (m + 1) 0 (by omega) (by omega))))) (by omega) (by omega)
    · exact RpD.mono (RpD.tup (RpDs.cons (rp2 (-1) 0 (by omega) (by omega)) hrB)) (by omega) (by omega)
    · exact RpD.mono (RpD.tup (RpDs.one (RpD.tup (RpDs.cons (ri 0 (by decide)) (RpDs.one (.bl _)))))) (by omega) (by omega)
    · exact RpD.mono (RpD.tup (RpDs.one (RpD.tup (RpDs.cons (.bl _) (RpDs.one (ri 0 (by decide))))))) (by omega) (by omega)
    · exact RpD.mono (RpD.tup (RpDs.one (RpD.tup (RpDs.cons (ri 0 (by decide)) (RpDs.cons (ri 0 (by decide)) (RpDs.one (ri 0 (by decide)))))))) (by omega) (by omega)
    · exact RpD.mono (RpD.tup (RpDs.one (RpD.tup (RpDs.one (ri 0 (by decide)))))) (by omega) (by omega)
    · exact RpD.mono (RpD.tup (RpDs.one (RpD.ob c1 (RpDs.cons (ri 0 (by decide)) (RpDs.one (ri 0 (by decide))))))) (by omega) (by omega)
    · exact RpD.mono (RpD.ob (k := 0) c2 RpDs.nil) (by omega) (by omega)
    · exact RpD.mono (k := 1) (b := 0) (RpD.tup RpDs.nil) (by omega) (by omega)
    · exact RpD.mono .non (by omega) (by omega)
    · exact RpD.mono (rpS (k := 0) (n := 10) (by decide +kernel) (by decide +kernel)) (by omega) (by omega)
    · exact RpD.mono (ri 0 (by decide)) (by omega) (by omega)
    · exact RpD.mono (RpD.dic0 c3) (by omega) (by omega)
  generalize hL : L1 ++ L2 = L at hs hV
  have hLl : L.length = 17 := by rw [← hL, List.length_append]; omega
  clear hL1 hL2 hL b1 b2 b3
  bv_omega
  refine wp_lcI2 itsOk_const (fun j acc T' => PE 0 (40 + 9 * j) B T' ∧ j ≤ 12 ∧ acc.length = j ∧ ∀ u ∈ acc, RpD (Lf.msk 0 T') u 8 200) ⟨PE.refl ET.pot, by decide, rfl, fun _ h => nomatch h⟩ (fun _ _ _ _ => trivial) (fun j y acc T' hj ⟨E, hj12, hal, hacc⟩ => ?_) (fun acc T' ⟨E, hj12, hal, hacc⟩ => ?_)
  · have hjl := (List.getElem?_eq_some_iff.mp hj).1
    rw [rgU_len] at hjl
    have hjl : j < 12 := hjl
    bv_omega
    refine odd_ok (i := 0) 2 30 (by decide) T' (.tup X) 18 (40 + 9 * j) _ (by decide) E.pot (by omega) (RpD.tup (RpDs.kp E.msk hrB)) fun u T2 e hu => ?_
    refine ⟨by omega, (E.trans e).mono (by omega), by omega, by rw [List.length_append, hal]; rfl, fun z hz => ?_⟩
    rcases List.mem_append.mp hz with hz | hz
    · exact (hacc z hz).kp e.msk
    · rw [List.mem_singleton.mp hz]
      exact RpD.mono hu (by omega) (by omega)
  have hsT := E.at_ hs hkl
  have hV2 : ∀ u ∈ L ++ acc, RpD T' u 8 200 := fun u hu => by
    rcases List.mem_append.mp hu with hu | hu
    · exact ((hV u hu).kp E.msk).kp Kp.msk
    · exact (hacc u hu).kp Kp.msk
  have hXT : RpD T' (.tup X) 8 200 := RpD.mono (RpD.kp (RpD.tup (RpDs.kp E.msk hrB)) Kp.msk) (by omega) (by omega)
  have hac : acc.length ≤ 12 := by omega
  bv_omega
  refine v_addL (x := L) (y := acc) (ap hsT) ap0 (by omega) ?_
  have hz := ap0 (T := T' ++ [O.lst acc]) (o := O.lst (L ++ acc))
  have hpot := E.pot
  have hK : Kp T' (T' ++ [O.lst acc] ++ [O.lst (L ++ acc)]) := by rw [List.append_assoc]; exact Kp.app _ _
  have hpot2 : ∃ o', (T' ++ [O.lst acc] ++ [O.lst (L ++ acc)])[0]? = some o' ∧ PotB 4000 o' := by
    obtain ⟨o', h1, h2⟩ := hpot
    exact ⟨o', ap (ap h1), h2.mono (by omega)⟩
  generalize (T' ++ [O.lst acc]).length = kz at hz ⊢
  generalize T' ++ [O.lst acc] ++ [O.lst (L ++ acc)] = Tz at hz hK hpot2 ⊢
  generalize L ++ acc = LL at hz hV2
  bv_omega
  try refine v_iterO hz ?_
  refine wp_forI itsOk_obj (fun j η Ty => ∃ os, Ty = Tz ++ os ∧ ∃ o9 o10 o11, η = [some (.ob 0), some (.int n), some (.int k), some prog, some (.int m), some (.ob T5.length), o6, some (.tup X), some (.ob kz), o9, o10, o11]) ⟨[], by simp, _, _, _, rfl⟩ (fun j η Ty ⟨os, e, _⟩ => by rw [e]; exact ap hz) (fun j v η Ty hj ⟨os, eT, o9, o10, o11, eη⟩ => ?_) (fun η Ty ⟨os, eT, o9, o10, o11, eη⟩ => ?_)
  · subst eη
    have hv : RpD Ty v 8 200 := by
      rw [eT]
      exact ((hV2 v (List.mem_of_getElem? hj)).kp hK).kp (Kp.app _ _)
    bv_omega
    refine v_reprRD hv (by decide) (by decide) ?_
    bv_omega
    refine due_ok hv (by decide) fun os1 => ?_
    have hv1 := hv.kp (Kp.app Ty os1)
    bv_omega
    refine plan_ok hv1 (by decide) fun os2 => ?_
    have hv2 := hv1.kp (Kp.app _ os2)
    bv_omega
    refine v_reprRD (.bl _) (by decide) (by decide) ?_
    bv_omega
    refine v_reprRD (.bl _) (by decide) (by decide) ?_
    bv_omega
    refine v_reprRD hv2 (by decide) (by decide) ?_
    rw [shwD_kp hv1 (by decide) (Kp.app _ os2), shwD_kp hv (by decide) (Kp.app _ os1)]
    bv_omega
    exact ⟨os ++ os1 ++ os2, by rw [eT]; simp only [List.append_assoc], _, _, _, rfl⟩
  · subst eη
    have hX2 : RpD Ty (.tup X) 8 200 := by
      rw [eT]
      exact (hXT.kp hK).kp (Kp.app _ _)
    bv_omega
    refine plan_ok hX2 (by decide) fun os2 => ?_
    rw [hplan]
    bv_omega
    refine Wp.ok ?_
    bv_omega
    obtain ⟨o', h1, h2⟩ := hpot2
    refine ⟨⟨o', ?_, h2⟩, rfl, rfl⟩
    rw [eT]
    exact ap (ap h1)
theorem law_true (ns : List Int) : ∃ T, Fn.g_law [.scr ns] [] = .ok (.bl true) T := by
  suffices h : Wp (Fn.g_law [.scr ns] []) fun u T => u = .bl true by
    obtain ⟨u, T, e, rfl⟩ := h
    exact ⟨T, e⟩
  refine gDef_wp ?_
  unfold Fn.f_law
  bv_omega
  refine wp_lcI2 itsOk_const (fun i acc T' => acc = (List.replicate i true).map .bl ∧ i < 100) ⟨rfl, by decide⟩ (fun _ _ _ _ => trivial) (fun i x acc T' hi ⟨ea, hl⟩ => ?_) (fun acc T' ⟨ea, hl⟩ => ?_)
  · obtain ⟨hin, rfl⟩ := rgU_at hi
    have hi3 : i < 4 := by omega
    bv_omega
    refine pot_ok (by omega) (by omega) fun o po => ?_
    have hp : ∃ o', (T' ++ [o])[T'.length]? = some o' ∧ PotB 0 o' := ⟨o, ap0, po⟩
    bv_omega
    refine case_ok hp fun T2 => ?_
    refine ⟨by rw [ea, List.length_map, List.length_replicate]; omega, ?_, by omega⟩
    rw [ea, List.replicate_succ', List.map_append]; rfl
  · subst ea
    bv_omega
    refine v_allM ap0 ?_
    rw [show ∀ n, (List.replicate n true).all id = true from fun n => by simp]
    bv_omega
    rfl
end Mx
set_option Elab.async false
set_option linter.all false
set_option maxRecDepth 100000
set_option maxHeartbeats 0
theorem PySem.Challenge.cw_leastjournal_k37_plans_of_any_value_holds : PySem.Challenge.rw_leastjournal_k37_plans_of_any_value.Holds :=
  Fm.fin Mx.law_true
