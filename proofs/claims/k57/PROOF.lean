import PyProof.Rows.All
import Wide.All
import OpenK.AllK
import Wide.FinOn
import KE.KStateDown
import KE.KeyNested
import KE.KDictWalk
import Lean
import HandS.ForExc
import HandS.More
import HandS.Words
import HandS.WordsExc
import HandS.Defaults
import HandS.Wide
import HandS.Comp
import HandS.Iter
import HandS.Flow
import HandS.Style
import HandS.Head0
import HandS.Head1
import HandS.Head2
import HandS.HeadEnd
import HandS.HeadHook1
import HandS.HeadHook2
import PyProof.Rows.TupAdd
import HandS.TupMul
import HandS.IsInst
import HandS.Conv
import HandS.Text
import PyProof.ReprRoads
import HandS.TupAny
import HandS.Deep
import HandS.SortKw
import KE.DatumOrd
import KE.GoesMore
import HandS.ExcInit
import HandS.ExcIs
import HandS.ExcField
import HandS.CallSlots
import KE.KExcIs
import KE.GoesEnum
import HandS.MakeKw
import HandS.Small
import KE.DataAny
import HandS.MakeKwOnly
import HandS.Set
import HandS.Strs
import HandS.ListItems
import KE.DataCmp
import HandS.WordsDict
import KE.SortData
import HandS.TupSets
import HandS.ExcValue
import HandS.SortInts
import HandS.TupLen
import HandS.WideBits
import KE.KUnpackStar
import HandS.FStr
import HandS.RaiseMore
import PySem.Challenge.RW_leastjournal_k57_programs_written_and_re
set_option Elab.async false
set_option linter.all false
set_option maxRecDepth 100000
set_option maxHeartbeats 4000000
namespace Lf
open PySem PySem.Spec L2
/-- a value: tuples are trees; ob i: the i-th mutable object of the store; scr: the script -/
inductive U where
  | non | bl (b : Bool) | int (i : Int) | str (x : Str) | tup (xs : List U) | ob (i : Nat) | scr (ns : List Int) | raw (v : V)
/-- an exception: its class's name, its fields -/
structure Ex where
  cls : Str
  fs : List (Str × U)
inductive O where
  | lst (xs : List U)
  | dic (kvs : List (U × U))
  | ins (C : Str) (fs : List (Str × U))
  | exc (C : Str) (fs : List (Str × U))
  | lk (kvs : List (U × U))
  | dn (kvs : List (U × U))
  | lkn (kvs : List (U × U))
  | tp (xs : List U)
abbrev Sto := List O
inductive R (α : Type) where
  | no
  | ok (a : α) (T : Sto)
  | ex (e : Ex) (T : Sto)
abbrev M (α : Type) := Sto → R α
def R.bind {α β : Type} : R α → (α → M β) → R β
  | .no, _ => .no
  | .ok a T, k => k a T
  | .ex e T, _ => .ex e T
@[simp] theorem R.bind_no {α β : Type} (k : α → M β) : R.bind (.no : R α) k = .no := rfl
@[simp] theorem R.bind_ok {α β : Type} (a : α) (T : Sto) (k : α → M β) : R.bind (.ok a T) k = k a T := rfl
@[simp] theorem R.bind_ex {α β : Type} (e : Ex) (T : Sto) (k : α → M β) : R.bind (.ex e T : R α) k = .ex e T := rfl
/-- the locals by slot -/
abbrev Lo := List (Option U)
/-- a list that nobody writes: known whole, or a constant of the module -/
def RF (K : PySem.W.Frag) (H : Hp) (a : Addr) (xs : List V) : Prop :=
  (∃ o, H a = some (.frz o (.lst xs))) ∨
    ∃ (o : Obj) (its : Array Value) (n : Nat), K.lookup a = some o ∧ o.cls = .type "list" ∧ o.dict = none ∧ o.data = .seq its n ∧ its.size ≤ sizeLine ∧ Vals xs its.toList
theorem RF.sq {K : PySem.W.Frag} {H : Hp} {a : Addr} {xs : List V} (h : RF K H a xs) : SqL K H a xs := by
  rcases h with ⟨o, h⟩ | h
  · exact .inl (.inr ⟨o, h⟩)
  · exact .inr h
mutual
inductive RV (K : PySem.W.Frag) (ρ : List Addr) (H : Hp) : U → V → Prop
  | non : RV K ρ H .non .non
  | bl (b : Bool) : RV K ρ H (.bl b) (.bl b)
  | int (i : Int) : RV K ρ H (.int i) (.int i)
  | str (x : Str) : RV K ρ H (.str x) (.str x)
  | tup {a : Addr} {vs : List V} {us : List U} : SqT K H a vs → RVs K ρ H us vs → RV K ρ H (.tup us) (.ref a)
  | ob {i : Nat} {a : Addr} : ρ[i]? = some a → RV K ρ H (.ob i) (.ref a)
  | scr {a : Addr} {ns : List Int} : RF K H a (ns.map V.int) → RV K ρ H (.scr ns) (.ref a)
  | raw (v : V) : RV K ρ H (.raw v) v
inductive RVs (K : PySem.W.Frag) (ρ : List Addr) (H : Hp) : List U → List V → Prop
  | nil : RVs K ρ H [] []
  | cons {u : U} {v : V} {us : List U} {vs : List V} : RV K ρ H u v → RVs K ρ H us vs → RVs K ρ H (u :: us) (v :: vs)
end
section
variable {K : PySem.W.Frag} {ρ ρ' : List Addr} {H H' : Hp}
mutual
theorem RV.mono (h1 : ∀ (i : Nat) (a : Addr), ρ[i]? = some a → ρ'[i]? = some a) (h2 : ∀ a vs, SqT K H a vs → SqT K H' a vs) (h3 : ∀ a vs, RF K H a vs → RF K H' a vs) : ∀ {u : U} {v : V}, RV K ρ H u v → RV K ρ' H' u v
  | _, _, .non => .non
  | _, _, .bl b => .bl b
  | _, _, .int i => .int i
  | _, _, .str x => .str x
  | _, _, .tup a r => .tup (h2 _ _ a) (RVs.mono h1 h2 h3 r)
  | _, _, .ob e => .ob (h1 _ _ e)
  | _, _, .scr e => .scr (h3 _ _ e)
  | _, _, .raw v => .raw v
theorem RVs.mono (h1 : ∀ (i : Nat) (a : Addr), ρ[i]? = some a → ρ'[i]? = some a) (h2 : ∀ a vs, SqT K H a vs → SqT K H' a vs) (h3 : ∀ a vs, RF K H a vs → RF K H' a vs) : ∀ {us : List U} {vs : List V}, RVs K ρ H us vs → RVs K ρ' H' us vs
  | _, _, .nil => .nil
  | _, _, .cons r s => .cons (RV.mono h1 h2 h3 r) (RVs.mono h1 h2 h3 s)
end
theorem RVs.length : ∀ {us : List U} {vs : List V}, RVs K ρ H us vs → us.length = vs.length
  | _, _, .nil => rfl
  | _, _, .cons _ r => congrArg Nat.succ (RVs.length r)
theorem RVs.get : ∀ {us : List U} {vs : List V} {i : Nat} {u : U}, RVs K ρ H us vs → us[i]? = some u → ∃ v, vs[i]? = some v ∧ RV K ρ H u v
  | _, _, _, _, .nil, e => by simp at e
  | _, _, 0, u, .cons r _, e => by
    simp only [List.getElem?_cons_zero, Option.some.injEq] at e
    subst e
    exact ⟨_, rfl, r⟩
  | _, _, i + 1, u, .cons _ t, e => by
    obtain ⟨v, h1, h2⟩ := RVs.get (i := i) (u := u) t (by simpa using e)
    exact ⟨v, by simpa using h1, h2⟩
theorem RVs.set {u : U} {v : V} (r : RV K ρ H u v) : ∀ {us : List U} {vs : List V} (i : Nat), RVs K ρ H us vs → RVs K ρ H (us.set i u) (vs.set i v)
  | _, _, _, .nil => .nil
  | _, _, 0, .cons _ t => .cons r t
  | _, _, i + 1, .cons q t => .cons q (RVs.set r i t)
theorem RVs.append : ∀ {us ws : List U} {vs xs : List V}, RVs K ρ H us vs → RVs K ρ H ws xs → RVs K ρ H (us ++ ws) (vs ++ xs)
  | _, _, _, _, .nil, s => s
  | _, _, _, _, .cons r t, s => .cons r (RVs.append t s)
theorem RVs.take : ∀ {us : List U} {vs : List V} (n : Nat), RVs K ρ H us vs → RVs K ρ H (us.take n) (vs.take n)
  | _, _, 0, _ => .nil
  | _, _, _ + 1, .nil => .nil
  | _, _, n + 1, .cons r t => .cons r (RVs.take n t)
theorem RVs.drop : ∀ {us : List U} {vs : List V} (n : Nat), RVs K ρ H us vs → RVs K ρ H (us.drop n) (vs.drop n)
  | _, _, 0, r => r
  | _, _, _ + 1, .nil => .nil
  | _, _, n + 1, .cons _ t => RVs.drop n t
theorem RVs.reverse : ∀ {us : List U} {vs : List V}, RVs K ρ H us vs → RVs K ρ H us.reverse vs.reverse
  | _, _, .nil => .nil
  | _, _, .cons r t => by
    rw [List.reverse_cons, List.reverse_cons]
    exact RVs.append (RVs.reverse t) (.cons r .nil)
theorem RVs.ints : ∀ ns : List Int, RVs K ρ H (ns.map U.int) (ns.map V.int)
  | [] => .nil
  | n :: ns => .cons (.int n) (RVs.ints ns)
end
/-- a key of a dict -/
def kU : Key → U
  | .inl i => .int i
  | .inr x => .str x
/-- a caught exception at a, its dict at d -/
def ExK (a C d : Addr) : HO := .ext fun h => ∃ (oe : Obj) (vs : Array Value), h.get? a = some oe ∧ Zc (.ref C) (some d) oe ∧ oe.data = .fields vs
/-- an exception that has no fields -/
def ExN (a C : Addr) : HO := .ext fun h => ∃ (oe : Obj) (vs : Array Value), h.get? a = some oe ∧ Zc (.ref C) none oe ∧ oe.data = .fields vs
mutual
/-- a key made of numbers and of tuples of such, at any depth -/
def keyN : U → Option NestedKey
  | .int i => some (.num i)
  | .tup us => (keyNs us).map NestedKey.tup
  | _ => none
def keyNs : List U → Option (List NestedKey)
  | [] => some []
  | u :: us => match keyN u, keyNs us with
    | some k, some ks => some (k :: ks)
    | _, _ => none
end
/-- a dict at a whose keys are such tuples: where they stand and what belongs to them -/
def DnO (a : Addr) (xs : List (NestedKey × Addr × V)) : HO := .ext fun h => (a == sysModules) = false ∧ xs.length ≤ sizeLine ∧ (xs.map (·.1)).Nodup ∧ ∃ (o : Obj) (es : Array DictEntry) (ep : Nat), h.get? a = some o ∧ o.ExactDict ∧ o.data = .dict es ep ∧
  Paired (fun (x : NestedKey × Addr × V) (e : DictEntry) => e.key = .ref x.2.1 ∧ RelV x.2.2 e.val ∧ ∀ w : World, e.hash = x.1.hash w) xs es.toList
abbrev PaN (K : PySem.W.Frag) (ρ : List Addr) (H : Hp) : List (U × U) → List (NestedKey × Addr × V) → Prop :=
  Paired fun (p : U × U) (x : NestedKey × Addr × V) => (keyN p.1 = some x.1 ∧ x.1.depth ≤ 8 ∧ RV K ρ H p.1 (.ref x.2.1)) ∧ RV K ρ H p.2 x.2.2
/-- an object of the store at an address -/
def RO (K : PySem.W.Frag) (ρ : List Addr) (H : Hp) : O → Addr → Prop
  | .lst xs, a => ∃ vs, H a = some (.lst vs) ∧ RVs K ρ H xs vs
  | .dic kvs, a => (∃ ks, H a = some (.dK ks) ∧ Paired (fun (p : U × U) (q : Key × V) => p.1 = kU q.1 ∧ RV K ρ H p.2 q.2) kvs ks) ∨
      ∃ k0 ks, H a = some (.dT (k0 :: ks)) ∧ Paired (fun (p : U × U) (q : List Key × V) => p.1 = .tup (q.1.map kU) ∧ RV K ρ H p.2 q.2) kvs (k0 :: ks)
  | .ins C fs, a => ∃ dx gs, H a = some (.ins (He.ga K C) dx gs) ∧ Paired (fun (p : Str × U) (q : Str × V) => p.1 = q.1 ∧ RV K ρ H p.2 q.2) fs gs
  | .exc C fs, a => (∃ d gs, H a = some (ExK a (He.ga K C) d) ∧ H d = some (.xd gs) ∧ Paired (fun (p : Str × U) (q : Str × V) => p.1 = q.1 ∧ RV K ρ H p.2 q.2) fs gs) ∨ (fs = [] ∧ H a = some (ExN a (He.ga K C)))
  | .lk kvs, a => ∃ od ks, H a = some (.frz od (.dK ks)) ∧ Paired (fun (p : U × U) (q : Key × V) => p.1 = kU q.1 ∧ RV K ρ H p.2 q.2) kvs ks
  | .dn kvs, a => ∃ xs, H a = some (DnO a xs) ∧ PaN K ρ H kvs xs
  | .lkn kvs, a => ∃ od xs, H a = some (.frz od (DnO a xs)) ∧ PaN K ρ H kvs xs
  | .tp us, a => ∃ od vs, H a = some (.frz od (.tup vs)) ∧ (od.cls = .type "tuple" ∧ od.dict = none) ∧ RVs K ρ H us vs
/-- what may stand at an object's address -/
def Live : HO → Prop
  | .lst _ => True
  | .dK _ => True
  | .dT _ => True
  | .ins _ _ _ => True
  | .ext _ => True
  | .frz _ (.dK _) => True
  | .frz _ (.ext _) => True
  | _ => False
/-- a tuple that is known as it stands -/
def LiveT : HO → Prop
  | .frz _ (.tup _) => True
  | _ => False
theorem RO.live {K : PySem.W.Frag} {ρ : List Addr} {H : Hp} {o : O} {a : Addr} (h : RO K ρ H o a) : ∃ x, H a = some x ∧ (Live x ∨ LiveT x) := by
  cases o with
  | lst xs => obtain ⟨vs, e, _⟩ := h; exact ⟨_, e, .inl trivial⟩
  | dic kvs =>
    rcases h with ⟨ks, e, _⟩ | ⟨k0, ks, e, _⟩
    · exact ⟨_, e, .inl trivial⟩
    · exact ⟨_, e, .inl trivial⟩
  | ins C fs => obtain ⟨dx, gs, e, _⟩ := h; exact ⟨_, e, .inl trivial⟩
  | lk kvs => obtain ⟨od, ks, e, _⟩ := h; exact ⟨_, e, .inl trivial⟩
  | dn kvs => obtain ⟨xs, e, _⟩ := h; exact ⟨_, e, .inl trivial⟩
  | lkn kvs => obtain ⟨od, xs, e, _⟩ := h; exact ⟨_, e, .inl trivial⟩
  | tp us => obtain ⟨od, vs, e, _⟩ := h; exact ⟨_, e, .inr trivial⟩
  | exc C fs =>
    rcases h with ⟨d, gs, e, _⟩ | ⟨_, e⟩
    · exact ⟨_, e, .inl trivial⟩
    · exact ⟨_, e, .inl trivial⟩
structure RS (K : PySem.W.Frag) (ρ : List Addr) (H : Hp) (T : Sto) : Prop where
  len : ρ.length = T.length
  nd : ρ.Nodup
  at_ : ∀ (i : Nat) (o : O) (a : Addr), T[i]? = some o → ρ[i]? = some a → RO K ρ H o a
structure RE (K : PySem.W.Frag) (ρ : List Addr) (H : Hp) (η : Lo) (σ : St) : Prop where
  len : η.length = σ.length
  at_ : ∀ (i : Nat) (u : U), η[i]? = some (some u) → ∃ v, σ[i]? = some (some v) ∧ RV K ρ H u v
/-- the abstract heap grows: what is no object of the store stays -/
structure Gr (K : PySem.W.Frag) (ρ : List Addr) (H : Hp) (ρ' : List Addr) (H' : Hp) : Prop where
  pre : ∀ (i : Nat) (a : Addr), ρ[i]? = some a → ρ'[i]? = some a
  sq : ∀ a vs, SqT K H a vs → SqT K H' a vs
  rf : ∀ a vs, RF K H a vs → RF K H' a vs
  kp : ∀ a o, a ∉ ρ → H a = some o → H' a = some o
  nw : ∀ a ∈ ρ', a ∉ ρ → H a = none
  xd : ∀ a gs, H a = some (.xd gs) → H' a = some (.xd gs)
  fz : ∀ a o u, H a = some (.frz o u) → H' a = some (.frz o u)
/-- no locked dict stands there -/
def NF (H : Hp) (a : Addr) : Prop := ∀ o u, H a ≠ some (.frz o u)
theorem nf_lst {H : Hp} {a : Addr} {vs : List V} (h : H a = some (.lst vs)) : NF H a := fun _ _ z => by rw [h] at z; cases z
theorem nf_ins {H : Hp} {a C dx : Addr} {gs : List (Str × V)} (h : H a = some (.ins C dx gs)) : NF H a := fun _ _ z => by rw [h] at z; cases z
theorem nf_dK {H : Hp} {a : Addr} {ks : List (Key × V)} (h : H a = some (.dK ks)) : NF H a := fun _ _ z => by rw [h] at z; cases z
theorem nf_none {H : Hp} {a : Addr} (h : H a = none) : NF H a := fun _ _ z => by rw [h] at z; cases z
theorem fz_upd {H : Hp} {a b : Addr} {x : HO} {o : Obj} {u : HO} (h : NF H b) (q : H a = some (.frz o u)) : upd H b x a = some (.frz o u) := by
  rw [upd_ne ?_]
  · exact q
  · rintro rfl
    exact h _ _ q
section
variable {K : PySem.W.Frag} {ρ ρ' ρ1 ρ2 : List Addr} {H H' H1 H2 : Hp} {T : Sto}
theorem Gr.refl : Gr K ρ H ρ H := ⟨fun _ _ e => e, fun _ _ e => e, fun _ _ e => e, fun _ _ _ e => e, fun _ h n => absurd h n, fun _ _ e => e, fun _ _ _ e => e⟩
theorem Gr.trans (g : Gr K ρ H ρ1 H1) (k : Gr K ρ1 H1 ρ2 H2) : Gr K ρ H ρ2 H2 where
  pre := fun i a e => k.pre i a (g.pre i a e)
  sq := fun a vs e => k.sq a vs (g.sq a vs e)
  rf := fun a vs e => k.rf a vs (g.rf a vs e)
  kp := fun a o n e => k.kp a o (fun h => by
    have := g.nw a h n
    rw [e] at this
    cases this) (g.kp a o n e)
  nw := fun a h n => by
    by_cases m : a ∈ ρ1
    · exact g.nw a m n
    · have e := k.nw a h m
      cases q : H a with
      | none => rfl
      | some o =>
        rw [g.kp a o n q] at e
        cases e
  xd := fun a gs e => k.xd a gs (g.xd a gs e)
  fz := fun a o u e => k.fz a o u (g.fz a o u e)
theorem RV.gr {u : U} {v : V} (r : RV K ρ H u v) (g : Gr K ρ H ρ' H') : RV K ρ' H' u v := r.mono g.pre g.sq g.rf
theorem RVs.gr {us : List U} {vs : List V} (r : RVs K ρ H us vs) (g : Gr K ρ H ρ' H') : RVs K ρ' H' us vs := r.mono g.pre g.sq g.rf
theorem RE.gr {η : Lo} {σ : St} (r : RE K ρ H η σ) (g : Gr K ρ H ρ' H') : RE K ρ' H' η σ :=
  ⟨r.len, fun i u e => let ⟨v, h1, h2⟩ := r.at_ i u e; ⟨v, h1, h2.gr g⟩⟩
theorem RE.set {η : Lo} {σ : St} {u : U} {v : V} (r : RE K ρ H η σ) (i : Nat) (h : RV K ρ H u v) : RE K ρ H (η.set i (some u)) (σ.set i (some v)) := by
  refine ⟨by rw [List.length_set, List.length_set]; exact r.len, fun j w e => ?_⟩
  by_cases hj : i = j
  · subst hj
    rw [List.getElem?_set] at e
    simp only [if_pos] at e
    split at e
    · rename_i hl
      cases e
      exact ⟨v, by rw [List.getElem?_set_self (by rw [← r.len]; exact hl)], h⟩
    · cases e
  · rw [List.getElem?_set_ne hj] at e
    obtain ⟨x, h1, h2⟩ := r.at_ j w e
    exact ⟨x, by rw [List.getElem?_set_ne hj]; exact h1, h2⟩
theorem RO.gr {o : O} {a : Addr} (h : RO K ρ H o a) (g : Gr K ρ H ρ' H') (e : H' a = H a) : RO K ρ' H' o a := by
  cases o with
  | lst xs => obtain ⟨vs, e1, r⟩ := h; exact ⟨vs, e.trans e1, r.gr g⟩
  | dic kvs =>
    rcases h with ⟨ks, e1, r⟩ | ⟨k0, ks, e1, r⟩
    · exact .inl ⟨ks, e.trans e1, Paired.mapP r fun _ _ z => ⟨z.1, z.2.gr g⟩⟩
    · exact .inr ⟨k0, ks, e.trans e1, Paired.mapP r fun _ _ z => ⟨z.1, z.2.gr g⟩⟩
  | ins C fs => obtain ⟨dx, gs, e1, r⟩ := h; exact ⟨dx, gs, e.trans e1, Paired.mapP r fun _ _ z => ⟨z.1, z.2.gr g⟩⟩
  | lk kvs => obtain ⟨od, ks, e1, r⟩ := h; exact ⟨od, ks, e.trans e1, Paired.mapP r fun _ _ z => ⟨z.1, z.2.gr g⟩⟩
  | dn kvs => obtain ⟨xs, e1, r⟩ := h; exact ⟨xs, e.trans e1, Paired.mapP r fun _ _ z => ⟨⟨z.1.1, z.1.2.1, z.1.2.2.gr g⟩, z.2.gr g⟩⟩
  | lkn kvs => obtain ⟨od, xs, e1, r⟩ := h; exact ⟨od, xs, e.trans e1, Paired.mapP r fun _ _ z => ⟨⟨z.1.1, z.1.2.1, z.1.2.2.gr g⟩, z.2.gr g⟩⟩
  | tp us => obtain ⟨od, vs, e1, c, r⟩ := h; exact ⟨od, vs, e.trans e1, c, r.gr g⟩
  | exc C fs =>
    rcases h with ⟨d, gs, e1, e2, r⟩ | ⟨e1, e2⟩
    · exact .inl ⟨d, gs, e.trans e1, g.xd d gs e2, Paired.mapP r fun _ _ z => ⟨z.1, z.2.gr g⟩⟩
    · exact .inr ⟨e1, e.trans e2⟩
theorem RO.mono0 {o : O} {a : Addr} (h : RO K ρ H o a) (h2 : ∀ a vs, SqT K H a vs → SqT K H' a vs) (h3 : ∀ a vs, RF K H a vs → RF K H' a vs) (h4 : ∀ a gs, H a = some (.xd gs) → H' a = some (.xd gs)) (e : H' a = H a) : RO K ρ H' o a := by
  have h1 : ∀ (i : Nat) (a : Addr), ρ[i]? = some a → ρ[i]? = some a := fun _ _ e => e
  cases o with
  | lst xs => obtain ⟨vs, e1, r⟩ := h; exact ⟨vs, e.trans e1, r.mono h1 h2 h3⟩
  | dic kvs =>
    rcases h with ⟨ks, e1, r⟩ | ⟨k0, ks, e1, r⟩
    · exact .inl ⟨ks, e.trans e1, Paired.mapP r fun _ _ z => ⟨z.1, z.2.mono h1 h2 h3⟩⟩
    · exact .inr ⟨k0, ks, e.trans e1, Paired.mapP r fun _ _ z => ⟨z.1, z.2.mono h1 h2 h3⟩⟩
  | ins C fs => obtain ⟨dx, gs, e1, r⟩ := h; exact ⟨dx, gs, e.trans e1, Paired.mapP r fun _ _ z => ⟨z.1, z.2.mono h1 h2 h3⟩⟩
  | lk kvs => obtain ⟨od, ks, e1, r⟩ := h; exact ⟨od, ks, e.trans e1, Paired.mapP r fun _ _ z => ⟨z.1, z.2.mono h1 h2 h3⟩⟩
  | dn kvs => obtain ⟨xs, e1, r⟩ := h; exact ⟨xs, e.trans e1, Paired.mapP r fun _ _ z => ⟨⟨z.1.1, z.1.2.1, z.1.2.2.mono h1 h2 h3⟩, z.2.mono h1 h2 h3⟩⟩
  | lkn kvs => obtain ⟨od, xs, e1, r⟩ := h; exact ⟨od, xs, e.trans e1, Paired.mapP r fun _ _ z => ⟨⟨z.1.1, z.1.2.1, z.1.2.2.mono h1 h2 h3⟩, z.2.mono h1 h2 h3⟩⟩
  | tp us => obtain ⟨od, vs, e1, c, r⟩ := h; exact ⟨od, vs, e.trans e1, c, r.mono h1 h2 h3⟩
  | exc C fs =>
    rcases h with ⟨d, gs, e1, e2, r⟩ | ⟨e1, e2⟩
    · exact .inl ⟨d, gs, e.trans e1, h4 d gs e2, Paired.mapP r fun _ _ z => ⟨z.1, z.2.mono h1 h2 h3⟩⟩
    · exact .inr ⟨e1, e.trans e2⟩
theorem RS.get (s : RS K ρ H T) {i : Nat} {o : O} (e : T[i]? = some o) : ∃ a, ρ[i]? = some a ∧ RO K ρ H o a := by
  have hi : i < ρ.length := by rw [s.len]; exact (List.getElem?_eq_some_iff.mp e).1
  exact ⟨ρ[i], by simp [hi], s.at_ i o _ e (by simp [hi])⟩
theorem RS.has (s : RS K ρ H T) {a : Addr} (h : a ∈ ρ) : ∃ (i : Nat) (o : O), T[i]? = some o ∧ ρ[i]? = some a ∧ RO K ρ H o a := by
  obtain ⟨i, hi, e⟩ := List.mem_iff_getElem.mp h
  have hi' : i < T.length := by rw [← s.len]; exact hi
  exact ⟨i, T[i], by simp [hi'], by simp [hi, e], s.at_ i _ _ (by simp [hi']) (by simp [hi, e])⟩
theorem RS.live (s : RS K ρ H T) {a : Addr} (h : a ∈ ρ) : ∃ x, H a = some x ∧ (Live x ∨ LiveT x) := by
  obtain ⟨_, _, _, _, r⟩ := s.has h
  exact r.live
/-- a live place is changed to a live one, or a free one filled: tuples and the script stay -/
theorem sq_upd {a b : Addr} {x : HO} {vs : List V} (h : H b = none ∨ ∃ y, H b = some y ∧ Live y) (q : SqT K H a vs) : SqT K (upd H b x) a vs := by
  rcases q with (q | ⟨o, q⟩) | q
  · refine .inl (.inl ?_)
    rw [upd_ne ?_]
    · exact q
    · rintro rfl
      rcases h with h | ⟨y, h, l⟩
      · rw [h] at q; cases q
      · rw [h] at q; cases q; exact l
  · refine .inl (.inr ⟨o, ?_⟩)
    rw [upd_ne ?_]
    · exact q
    · rintro rfl
      rcases h with h | ⟨y, h, l⟩
      · rw [h] at q; cases q
      · rw [h] at q; cases q; exact l
  · exact .inr q
theorem rf_upd {a b : Addr} {x : HO} {vs : List V} (h : H b = none ∨ ∃ y, H b = some y ∧ Live y) (q : RF K H a vs) : RF K (upd H b x) a vs := by
  rcases q with ⟨o, q⟩ | q
  · refine .inl ⟨o, ?_⟩
    rw [upd_ne ?_]
    · exact q
    · rintro rfl
      rcases h with h | ⟨y, h, l⟩
      · rw [h] at q; cases q
      · rw [h] at q; cases q; exact l
  · exact .inr q
theorem xd_upd {a b : Addr} {x : HO} {gs : List (Str × V)} (h : H b = none ∨ ∃ y, H b = some y ∧ Live y) (q : H a = some (.xd gs)) : upd H b x a = some (.xd gs) := by
  rw [upd_ne ?_]
  · exact q
  · rintro rfl
    rcases h with h | ⟨y, h, l⟩
    · rw [h] at q; cases q
    · rw [h] at q; cases q; exact l
/-- a place that is no object of the store is filled -/
theorem Gr.fill {p : Addr} {x : HO} (n : H p = none) : Gr K ρ H ρ (upd H p x) :=
  ⟨fun _ _ e => e, fun _ _ q => sq_upd (.inl n) q, fun _ _ q => rf_upd (.inl n) q, fun a o _ e => by rw [upd_ne (ne_of_none e n)]; exact e, fun _ h k => absurd h k, fun _ _ q => xd_upd (.inl n) q, fun _ _ _ q => fz_upd (nf_none n) q⟩
theorem Gr.new {p : Addr} {x : HO} (n : H p = none) : Gr K ρ H (ρ ++ [p]) (upd H p x) :=
  ⟨fun i a e => by rw [List.getElem?_append_left (List.getElem?_eq_some_iff.mp e).1]; exact e, fun _ _ q => sq_upd (.inl n) q, fun _ _ q => rf_upd (.inl n) q, fun a o _ e => by rw [upd_ne (ne_of_none e n)]; exact e, fun a h k => by
    rcases List.mem_append.mp h with h | h
    · exact absurd h k
    · rw [List.mem_singleton.mp h]; exact n, fun _ _ q => xd_upd (.inl n) q, fun _ _ _ q => fz_upd (nf_none n) q⟩
theorem RS.liveN (s : RS K ρ H T) {a : Addr} (hm : a ∈ ρ) (hf : NF H a) : ∃ y, H a = some y ∧ Live y := by
  obtain ⟨y, hy, l⟩ := s.live hm
  refine ⟨y, hy, l.elim id fun z => ?_⟩
  cases y with
  | frz o u => exact absurd hy (hf o u)
  | _ => exact z.elim
theorem Gr.put {i : Nat} {a : Addr} {x : HO} (s : RS K ρ H T) (e : ρ[i]? = some a) (hf : NF H a := by first | exact nf_lst ‹_› | exact nf_ins ‹_› | exact nf_dK ‹_›) : Gr K ρ H ρ (upd H a x) := by
  have hm : a ∈ ρ := List.mem_of_getElem? e
  have l := s.liveN hm hf
  refine ⟨fun _ _ e => e, fun _ _ q => sq_upd (.inr l) q, fun _ _ q => rf_upd (.inr l) q, fun b o n q => ?_, fun _ h k => absurd h k, fun _ _ q => xd_upd (.inr l) q, fun _ _ _ q => fz_upd hf q⟩
  rw [upd_ne (fun z => n (by rw [z]; exact hm))]
  exact q
theorem RS.fill (s : RS K ρ H T) {p : Addr} {x : HO} (n : H p = none) : RS K ρ (upd H p x) T := by
  refine ⟨s.len, s.nd, fun i o a e1 e2 => ?_⟩
  obtain ⟨y, hy, _⟩ := s.live (List.mem_of_getElem? e2)
  exact (s.at_ i o a e1 e2).gr (Gr.fill n) (by rw [upd_ne (ne_of_none hy n)])
theorem RS.new (s : RS K ρ H T) {p : Addr} {x : HO} {o : O} (n : H p = none) (r : RO K (ρ ++ [p]) (upd H p x) o p) : RS K (ρ ++ [p]) (upd H p x) (T ++ [o]) := by
  have np : p ∉ ρ := fun h => by
    obtain ⟨y, hy, _⟩ := s.live h
    rw [n] at hy
    cases hy
  refine ⟨by rw [List.length_append, List.length_append, s.len]; rfl, ?_, fun i u a e1 e2 => ?_⟩
  · rw [List.nodup_append]
    exact ⟨s.nd, by simp, fun a ha b hb => by rw [List.mem_singleton.mp hb]; rintro rfl; exact np ha⟩
  · by_cases hi : i < ρ.length
    · rw [List.getElem?_append_left hi] at e2
      rw [List.getElem?_append_left (by rw [← s.len]; exact hi)] at e1
      obtain ⟨y, hy, _⟩ := s.live (List.mem_of_getElem? e2)
      exact (s.at_ i u a e1 e2).gr (Gr.new n) (by rw [upd_ne (ne_of_none hy n)])
    · have hl : i = ρ.length := by
        have := (List.getElem?_eq_some_iff.mp e2).1
        rw [List.length_append, List.length_singleton] at this
        omega
      subst hl
      rw [List.getElem?_append_right (Nat.le_refl _), Nat.sub_self] at e2
      rw [s.len, List.getElem?_append_right (Nat.le_refl _), Nat.sub_self] at e1
      cases e1
      cases e2
      exact r
theorem RS.put (s : RS K ρ H T) {i : Nat} {a : Addr} {x : HO} {o : O} (e : ρ[i]? = some a) (r : RO K ρ (upd H a x) o a) (l : ∃ y, H a = some y ∧ Live y := by refine Exists.intro ?_ (And.intro ?_ ?_); rotate_left; assumption; trivial) : RS K ρ (upd H a x) (T.set i o) := by
  refine ⟨by rw [List.length_set]; exact s.len, s.nd, fun j u b e1 e2 => ?_⟩
  have hi := (List.getElem?_eq_some_iff.mp e).1
  by_cases hj : i = j
  · subst hj
    rw [List.getElem?_set_self (by rw [← s.len]; exact hi)] at e1
    cases e1
    rw [e] at e2
    cases e2
    exact r
  · rw [List.getElem?_set_ne hj] at e1
    refine (s.at_ j u b e1 e2).mono0 (fun _ _ q => sq_upd (.inr l) q) (fun _ _ q => rf_upd (.inr l) q) (fun _ _ q => xd_upd (.inr l) q) ?_
    rw [upd_ne]
    rintro rfl
    have hjl := (List.getElem?_eq_some_iff.mp e2).1
    exact hj ((List.getElem_inj s.nd).mp ((List.getElem?_eq_some_iff.mp e).2.trans (List.getElem?_eq_some_iff.mp e2).2.symm))
end
abbrev Rel (α β : Type) := List Addr → Hp → α → β → Prop
/-- the wish E about exceptions is met by e -/
def XR (K : PySem.W.Frag) (ρ : List Addr) (H : Hp) (E : XK) (e : Ex) (T : Sto) : Prop :=
  (∀ (ρ' : List Addr) (H' : Hp) (d : Addr) (gs : List (Str × V)), Gr K ρ H ρ' H' → RS K ρ' H' T → H' d = some (.xd gs) → Paired (fun (p : Str × U) (q : Str × V) => p.1 = q.1 ∧ RV K ρ' H' p.2 q.2) e.fs gs →
    E (.ref (He.ga K e.cls)) (some d) H') ∧ (e.fs = [] → ∀ (ρ' : List Addr) (H' : Hp), Gr K ρ H ρ' H' → RS K ρ' H' T → E (.ref (He.ga K e.cls)) none H')
def OK {α β : Type} (K : PySem.W.Frag) (ρ : List Addr) (H : Hp) (E : XK) (rel : Rel α β) (r : R α) (Q : β → Hp → Prop) : Prop :=
  match r with
  | .no => False
  | .ok a T => ∀ (ρ' : List Addr) (H' : Hp) (b : β), Gr K ρ H ρ' H' → RS K ρ' H' T → rel ρ' H' a b → Q b H'
  | .ex e T => XR K ρ H E e T
section
variable {K : PySem.W.Frag} {ρ ρ' : List Addr} {H H' : Hp} {T : Sto} {E : XK} {α β γ δ : Type} {rel : Rel α β} {rel2 : Rel γ δ}
theorem XR.gr {e : Ex} (h : XR K ρ H E e T) (g : Gr K ρ H ρ' H') : XR K ρ' H' E e T := ⟨fun ρ2 H2 d gs g2 s q r => h.1 ρ2 H2 d gs (g.trans g2) s q r, fun e0 ρ2 H2 g2 s => h.2 e0 ρ2 H2 (g.trans g2) s⟩
theorem OK.gr {r : R α} {Q : β → Hp → Prop} (h : OK K ρ H E rel r Q) (g : Gr K ρ H ρ' H') : OK K ρ' H' E rel r Q := by
  cases r with
  | no => exact h
  | ok a T => exact fun ρ2 H2 b g2 s q => h ρ2 H2 b (g.trans g2) s q
  | ex e T => exact XR.gr h g
theorem OK.bind {r : R α} {k : α → M γ} {Q : δ → Hp → Prop} (h : OK K ρ H E rel2 (r.bind k) Q) :
    OK K ρ H E rel r (fun b H1 => ∃ (ρ1 : List Addr) (T1 : Sto) (a : α), Gr K ρ H ρ1 H1 ∧ RS K ρ1 H1 T1 ∧ rel ρ1 H1 a b ∧ OK K ρ1 H1 E rel2 (k a T1) Q) := by
  cases r with
  | no => exact h
  | ok a T => exact fun ρ1 H1 b g s q => ⟨ρ1, T, a, g, s, q, OK.gr h g⟩
  | ex e T => exact h
theorem OK.mono {r : R α} {Q Q' : β → Hp → Prop} (h : OK K ρ H E rel r Q) (i : ∀ b H, Q b H → Q' b H) : OK K ρ H E rel r Q' := by
  cases r with
  | no => exact h
  | ok a T => exact fun ρ1 H1 b g s q => i _ _ (h ρ1 H1 b g s q)
  | ex e T => exact h
end
abbrev rV (K : PySem.W.Frag) : Rel U V := fun ρ H u v => RV K ρ H u v
abbrev rVs (K : PySem.W.Frag) : Rel (List U) (List V) := fun ρ H us vs => RVs K ρ H us vs
abbrev rB : Rel Bool Bool := fun _ _ a b => a = b
end Lf
set_option Elab.async false
set_option linter.all false
set_option maxRecDepth 100000
set_option maxHeartbeats 4000000
namespace Lf
open PySem PySem.Spec L2
abbrev FxE := Lo → M U
abbrev FxT := Lo → M Bool
abbrev FxA := Lo → M (List U)
structure FE (X : Cx) (E : XK) (e : Expr) (F : FxE) : Prop where
  ex : ∃ t : TE, PE X e t ∧ ∀ (σ : L2.St) (H : Hp) (ρ : List Addr) (T : Sto) (η : Lo) (Q : V → Hp → Prop), RS X.K ρ H T → RE X.K ρ H η σ → OK X.K ρ H E (rV X.K) (F η T) Q → t σ H Q
structure FT (X : Cx) (E : XK) (e : Expr) (F : FxT) : Prop where
  ex : ∃ t : TT, PT X e t ∧ ∀ (σ : L2.St) (H : Hp) (ρ : List Addr) (T : Sto) (η : Lo) (Q : Bool → Hp → Prop), RS X.K ρ H T → RE X.K ρ H η σ → OK X.K ρ H E rB (F η T) Q → t σ H Q
structure FW (X : Cx) (E : XK) (e : Expr) (F : FxT) : Prop where
  ex : ∃ t : TT, PW X e t ∧ ∀ (σ : L2.St) (H : Hp) (ρ : List Addr) (T : Sto) (η : Lo) (Q : Bool → Hp → Prop), RS X.K ρ H T → RE X.K ρ H η σ → OK X.K ρ H E rB (F η T) Q → t σ H Q
structure FA (X : Cx) (E : XK) (es : List Expr) (F : FxA) : Prop where
  ex : ∃ t : TA, PA X es t ∧ ∀ (σ : L2.St) (H : Hp) (ρ : List Addr) (T : Sto) (η : Lo) (Q : List V → Hp → Prop), RS X.K ρ H T → RE X.K ρ H η σ → OK X.K ρ H E (rVs X.K) (F η T) Q → t σ H Q
def fVar (i : Nat) : FxE := fun η T => match η[i]? with
  | some (some u) => .ok u T
  | _ => .no
def fC (u : U) : FxE := fun _ T => .ok u T
def fBin (g : U → U → M U) (Fa Fb : FxE) : FxE := fun η T => (Fa η T).bind fun u T1 => (Fb η T1).bind fun v T2 => g u v T2
def fUn (g : U → M U) (Fa : FxE) : FxE := fun η T => (Fa η T).bind fun u T1 => g u T1
def fNil : FxA := fun _ T => .ok [] T
def fCons (Fa : FxE) (Fr : FxA) : FxA := fun η T => (Fa η T).bind fun u T1 => (Fr η T1).bind fun us T2 => .ok (u :: us) T2
def fCall (g : List U → M U) (Fa : FxA) : FxE := fun η T => (Fa η T).bind fun us T1 => g us T1
def fTup (Fa : FxA) : FxE := fun η T => (Fa η T).bind fun us T1 => if us.length ≤ 16777216 then .ok (.tup us) T1 else .no
/-- a new object -/
def nw (o : O) : M U := fun T => .ok (.ob T.length) (T ++ [o])
def fLst (Fa : FxA) : FxE := fun η T => (Fa η T).bind fun us T1 => if us.length ≤ 16777216 then nw (.lst us) T1 else .no
def fIfE (Fc : FxT) (Fa Fb : FxE) : FxE := fun η T => (Fc η T).bind fun b T1 => if b = true then Fa η T1 else Fb η T1
def tru (T : Sto) : U → Option Bool
  | .non => some false
  | .bl b => some b
  | .int i => some (i != 0)
  | .str y => if y.length ≤ 16777216 then some ((y.length : Int) != 0) else none
  | .tup xs => some (!xs.isEmpty)
  | .scr ns => some (!ns.isEmpty)
  | .ob i => match T[i]? with
    | some (.lst xs) => some (!xs.isEmpty)
    | _ => none
  | .raw _ => none
def fTru (Fa : FxE) : FxT := fun η T => (Fa η T).bind fun u T1 => match tru T1 u with
  | some b => .ok b T1
  | none => .no
def fBl (Fa : FxE) : FxT := fun η T => (Fa η T).bind fun u T1 => match u with
  | .bl b => .ok b T1
  | _ => .no
def fAnd (Fa Fb : FxT) : FxT := fun η T => (Fa η T).bind fun b T1 => if b = true then Fb η T1 else .ok false T1
def fOr (Fa Fb : FxT) : FxT := fun η T => (Fa η T).bind fun b T1 => if b = true then .ok true T1 else Fb η T1
def fNot (Fa : FxT) : FxT := fun η T => (Fa η T).bind fun b T1 => .ok (!b) T1
def fAndV (Fa Fb : FxE) : FxE := fun η T => (Fa η T).bind fun u T1 => match u with
  | .bl true => Fb η T1
  | .bl false => .ok (.bl false) T1
  | _ => .no
def fOrV (Fa Fb : FxE) : FxE := fun η T => (Fa η T).bind fun u T1 => match u with
  | .bl true => .ok (.bl true) T1
  | .bl false => Fb η T1
  | _ => .no
def fNotV (Fa : FxE) : FxE := fun η T => (Fa η T).bind fun u T1 => match tru T1 u with
  | some b => .ok (.bl (!b)) T1
  | none => .no
def fChain (g h : U → U → M U) (Fa Fb Fc : FxE) : FxE := fun η T => (Fa η T).bind fun u T1 => (Fb η T1).bind fun v T2 => (g u v T2).bind fun z T3 => match z with
  | .bl true => (Fc η T3).bind fun x T4 => h v x T4
  | .bl false => .ok (.bl false) T3
  | _ => .no
section
variable {X : Cx} {E : XK} {ρ : List Addr} {H : Hp} {T : Sto}
/-- a result that changes nothing -/
theorem okV {u : U} {v : V} {Q : V → Hp → Prop} (s : RS X.K ρ H T) (h : OK X.K ρ H E (rV X.K) (.ok u T) Q) (r : RV X.K ρ H u v) : Q v H := h ρ H v Gr.refl s r
theorem okB {b : Bool} {Q : Bool → Hp → Prop} (s : RS X.K ρ H T) (h : OK X.K ρ H E rB (.ok b T) Q) : Q b H := h ρ H b Gr.refl s rfl
theorem okNew {us : List U} {vs : List V} {Q : V → Hp → Prop} (s : RS X.K ρ H T) (h : OK X.K ρ H E (rV X.K) (nw (.lst us) T) Q) (r : RVs X.K ρ H us vs) {p : Addr} (n : H p = none) : Q (.ref p) (upd H p (.lst vs)) :=
  h (ρ ++ [p]) _ (.ref p) (Gr.new n) (s.new n ⟨vs, upd_same, r.gr (Gr.new n)⟩) (.ob (by rw [← s.len, List.getElem?_append_right (Nat.le_refl _), Nat.sub_self]; rfl))
theorem okTup {us : List U} {vs : List V} {Q : V → Hp → Prop} (s : RS X.K ρ H T) (h : OK X.K ρ H E (rV X.K) (.ok (.tup us) T) Q) (r : RVs X.K ρ H us vs) {p : Addr} (n : H p = none) : Q (.ref p) (upd H p (.tup vs)) :=
  h ρ _ (.ref p) (Gr.fill n) (s.fill n) (.tup (SqT.of upd_same) (r.gr (Gr.fill n)))
end
section
variable {X : Cx} {E : XK} {a b c : Expr} {es : List Expr} {pos : Pos} {Fa Fb Fc : FxE} {Fr : FxA} {Ga Gb : FxT}
theorem fe_var (i : Nat) {x : Str} {pos : Pos} (hN : X.N[i]? = some x := by rfl) (hv : Vis X.env.scope x := by first | exact Or.inl rfl | exact Or.inr (Or.inl rfl) | exact Or.inr (Or.inr rfl)) (hd : (x == ("__debug__" : Str)) = false := by decide)
    (hcd : (x == ("__classdict__" : Str)) = false := by decide) : FE X E (.Name x pos) (fVar i) := by
  refine ⟨_, pe_var hN hv hd hcd, fun σ H ρ T η Q s r h => ?_⟩
  unfold fVar at h
  split at h
  · rename_i u e
    obtain ⟨v, h1, h2⟩ := r.at_ i u e
    exact ⟨v, h1, okV s h h2⟩
  · exact False.elim h
theorem fe_int {i j pos} : FE X E (.Constant (.int i) j pos) (fC (.int i)) := ⟨_, pe_int, fun _ _ _ _ _ _ s _ h => okV s h (.int i)⟩
theorem fe_bl {k j pos} : FE X E (.Constant (.bool k) j pos) (fC (.bl k)) := ⟨_, pe_bl, fun _ _ _ _ _ _ s _ h => okV s h (.bl k)⟩
theorem fe_non {j pos} : FE X E (.Constant .none j pos) (fC .non) := ⟨_, pe_non, fun _ _ _ _ _ _ s _ h => okV s h .non⟩
theorem fe_str {x j pos} : FE X E (.Constant (.str x) j pos) (fC (.str x)) := ⟨_, pe_str, fun _ _ _ _ _ _ s _ h => okV s h (.str x)⟩
/-- a two-place operation -/
def FOp (X : Cx) (E : XK) (f : Value → Value → Sem Value) (g : U → U → M U) : Prop :=
  ∃ r : R2, OpR X f r ∧ ∀ (ρ : List Addr) (H : Hp) (T : Sto) (u w : U) (x y : V) (Q : V → Hp → Prop), RS X.K ρ H T → RV X.K ρ H u x → RV X.K ρ H w y → OK X.K ρ H E (rV X.K) (g u w T) Q → r x y H Q
theorem fe_op {op : Operator} {g : U → U → M U} (ho : FOp X E (binaryOp op) g) (ha : FE X E a Fa) (hb : FE X E b Fb) : FE X E (.BinOp a op b pos) (fBin g Fa Fb) := by
  obtain ⟨r, h1, h2⟩ := ho
  obtain ⟨ta, ka, qa⟩ := ha
  obtain ⟨tb, kb, qb⟩ := hb
  refine ⟨_, pe_op h1 ka kb, fun σ H ρ T η Q s re h => ?_⟩
  refine qa σ H ρ T η _ s re (OK.mono (OK.bind h) fun x H1 ⟨ρ1, T1, u, g1, s1, r1, k1⟩ => ?_)
  refine qb σ H1 ρ1 T1 η _ s1 (re.gr g1) (OK.mono (OK.bind k1) fun y H2 ⟨ρ2, T2, w, g2, s2, r2, k2⟩ => ?_)
  exact h2 ρ2 H2 T2 u w x y Q s2 (RV.gr r1 g2) r2 k2
theorem fe_cmp {op : CmpOp} {g : U → U → M U} (ho : FOp X E (compareOp op) g) (ha : FE X E a Fa) (hb : FE X E b Fb) (hm : behindInMarks op b = false := by first | exact nomark _ | rfl) : FE X E (.Compare a [op] [b] pos) (fBin g Fa Fb) := by
  obtain ⟨r, h1, h2⟩ := ho
  obtain ⟨ta, ka, qa⟩ := ha
  obtain ⟨tb, kb, qb⟩ := hb
  refine ⟨_, pe_cmpR h1 ka kb hm, fun σ H ρ T η Q s re h => ?_⟩
  refine qa σ H ρ T η _ s re (OK.mono (OK.bind h) fun x H1 ⟨ρ1, T1, u, g1, s1, r1, k1⟩ => ?_)
  refine qb σ H1 ρ1 T1 η _ s1 (re.gr g1) (OK.mono (OK.bind k1) fun y H2 ⟨ρ2, T2, w, g2, s2, r2, k2⟩ => ?_)
  exact h2 ρ2 H2 T2 u w x y Q s2 (RV.gr r1 g2) r2 k2
theorem ft_cmp {op : CmpOp} {g : U → U → M U} (ho : FOp X E (compareOp op) g) (ha : FE X E a Fa) (hb : FE X E b Fb) (hm : behindInMarks op b = false := by first | exact nomark _ | rfl) : FT X E (.Compare a [op] [b] pos) (fBl (fBin g Fa Fb)) := by
  obtain ⟨r, h1, h2⟩ := ho
  obtain ⟨ta, ka, qa⟩ := ha
  obtain ⟨tb, kb, qb⟩ := hb
  refine ⟨_, pt_cmpR h1 ka kb hm, fun σ H ρ T η Q s re h => ?_⟩
  have h' := OK.bind (rel := rV X.K) h
  refine qa σ H ρ T η _ s re (OK.mono (OK.bind h') fun x H1 ⟨ρ1, T1, u, g1, s1, r1, k1⟩ => ?_)
  refine qb σ H1 ρ1 T1 η _ s1 (re.gr g1) (OK.mono (OK.bind k1) fun y H2 ⟨ρ2, T2, w, g2, s2, r2, k2⟩ => ?_)
  refine h2 ρ2 H2 T2 u w x y _ s2 (RV.gr r1 g2) r2 (OK.mono k2 fun z H3 ⟨ρ3, T3, uz, g3, s3, r3, k3⟩ => ?_)
  cases uz with
  | bl k => cases r3; exact ⟨k, rfl, okB s3 k3⟩
  | _ => exact False.elim k3
theorem fe_chain {op op' : CmpOp} {g g' : U → U → M U} (ho : FOp X E (compareOp op) g) (ho' : FOp X E (compareOp op') g') (ha : FE X E a Fa) (hb : FE X E b Fb) (hc : FE X E c Fc)
    (hm : lastMarks [op, op'] [b, c] = false := by rfl) : FE X E (.Compare a [op, op'] [b, c] pos) (fChain g g' Fa Fb Fc) := by
  obtain ⟨r, h1, h2⟩ := ho
  obtain ⟨r', h1', h2'⟩ := ho'
  obtain ⟨ta, ka, qa⟩ := ha
  obtain ⟨tb, kb, qb⟩ := hb
  obtain ⟨tc, kc, qc⟩ := hc
  refine ⟨_, pe_chain h1 h1' ka kb kc hm, fun σ H ρ T η Q s re h => ?_⟩
  refine qa σ H ρ T η _ s re (OK.mono (OK.bind h) fun x H1 ⟨ρ1, T1, u, g1, s1, r1, k1⟩ => ?_)
  refine qb σ H1 ρ1 T1 η _ s1 (re.gr g1) (OK.mono (OK.bind k1) fun y H2 ⟨ρ2, T2, w, g2, s2, r2, k2⟩ => ?_)
  refine h2 ρ2 H2 T2 u w x y _ s2 (RV.gr r1 g2) r2 (OK.mono (OK.bind k2) fun z H3 ⟨ρ3, T3, uz, g3, s3, r3, k3⟩ => ?_)
  cases uz with
  | bl k =>
    cases r3
    refine ⟨k, rfl, ?_⟩
    cases k with
    | true =>
      refine qc σ H3 ρ3 T3 η _ s3 (re.gr (g1.trans (g2.trans g3))) (OK.mono (OK.bind k3) fun q H4 ⟨ρ4, T4, uq, g4, s4, r4, k4⟩ => ?_)
      exact h2' ρ4 H4 T4 w uq y q _ s4 (RV.gr r2 (g3.trans g4)) r4 k4
    | false => exact okV s3 k3 (.bl false)
  | _ => exact False.elim k3
theorem tru_of {K : PySem.W.Frag} {ρ : List Addr} {H : Hp} {T : Sto} {u : U} {x : V} {k : Bool} (s : RS K ρ H T) (r : RV K ρ H u x) (e : tru T u = some k) : TruV K x H k := by
  cases r with
  | non => cases e; rfl
  | bl b => cases e; rfl
  | int i => cases e; rfl
  | str y =>
    have e : (if y.length ≤ 16777216 then some ((y.length : Int) != 0) else none) = some k := e
    split at e
    · rename_i hl
      cases e
      exact ⟨by rw [sizeLine_eq]; exact hl, rfl⟩
    · cases e
  | tup a rs =>
    cases e
    refine .inr (.inl ⟨_, a, ?_⟩)
    cases rs <;> rfl
  | scr h =>
    cases e
    exact .inl ⟨_, h.sq, by rw [List.isEmpty_map]⟩
  | ob q =>
    rename_i i a
    have e : (match T[i]? with
      | some (.lst xs) => some (!xs.isEmpty)
      | _ => none) = some k := e
    split at e
    · rename_i xs q2
      cases e
      obtain ⟨a, e1, vs, e2, rs⟩ := s.get q2
      rw [q] at e1
      cases e1
      refine .inl ⟨vs, SqL.of e2, ?_⟩
      cases rs <;> rfl
    · cases e
  | raw v => cases e
theorem ft_tru (ha : FE X E a Fa) (he : ∀ whole, isTrue a X.env whole = (do let v ← whole; standAt a.pos; holding [v] (truthy v)) := by intro _; rfl) : FT X E a (fTru Fa) := by
  obtain ⟨ta, ka, qa⟩ := ha
  refine ⟨_, pt_truth ka he, fun σ H ρ T η Q s re h => ?_⟩
  refine qa σ H ρ T η _ s re (OK.mono (OK.bind h) fun x H1 ⟨ρ1, T1, u, g1, s1, r1, k1⟩ => ?_)
  split at k1
  · rename_i k e
    exact ⟨k, tru_of s1 r1 e, okB s1 k1⟩
  · exact False.elim k1
theorem ft_not (ha : FT X E a Ga) : FT X E (.UnaryOp .Not a pos) (fNot Ga) := by
  obtain ⟨ta, ka, qa⟩ := ha
  refine ⟨_, pt_not ka, fun σ H ρ T η Q s re h => ?_⟩
  refine qa σ H ρ T η _ s re (OK.mono (OK.bind h) fun x H1 ⟨ρ1, T1, u, g1, s1, r1, k1⟩ => ?_)
  cases r1
  exact okB s1 k1
theorem fw_and1 (ha : FT X E a Ga) : FW X E (.BoolOp .And [a] pos) Ga := let ⟨ta, ka, qa⟩ := ha; ⟨ta, pw_and1 ka, qa⟩
theorem fw_or1 (ha : FT X E a Ga) : FW X E (.BoolOp .Or [a] pos) Ga := let ⟨ta, ka, qa⟩ := ha; ⟨ta, pw_or1 ka, qa⟩
theorem fw_and {b : Expr} {rest : List Expr} (ha : FT X E a Ga) (hb : FW X E (.BoolOp .And (b :: rest) pos) Gb) : FW X E (.BoolOp .And (a :: b :: rest) pos) (fAnd Ga Gb) := by
  obtain ⟨ta, ka, qa⟩ := ha
  obtain ⟨tb, kb, qb⟩ := hb
  refine ⟨_, pw_and ka kb, fun σ H ρ T η Q s re h => ?_⟩
  refine qa σ H ρ T η _ s re (OK.mono (OK.bind h) fun x H1 ⟨ρ1, T1, u, g1, s1, r1, k1⟩ => ?_)
  cases r1
  cases x with
  | true => exact qb σ H1 ρ1 T1 η Q s1 (re.gr g1) k1
  | false => exact okB s1 k1
theorem fw_or {b : Expr} {rest : List Expr} (ha : FT X E a Ga) (hb : FW X E (.BoolOp .Or (b :: rest) pos) Gb) : FW X E (.BoolOp .Or (a :: b :: rest) pos) (fOr Ga Gb) := by
  obtain ⟨ta, ka, qa⟩ := ha
  obtain ⟨tb, kb, qb⟩ := hb
  refine ⟨_, pw_or ka kb, fun σ H ρ T η Q s re h => ?_⟩
  refine qa σ H ρ T η _ s re (OK.mono (OK.bind h) fun x H1 ⟨ρ1, T1, u, g1, s1, r1, k1⟩ => ?_)
  cases r1
  cases x with
  | true => exact okB s1 k1
  | false => exact qb σ H1 ρ1 T1 η Q s1 (re.gr g1) k1
theorem ft_w (h : FW X E a Ga) : FT X E a Ga := let ⟨ta, ka, qa⟩ := h; ⟨ta, ka.pt, qa⟩
/-- as values -/
theorem fe_one {op} (h : FE X E a Fa) : FE X E (.BoolOp op [a] pos) Fa := let ⟨ta, ka, qa⟩ := h; ⟨ta, pe_one ka, qa⟩
theorem fe_and {b : Expr} {rest : List Expr} (ha : FE X E a Fa) (hb : FE X E (.BoolOp .And (b :: rest) pos) Fb) : FE X E (.BoolOp .And (a :: b :: rest) pos) (fAndV Fa Fb) := by
  obtain ⟨ta, ka, qa⟩ := ha
  obtain ⟨tb, kb, qb⟩ := hb
  refine ⟨_, pe_and ka kb, fun σ H ρ T η Q s re h => ?_⟩
  refine qa σ H ρ T η _ s re (OK.mono (OK.bind h) fun x H1 ⟨ρ1, T1, u, g1, s1, r1, k1⟩ => ?_)
  cases u with
  | bl k =>
    cases r1
    refine ⟨k, rfl, ?_⟩
    cases k with
    | true => exact qb σ H1 ρ1 T1 η Q s1 (re.gr g1) k1
    | false => exact okV s1 k1 (.bl false)
  | _ => exact False.elim k1
theorem fe_not (ha : FE X E a Fa) : FE X E (.UnaryOp .Not a pos) (fNotV Fa) := by
  obtain ⟨ta, ka, qa⟩ := ha
  refine ⟨_, pe_notT ka, fun σ H ρ T η Q s re h => ?_⟩
  refine qa σ H ρ T η _ s re (OK.mono (OK.bind h) fun x H1 ⟨ρ1, T1, u, g1, s1, r1, k1⟩ => ?_)
  split at k1
  · rename_i k e
    exact ⟨k, tru_of s1 r1 e, okV s1 k1 (.bl _)⟩
  · exact False.elim k1
theorem fe_if {c : Expr} {Gc : FxT} (hc : FT X E c Gc) (ha : FE X E a Fa) (hb : FE X E b Fb) : FE X E (.IfExp c a b pos) (fIfE Gc Fa Fb) := by
  obtain ⟨tc, kc, qc⟩ := hc
  obtain ⟨ta, ka, qa⟩ := ha
  obtain ⟨tb, kb, qb⟩ := hb
  refine ⟨_, pe_ifExp kc ka kb, fun σ H ρ T η Q s re h => ?_⟩
  refine qc σ H ρ T η _ s re (OK.mono (OK.bind h) fun x H1 ⟨ρ1, T1, u, g1, s1, r1, k1⟩ => ?_)
  cases r1
  cases x with
  | true => exact qa σ H1 ρ1 T1 η Q s1 (re.gr g1) k1
  | false => exact qb σ H1 ρ1 T1 η Q s1 (re.gr g1) k1
theorem fa_nil : FA X E [] fNil := ⟨_, pa_nil, fun _ _ _ _ _ _ s _ h => h _ _ _ Gr.refl s .nil⟩
theorem fa_cons {e : Expr} {es : List Expr} (ha : FE X E e Fa) (hr : FA X E es Fr) (hs : starEach (e :: es) X.env = (false, eval e X.env) :: starEach es X.env := by rfl) : FA X E (e :: es) (fCons Fa Fr) := by
  obtain ⟨ta, ka, qa⟩ := ha
  obtain ⟨tr, kr, qr⟩ := hr
  refine ⟨_, pa_cons ka kr hs, fun σ H ρ T η Q s re h => ?_⟩
  refine qa σ H ρ T η _ s re (OK.mono (OK.bind h) fun x H1 ⟨ρ1, T1, u, g1, s1, r1, k1⟩ => ?_)
  refine qr σ H1 ρ1 T1 η _ s1 (re.gr g1) (OK.mono (OK.bind k1) fun xs H2 ⟨ρ2, T2, us, g2, s2, r2, k2⟩ => ?_)
  exact k2 _ _ _ Gr.refl s2 (.cons (RV.gr r1 g2) r2)
theorem fe_tup {es : List Expr} {k : Nat} (h : FA X E es Fr) : FE X E (.Tuple es k pos) (fTup Fr) := by
  obtain ⟨tr, kr, qr⟩ := h
  refine ⟨_, pe_tup kr, fun σ H ρ T η Q s re h => ?_⟩
  refine qr σ H ρ T η _ s re (OK.mono (OK.bind h) fun xs H1 ⟨ρ1, T1, us, g1, s1, r1, k1⟩ => ?_)
  split at k1
  · rename_i hl
    exact ⟨by rw [← RVs.length r1, sizeLine_eq]; exact hl, fun p n => okTup s1 k1 r1 n⟩
  · exact False.elim k1
theorem fe_lst {es : List Expr} (h : FA X E es Fr) : FE X E (.List es pos) (fLst Fr) := by
  obtain ⟨tr, kr, qr⟩ := h
  refine ⟨_, pe_lst kr, fun σ H ρ T η Q s re h => ?_⟩
  refine qr σ H ρ T η _ s re (OK.mono (OK.bind h) fun xs H1 ⟨ρ1, T1, us, g1, s1, r1, k1⟩ => ?_)
  split at k1
  · rename_i hl
    exact ⟨by rw [← RVs.length r1, sizeLine_eq]; exact hl, fun p n => okNew s1 k1 r1 n⟩
  · exact False.elim k1
/-- a one-place operation -/
def FUn (X : Cx) (E : XK) (f : Value → Sem Value) (g : U → M U) : Prop :=
  ∃ r : V → Hp → VK → Prop, UnR X f r ∧ ∀ (ρ : List Addr) (H : Hp) (T : Sto) (u : U) (x : V) (Q : V → Hp → Prop), RS X.K ρ H T → RV X.K ρ H u x → OK X.K ρ H E (rV X.K) (g u T) Q → r x H Q
theorem fe_un {op : UnaryOp} {g : U → M U} (ho : FUn X E (unaryOp op) g) (ha : FE X E a Fa) : FE X E (.UnaryOp op a pos) (fUn g Fa) := by
  obtain ⟨r, h1, h2⟩ := ho
  obtain ⟨ta, ka, qa⟩ := ha
  refine ⟨_, pe_un h1 ka, fun σ H ρ T η Q s re h => ?_⟩
  exact qa σ H ρ T η _ s re (OK.mono (OK.bind h) fun x H1 ⟨ρ1, T1, u, g1, s1, r1, k1⟩ => h2 ρ1 H1 T1 u x Q s1 r1 k1)
/-- a call of a built-in value -/
def FCall (X : Cx) (E : XK) (f : Value) (g : List U → M U) : Prop :=
  ∃ r : List V → Hp → VK → Prop, CallR X f r ∧ ∀ (ρ : List Addr) (H : Hp) (T : Sto) (us : List U) (xs : List V) (Q : V → Hp → Prop), RS X.K ρ H T → RVs X.K ρ H us xs → OK X.K ρ H E (rV X.K) (g us T) Q → r xs H Q
theorem fe_callB {id : String} {x : Str} {p : Pos} {e : Expr} {es : List Expr} {g : List U → M U} (hc : FCall X E (.builtin id) g) (hg : Gl X x) (hm : X.mg x = none) (hv : bootBuiltins x = some (.builtin id)) (ha : FA X E (e :: es) Fr) (hn : x ≠ "__name__" := by decide)
    (hdb : (x == ("__debug__" : Str)) = false := by decide) (he : starEach (e :: es) X.env = (false, eval e X.env) :: starEach es X.env := by rfl) (hpl : (backTo pos (starEach es X.env)).any (·.1) = false := by rfl) : FE X E (.Call (.Name x p) (e :: es) [] pos) (fCall g Fr) := by
  obtain ⟨r, h1, h2⟩ := hc
  obtain ⟨tr, kr, qr⟩ := ha
  refine ⟨_, pe_callB h1 hg hm hv kr hn hdb he hpl, fun σ H ρ T η Q s re h => ?_⟩
  exact qr σ H ρ T η _ s re (OK.mono (OK.bind h) fun xs H1 ⟨ρ1, T1, us, g1, s1, r1, k1⟩ => h2 ρ1 H1 T1 us xs Q s1 r1 k1)
theorem fe_callTy {id : String} {x : Str} {p : Pos} {e : Expr} {es : List Expr} {g : List U → M U} (hc : FCall X E (.type id) g) (hg : Gl X x) (hm : X.mg x = none) (hv : bootBuiltins x = some (.type id)) (ha : FA X E (e :: es) Fr) (hn : x ≠ "__name__" := by decide)
    (hdb : (x == ("__debug__" : Str)) = false := by decide) (he : starEach (e :: es) X.env = (false, eval e X.env) :: starEach es X.env := by rfl) (hpl : (backTo pos (starEach es X.env)).any (·.1) = false := by rfl) : FE X E (.Call (.Name x p) (e :: es) [] pos) (fCall g Fr) := by
  obtain ⟨r, h1, h2⟩ := hc
  obtain ⟨tr, kr, qr⟩ := ha
  refine ⟨_, pe_callTy h1 hg hm hv kr hn hdb he hpl, fun σ H ρ T η Q s re h => ?_⟩
  exact qr σ H ρ T η _ s re (OK.mono (OK.bind h) fun xs H1 ⟨ρ1, T1, us, g1, s1, r1, k1⟩ => h2 ρ1 H1 T1 us xs Q s1 r1 k1)
end
end Lf
set_option Elab.async false
set_option linter.all false
set_option maxRecDepth 100000
set_option maxHeartbeats 4000000
namespace Lf
open PySem PySem.Spec L2
theorem sz16 : (sizeLine : Nat) = 16777216 := sizeLine_eq
/-- data: scalars, tuples, lists of such (lists through the store), n deep at most -/
def dats (f : U → Option PyData) : List U → Option (List PyData)
  | [] => some []
  | u :: us => match f u, dats f us with
    | some d, some ds => some (d :: ds)
    | _, _ => none
def dat (T : Sto) : Nat → U → Option PyData
  | _, .non => some .none
  | _, .bl b => some (.bool b)
  | _, .int i => some (.int i)
  | _, .str x => some (.str x)
  | n + 1, .tup xs => (dats (dat T n) xs).map .tuple
  | n + 1, .ob i => match T[i]? with
    | some (.lst xs) => (dats (dat T n) xs).map .list
    | _ => none
  | _, .scr ns => some (.list (ns.map .int))
  | _, _ => none
section
variable {K : PySem.W.Frag} {ρ : List Addr} {H : Hp} {T : Sto}
theorem dpInts : ∀ ns : List Int, DpAll K H (ns.map V.int) (ns.map PyData.int)
  | [] => .nil
  | n :: ns => .cons (.int n) (dpInts ns)
theorem dats_ok {f : U → Option PyData} (hf : ∀ u v d, RV K ρ H u v → f u = some d → Dp K H v d) : ∀ {us : List U} {vs : List V} {ds : List PyData}, RVs K ρ H us vs → dats f us = some ds → DpAll K H vs ds
  | _, _, _, .nil, e => by cases e; exact .nil
  | u :: us, _, ds, .cons r rs, e => by
    unfold dats at e
    split at e
    · rename_i d ds' e1 e2
      cases e
      exact .cons (hf _ _ _ r e1) (dats_ok hf rs e2)
    · cases e
theorem dat_ok (s : RS K ρ H T) : ∀ (n : Nat) (u : U) (v : V) (d : PyData), RV K ρ H u v → dat T n u = some d → Dp K H v d
  | n, u, v, d, r, e => by
    cases r with
    | non => cases n <;> (cases e; exact .non)
    | bl b => cases n <;> (cases e; exact .bl b)
    | int i => cases n <;> (cases e; exact .int i)
    | str x => cases n <;> (cases e; exact .str x)
    | @tup a vs us q rs =>
      cases n with
      | zero => cases e
      | succ n =>
        have e : (dats (dat T n) us).map PyData.tuple = some d := e
        obtain ⟨ds, e1, e2⟩ := Option.map_eq_some_iff.mp e
        subst e2
        exact .tup q (dats_ok (fun u v d => dat_ok s n u v d) rs e1)
    | @ob i a q =>
      cases n with
      | zero => cases e
      | succ n =>
        have e : (match T[i]? with
          | some (.lst xs) => (dats (dat T n) xs).map .list
          | _ => none) = some d := e
        split at e
        · rename_i xs q2
          obtain ⟨ds, e1, e2⟩ := Option.map_eq_some_iff.mp e
          subst e2
          obtain ⟨b, h1, vs, h2, rs⟩ := s.get q2
          rw [q] at h1
          cases h1
          exact .lst (SqL.of h2) (dats_ok (fun u v d => dat_ok s n u v d) rs e1)
        · cases e
    | scr h => cases n <;> (cases e; exact .lst h.sq (dpInts _))
    | raw v => cases n <;> cases e
end
theorem RVs.rep {K : PySem.W.Frag} {ρ : List Addr} {H : Hp} {us : List U} {vs : List V} (r : RVs K ρ H us vs) : ∀ k : Nat, RVs K ρ H (List.replicate k us).flatten (List.replicate k vs).flatten
  | 0 => .nil
  | k + 1 => by
    rw [List.replicate_succ, List.replicate_succ, List.flatten_cons, List.flatten_cons]
    exact r.append (RVs.rep r k)
def gAdd : U → U → M U
  | .int i, .int j, T => .ok (.int (i + j)) T
  | .str x, .str y, T => if x.length + y.length ≤ 16777216 then .ok (.str (x ++ y)) T else .no
  | .tup xs, .tup ys, T => if xs.length + ys.length ≤ 16777216 then .ok (.tup (xs ++ ys)) T else .no
  | .ob i, .ob j, T => match T[i]?, T[j]? with
    | some (.lst xs), some (.lst ys) => if xs.length + ys.length ≤ 16777216 then nw (.lst (xs ++ ys)) T else .no
    | _, _ => .no
  | _, _, _ => .no
def gSub : U → U → M U
  | .int i, .int j, T => .ok (.int (i - j)) T
  | _, _, _ => .no
def strRep (x : Str) (n : Int) : Str := ⟨(List.replicate n.toNat x.cps).foldl (· ++ ·) #[]⟩
def gMul : U → U → M U
  | .int i, .int j, T => if i.natAbs.log2 + j.natAbs.log2 < 1000000 then .ok (.int (i * j)) T else .no
  | .str z, .int n, T => if -1000000 < n ∧ n < 1000000 ∧ z.length < 1000 ∧ (strRep z n).length ≤ 16777216 ∧ z.length * n.toNat ≤ 16777216 then .ok (.str (if n < 1 then Str.empty else if (n == 1 || z.length == 0) = true then z else strRep z n)) T else .no
  | .ob i, .int k, T => match T[i]? with
    | some (.lst xs) => if xs.length * k.toNat ≤ 16777216 ∧ -9223372036854775808 ≤ k ∧ k < 9223372036854775808 then nw (.lst (List.replicate k.toNat xs).flatten) T else .no
    | _ => .no
  | _, _, _ => .no
def gDiv : U → U → M U
  | .int i, .int j, T => if 0 < j ∧ j.natAbs.log2 < 9000 then .ok (.int (i / j)) T else .no
  | _, _, _ => .no
def gMod : U → U → M U
  | .int i, .int j, T => if 0 < j then .ok (.int (i % j)) T else .no
  | _, _, _ => .no
def gPow : U → U → M U
  | .int i, .int j, T => if 0 ≤ j ∧ j ≤ 1000000 ∧ i.natAbs < 18446744073709551616 then .ok (.int (i ^ j.toNat)) T else .no
  | _, _, _ => .no
def gNeg : U → M U
  | .int i, T => .ok (.int (-i)) T
  | _, _ => .no
def gEqD (neg : Bool) : U → U → M U := fun u v T => match dat T 66 u, dat T 66 v with
  | some d, some e => if SeqAt.shaped d = true ∧ SeqAt.shaped e = true then .ok (.bl (if neg then !PyData.eqv d e else PyData.eqv d e)) T else .no
  | _, _ => .no
def gCmp (p : Int → Int → Bool) : U → U → M U
  | .int i, .int j, T => .ok (.bl (p i j)) T
  | _, _, _ => .no
def gIs (neg : Bool) : U → U → M U
  | .non, .non, T => .ok (.bl (!neg)) T
  | .bl a, .bl b, T => .ok (.bl (if neg then !decide (a = b) else decide (a = b))) T
  | u, .non, T => match u with
    | .non => .no
    | .raw _ => .no
    | _ => .ok (.bl neg) T
  | _, _, _ => .no
section
variable {X : Cx} {E : XK}
theorem op_tup0 : OpR X (binaryOp .Add) (fun x y H Q => ∃ a b ys, x = .ref a ∧ y = .ref b ∧ SqT X.K H a [] ∧ SqT X.K H b ys ∧ ys.length ≤ sizeLine ∧ Q (.ref b) H) := by
  intro pins s σ H x y v u Q I rx ry h
  obtain ⟨a, b, ys, rfl, rfl, h1, h2, hz, q⟩ := h
  cases rx
  cases ry
  obtain ⟨its, r1, t1, z1⟩ := I.tuple h1
  obtain ⟨jts, r2, t2, z2⟩ := I.tuple h2
  cases r1
  obtain ⟨m, F⟩ := I.fr
  exact PyProof.Rows.add_tuples F PyProof.Rows.News.nil t1 t2 (fun _ => ⟨.ref b, H, I, rfl, q⟩) (fun e => absurd rfl e) (fun e => absurd rfl e) (by rw [List.length_nil, Nat.zero_add, ← r2.length]; exact hz)
theorem fop_add : FOp X E (binaryOp .Add) gAdd := by
  refine ⟨_, op_add.or (op_add_str.or (op_tup0.or (op_catT.or op_cat))), fun ρ H T u w x y Q s ru rw h => ?_⟩
  cases u with
  | int i =>
    cases w with
    | int j => cases ru; cases rw; exact .inl ⟨i, j, rfl, rfl, okV s h (.int _)⟩
    | _ => exact False.elim h
  | str i =>
    cases w with
    | str j =>
      cases ru
      cases rw
      have h : OK X.K ρ H E (rV X.K) (if i.length + j.length ≤ 16777216 then .ok (.str (i ++ j)) T else .no) Q := h
      split at h
      · rename_i hl
        exact .inr (.inl ⟨i, j, rfl, rfl, by rw [sz16]; exact hl, okV s h (.str _)⟩)
      · exact False.elim h
    | _ => exact False.elim h
  | tup xs =>
    cases w with
    | tup ys =>
      have h : OK X.K ρ H E (rV X.K) (if xs.length + ys.length ≤ 16777216 then .ok (.tup (xs ++ ys)) T else .no) Q := h
      split at h
      · rename_i hl
        cases ru with
        | @tup a vs _ q1 r1 =>
          cases rw with
          | @tup b ws _ q2 r2 =>
            have l1 := r1.length
            have l2 := r2.length
            by_cases e : vs = []
            · subst e
              cases r1
              refine .inr (.inr (.inl ⟨a, b, ws, rfl, rfl, q1, q2, by rw [sz16]; simp only [List.length_nil] at hl; omega, ?_⟩))
              exact okV s h (.tup q2 r2)
            · refine .inr (.inr (.inr (.inl ⟨a, b, vs, ws, rfl, rfl, q1, q2, e, by rw [sz16]; omega, fun e2 => ?_, fun _ p n => okTup s h (r1.append r2) n⟩)))
              subst e2
              cases r2
              rw [List.append_nil] at h
              exact okV s h (.tup q1 r1)
      · exact False.elim h
    | _ => exact False.elim h
  | ob i =>
    cases w with
    | ob j =>
      have h : OK X.K ρ H E (rV X.K) (match T[i]?, T[j]? with
        | some (.lst xs), some (.lst ys) => if xs.length + ys.length ≤ 16777216 then nw (.lst (xs ++ ys)) T else .no
        | _, _ => .no) Q := h
      split at h
      · rename_i xs ys e1 e2
        split at h
        · rename_i hl
          cases ru with
          | @ob _ a q1 =>
            cases rw with
            | @ob _ b q2 =>
              obtain ⟨a', p1, vs, f1, r1⟩ := s.get e1
              obtain ⟨b', p2, ws, f2, r2⟩ := s.get e2
              rw [q1] at p1
              cases p1
              rw [q2] at p2
              cases p2
              exact .inr (.inr (.inr (.inr ⟨a, b, vs, ws, rfl, rfl, f1, f2, by rw [sz16, ← r1.length, ← r2.length]; exact hl, fun p n => okNew s h (r1.append r2) n⟩)))
        · exact False.elim h
      · exact False.elim h
    | _ => exact False.elim h
  | _ => exact False.elim h
theorem fop_sub : FOp X E (binaryOp .Sub) gSub := by
  refine ⟨_, op_sub, fun ρ H T u w x y Q s ru rw h => ?_⟩
  cases u with
  | int i =>
    cases w with
    | int j => cases ru; cases rw; exact ⟨i, j, rfl, rfl, okV s h (.int _)⟩
    | _ => exact False.elim h
  | _ => exact False.elim h
theorem op_strMul : OpR X (binaryOp .Mult) (fun x y H Q => ∃ z n, x = .str z ∧ y = .int n ∧ -1000000 < n ∧ n < 1000000 ∧ z.length < 1000 ∧ (strRep z n).length ≤ sizeLine ∧ z.length * n.toNat ≤ sizeLine ∧ Q (.str (if n < 1 then Str.empty else if (n == 1 || z.length == 0) = true then z else strRep z n)) H) := by
  intro pins s σ H x y v u Q I rx ry h
  obtain ⟨z, n, rfl, rfl, h1, h2, h4, h5, h6, q⟩ := h
  obtain ⟨t, rfl⟩ := rx
  obtain ⟨t', rfl⟩ := ry
  refine PySem.P.mul_str ?_ (fun g1 g2 => ?_) (fun _ _ => ?_) ?_
  · rw [decide_eq_false (by omega), decide_eq_false (by omega)]; rfl
  · have : (z.length : Int) ≤ (2 ^ 63 - 1) / n := Int.le_ediv_of_mul_le (by omega) (Int.le_trans (b := 1000 * 1000000) (Int.mul_le_mul (by omega) (by omega) (by omega) (by omega)) (by omega))
    omega
  · exact decide_eq_false (by omega)
  · by_cases g1 : n < 1
    · rw [if_pos g1] at q ⊢
      exact ⟨by decide, .str _, H, I.tok _, ⟨_, rfl⟩, q⟩
    · rw [if_neg g1] at q ⊢
      split at q
      · rename_i g2
        rw [if_pos g2]
        exact ⟨.str _, H, I, ⟨_, rfl⟩, q⟩
      · rename_i g2
        rw [if_neg g2]
        exact ⟨h5, .str _, H, I.tok _, ⟨_, rfl⟩, q⟩
theorem fop_mul : FOp X E (binaryOp .Mult) gMul := by
  refine ⟨_, op_mulW.or (op_strMul.or op_rep), fun ρ H T u w x y Q s ru rw h => ?_⟩
  cases u with
  | int i =>
    cases w with
    | int j =>
      cases ru
      cases rw
      have h : OK X.K ρ H E (rV X.K) (if i.natAbs.log2 + j.natAbs.log2 < 1000000 then .ok (.int (i * j)) T else .no) Q := h
      split at h
      · rename_i hl
        exact .inl ⟨i, j, rfl, rfl, hl, okV s h (.int _)⟩
      · exact False.elim h
    | _ => exact False.elim h
  | str z =>
    cases w with
    | int n =>
      cases ru
      cases rw
      have h : OK X.K ρ H E (rV X.K) (if -1000000 < n ∧ n < 1000000 ∧ z.length < 1000 ∧ (strRep z n).length ≤ 16777216 ∧ z.length * n.toNat ≤ 16777216 then .ok (.str (if n < 1 then Str.empty else if (n == 1 || z.length == 0) = true then z else strRep z n)) T else .no) Q := h
      split at h
      · rename_i hl
        exact .inr (.inl ⟨z, n, rfl, rfl, hl.1, hl.2.1, hl.2.2.1, by rw [sz16]; exact hl.2.2.2.1, by rw [sz16]; exact hl.2.2.2.2, okV s h (.str _)⟩)
      · exact False.elim h
    | _ => exact False.elim h
  | ob i =>
    cases w with
    | int k =>
      cases rw
      have h : OK X.K ρ H E (rV X.K) (match T[i]? with
        | some (.lst xs) => if xs.length * k.toNat ≤ 16777216 ∧ -9223372036854775808 ≤ k ∧ k < 9223372036854775808 then nw (.lst (List.replicate k.toNat xs).flatten) T else .no
        | _ => .no) Q := h
      split at h
      · rename_i xs e1
        split at h
        · rename_i hl
          cases ru with
          | @ob _ a q1 =>
            obtain ⟨a', p1, vs, f1, r1⟩ := s.get e1
            rw [q1] at p1
            cases p1
            exact .inr (.inr ⟨a, k, vs, rfl, rfl, f1, hl.2.1, hl.2.2, by rw [sz16, ← r1.length]; exact hl.1, fun p n => okNew s h (r1.rep _) n⟩)
        · exact False.elim h
      · exact False.elim h
    | _ => exact False.elim h
  | _ => exact False.elim h
theorem fop_div : FOp X E (binaryOp .FloorDiv) gDiv := by
  refine ⟨_, op_fdivW, fun ρ H T u w x y Q s ru rw h => ?_⟩
  cases u with
  | int i =>
    cases w with
    | int j =>
      cases ru
      cases rw
      have h : OK X.K ρ H E (rV X.K) (if 0 < j ∧ j.natAbs.log2 < 9000 then .ok (.int (i / j)) T else .no) Q := h
      split at h
      · rename_i hl
        exact ⟨i, j, rfl, rfl, hl, okV s h (.int _)⟩
      · exact False.elim h
    | _ => exact False.elim h
  | _ => exact False.elim h
theorem fop_mod : FOp X E (binaryOp .Mod) gMod := by
  refine ⟨_, op_mod, fun ρ H T u w x y Q s ru rw h => ?_⟩
  cases u with
  | int i =>
    cases w with
    | int j =>
      cases ru
      cases rw
      have h : OK X.K ρ H E (rV X.K) (if 0 < j then .ok (.int (i % j)) T else .no) Q := h
      split at h
      · rename_i hl
        exact ⟨i, j, rfl, rfl, hl, okV s h (.int _)⟩
      · exact False.elim h
    | _ => exact False.elim h
  | _ => exact False.elim h
theorem fop_pow : FOp X E (binaryOp .Pow) gPow := by
  refine ⟨_, op_pow, fun ρ H T u w x y Q s ru rw h => ?_⟩
  cases u with
  | int i =>
    cases w with
    | int j =>
      cases ru
      cases rw
      have h : OK X.K ρ H E (rV X.K) (if 0 ≤ j ∧ j ≤ 1000000 ∧ i.natAbs < 18446744073709551616 then .ok (.int (i ^ j.toNat)) T else .no) Q := h
      split at h
      · rename_i hl
        exact ⟨i, j, rfl, rfl, hl, okV s h (.int _)⟩
      · exact False.elim h
    | _ => exact False.elim h
  | _ => exact False.elim h
theorem fun_neg : FUn X E (unaryOp .USub) gNeg := by
  refine ⟨_, un_neg, fun ρ H T u x Q s ru h => ?_⟩
  cases u with
  | int i => cases ru; exact ⟨i, rfl, okV s h (.int _)⟩
  | _ => exact False.elim h
theorem fop_cmp {f : Value → Value → Sem Value} {p : Int → Int → Bool} (ho : OpR X f (rI0 fun i j => .bl (p i j))) : FOp X E f (gCmp p) := by
  refine ⟨_, ho, fun ρ H T u w x y Q s ru rw h => ?_⟩
  cases u with
  | int i =>
    cases w with
    | int j => cases ru; cases rw; exact ⟨i, j, rfl, rfl, okV s h (.bl _)⟩
    | _ => exact False.elim h
  | _ => exact False.elim h
abbrev gLt := gCmp fun i j => decide (i < j)
abbrev gLe := gCmp fun i j => decide (i ≤ j)
abbrev gGt := gCmp fun i j => decide (j < i)
abbrev gGe := gCmp fun i j => decide (j ≤ i)
theorem fop_lt : FOp X E (compareOp .Lt) gLt := fop_cmp op_lt
theorem fop_le : FOp X E (compareOp .LtE) gLe := fop_cmp op_le
theorem fop_gt : FOp X E (compareOp .Gt) gGt := fop_cmp op_gt
theorem fop_ge : FOp X E (compareOp .GtE) gGe := fop_cmp op_ge
theorem gEqD_ok {ρ : List Addr} {H : Hp} {T : Sto} {neg : Bool} {u w : U} {x y : V} {Q : V → Hp → Prop} (s : RS X.K ρ H T) (ru : RV X.K ρ H u x) (rw_ : RV X.K ρ H w y) (h : OK X.K ρ H E (rV X.K) (gEqD neg u w T) Q) :
    ∃ d e, Dp X.K H x d ∧ Dp X.K H y e ∧ SeqAt.shaped d = true ∧ SeqAt.shaped e = true ∧ Q (.bl (if neg then !PyData.eqv d e else PyData.eqv d e)) H := by
  unfold gEqD at h
  split at h
  · rename_i d e e1 e2
    split at h
    · rename_i hl
      exact ⟨d, e, dat_ok s _ _ _ _ ru e1, dat_ok s _ _ _ _ rw_ e2, hl.1, hl.2, okV s h (.bl _)⟩
    · exact False.elim h
  · exact False.elim h
/-- ==; two texts are compared as they are -/
def gEq (neg : Bool) : U → U → M U := fun u v T => match u, v with
  | .str x, .str y => .ok (.bl (if neg then !decide (x = y) else decide (x = y))) T
  | u, v => gEqD neg u v T
theorem dec_str (x y : Str) : decide (V.str x = V.str y) = decide (x = y) := by
  by_cases h : x = y
  · subst h; simp
  · rw [decide_eq_false h, decide_eq_false (fun z => h (by cases z; rfl))]
theorem fop_eq (hu : X.A.units + 64 < cLine) : FOp X E (compareOp .Eq) (gEq false) := by
  refine ⟨_, OpR.or op_eq (op_eqD hu), fun ρ H T u w x y Q s ru rw h => ?_⟩
  unfold gEq at h
  split at h
  · cases ru; cases rw
    exact .inl ⟨rfl, by rw [dec_str]; exact okV s h (.bl _)⟩
  · exact .inr (gEqD_ok (neg := false) s ru rw h)
theorem fop_ne (hu : X.A.units + 64 < cLine) : FOp X E (compareOp .NotEq) (gEq true) := by
  refine ⟨_, OpR.or op_ne (op_neD hu), fun ρ H T u w x y Q s ru rw h => ?_⟩
  unfold gEq at h
  split at h
  · cases ru; cases rw
    exact .inl ⟨rfl, by rw [dec_str]; exact okV s h (.bl _)⟩
  · exact .inr (gEqD_ok (neg := true) s ru rw h)
theorem fop_is : FOp X E (compareOp .Is) (gIs false) := by
  refine ⟨_, op_isN.or op_isBl, fun ρ H T u w x y Q s ru rw h => ?_⟩
  cases w with
  | non =>
    cases rw
    cases ru with
    | non => exact .inl ⟨rfl, okV s h (.bl true)⟩
    | raw v => exact False.elim h
    | _ => exact .inl ⟨rfl, okV s h (.bl false)⟩
  | bl b =>
    cases ru with
    | bl a => cases rw; exact .inr ⟨a, b, rfl, rfl, okV s h (.bl _)⟩
    | _ => exact False.elim h
  | _ => cases u <;> exact False.elim h
theorem fop_isnot : FOp X E (compareOp .IsNot) (gIs true) := by
  refine ⟨_, op_notN.or op_notBl, fun ρ H T u w x y Q s ru rw h => ?_⟩
  cases w with
  | non =>
    cases rw
    cases ru with
    | non => exact .inl ⟨rfl, okV s h (.bl false)⟩
    | raw v => exact False.elim h
    | _ => exact .inl ⟨rfl, okV s h (.bl true)⟩
  | bl b =>
    cases ru with
    | bl a => cases rw; exact .inr ⟨a, b, rfl, rfl, okV s h (.bl _)⟩
    | _ => exact False.elim h
  | _ => cases u <;> exact False.elim h
end
end Lf
set_option Elab.async false
set_option linter.all false
set_option maxRecDepth 100000
set_option maxHeartbeats 4000000
namespace Lf
open PySem PySem.Spec L2
inductive Fl where
  | nx
  | bk
  | ct
  | rt (u : U)
abbrev FxS := Lo → M (Fl × Lo)
/-- what a statement's result asks of its ends -/
def OKS (K : PySem.W.Frag) (ρ : List Addr) (H : Hp) (E : XK) (r : R (Fl × Lo)) (D : Ends) : Prop :=
  match r with
  | .no => False
  | .ok (.nx, η) T => ∀ (ρ' : List Addr) (H' : Hp) (σ' : L2.St), Gr K ρ H ρ' H' → RS K ρ' H' T → RE K ρ' H' η σ' → D.nx σ' H'
  | .ok (.bk, η) T => ∀ (ρ' : List Addr) (H' : Hp) (σ' : L2.St), Gr K ρ H ρ' H' → RS K ρ' H' T → RE K ρ' H' η σ' → D.bk σ' H'
  | .ok (.ct, η) T => ∀ (ρ' : List Addr) (H' : Hp) (σ' : L2.St), Gr K ρ H ρ' H' → RS K ρ' H' T → RE K ρ' H' η σ' → D.ct σ' H'
  | .ok (.rt u, _) T => ∀ (ρ' : List Addr) (H' : Hp) (v : V), Gr K ρ H ρ' H' → RS K ρ' H' T → RV K ρ' H' u v → D.rt v H'
  | .ex e T => XR K ρ H E e T
structure FS (X : Cx) (E : XK) (st : Stmt) (F : FxS) : Prop where
  ex : ∃ t : TS, PS X st t ∧ ∀ (σ : L2.St) (H : Hp) (ρ : List Addr) (T : Sto) (η : Lo) (D : Ends), RS X.K ρ H T → RE X.K ρ H η σ → OKS X.K ρ H E (F η T) D → t D σ H
structure FSs (X : Cx) (E : XK) (st : List Stmt) (F : FxS) : Prop where
  ex : ∃ t : TS, PSs X st t ∧ ∀ (σ : L2.St) (H : Hp) (ρ : List Addr) (T : Sto) (η : Lo) (D : Ends), RS X.K ρ H T → RE X.K ρ H η σ → OKS X.K ρ H E (F η T) D → t D σ H
/-- the slots that are written -/
def Wr (ws : List Nat) (σ σ' : L2.St) : Prop := σ'.length = σ.length ∧ ∀ j, j ∉ ws → σ'[j]? = σ[j]?
structure FG (X : Cx) (E : XK) (e : Expr) (ws : List Nat) (G : U → Lo → M Lo) : Prop where
  ex : ∃ t : TG, PG X e t ∧ ∀ (σ : L2.St) (H : Hp) (ρ : List Addr) (T : Sto) (η : Lo) (u : U) (v : V) (Q : L2.St → Hp → Prop), RS X.K ρ H T → RE X.K ρ H η σ → RV X.K ρ H u v →
    OK X.K ρ H E (fun ρ' H' η' σ' => RE X.K ρ' H' η' σ' ∧ Wr ws σ σ') (G u η T) Q → t v σ H Q
structure FGs (X : Cx) (E : XK) (es : List Expr) (ws : List Nat) (G : List U → Lo → M Lo) : Prop where
  ex : ∃ t : TGs, PGs X es t ∧ ∀ (σ : L2.St) (H : Hp) (ρ : List Addr) (T : Sto) (η : Lo) (us : List U) (vs : List V) (Q : L2.St → Hp → Prop), RS X.K ρ H T → RE X.K ρ H η σ → RVs X.K ρ H us vs →
    OK X.K ρ H E (fun ρ' H' η' σ' => RE X.K ρ' H' η' σ' ∧ Wr ws σ σ') (G us η T) Q → t vs σ H Q
section
variable {K : PySem.W.Frag} {ρ ρ' : List Addr} {H H' : Hp} {T : Sto} {E : XK} {α β : Type} {rel : Rel α β}
theorem OKS.gr {r : R (Fl × Lo)} {D : Ends} (h : OKS K ρ H E r D) (g : Gr K ρ H ρ' H') : OKS K ρ' H' E r D := by
  cases r with
  | no => exact h
  | ok a T =>
    obtain ⟨f, η⟩ := a
    cases f with
    | nx => exact fun ρ2 H2 b g2 s q => h ρ2 H2 b (g.trans g2) s q
    | bk => exact fun ρ2 H2 b g2 s q => h ρ2 H2 b (g.trans g2) s q
    | ct => exact fun ρ2 H2 b g2 s q => h ρ2 H2 b (g.trans g2) s q
    | rt u => exact fun ρ2 H2 b g2 s q => h ρ2 H2 b (g.trans g2) s q
  | ex e T => exact XR.gr h g
theorem OKS.bind {r : R α} {k : α → M (Fl × Lo)} {D : Ends} (h : OKS K ρ H E (r.bind k) D) :
    OK K ρ H E rel r (fun b H1 => ∃ (ρ1 : List Addr) (T1 : Sto) (a : α), Gr K ρ H ρ1 H1 ∧ RS K ρ1 H1 T1 ∧ rel ρ1 H1 a b ∧ OKS K ρ1 H1 E (k a T1) D) := by
  cases r with
  | no => exact h
  | ok a T => exact fun ρ1 H1 b g s q => ⟨ρ1, T, a, g, s, q, OKS.gr h g⟩
  | ex e T => exact h
/-- a statement's result, then more -/
theorem OKS.seq {r : R (Fl × Lo)} {k : Fl × Lo → M (Fl × Lo)} {D D' : Ends} (h : OKS K ρ H E (r.bind k) D)
    (hn : ∀ η T (ρ1 : List Addr) (H1 : Hp) (σ1 : L2.St), r = .ok (.nx, η) T → Gr K ρ H ρ1 H1 → RS K ρ1 H1 T → RE K ρ1 H1 η σ1 → OKS K ρ1 H1 E (k (.nx, η) T) D → D'.nx σ1 H1)
    (hb : ∀ η T (ρ1 : List Addr) (H1 : Hp) (σ1 : L2.St), r = .ok (.bk, η) T → Gr K ρ H ρ1 H1 → RS K ρ1 H1 T → RE K ρ1 H1 η σ1 → OKS K ρ1 H1 E (k (.bk, η) T) D → D'.bk σ1 H1)
    (hc : ∀ η T (ρ1 : List Addr) (H1 : Hp) (σ1 : L2.St), r = .ok (.ct, η) T → Gr K ρ H ρ1 H1 → RS K ρ1 H1 T → RE K ρ1 H1 η σ1 → OKS K ρ1 H1 E (k (.ct, η) T) D → D'.ct σ1 H1)
    (hr : ∀ u η T (ρ1 : List Addr) (H1 : Hp) (v : V), r = .ok (.rt u, η) T → Gr K ρ H ρ1 H1 → RS K ρ1 H1 T → RV K ρ1 H1 u v → OKS K ρ1 H1 E (k (.rt u, η) T) D → D'.rt v H1) : OKS K ρ H E r D' := by
  cases r with
  | no => exact h
  | ok a T =>
    obtain ⟨f, η⟩ := a
    cases f with
    | nx => exact fun ρ1 H1 σ1 g s q => hn η T ρ1 H1 σ1 rfl g s q (OKS.gr h g)
    | bk => exact fun ρ1 H1 σ1 g s q => hb η T ρ1 H1 σ1 rfl g s q (OKS.gr h g)
    | ct => exact fun ρ1 H1 σ1 g s q => hc η T ρ1 H1 σ1 rfl g s q (OKS.gr h g)
    | rt u => exact fun ρ1 H1 v g s q => hr u η T ρ1 H1 v rfl g s q (OKS.gr h g)
  | ex e T => exact h
theorem Wr.refl {ws : List Nat} {σ : L2.St} : Wr ws σ σ := ⟨rfl, fun _ _ => rfl⟩
theorem Wr.trans {w1 w2 : List Nat} {σ σ1 σ2 : L2.St} (a : Wr w1 σ σ1) (b : Wr w2 σ1 σ2) : Wr (w1 ++ w2) σ σ2 :=
  ⟨b.1.trans a.1, fun j hj => by
    rw [List.mem_append, not_or] at hj
    rw [b.2 j hj.2, a.2 j hj.1]⟩
theorem Wr.set {i : Nat} {σ : L2.St} {v : V} : Wr [i] σ (σ.set i (some v)) :=
  ⟨by rw [List.length_set], fun j hj => by rw [List.getElem?_set_ne (fun e => hj (by rw [e]; exact List.mem_singleton.mpr rfl))]⟩
end
def fSkip : FxS := fun η T => .ok (.nx, η) T
def fSeq (F G : FxS) : FxS := fun η T => (F η T).bind fun p T1 => match p.1 with
  | .nx => G p.2 T1
  | _ => .ok p T1
def fDrop (Fe : FxE) : FxS := fun η T => (Fe η T).bind fun _ T1 => .ok (.nx, η) T1
def fRet (Fe : FxE) : FxS := fun η T => (Fe η T).bind fun u T1 => .ok (.rt u, η) T1
def fRetN : FxS := fun η T => .ok (.rt .non, η) T
def fBrk : FxS := fun η T => .ok (.bk, η) T
def fCnt : FxS := fun η T => .ok (.ct, η) T
def fIf (Fc : FxT) (F G : FxS) : FxS := fun η T => (Fc η T).bind fun b T1 => if b = true then F η T1 else G η T1
def fSet (i : Nat) (Fe : FxE) : FxS := fun η T => (Fe η T).bind fun u T1 => .ok (.nx, η.set i (some u)) T1
def gNm (i : Nat) : U → Lo → M Lo := fun u η T => .ok (η.set i (some u)) T
def gNil : List U → Lo → M Lo := fun us η T => match us with
  | [] => .ok η T
  | _ => .no
def gCons (G : U → Lo → M Lo) (Gr : List U → Lo → M Lo) : List U → Lo → M Lo := fun us η T => match us with
  | u :: r => (G u η T).bind fun η1 T1 => Gr r η1 T1
  | [] => .no
def gUnp (n : Nat) (Gr : List U → Lo → M Lo) : U → Lo → M Lo := fun u η T => match u with
  | .tup xs => if xs.length = n then Gr xs η T else .no
  | _ => .no
def fAsg (Fe : FxE) (G : U → Lo → M Lo) : FxS := fun η T => (Fe η T).bind fun u T1 => (G u η T1).bind fun η1 T2 => .ok (.nx, η1) T2
def fPar2 (i j : Nat) (Fr : FxA) : FxS := fun η T => (Fr η T).bind fun us T1 => match us with
  | [u, w] => .ok (.nx, (η.set i (some u)).set j (some w)) T1
  | _ => .no
def fPar3 (i j l : Nat) (Fr : FxA) : FxS := fun η T => (Fr η T).bind fun us T1 => match us with
  | [u, w, z] => .ok (.nx, ((η.set i (some u)).set j (some w)).set l (some z)) T1
  | _ => .no
/-- o[i] = v -/
def gSetIt : U → U → U → Sto → Option Sto := fun o i v T => match o, i with
  | .ob k, .int n => match T[k]? with
    | some (.lst xs) => match ixN xs.length n with
      | some j => some (T.set k (.lst (xs.set j v)))
      | none => none
    | _ => none
  | _, _ => none
theorem gSetIt_some {o i v : U} {T T3 : Sto} (h : gSetIt o i v T = some T3) : ∃ (k : Nat) (n : Int) (xs : List U) (j : Nat), o = .ob k ∧ i = .int n ∧ T[k]? = some (.lst xs) ∧ ixN xs.length n = some j ∧ T3 = T.set k (.lst (xs.set j v)) := by
  unfold gSetIt at h
  split at h
  · split at h
    · split at h
      · cases h
        exact ⟨_, _, _, _, rfl, rfl, by assumption, by assumption, rfl⟩
      · cases h
    · cases h
  · cases h
def gSubT (Fo Fi : FxE) : U → Lo → M Lo := fun v η T => (Fo η T).bind fun o T1 => (Fi η T1).bind fun i T2 => match gSetIt o i v T2 with
  | some T3 => .ok η T3
  | none => .no
/-- what is walked: the items, each from the store at its turn; what must hold at the end -/
structure ItF where
  its : List (Sto → Option U)
  fin : Sto → Bool
abbrev FxI := Lo → M ItF
def forN (G : U → Lo → M Lo) (Fb : FxS) (fin : Sto → Bool) : List (Sto → Option U) → FxS
  | [] => fun η T => if fin T = true then .ok (.nx, η) T else .no
  | f :: r => fun η T => match f T with
    | none => .no
    | some u => (G u η T).bind fun η1 T1 => (Fb η1 T1).bind fun p T2 => match p.1 with
      | .nx => forN G Fb fin r p.2 T2
      | .ct => forN G Fb fin r p.2 T2
      | .bk => .ok (.nx, p.2) T2
      | .rt u => .ok (.rt u, p.2) T2
def fFor (Fi : FxI) (G : U → Lo → M Lo) (Fb : FxS) : FxS := fun η T => (Fi η T).bind fun it T1 => forN G Fb it.fin it.its η T1
def wipeU : Lo → List Nat → Lo
  | η, [] => η
  | η, v :: vs => (wipeU η vs).set v none
def lcN (G : U → Lo → M Lo) (Ft : FxT) (Fe : FxE) (fin : Sto → Bool) (η : Lo) : List (Sto → Option U) → List U → M U
  | [], acc => fun T => if fin T = true then nw (.lst acc) T else .no
  | f :: r, acc => fun T => match f T with
    | none => .no
    | some u => (G u η T).bind fun η1 T1 => (Ft η1 T1).bind fun b T2 => if b = true then (Fe η1 T2).bind fun y T3 => if acc.length < 16777216 then lcN G Ft Fe fin η r (acc ++ [y]) T3 else .no else lcN G Ft Fe fin η r acc T2
def fLc (vs : List Nat) (Fi : FxI) (G : U → Lo → M Lo) (Ft : FxT) (Fe : FxE) : FxE := fun η T => (Fi η T).bind fun it T1 => lcN G Ft Fe it.fin (wipeU η vs) it.its [] T1
def fYes : FxT := fun _ T => .ok true T
section
variable {X : Cx} {E : XK} {st : Stmt} {rest : List Stmt} {e : Expr} {pos : Pos} {F G : FxS} {Fe : FxE} {Fc : FxT}
theorem fss_nil : FSs X E [] fSkip := ⟨_, pss_nil, fun _ _ _ _ _ _ s r h => h _ _ _ Gr.refl s r⟩
theorem fss_cons (h1 : FS X E st F) (h2 : FSs X E rest G) : FSs X E (st :: rest) (fSeq F G) := by
  obtain ⟨t, k1, q1⟩ := h1
  obtain ⟨u, k2, q2⟩ := h2
  refine ⟨_, pss_cons k1 k2, fun σ H ρ T η D s r h => ?_⟩
  refine q1 σ H ρ T η _ s r (OKS.seq h (fun η1 T1 ρ1 H1 σ1 _ g s1 r1 k => q2 σ1 H1 ρ1 T1 η1 D s1 r1 k) (fun η1 T1 ρ1 H1 σ1 _ g s1 r1 k => ?_) (fun η1 T1 ρ1 H1 σ1 _ g s1 r1 k => ?_) (fun u η1 T1 ρ1 H1 v _ g s1 r1 k => ?_))
  · exact k ρ1 H1 σ1 Gr.refl s1 r1
  · exact k ρ1 H1 σ1 Gr.refl s1 r1
  · exact k ρ1 H1 v Gr.refl s1 r1
theorem fss_one (h : FS X E st F) : FSs X E [st] F := let ⟨t, k, q⟩ := h; ⟨t, pss_one k, q⟩
theorem fs_expr (he : FE X E e Fe) (hs : swapsWith e none pos.line X.env = pure false := by rfl) : FS X E (.Expr e pos) (fDrop Fe) := by
  obtain ⟨t, k, q⟩ := he
  refine ⟨_, ps_expr k hs, fun σ H ρ T η D s r h => ?_⟩
  exact q σ H ρ T η _ s r (OK.mono (OKS.bind h) fun x H1 ⟨ρ1, T1, u, g1, s1, r1, k1⟩ => k1 _ _ _ Gr.refl s1 (r.gr g1))
theorem fs_ret (he : FE X E e Fe) : FS X E (.Return (some e) pos) (fRet Fe) := by
  obtain ⟨t, k, q⟩ := he
  refine ⟨_, ps_ret k, fun σ H ρ T η D s r h => ?_⟩
  exact q σ H ρ T η _ s r (OK.mono (OKS.bind h) fun x H1 ⟨ρ1, T1, u, g1, s1, r1, k1⟩ => k1 _ _ _ Gr.refl s1 r1)
theorem fs_if {c : Expr} {a b : List Stmt} (hc : FT X E c Fc) (ha : FSs X E a F) (hb : FSs X E b G) : FS X E (.If c a b pos) (fIf Fc F G) := by
  obtain ⟨t, k, q⟩ := hc
  obtain ⟨t1, k1, q1⟩ := ha
  obtain ⟨t2, k2, q2⟩ := hb
  refine ⟨_, ps_if k k1 k2, fun σ H ρ T η D s r h => ?_⟩
  refine q σ H ρ T η _ s r (OK.mono (OKS.bind h) fun x H1 ⟨ρ1, T1, u, g1, s1, r1, kk⟩ => ?_)
  cases r1
  cases x with
  | true => exact q1 σ H1 ρ1 T1 η D s1 (r.gr g1) kk
  | false => exact q2 σ H1 ρ1 T1 η D s1 (r.gr g1) kk
theorem fs_set {i : Nat} {x : Str} {pos' : Pos} (hN : X.N.Nodup) (hi : X.N[i]? = some x) (hx : Loc X.env.scope x) (he : FE X E e Fe) (hs : swapsWith e (some (.Name x pos')) pos.line X.env = pure false := by rfl)
    (hf : X.fn x = true ∨ X.env.scope.names.lookup x = some .local := by first | exact .inl rfl | exact .inr rfl | assumption) : FS X E (.Assign [.Name x pos'] e pos) (fSet i Fe) := by
  obtain ⟨t, k, q⟩ := he
  refine ⟨_, ps_set hN hi hx k hs hf, fun σ H ρ T η D s r h => ?_⟩
  exact q σ H ρ T η _ s r (OK.mono (OKS.bind h) fun x H1 ⟨ρ1, T1, u, g1, s1, r1, k1⟩ => k1 _ _ _ Gr.refl s1 ((r.gr g1).set i r1))
theorem fg_name {i : Nat} {x : Str} (hN : X.N.Nodup) (hi : X.N[i]? = some x) (hx : Loc X.env.scope x) (hf : X.fn x = true ∨ X.env.scope.names.lookup x = some .local := by first | exact .inl rfl | exact .inr rfl | assumption) : FG X E (.Name x pos) [i] (gNm i) :=
  ⟨_, pg_name hN hi hx hf, fun σ H ρ T η u v Q s r rv h => h ρ H _ Gr.refl s ⟨r.set i rv, Wr.set⟩⟩
theorem fgs_nil : FGs X E [] [] gNil := by
  refine ⟨_, pgs_nil, fun σ H ρ T η us vs Q s r rv h => ?_⟩
  cases rv with
  | nil => exact ⟨rfl, h ρ H σ Gr.refl s ⟨r, Wr.refl⟩⟩
  | cons _ _ => exact False.elim h
theorem fgs_cons {e : Expr} {es : List Expr} {w1 w2 : List Nat} {G : U → Lo → M Lo} {Gr' : List U → Lo → M Lo} (h1 : FG X E e w1 G) (h2 : FGs X E es w2 Gr') (hs : (assignEach (e :: es) X.env).map (·.2) = assign e X.env :: (assignEach es X.env).map (·.2) := by rfl) :
    FGs X E (e :: es) (w1 ++ w2) (gCons G Gr') := by
  obtain ⟨t, k, q⟩ := h1
  obtain ⟨t2, k2, q2⟩ := h2
  refine ⟨_, pgs_cons k k2 hs, fun σ H ρ T η us vs Q s r rv h => ?_⟩
  cases rv with
  | nil => exact False.elim h
  | @cons u v us vs ru rr =>
    refine ⟨v, vs, rfl, q σ H ρ T η u v _ s r ru (OK.mono (OK.bind h) fun σ1 H1 ⟨ρ1, T1, η1, g1, s1, ⟨r1, w1⟩, k1⟩ => ?_)⟩
    refine q2 σ1 H1 ρ1 T1 η1 us vs Q s1 r1 (rr.gr g1) ?_
    generalize hres : Gr' us η1 T1 = res at k1
    cases res with
    | no => exact k1
    | ok a T2 => exact fun ρ2 H2 σ2 g2 s2 ⟨r2, w2⟩ => k1 ρ2 H2 σ2 g2 s2 ⟨r2, w1.trans w2⟩
    | ex e T2 => exact k1
theorem fg_tup {es : List Expr} {k : Nat} {ws : List Nat} {G : List U → Lo → M Lo} {n : Nat} (hc : X.calm = true) (h : FGs X E es ws G) (hn : (assignEach es X.env).length = n := by rfl) (hst : (assignEach es X.env).findIdx? (·.1) = none := by rfl) :
    FG X E (.Tuple es k pos) ws (gUnp n G) := by
  obtain ⟨t, kk, q⟩ := h
  refine ⟨_, pg_tup hc kk hn hst, fun σ H ρ T η u v Q s r rv h => ?_⟩
  cases rv with
  | @tup a vs us sq rs =>
    have h : OK X.K ρ H E (fun ρ' H' η' σ' => RE X.K ρ' H' η' σ' ∧ Wr ws σ σ') (if us.length = n then G us η T else .no) Q := h
    split at h
    · rename_i hl
      exact ⟨a, vs, rfl, sq, by rw [← rs.length]; exact hl, q σ H ρ T η us vs Q s r rs h⟩
    · exact False.elim h
  | _ => exact False.elim h
theorem fg_sub {o i : Expr} {Fo Fi : FxE} (ho : FE X E o Fo) (hi : FE X E i Fi)
    (ha : ∀ v, assign (.Subscript o i pos) X.env v = (do
      let ov ← holding [v] (eval o X.env)
      let iv ← holding [v, ov] (eval i X.env)
      standAt pos
      holding [v, ov, iv] (setItem ov iv v)
      release [v, ov, iv] []) := by intro _; rfl) : FG X E (.Subscript o i pos) [] (gSubT Fo Fi) := by
  obtain ⟨t, k, q⟩ := ho
  obtain ⟨t2, k2, q2⟩ := hi
  refine ⟨_, pg_sub k k2 set_list ha, fun σ H ρ T η u v Q s r rv h => ?_⟩
  have h' := OK.bind (rel := rV X.K) h
  refine q σ H ρ T η _ s r (OK.mono h' fun x H1 ⟨ρ1, T1, uo, g1, s1, r1, k1⟩ => ?_)
  have k1' := OK.bind (rel := rV X.K) k1
  refine q2 σ H1 ρ1 T1 η _ s1 (r.gr g1) (OK.mono k1' fun y H2 ⟨ρ2, T2, ui, g2, s2, r2, kk⟩ => ?_)
  have rv2 := (rv.gr g1).gr g2
  have re2 := (r.gr g1).gr g2
  have r1' := r1.gr g2
  cases eT : gSetIt uo ui u T2 with
  | none => rw [eT] at kk; exact False.elim kk
  | some T3 =>
    rw [eT] at kk
    obtain ⟨c, n, xs, j, rfl, rfl, e1, e2, rfl⟩ := gSetIt_some eT
    cases r2
    cases r1' with
    | @ob _ a ea =>
      obtain ⟨a', p1, vs, f1, rs⟩ := s2.get e1
      rw [ea] at p1
      cases p1
      have g3 : Gr X.K ρ2 H2 ρ2 (upd H2 a (.lst (vs.set j v))) := Gr.put s2 ea
      exact ⟨a, vs, n, j, rfl, rfl, f1, by rw [← rs.length]; exact e2, kk ρ2 _ σ g3 (s2.put ea ⟨_, upd_same, (rs.set rv2 j).gr g3⟩) ⟨re2.gr g3, Wr.refl⟩⟩
theorem fs_asg {tg e : Expr} {ws : List Nat} {G : U → Lo → M Lo} (he : FE X E e Fe) (hg : FG X E tg ws G) (hs : swapsWithSole [tg] e pos.line X.env = pure false := by rfl) (hw : swappedStores [tg] e X.env = pure none := by rfl)
    (h1 : (assignEach [tg] X.env).map (·.2) = [assign tg X.env] := by rfl) : FS X E (.Assign [tg] e pos) (fAsg Fe G) := by
  obtain ⟨t, k, q⟩ := he
  obtain ⟨t2, k2, q2⟩ := hg
  refine ⟨_, ps_asg k k2 hs hw h1, fun σ H ρ T η D s r h => ?_⟩
  refine q σ H ρ T η _ s r (OK.mono (OKS.bind h) fun x H1 ⟨ρ1, T1, u, g1, s1, r1, kk⟩ => ?_)
  refine q2 σ H1 ρ1 T1 η u x _ s1 (r.gr g1) r1 (OK.mono (OKS.bind kk) fun σ2 H2 ⟨ρ2, T2, η2, g2, s2, ⟨r2, _⟩, k3⟩ => k3 _ _ _ Gr.refl s2 r2)
theorem fs_par2 {i j : Nat} {x y : Str} {a b : Expr} {Fr : FxA} {px py pt : Pos} {kt k2 pt2} (hc : X.calm = true) (hN : X.N.Nodup) (hi : X.N[i]? = some x) (hj : X.N[j]? = some y) (hij : i ≠ j)
    (hx : X.env.scope.names.lookup x = some .local) (hy : X.env.scope.names.lookup y = some .local) (ha : FA X E [a, b] Fr)
    (hw : swappedStores [.Tuple [.Name x px, .Name y py] kt pt] (.Tuple [a, b] k2 pt2) X.env = pure (some [x, y]) := by rfl)
    (hs : swapsWithSole [.Tuple [.Name x px, .Name y py] kt pt] (.Tuple [a, b] k2 pt2) pos.line X.env = pure false := by rfl) :
    FS X E (.Assign [.Tuple [.Name x px, .Name y py] kt pt] (.Tuple [a, b] k2 pt2) pos) (fPar2 i j Fr) := by
  obtain ⟨t, k, q⟩ := ha
  refine ⟨_, ps_par hc hN hi hj hij hx hy k hw hs, fun σ H ρ T η D s r h => ?_⟩
  refine q σ H ρ T η _ s r (OK.mono (OKS.bind h) fun xs H1 ⟨ρ1, T1, us, g1, s1, r1, kk⟩ => ?_)
  match us, xs, r1 with
  | [_, _], _, .cons r1 (.cons r2 .nil) => exact ⟨_, _, rfl, kk _ _ _ Gr.refl s1 (((r.gr g1).set i r1).set j r2)⟩
  | [], _, _ => exact False.elim kk
  | [_], _, _ => exact False.elim kk
  | _ :: _ :: _ :: _, _, _ => exact False.elim kk
end
end Lf
set_option Elab.async false
set_option linter.all false
set_option maxRecDepth 100000
set_option maxHeartbeats 4000000
namespace Lf
open PySem PySem.Spec L2
/-- the walk J yields the items of it, from this heap on -/
structure ItOk (K : PySem.W.Frag) (ρ₀ : List Addr) (H₀ : Hp) (it : ItF) (J : It) : Prop where
  go : ∀ (i : Nat) (f : Sto → Option U) (ρ : List Addr) (H : Hp) (T : Sto) (u : U), it.its[i]? = some f → Gr K ρ₀ H₀ ρ H → RS K ρ H T → f T = some u → J.go i H
  yl : ∀ (i : Nat) (f : Sto → Option U) (ρ : List Addr) (H : Hp) (T : Sto) (u : U) (x : V) (H' : Hp), it.its[i]? = some f → Gr K ρ₀ H₀ ρ H → RS K ρ H T → f T = some u → J.yld i H x H' → Gr K ρ H ρ H' ∧ RS K ρ H' T ∧ RV K ρ H' u x
  st : ∀ (ρ : List Addr) (H : Hp) (T : Sto), Gr K ρ₀ H₀ ρ H → RS K ρ H T → it.fin T = true → J.stop it.its.length H
abbrev rI (K : PySem.W.Frag) : Rel ItF It := fun ρ H it J => ItOk K ρ H it J
structure FI (X : Cx) (E : XK) (tg iter : Expr) (F : FxI) : Prop where
  ex : ∃ wi : TI, PI X tg iter wi ∧ ∀ (σ : L2.St) (H : Hp) (ρ : List Addr) (T : Sto) (η : Lo) (R : It → Hp → Prop), RS X.K ρ H T → RE X.K ρ H η σ → OK X.K ρ H E (rI X.K) (F η T) R → wi σ H R
theorem drop_cons {α : Type} {l : List α} {i : Nat} (h : i < l.length) : l.drop i = l[i] :: l.drop (i + 1) := List.drop_eq_getElem_cons h
section
variable {X : Cx} {E : XK} {pos : Pos}
theorem fs_for {tg iter : Expr} {body : List Stmt} {Fi : FxI} {ws : List Nat} {G : U → Lo → M Lo} {Fb : FxS} (hp : PassesOwn (model X.prog X.w) X.A X.env X.xe) (hc : X.calm = true) (hi : FI X E tg iter Fi) (hg : FG X E tg ws G) (hb : FSs X E body Fb)
    (hs : ∀ x, foldedSetIterable iter X.env x = pure x := by intro _; rfl) : FS X E (.For tg iter body [] pos) (fFor Fi G Fb) := by
  obtain ⟨wi, k1, q1⟩ := hi
  obtain ⟨g, k2, q2⟩ := hg
  obtain ⟨tb, k3, q3⟩ := hb
  refine ⟨_, ps_for hp hc k1 k2 k3 hs, fun σ H ρ T η D s r h => ?_⟩
  refine q1 σ H ρ T η _ s r (OK.mono (OKS.bind h) fun J H1 ⟨ρ1, T1, it, g1, s1, ok, kk⟩ => ?_)
  refine ⟨fun i m σ H => ∃ ρ T η, Gr X.K ρ1 H1 ρ H ∧ RS X.K ρ H T ∧ RE X.K ρ H η σ ∧ m = it.its.length - i ∧ i ≤ it.its.length ∧ OKS X.K ρ H E (forN G Fb it.fin (it.its.drop i) η T) D, ⟨it.its.length, ρ1, T1, η, Gr.refl, s1, r.gr g1, rfl, Nat.zero_le _, kk⟩, ?_⟩
  rintro i m σ H ⟨ρ, T, η, gg, s, r, rfl, hl, h⟩
  by_cases hlt : i < it.its.length
  · rw [drop_cons hlt] at h
    have hi : it.its[i]? = some it.its[i] := by simp [hlt]
    unfold forN at h
    cases ef : it.its[i] T with
    | none => rw [ef] at h; exact False.elim h
    | some u =>
      rw [ef] at h
      refine .inr ⟨ok.go i _ ρ H T u hi gg s ef, fun σ' H' => ∃ ρ T η, Gr X.K ρ1 H1 ρ H' ∧ RS X.K ρ H' T ∧ RE X.K ρ H' η σ' ∧ OKS X.K ρ H' E (forN G Fb it.fin (it.its.drop (i + 1)) η T) D, fun σ' H' ⟨ρ, T, η, a, b, c, d⟩ => ⟨it.its.length - (i + 1), by omega, ρ, T, η, a, b, c, rfl, hlt, d⟩, fun x H' y => ?_⟩
      obtain ⟨g2, s2, rv⟩ := ok.yl i _ ρ H T u x H' hi gg s ef y
      refine q2 σ H' ρ T η u x _ s2 (r.gr g2) rv (OK.mono (OKS.bind (OKS.gr h g2)) fun σ3 H3 ⟨ρ3, T3, η3, g3, s3, ⟨r3, _⟩, k3⟩ => ?_)
      have up : Gr X.K ρ1 H1 ρ3 H3 := gg.trans (g2.trans g3)
      refine q3 σ3 H3 ρ3 T3 η3 _ s3 r3 (OKS.seq k3 (fun η1 T1 ρ1 H1 σ1 _ g s1 r1 k => ⟨ρ1, T1, η1, up.trans g, s1, r1, k⟩) (fun η1 T1 ρ1 H1 σ1 _ g s1 r1 k => k _ _ _ Gr.refl s1 r1) (fun η1 T1 ρ1 H1 σ1 _ g s1 r1 k => ⟨ρ1, T1, η1, up.trans g, s1, r1, k⟩) (fun u η1 T1 ρ1 H1 v _ g s1 r1 k => k _ _ _ Gr.refl s1 r1))
  · have e : i = it.its.length := by omega
    subst e
    rw [List.drop_length] at h
    have h : OKS X.K ρ H E (if it.fin T = true then .ok (.nx, η) T else .no) D := h
    split at h
    · rename_i hf
      exact .inl ⟨ok.st ρ H T gg s hf, h _ _ _ Gr.refl s r⟩
    · exact False.elim h
structure FTs (X : Cx) (E : XK) (ifs : List Expr) (F : FxT) : Prop where
  ex : ∃ t : TT, PTs X ifs t ∧ ∀ (σ : L2.St) (H : Hp) (ρ : List Addr) (T : Sto) (η : Lo) (Q : Bool → Hp → Prop), RS X.K ρ H T → RE X.K ρ H η σ → OK X.K ρ H E rB (F η T) Q → t σ H Q
theorem fts_nil : FTs X E [] fYes := ⟨_, pts_nil, fun _ _ _ _ _ _ s _ h => okB s h⟩
theorem fts_one {c : Expr} {F : FxT} (h : FT X E c F) : FTs X E [c] F := let ⟨t, k, q⟩ := h; ⟨t, pts_one k, q⟩
theorem wipe_at : ∀ {vs : List Nat} {σ : L2.St} {j : Nat}, j ∈ vs → j < σ.length → (wipe σ vs)[j]? = some none
  | v :: vs, σ, j, hj, hl => by
    unfold wipe
    by_cases e : v = j
    · subst e
      rw [List.getElem?_set_self (by rw [wipe_length]; exact hl)]
    · rw [List.getElem?_set_ne e]
      rcases List.mem_cons.mp hj with h | h
      · exact absurd h.symm e
      · exact wipe_at h hl
theorem wipe_ext {vs ws : List Nat} {σ σ' : L2.St} (h : Wr ws (wipe σ vs) σ') (hw : ∀ j ∈ ws, j ∈ vs) : wipe σ' vs = wipe σ vs := by
  apply List.ext_getElem?
  intro j
  have hlen : σ'.length = σ.length := by rw [h.1, wipe_length]
  by_cases hj : j ∈ vs
  · by_cases hl : j < σ.length
    · rw [wipe_at hj hl, wipe_at hj (by rw [hlen]; exact hl)]
    · rw [List.getElem?_eq_none (by rw [wipe_length]; omega), List.getElem?_eq_none (by rw [wipe_length]; omega)]
  · rw [wipe_out hj, h.2 j (fun k => hj (hw j k))]
theorem RE.wipe {K : PySem.W.Frag} {ρ : List Addr} {H : Hp} {η : Lo} {σ : L2.St} (r : RE K ρ H η σ) : ∀ vs : List Nat, RE K ρ H (wipeU η vs) (wipe σ vs)
  | [] => r
  | v :: vs => by
    have ih := RE.wipe r vs
    unfold wipeU L2.wipe
    refine ⟨by rw [List.length_set, List.length_set]; exact ih.len, fun i u e => ?_⟩
    by_cases hv : v = i
    · subst hv
      by_cases hl : v < (wipeU η vs).length
      · rw [List.getElem?_set_self hl] at e; cases e
      · rw [List.getElem?_eq_none (by rw [List.length_set]; omega)] at e; cases e
    · rw [List.getElem?_set_ne hv] at e ⊢
      exact ih.at_ i u e
/-- an object that is there is taken into the store -/
theorem RS.adopt {K : PySem.W.Frag} {ρ : List Addr} {H : Hp} {T : Sto} (s : RS K ρ H T) {p : Addr} {o : O} (np : p ∉ ρ) (g : Gr K ρ H (ρ ++ [p]) H ∨ True) (r : RO K (ρ ++ [p]) H o p) (mono : ∀ o a, RO K ρ H o a → RO K (ρ ++ [p]) H o a) : RS K (ρ ++ [p]) H (T ++ [o]) := by
  refine ⟨by rw [List.length_append, List.length_append, s.len]; rfl, ?_, fun i u a e1 e2 => ?_⟩
  · rw [List.nodup_append]
    exact ⟨s.nd, by simp, fun a ha b hb => by rw [List.mem_singleton.mp hb]; rintro rfl; exact np ha⟩
  · by_cases hi : i < ρ.length
    · rw [List.getElem?_append_left hi] at e2
      rw [List.getElem?_append_left (by rw [← s.len]; exact hi)] at e1
      exact mono _ _ (s.at_ i u a e1 e2)
    · have hl : i = ρ.length := by
        have := (List.getElem?_eq_some_iff.mp e2).1
        rw [List.length_append, List.length_singleton] at this
        omega
      subst hl
      rw [List.getElem?_append_right (Nat.le_refl _), Nat.sub_self] at e2
      rw [s.len, List.getElem?_append_right (Nat.le_refl _), Nat.sub_self] at e1
      cases e1
      cases e2
      exact r
theorem RO.more {K : PySem.W.Frag} {ρ : List Addr} {H : Hp} {o : O} {a p : Addr} (h : RO K ρ H o a) : RO K (ρ ++ [p]) H o a := by
  have hp : ∀ (i : Nat) (a : Addr), ρ[i]? = some a → (ρ ++ [p])[i]? = some a := fun i a e => by rw [List.getElem?_append_left (List.getElem?_eq_some_iff.mp e).1]; exact e
  cases o with
  | lst xs => obtain ⟨vs, e1, r⟩ := h; exact ⟨vs, e1, r.mono hp (fun _ _ q => q) fun _ _ q => q⟩
  | dic kvs =>
    rcases h with ⟨ks, e1, r⟩ | ⟨k0, ks, e1, r⟩
    · exact .inl ⟨ks, e1, Paired.mapP r fun _ _ z => ⟨z.1, z.2.mono hp (fun _ _ q => q) fun _ _ q => q⟩⟩
    · exact .inr ⟨k0, ks, e1, Paired.mapP r fun _ _ z => ⟨z.1, z.2.mono hp (fun _ _ q => q) fun _ _ q => q⟩⟩
  | ins C fs => obtain ⟨dx, gs, e1, r⟩ := h; exact ⟨dx, gs, e1, Paired.mapP r fun _ _ z => ⟨z.1, z.2.mono hp (fun _ _ q => q) fun _ _ q => q⟩⟩
  | lk kvs => obtain ⟨od, ks, e1, r⟩ := h; exact ⟨od, ks, e1, Paired.mapP r fun _ _ z => ⟨z.1, z.2.mono hp (fun _ _ q => q) fun _ _ q => q⟩⟩
  | dn kvs => obtain ⟨xs, e1, r⟩ := h; exact ⟨xs, e1, Paired.mapP r fun _ _ z => ⟨⟨z.1.1, z.1.2.1, z.1.2.2.mono hp (fun _ _ q => q) fun _ _ q => q⟩, z.2.mono hp (fun _ _ q => q) fun _ _ q => q⟩⟩
  | lkn kvs => obtain ⟨od, xs, e1, r⟩ := h; exact ⟨od, xs, e1, Paired.mapP r fun _ _ z => ⟨⟨z.1.1, z.1.2.1, z.1.2.2.mono hp (fun _ _ q => q) fun _ _ q => q⟩, z.2.mono hp (fun _ _ q => q) fun _ _ q => q⟩⟩
  | tp us => obtain ⟨od, vs, e1, c, r⟩ := h; exact ⟨od, vs, e1, c, r.mono hp (fun _ _ q => q) fun _ _ q => q⟩
  | exc C fs =>
    rcases h with ⟨d, gs, e1, e2, r⟩ | h
    · exact .inl ⟨d, gs, e1, e2, Paired.mapP r fun _ _ z => ⟨z.1, z.2.mono hp (fun _ _ q => q) fun _ _ q => q⟩⟩
    · exact .inr h
/-- one reading for all contexts -/
theorem PE.weak {X : Cx} {e : Expr} {t t' : TE} (h : PE X e t) (i : ∀ σ H Q, t' σ H Q → t σ H Q) : PE X e t' := ⟨fun pins s σ H Q I q => h.run pins s σ H Q I (i _ _ _ q)⟩
theorem PTs.weak {X : Cx} {ifs : List Expr} {t t' : TT} (h : PTs X ifs t) (i : ∀ σ H Q, t' σ H Q → t σ H Q) : PTs X ifs t' := ⟨fun pins s σ H Q I q => h.run pins s σ H Q I (i _ _ _ q)⟩
theorem PG.weak {X : Cx} {e : Expr} {t t' : TG} (h : PG X e t) (i : ∀ v σ H Q, t' v σ H Q → t v σ H Q) : PG X e t' := ⟨fun pins s σ H v u Q I r q => h.run pins s σ H v u Q I r (i _ _ _ _ q)⟩
abbrev BX : Type := Shared × Hp × Addr × List (Str × Addr) × List Addr
abbrev bx (X : Cx) (scope : Scope) (p : BX) : Cx := X.blk p.1 p.2.1 scope (compEnvC scope p.2.2.2.1 p.2.2.1 X.env) p.2.2.2.2
end
theorem RO.mono {K : PySem.W.Frag} {ρ ρ' : List Addr} {H H' : Hp} {o : O} {a : Addr} (h : RO K ρ H o a) (h1 : ∀ (i : Nat) (a : Addr), ρ[i]? = some a → ρ'[i]? = some a) (h2 : ∀ a vs, SqT K H a vs → SqT K H' a vs) (h3 : ∀ a vs, RF K H a vs → RF K H' a vs) (h4 : ∀ a gs, H a = some (.xd gs) → H' a = some (.xd gs)) (e : H' a = H a) : RO K ρ' H' o a := by
  cases o with
  | lst xs => obtain ⟨vs, e1, r⟩ := h; exact ⟨vs, e.trans e1, r.mono h1 h2 h3⟩
  | dic kvs =>
    rcases h with ⟨ks, e1, r⟩ | ⟨k0, ks, e1, r⟩
    · exact .inl ⟨ks, e.trans e1, Paired.mapP r fun _ _ z => ⟨z.1, z.2.mono h1 h2 h3⟩⟩
    · exact .inr ⟨k0, ks, e.trans e1, Paired.mapP r fun _ _ z => ⟨z.1, z.2.mono h1 h2 h3⟩⟩
  | ins C fs => obtain ⟨dx, gs, e1, r⟩ := h; exact ⟨dx, gs, e.trans e1, Paired.mapP r fun _ _ z => ⟨z.1, z.2.mono h1 h2 h3⟩⟩
  | lk kvs => obtain ⟨od, ks, e1, r⟩ := h; exact ⟨od, ks, e.trans e1, Paired.mapP r fun _ _ z => ⟨z.1, z.2.mono h1 h2 h3⟩⟩
  | dn kvs => obtain ⟨xs, e1, r⟩ := h; exact ⟨xs, e.trans e1, Paired.mapP r fun _ _ z => ⟨⟨z.1.1, z.1.2.1, z.1.2.2.mono h1 h2 h3⟩, z.2.mono h1 h2 h3⟩⟩
  | lkn kvs => obtain ⟨od, xs, e1, r⟩ := h; exact ⟨od, xs, e.trans e1, Paired.mapP r fun _ _ z => ⟨⟨z.1.1, z.1.2.1, z.1.2.2.mono h1 h2 h3⟩, z.2.mono h1 h2 h3⟩⟩
  | tp us => obtain ⟨od, vs, e1, c, r⟩ := h; exact ⟨od, vs, e.trans e1, c, r.mono h1 h2 h3⟩
  | exc C fs =>
    rcases h with ⟨d, gs, e1, e2, r⟩ | ⟨e1, e2⟩
    · exact .inl ⟨d, gs, e.trans e1, h4 d gs e2, Paired.mapP r fun _ _ z => ⟨z.1, z.2.mono h1 h2 h3⟩⟩
    · exact .inr ⟨e1, e.trans e2⟩
/-- an object beside the store is changed -/
theorem RS.off {K : PySem.W.Frag} {ρ : List Addr} {H : Hp} {T : Sto} (s : RS K ρ H T) {p : Addr} {x : HO} (np : p ∉ ρ) (l : ∃ y, H p = some y ∧ Live y) : RS K ρ (upd H p x) T :=
  ⟨s.len, s.nd, fun i o a e1 e2 => (s.at_ i o a e1 e2).mono (fun _ _ e => e) (fun _ _ q => sq_upd (.inr l) q) (fun _ _ q => rf_upd (.inr l) q) (fun _ _ q => xd_upd (.inr l) q) (upd_ne fun z => np (by rw [← z]; exact List.mem_of_getElem? e2))⟩
theorem OK.bindG {K : PySem.W.Frag} {ρ₀ ρ : List Addr} {H₀ H : Hp} {E : XK} {α β γ δ : Type} {rel : Rel α β} {rel2 : Rel γ δ} {r : R α} {k : α → M γ} {Q : δ → Hp → Prop} (h : OK K ρ₀ H₀ E rel2 (r.bind k) Q) (g : Gr K ρ₀ H₀ ρ H) :
    OK K ρ H E rel r (fun b H1 => ∃ (ρ1 : List Addr) (T1 : Sto) (a : α), Gr K ρ H ρ1 H1 ∧ RS K ρ1 H1 T1 ∧ rel ρ1 H1 a b ∧ OK K ρ₀ H₀ E rel2 (k a T1) Q) := by
  cases r with
  | no => exact h
  | ok a T => exact fun ρ1 H1 b g1 s q => ⟨ρ1, T, a, g1, s, q, h⟩
  | ex e T => exact XR.gr h g
theorem Gr.keepD {K : PySem.W.Frag} {ρ ρ' : List Addr} {H H' : Hp} {D : Addr} {x : HO} (g : Gr K ρ H ρ' H') (m : D ∉ ρ) (h : H D = some x) : D ∉ ρ' ∧ H' D = some x :=
  ⟨(fun z => by
    have := g.nw D z m
    rw [h] at this
    cases this), g.kp D x m h⟩
/-- from before the new list D was laid, on to a heap in which D is changed -/
theorem Gr.over {K : PySem.W.Frag} {ρ₀ ρ : List Addr} {H₀ H : Hp} {D : Addr} {x y : HO} (g : Gr K ρ₀ H₀ ρ H) (nD : H₀ D = none) (hD : H D = some y) (l : Live y) : Gr K ρ₀ H₀ ρ (upd H D x) :=
  ⟨g.pre, fun a vs q => sq_upd (.inr ⟨y, hD, l⟩) (g.sq a vs q), fun a vs q => rf_upd (.inr ⟨y, hD, l⟩) (g.rf a vs q), fun a o n q => by
    rw [upd_ne (ne_of_none q nD)]
    exact g.kp a o n q, g.nw, fun a gs q => xd_upd (.inr ⟨y, hD, l⟩) (g.xd a gs q), fun a o u q => by
    rw [upd_ne (ne_of_none q nD)]
    exact g.fz a o u q⟩
theorem fe_lc {X : Cx} {E : XK} {elt tg iter : Expr} {ifs : List Expr} {scope : Scope} {own : List (Str × Nat)} {ws : List Nat} {Fi : FxI} {G : U → Lo → M Lo} {Ft : FxT} {Fe : FxE} (hc : X.calm = true) (hN : X.N.Nodup) (hi : FI X E tg iter Fi) (hok : BlkOk X.N X.env.scope scope own)
    (hw : ∀ j ∈ ws, j ∈ own.map (·.2)) (hg : ∀ p : BX, FG (bx X scope p) E tg ws G) (ht : ∀ p : BX, FTs (bx X scope p) E ifs Ft) (he : ∀ p : BX, FE (bx X scope p) E elt Fe) (hs : ∀ x, foldedSetIterable iter X.env x = pure x := by intro _; rfl) :
    ∃ t : TE, (∀ {pos : Pos}, PE X (.ListComp elt [⟨tg, iter, ifs, 0⟩] scope pos) t) ∧ (∀ {i : Nat} {y : Str} {py : Pos} {pos spos : Pos}, X.N[i]? = some y → X.env.scope.names.lookup y = some .local → swapsWith (.ListComp elt [⟨tg, iter, ifs, 0⟩] scope pos) (some (.Name y py)) spos.line X.env = pure true →
      PS X (.Assign [.Name y py] (.ListComp elt [⟨tg, iter, ifs, 0⟩] scope pos) spos) (tAsg t (gName i))) ∧
    ∀ (σ : L2.St) (H : Hp) (ρ : List Addr) (T : Sto) (η : Lo) (Q : V → Hp → Prop), RS X.K ρ H T → RE X.K ρ H η σ → OK X.K ρ H E (rV X.K) (fLc (own.map (·.2)) Fi G Ft Fe η T) Q → t σ H Q := by
  obtain ⟨wi, k1, q1⟩ := hi
  obtain ⟨fg, hfg⟩ := Classical.axiomOfChoice fun p : BX => (hg p).ex
  obtain ⟨ft, hft⟩ := Classical.axiomOfChoice fun p : BX => (ht p).ex
  obtain ⟨fe, hfe⟩ := Classical.axiomOfChoice fun p : BX => (he p).ex
  refine ⟨tLc wi (fun v σ H Q => ∀ p, fg p v σ H Q) (fun σ H Q => ∀ p, ft p σ H Q) (fun σ H Q => ∀ p, fe p σ H Q) (own.map (·.2)),
    pe_lc hc hN k1 hok (fun s H C cl fp => PG.weak (hfg (s, H, C, cl, fp)).1 fun _ _ _ _ q => q _) (fun s H C cl fp => PTs.weak (hft (s, H, C, cl, fp)).1 fun _ _ _ q => q _) (fun s H C cl fp => PE.weak (hfe (s, H, C, cl, fp)).1 fun _ _ _ q => q _) hs,
    fun {i y py pos spos} hy hyl hsw => ps_setLc hc hN hy hyl hsw k1 hok (fun s H C cl fp => PG.weak (hfg (s, H, C, cl, fp)).1 fun _ _ _ _ q => q _) (fun s H C cl fp => PTs.weak (hft (s, H, C, cl, fp)).1 fun _ _ _ q => q _) (fun s H C cl fp => PE.weak (hfe (s, H, C, cl, fp)).1 fun _ _ _ q => q _) hs, fun σ H ρ T η Q s r h => ?_⟩
  refine q1 σ H ρ T η _ s r (OK.mono (OK.bind h) fun J H1 ⟨ρ1, T1, it, g1, s1, ok, kk⟩ => ?_)
  intro D nD
  have r1 := (r.gr g1).wipe (own.map (·.2))
  refine ⟨fun i m H => ∃ ρ T acc vs, Gr X.K ρ1 H1 ρ H ∧ RS X.K ρ H T ∧ D ∉ ρ ∧ H D = some (.lst vs) ∧ RVs X.K ρ H acc vs ∧ m = it.its.length - i ∧ i ≤ it.its.length ∧ OK X.K ρ1 H1 E (rV X.K) (lcN G Ft Fe it.fin (wipeU η (own.map (·.2))) (it.its.drop i) acc T) Q,
    ⟨it.its.length, ρ1, T1, [], [], Gr.fill nD, s1.fill nD, (fun z => by
      obtain ⟨y, hy, _⟩ := s1.live z
      rw [nD] at hy
      cases hy), upd_same, .nil, rfl, Nat.zero_le _, kk⟩, ?_⟩
  rintro i m H ⟨ρ, T, acc, vs, g, s, mD, hD, rs, rfl, hl, h⟩
  by_cases hlt : i < it.its.length
  · rw [drop_cons hlt] at h
    have hi : it.its[i]? = some it.its[i] := by simp [hlt]
    unfold lcN at h
    cases ef : it.its[i] T with
    | none => rw [ef] at h; exact False.elim h
    | some u =>
      rw [ef] at h
      refine .inr ⟨ok.go i _ ρ H T u hi g s ef, fun H => ∃ ρ T acc vs, Gr X.K ρ1 H1 ρ H ∧ RS X.K ρ H T ∧ D ∉ ρ ∧ H D = some (.lst vs) ∧ RVs X.K ρ H acc vs ∧ OK X.K ρ1 H1 E (rV X.K) (lcN G Ft Fe it.fin (wipeU η (own.map (·.2))) (it.its.drop (i + 1)) acc T) Q,
        fun H' ⟨ρ, T, acc, vs, a, b, c, d, e, f⟩ => ⟨it.its.length - (i + 1), by omega, ρ, T, acc, vs, a, b, c, d, e, rfl, hlt, f⟩, fun x H' y => ?_⟩
      obtain ⟨g2, s2, rv⟩ := ok.yl i _ ρ H T u x H' hi g s ef y
      obtain ⟨mD2, hD2⟩ := g2.keepD mD hD
      intro p
      refine (hfg p).2 _ H' ρ T _ u x _ s2 ((r1.gr g).gr g2) rv (OK.mono (OK.bindG h (g.trans g2)) fun σ3 H3 ⟨ρ3, T3, η3, g3, s3, ⟨r3, w3⟩, k3⟩ => ⟨wipe_ext w3 hw, ?_⟩)
      obtain ⟨mD3, hD3⟩ := g3.keepD mD2 hD2
      intro p
      refine (hft p).2 _ H3 ρ3 T3 η3 _ s3 r3 (OK.mono (OK.bindG k3 (g.trans (g2.trans g3))) fun b H4 ⟨ρ4, T4, b', g4, s4, e4, k4⟩ => ?_)
      cases e4
      obtain ⟨mD4, hD4⟩ := g4.keepD mD3 hD3
      cases b with
      | false => exact ⟨ρ4, T4, acc, vs, g.trans (g2.trans (g3.trans g4)), s4, mD4, hD4, ((rs.gr g2).gr g3).gr g4, k4⟩
      | true =>
        intro p
        refine (hfe p).2 _ H4 ρ4 T4 η3 _ s4 (r3.gr g4) (OK.mono (OK.bindG k4 (g.trans (g2.trans (g3.trans g4)))) fun z H5 ⟨ρ5, T5, uz, g5, s5, r5, k5⟩ => ?_)
        obtain ⟨mD5, hD5⟩ := g5.keepD mD4 hD4
        have rs5 := (((rs.gr g2).gr g3).gr g4).gr g5
        split at k5
        · rename_i hz
          have go := Gr.over (x := .lst (vs ++ [z])) (g.trans (g2.trans (g3.trans (g4.trans g5)))) nD hD5 trivial
          refine ⟨vs, hD5, by rw [sz16, ← rs5.length]; exact hz, ρ5, T5, acc ++ [uz], vs ++ [z], go, s5.off mD5 ⟨_, hD5, trivial⟩, mD5, upd_same, ?_, k5⟩
          exact (rs5.append (.cons r5 .nil)).mono (fun _ _ e => e) (fun _ _ q => sq_upd (.inr ⟨_, hD5, trivial⟩) q) (fun _ _ q => rf_upd (.inr ⟨_, hD5, trivial⟩) q)
        · exact False.elim k5
  · have e : i = it.its.length := by omega
    subst e
    rw [List.drop_length] at h
    have h : OK X.K ρ1 H1 E (rV X.K) (if it.fin T = true then nw (.lst acc) T else .no) Q := h
    split at h
    · rename_i hf
      refine .inl ⟨ok.st ρ H T g s hf, ?_⟩
      refine h (ρ ++ [D]) H (.ref D) ⟨fun i a e => by rw [List.getElem?_append_left (List.getElem?_eq_some_iff.mp (g.pre i a e)).1]; exact g.pre i a e, g.sq, g.rf, g.kp, fun a ha n => ?_, g.xd, g.fz⟩ ?_ ?_
      · rcases List.mem_append.mp ha with ha | ha
        · exact g.nw a ha n
        · rw [List.mem_singleton.mp ha]; exact nD
      · exact s.adopt mD (.inr trivial) (RO.more ⟨vs, hD, rs⟩) fun _ _ q => q.more
      · exact .ob (by rw [← s.len, List.getElem?_append_right (Nat.le_refl _), Nat.sub_self]; rfl)
    · exact False.elim h
section
variable {X : Cx} {E : XK} {elt tg iter : Expr} {ifs : List Expr} {scope : Scope} {own : List (Str × Nat)} {ws : List Nat} {Fi : FxI} {G : U → Lo → M Lo} {Ft : FxT} {Fe : FxE}
theorem fe_comp {pos : Pos} (hc : X.calm = true) (hN : X.N.Nodup) (hok : BlkOk X.N X.env.scope scope own) (hi : FI X E tg iter Fi)
    (hw : ∀ j ∈ ws, j ∈ own.map (·.2)) (hg : ∀ p : BX, FG (bx X scope p) E tg ws G) (ht : ∀ p : BX, FTs (bx X scope p) E ifs Ft) (he : ∀ p : BX, FE (bx X scope p) E elt Fe) (hs : ∀ x, foldedSetIterable iter X.env x = pure x := by intro _; rfl) :
    FE X E (.ListComp elt [⟨tg, iter, ifs, 0⟩] scope pos) (fLc (own.map (·.2)) Fi G Ft Fe) := by
  obtain ⟨t, h1, _, h3⟩ := fe_lc hc hN hi hok hw hg ht he hs
  exact ⟨t, h1, h3⟩
theorem fs_setLc {i : Nat} {y : Str} {py pos spos : Pos} (hc : X.calm = true) (hN : X.N.Nodup) (hy : X.N[i]? = some y) (hyl : X.env.scope.names.lookup y = some .local) (hsw : swapsWith (.ListComp elt [⟨tg, iter, ifs, 0⟩] scope pos) (some (.Name y py)) spos.line X.env = pure true) (hok : BlkOk X.N X.env.scope scope own) (hi : FI X E tg iter Fi)
    (hw : ∀ j ∈ ws, j ∈ own.map (·.2)) (hg : ∀ p : BX, FG (bx X scope p) E tg ws G) (ht : ∀ p : BX, FTs (bx X scope p) E ifs Ft) (he : ∀ p : BX, FE (bx X scope p) E elt Fe) (hs : ∀ x, foldedSetIterable iter X.env x = pure x := by intro _; rfl) :
    FS X E (.Assign [.Name y py] (.ListComp elt [⟨tg, iter, ifs, 0⟩] scope pos) spos) (fSet i (fLc (own.map (·.2)) Fi G Ft Fe)) := by
  obtain ⟨t, _, h2, h3⟩ := fe_lc hc hN hi hok hw hg ht he hs
  refine ⟨_, h2 hy hyl hsw, fun σ H ρ T η D s r h => ?_⟩
  exact h3 σ H ρ T η _ s r (OK.mono (OKS.bind h) fun x H1 ⟨ρ1, T1, u, g1, s1, r1, k1⟩ => k1 _ _ _ Gr.refl s1 ((r.gr g1).set i r1))
end
end Lf
set_option Elab.async false
set_option linter.all false
set_option maxRecDepth 100000
set_option maxHeartbeats 4000000
namespace Lf
open PySem PySem.Spec L2
open PyProof.Rows (envOfC)
/-- a def at f does what g tells, over any store -/
structure FnG (P : Program) (w : World) (K : PySem.W.Frag) (mg : Str → Option Value) (base : Heap) (C : CXT) (k : Nat) (f : Addr) (fd : FuncData) (ps : List Str) (g : List U → M U) : Prop where
  run : ∀ (A : Around) (fr : List Env) (s : Shared) (H : Hp) (args : Args) (ws : List Value) (vs : List V) (us : List U) (ρ : List Addr) (T : Sto) (Q : VK) (E : XK),
    Room k A → A.guards = some [] → Env0 P w K mg base A fr s H → BindsTo s fd args (ps.zip ws) → Vals vs ws → RS K ρ H T → RVs K ρ H us vs → us.length = ps.length →
    OK K ρ H E (rV K) (g us T) Q → codeAny (model P w) A (.call (.ref f) args) (CR C fr P w H s Q E) s
theorem FnG.mono {P : Program} {w : World} {K : PySem.W.Frag} {mg : Str → Option Value} {base : Heap} {C : CXT} {j k : Nat} {f : Addr} {fd : FuncData} {ps : List Str} {g : List U → M U} (F : FnG P w K mg base C j f fd ps g) (h : j ≤ k) : FnG P w K mg base C k f fd ps g :=
  ⟨fun A fr s H args ws vs us ρ T Q E hr => F.run A fr s H args ws vs us ρ T Q E (hr.mono h)⟩
/-- a def's value: its body from its parameters -/
def gDef (n : Nat) (F : FxS) : List U → M U := fun us T => (F (us.map some ++ List.replicate (n - us.length) none) T).bind fun p T1 => match p.1 with
  | .rt u => .ok u T1
  | .nx => .ok .non T1
  | _ => .no
theorem FSs.nox {X : Cx} {E : XK} {st : List Stmt} {F : FxS} (h : FSs X.nox E st F) : FSs X E st F := let ⟨t, k, q⟩ := h; ⟨t, k.nox, q⟩
theorem re_start {K : PySem.W.Frag} {ρ : List Addr} {H : Hp} {us : List U} {vs : List V} {N : List Str} (r : RVs K ρ H us vs) : RE K ρ H (us.map some ++ List.replicate (N.length - us.length) none) (L2.start N vs) := by
  have hl := r.length
  refine ⟨?_, fun i u e => ?_⟩
  · unfold L2.start
    rw [List.length_append, List.length_append, List.length_map, List.length_map, List.length_replicate, List.length_replicate, hl]
  · by_cases hi : i < us.length
    · rw [List.getElem?_append_left (by rw [List.length_map]; exact hi), List.getElem?_map] at e
      cases q : us[i]? with
      | none => rw [q] at e; cases e
      | some z =>
        rw [q] at e
        cases e
        obtain ⟨v, h1, h2⟩ := r.get q
        refine ⟨v, ?_, h2⟩
        unfold L2.start
        rw [List.getElem?_append_left (by rw [List.length_map, ← hl]; exact hi), List.getElem?_map, h1]
        rfl
    · rw [List.getElem?_append_right (by rw [List.length_map]; omega), List.getElem?_replicate] at e
      split at e <;> cases e
theorem fnG_of {C : CXT} {P : Program} {w : World} {K : PySem.W.Frag} {mg : Str → Option Value} {base : Heap} {k : Nat} {f : Addr} {fd : FuncData} {name qual : Str} {params : Arguments} {body : List Stmt} {scope : Scope} {dvs : List V} {kws : List (Str × V)} {N ps : List Str} {F : FxS}
    (D : FunD K name qual params body scope dvs kws f fd) (S : FnScope N ps scope)
    (hb : ∀ (cv : Value) (A : Around) (fr : List Env) (s : Shared) (H : Hp) (E : XK), Room k (A.deeper (envOfC qual scope s.heap.objs.size f cv)) → A.guards = some [] → FSs (cxOf C P w K mg base N qual scope f cv A fr s H E) E body F) :
    FnG P w K mg base C (k + 1) f fd ps (gDef N.length F) := by
  obtain ⟨oc, od, dV, kV, doc, pm, an, cv, ct, osl, rfl, lk, hcd, _, _⟩ := D.ex
  constructor
  intro A fr s H args ws vs us ρ T Q E room gd e0 bd rv rs ru lu hq
  have lv : vs.length = ps.length := by rw [← ru.length]; exact lu
  have inK : K.In s.heap := e0.mod.kin.keeps fun b o e => (e0.bs b o e).1
  have nolim : s.heap.NoLimit := e0.mod.nolimit.keeps fun b o e => (e0.bs b o e).1
  have kinds : ∀ y ∈ ps.zip ws, scope.names.lookup y.1 = some .local ∨ (scope.names.lookup y.1 = some .cell ∧ ((cellsFrom (s.heap.objs.size + 1) scope.names []).lookup y.1).isSome = true) := by
    rintro ⟨n, v⟩ hy
    rcases S.par n (List.of_mem_zip hy).1 with q | q
    · exact Or.inl q
    · exact Or.inr ⟨q, PySem.W.cellsFrom_some _ _ _ (Or.inl q)⟩
  refine codeAny_call_function room.depth (inK _ _ lk) rfl S.co S.gen rfl (PySem.W.codeRec_of inK hcd) (bd _ _ _ _ ?_)
  refine wpAny_newFunctionEnv_cells S.kind kinds fun env he s1 x => ?_
  subst he
  refine ⟨nolim.keeps x.toInCall.keep, codeAny_func ?_⟩
  obtain ⟨t, ht, q⟩ := hb cv A fr s H E (room.deeper _) gd
  have I := inv_start (CX := C) (E := E) S room.hd e0 lv rv x
  have mid : OKS K ρ H E (F (us.map some ++ List.replicate (N.length - us.length) none) T) { nx := fun _ H' => Q .non H', rt := Q } := by
    have hq : OK K ρ H E (rV K) ((F (us.map some ++ List.replicate (N.length - us.length) none) T).bind fun p T1 => match p.1 with
      | .rt u => .ok u T1
      | .nx => .ok .non T1
      | _ => .no) Q := hq
    generalize F (us.map some ++ List.replicate (N.length - us.length) none) T = r at hq
    cases r with
    | no => exact hq
    | ex e T1 => exact hq
    | ok p T1 =>
      obtain ⟨fl, η⟩ := p
      cases fl with
      | nx => exact fun ρ1 H1 σ1 g s1 r1 => hq ρ1 H1 .non g s1 .non
      | rt u => exact fun ρ1 H1 v g s1 r1 => hq ρ1 H1 v g s1 r1
      | bk => exact False.elim hq
      | ct => exact False.elim hq
  refine wpAny_mono (ht.run [] s1 (L2.start N vs) H { nx := fun _ H' => Q .non H', rt := Q } I (q _ _ ρ T _ _ rs (re_start (N := N) ru) mid)) (fun fl s' hs => ?_) fun e s' hs => hs
  cases fl with
  | ret u =>
    obtain ⟨v, σ1, H1, J, rj, qj⟩ := hs
    exact ⟨v, H1, J.os, J.bare, J.base, J.hok, rj, qj⟩
  | next =>
    obtain ⟨σ1, H1, J, qj⟩ := hs
    exact ⟨.non, H1, J.os, J.bare, J.base, J.hok, rfl, qj⟩
  | brk => exact hs.elim fun _ z => z.elim fun _ z => z.2.elim
  | cont => exact hs.elim fun _ z => z.elim fun _ z => z.2.elim
section
variable {X : Cx} {E : XK} {C : CXT} {k : Nat} {f : Addr} {fd : FuncData} {ps : List Str} {g : List U → M U} {x : Str} {p pos : Pos} {e : Expr} {es : List Expr} {Fr : FxA}
theorem runG {ρ : List Addr} {T : Sto} {pins : List (Addr × Obj)} {σ : L2.St} {H : Hp} {s : Shared} {Q : VK} {args : Args} {ws : List Value} {vs : List V} {us : List U} (F : FnG X.prog X.w X.K X.mg X.base C k f fd ps g) (room : Room k X.A) (gd : X.A.guards = some []) (hx : Passes C X E)
    (I : L2.Inv X pins σ H s) (bd : BindsTo s fd args (ps.zip ws)) (rv : Vals vs ws) (rs : RS X.K ρ H T) (ru : RVs X.K ρ H us vs) (lu : us.length = ps.length) (h : OK X.K ρ H E (rV X.K) (g us T) Q) :
    codeAny (model X.prog X.w) X.A (.call (.ref f) args) (fun r s' => match r with
      | .ok (.ret u) => EP X pins σ Q u s'
      | .ok _ => False
      | .error e => X.xe e s') s := by
  refine codeAny_mono (F.run X.A X.stack s H args ws vs us ρ T Q E room gd I.env0 bd rv rs ru lu h) fun r s' hq => ?_
  match r, hq with
  | .error e, hq => exact hx pins σ H s e s' I hq
  | .ok (.ret u), hq => exact I.after hq
  | .ok .next, hq => exact False.elim hq
  | .ok .brk, hq => exact False.elim hq
  | .ok .cont, hq => exact False.elim hq
/-- what a call of g asks -/
def tG (K : PySem.W.Frag) (ps : List Str) (g : List U → M U) (E : XK) : List V → Hp → VK → Prop := fun vs H Q => ∃ ρ T us, RS K ρ H T ∧ RVs K ρ H us vs ∧ us.length = ps.length ∧ OK K ρ H E (rV K) (g us T) Q
theorem peG {t : TA} (F : FnG X.prog X.w X.K X.mg X.base C k f fd ps g) (room : Room k X.A) (gd : X.A.guards = some []) (hg : Gl X x) (hm : X.mg x = some (.ref f)) (hk : PySem.W.keepIn X.K (.ref f) = true) (hb : Binds X.K fd ps []) (hx : Passes C X E)
    (ha : PA X (e :: es) t) (hdb : (x == ("__debug__" : Str)) = false) (he : starEach (e :: es) X.env = (false, eval e X.env) :: starEach es X.env) (hpl : (backTo pos (starEach es X.env)).any (·.1) = false) :
    PE X (.Call (.Name x p) (e :: es) [] pos) (tCB (tG X.K ps g E) t) := by
  refine ⟨fun pins s σ H Q I h => wpAny_Call_Name_kw (ld_glob I hg hm ?_ hdb)⟩
  refine PySem.W.callWith_K (h₀ := X.base) I.ok.mod.kin hk (thn (ha.run pos pins s σ H _ I h) fun ws s1 ⟨vs, H1, I1, rv, ρ, T, us, rs, ru, lu, hq⟩ => ⟨I1.kIn, ?_⟩) he hpl
  refine wpAny_call (codeAny_mono (runG (ws := ws) F room gd hx I1 ?_ rv rs ru lu hq) fun r s' q => ?_)
  · have := hb s1 ws I1.kIn (by rw [List.append_nil, ← rv.length, ← ru.length]; exact lu)
    rw [List.append_nil] at this
    exact this
  · match r, q with
    | .error e, q => exact q
    | .ok (.ret u), q => exact q
    | .ok .next, q => exact False.elim q
    | .ok .brk, q => exact False.elim q
    | .ok .cont, q => exact False.elim q
end
mutual
def nr : U → Bool
  | .tup xs => nrs xs
  | .ob _ => false
  | _ => true
def nrs : List U → Bool
  | [] => true
  | x :: xs => nr x && nrs xs
end
def nrO : O → Bool
  | .lst xs => nrs xs
  | .dic kvs => nrs (kvs.map (·.2))
  | .ins _ fs => nrs (fs.map (·.2))
  | .exc _ fs => nrs (fs.map (·.2))
  | .lk kvs => nrs (kvs.map (·.2))
  | .dn kvs => nrs (kvs.map (·.2))
  | .lkn kvs => nrs (kvs.map (·.2))
  | .tp us => nrs us
section
variable {K : PySem.W.Frag} {ρ ρ' : List Addr} {H H' : Hp} {T : Sto} {E : XK}
mutual
theorem RV.nr : ∀ {u : U} {v : V}, RV K ρ H u v → nr u = true → RV K ρ' H u v
  | _, _, .non, _ => .non
  | _, _, .bl b, _ => .bl b
  | _, _, .int i, _ => .int i
  | _, _, .str x, _ => .str x
  | _, _, .tup a r, h => .tup a (RVs.nr r (by simpa [Lf.nr] using h))
  | _, _, .ob e, h => by simp [Lf.nr] at h
  | _, _, .scr e, _ => .scr e
  | _, _, .raw v, _ => .raw v
theorem RVs.nr : ∀ {us : List U} {vs : List V}, RVs K ρ H us vs → nrs us = true → RVs K ρ' H us vs
  | _, _, .nil, _ => .nil
  | _, _, .cons r s, h => by
    have h : (Lf.nr _ && nrs _) = true := h
    obtain ⟨h1, h2⟩ := Bool.and_eq_true_iff.mp h
    exact .cons (RV.nr r h1) (RVs.nr s h2)
end
theorem paired_nr {α β : Type} {F : α → β → Prop} {pu : α → U} {pv : β → V} : ∀ {l : List α} {m : List β}, Paired (fun p q => F p q ∧ RV K ρ H (pu p) (pv q)) l m → nrs (l.map pu) = true → Paired (fun p q => F p q ∧ RV K ρ' H (pu p) (pv q)) l m
  | _, _, .nil, _ => .nil
  | _, _, .cons r s, h => by
    have h : (Lf.nr _ && nrs _) = true := h
    obtain ⟨h1, h2⟩ := Bool.and_eq_true_iff.mp h
    exact .cons ⟨r.1, r.2.nr h1⟩ (paired_nr s h2)
mutual
theorem keyN_nr : ∀ {u : U} {k : NestedKey}, keyN u = some k → nr u = true
  | .int _, _, _ => rfl
  | .tup us, k, h => by
    unfold keyN at h
    obtain ⟨ks, e, _⟩ := Option.map_eq_some_iff.mp h
    show nrs us = true
    exact keyNs_nr e
  | .non, _, h => by cases h
  | .bl _, _, h => by cases h
  | .str _, _, h => by cases h
  | .ob _, _, h => by cases h
  | .scr _, _, h => by cases h
  | .raw _, _, h => by cases h
theorem keyNs_nr : ∀ {us : List U} {ks : List NestedKey}, keyNs us = some ks → nrs us = true
  | [], _, _ => rfl
  | u :: us, ks, h => by
    unfold keyNs at h
    split at h
    · rename_i k1 k2 e1 e2
      show (nr u && nrs us) = true
      rw [keyN_nr e1, keyNs_nr e2]
      rfl
    · cases h
end
theorem paN_nr {kvs : List (U × U)} {xs : List (NestedKey × Addr × V)} (h : PaN K ρ H kvs xs) (n : nrs (kvs.map (·.2)) = true) : PaN K ρ' H kvs xs :=
  paired_nr (F := fun (p : U × U) (x : NestedKey × Addr × V) => keyN p.1 = some x.1 ∧ x.1.depth ≤ 8 ∧ RV K ρ' H p.1 (.ref x.2.1)) (pu := fun p => p.2) (pv := fun x => x.2.2) (Paired.mapP h fun _ _ z => ⟨⟨z.1.1, z.1.2.1, z.1.2.2.nr (keyN_nr z.1.1)⟩, z.2⟩) n
theorem RO.nr {o : O} {a : Addr} (h : RO K ρ H o a) (n : nrO o = true) : RO K ρ' H o a := by
  cases o with
  | lst xs => obtain ⟨vs, e, r⟩ := h; exact ⟨vs, e, r.nr n⟩
  | dic kvs =>
    rcases h with ⟨ks, e, r⟩ | ⟨k0, ks, e, r⟩
    · exact .inl ⟨ks, e, paired_nr (F := fun (p : U × U) (q : Key × V) => p.1 = kU q.1) (pu := fun p => p.2) (pv := fun q => q.2) r n⟩
    · exact .inr ⟨k0, ks, e, paired_nr (F := fun (p : U × U) (q : List Key × V) => p.1 = .tup (q.1.map kU)) (pu := fun p => p.2) (pv := fun q => q.2) r n⟩
  | ins C fs => obtain ⟨dx, gs, e, r⟩ := h; exact ⟨dx, gs, e, paired_nr (F := fun (p : Str × U) (q : Str × V) => p.1 = q.1) (pu := fun p => p.2) (pv := fun q => q.2) r n⟩
  | lk kvs => obtain ⟨od, ks, e, r⟩ := h; exact ⟨od, ks, e, paired_nr (F := fun (p : U × U) (q : Key × V) => p.1 = kU q.1) (pu := fun p => p.2) (pv := fun q => q.2) r n⟩
  | dn kvs => obtain ⟨xs, e, r⟩ := h; exact ⟨xs, e, paN_nr r n⟩
  | lkn kvs => obtain ⟨od, xs, e, r⟩ := h; exact ⟨od, xs, e, paN_nr r n⟩
  | tp us => obtain ⟨od, vs, e, c, r⟩ := h; exact ⟨od, vs, e, c, r.nr n⟩
  | exc C fs =>
    rcases h with ⟨d, gs, e, e2, r⟩ | h
    rotate_left
    · exact .inr h
    exact .inl ⟨d, gs, e, e2, paired_nr (F := fun (p : Str × U) (q : Str × V) => p.1 = q.1) (pu := fun p => p.2) (pv := fun q => q.2) r n⟩
theorem rs_nil : RS K [] H [] := ⟨rfl, List.nodup_nil, fun i o a e => by simp at e⟩
theorem xr_nr {e : Ex} {T T0 : Sto} {ρ₀ : List Addr} (h : XR K ρ H E e T) (n : nrs (e.fs.map (·.2)) = true) (up : ∀ ρ' H', Gr K ρ₀ H ρ' H' → RS K ρ' H' T0 → Gr K ρ H ρ H' ∧ RS K ρ H' T) : XR K ρ₀ H E e T0 := by
  refine ⟨fun ρ' H' d gs g s hd r => ?_, fun e0 ρ' H' g s => ?_⟩
  · obtain ⟨g2, s2⟩ := up ρ' H' g s
    exact h.1 ρ H' d gs g2 s2 hd (paired_nr (F := fun (p : Str × U) (q : Str × V) => p.1 = q.1) (pu := fun p => p.2) (pv := fun q => q.2) r n)
  · obtain ⟨g2, s2⟩ := up ρ' H' g s
    exact h.2 e0 ρ H' g2 s2
/-- what a call over no object leaves -/
theorem up0 (s : RS K ρ H T) (g : Gr K [] H ρ' H') : Gr K ρ H ρ H' ∧ RS K ρ H' T := by
  have kp : ∀ a o, H a = some o → H' a = some o := fun a o q => g.kp a o (by simp) q
  refine ⟨⟨fun _ _ e => e, g.sq, g.rf, fun a o _ q => kp a o q, fun a h n => absurd h n, g.xd, g.fz⟩, s.len, s.nd, fun i o a e1 e2 => ?_⟩
  obtain ⟨x, hx, _⟩ := s.live (List.mem_of_getElem? e2)
  exact (s.at_ i o a e1 e2).mono (fun _ _ e => e) g.sq g.rf g.xd (by rw [hx, kp a x hx])
/-- what a call over one object leaves -/
theorem up1 {i : Nat} {a : Addr} {o' : O} {T0 : Sto} (s : RS K ρ H T) (e : ρ[i]? = some a) (g : Gr K [a] H ρ' H') (s' : RS K ρ' H' (o' :: T0)) (n : nrO o' = true) : Gr K ρ H ρ H' ∧ RS K ρ H' (T.set i o') := by
  have ma : a ∈ ρ := List.mem_of_getElem? e
  have kp : ∀ b x, b ≠ a → H b = some x → H' b = some x := fun b x h q => g.kp b x (by simpa using h) q
  have hi := (List.getElem?_eq_some_iff.mp e).1
  have e0 : ρ'[0]? = some a := g.pre 0 a rfl
  refine ⟨⟨fun _ _ e => e, g.sq, g.rf, fun b x h q => kp b x (fun z => h (by rw [z]; exact ma)) q, fun b h n => absurd h n, g.xd, g.fz⟩, by rw [List.length_set]; exact s.len, s.nd, fun j u b e1 e2 => ?_⟩
  by_cases hj : i = j
  · subst hj
    rw [List.getElem?_set_self (by rw [← s.len]; exact hi)] at e1
    cases e1
    rw [e] at e2
    cases e2
    exact (s'.at_ 0 o' a rfl e0).nr n
  · rw [List.getElem?_set_ne hj] at e1
    have nb : b ≠ a := by
      rintro rfl
      have hjl := (List.getElem?_eq_some_iff.mp e2).1
      exact hj ((List.getElem_inj s.nd).mp ((List.getElem?_eq_some_iff.mp e).2.trans (List.getElem?_eq_some_iff.mp e2).2.symm))
    obtain ⟨x, hx, _⟩ := s.live (List.mem_of_getElem? e2)
    exact (s.at_ j u b e1 e2).mono (fun _ _ e => e) g.sq g.rf g.xd (by rw [hx, kp b x nb hx])
end
/-- a call over the whole store -/
def lenG (n : Nat) (g : List U → M U) : List U → M U := fun us T => if us.length = n then g us T else .no
/-- a call of what takes no object: its own are dropped, but for the one handed back -/
def pureG (n : Nat) (g : List U → M U) : List U → M U := fun us T => if us.length = n ∧ nrs us = true then match g us [] with
  | .no => .no
  | .ex e _ => if nrs (e.fs.map (·.2)) = true then .ex e T else .no
  | .ok (.ob k) T0 => match T0[k]? with
    | some o => if nrO o = true then .ok (.ob T.length) (T ++ [o]) else .no
    | none => .no
  | .ok u _ => if nr u = true then .ok u T else .no else .no
/-- a call of what takes one object first, and no other -/
def urnG (n : Nat) (g : List U → M U) : List U → M U := fun us T => match us with
  | .ob i :: r => if r.length + 1 = n ∧ nrs r = true then match T[i]? with
    | some o => if nrO o = true then match g (.ob 0 :: r) [o] with
      | .ok u (o' :: _) => if nrO o' = true ∧ nr u = true then .ok u (T.set i o') else .no
      | _ => .no else .no
    | none => .no else .no
  | _ => .no
section
variable {K : PySem.W.Frag} {ρ : List Addr} {H : Hp} {T : Sto} {E : XK} {ps : List Str} {g : List U → M U} {us : List U} {vs : List V} {Q : VK}
theorem tG_len (s : RS K ρ H T) (r : RVs K ρ H us vs) (h : OK K ρ H E (rV K) (lenG ps.length g us T) Q) : tG K ps g E vs H Q := by
  unfold lenG at h
  split at h
  · rename_i hu
    exact ⟨ρ, T, us, s, r, hu, h⟩
  · exact False.elim h
theorem tG_pure (s : RS K ρ H T) (r : RVs K ρ H us vs) (h : OK K ρ H E (rV K) (pureG ps.length g us T) Q) : tG K ps g E vs H Q := by
  unfold pureG at h
  split at h
  · rename_i hu
    refine ⟨[], [], us, rs_nil, r.nr hu.2, hu.1, ?_⟩
    generalize g us [] = res at h
    match res, h with
    | .no, h => exact h
    | .ex e T0, h =>
      dsimp only at h
      split at h
      · rename_i hn
        exact xr_nr h hn fun ρ' H' g s' => up0 s g
      · exact False.elim h
    | .ok (.ob k) T0, h =>
      dsimp only at h
      split at h
      · rename_i o eo
        split at h
        · rename_i hn
          intro ρ' H' b g s' rb
          obtain ⟨g2, s2⟩ := up0 s g
          cases rb with
          | @ob _ a ea =>
            have na : a ∉ ρ := fun m => by
              obtain ⟨y, hy, _⟩ := s.live m
              rw [g.nw a (List.mem_of_getElem? ea) (by simp)] at hy
              cases hy
            refine h (ρ ++ [a]) H' (.ref a) ⟨fun i b e => by rw [List.getElem?_append_left (List.getElem?_eq_some_iff.mp e).1]; exact e, g2.sq, g2.rf, g2.kp, fun b m n => ?_, g2.xd, g2.fz⟩ ?_ ?_
            · rcases List.mem_append.mp m with m | m
              · exact absurd m n
              · rw [List.mem_singleton.mp m]; exact g.nw a (List.mem_of_getElem? ea) (by simp)
            · exact s2.adopt na (.inr trivial) ((s'.at_ k o a eo ea).nr hn) fun _ _ q => q.more
            · exact .ob (by rw [← s2.len, List.getElem?_append_right (Nat.le_refl _), Nat.sub_self]; rfl)
        · exact False.elim h
      · exact False.elim h
    | .ok .non T0, h => exact fun ρ' H' b g s' rb => h ρ H' b (up0 s g).1 (up0 s g).2 (rb.nr rfl)
    | .ok (.bl _) T0, h => exact fun ρ' H' b g s' rb => h ρ H' b (up0 s g).1 (up0 s g).2 (rb.nr rfl)
    | .ok (.int _) T0, h => exact fun ρ' H' b g s' rb => h ρ H' b (up0 s g).1 (up0 s g).2 (rb.nr rfl)
    | .ok (.str _) T0, h => exact fun ρ' H' b g s' rb => h ρ H' b (up0 s g).1 (up0 s g).2 (rb.nr rfl)
    | .ok (.scr _) T0, h => exact fun ρ' H' b g s' rb => h ρ H' b (up0 s g).1 (up0 s g).2 (rb.nr rfl)
    | .ok (.raw _) T0, h => exact fun ρ' H' b g s' rb => h ρ H' b (up0 s g).1 (up0 s g).2 (rb.nr rfl)
    | .ok (.tup xs) T0, h =>
      dsimp only at h
      split at h
      · rename_i hn
        exact fun ρ' H' b g s' rb => h ρ H' b (up0 s g).1 (up0 s g).2 (rb.nr hn)
      · exact False.elim h
  · exact False.elim h
theorem tG_urn (s : RS K ρ H T) (r : RVs K ρ H us vs) (h : OK K ρ H E (rV K) (urnG ps.length g us T) Q) : tG K ps g E vs H Q := by
  unfold urnG at h
  split at h
  · rename_i i rr
    split at h
    · rename_i hu
      split at h
      · rename_i o eo
        split at h
        · rename_i ho
          cases r with
          | @cons _ v _ vr r1 r2 =>
            cases r1 with
            | @ob _ a ea =>
              have ra := s.at_ i o a eo ea
              refine ⟨[a], [o], .ob 0 :: rr, ⟨rfl, by simp, fun j u b e1 e2 => ?_⟩, .cons (.ob rfl) (r2.nr hu.2), hu.1, ?_⟩
              · cases j with
                | zero => cases e1; cases e2; exact ra.nr ho
                | succ j => simp at e1
              · generalize g (.ob 0 :: rr) [o] = res at h
                match res, h with
                | .ok u (o' :: T0), h =>
                  dsimp only at h
                  split at h
                  · rename_i hn
                    exact fun ρ' H' b g s' rb => h ρ H' b (up1 s ea g s' hn.1).1 (up1 s ea g s' hn.1).2 (rb.nr hn.2)
                  · exact False.elim h
                | .ok u [], h => exact False.elim h
                | .no, h => exact h
                | .ex _ _, h => exact False.elim h
        · exact False.elim h
      · exact False.elim h
    · exact False.elim h
  · exact False.elim h
end
section
variable {X : Cx} {E : XK} {C : CXT} {k : Nat} {f : Addr} {fd : FuncData} {ps : List Str} {g : List U → M U} {x : Str} {p pos : Pos} {e : Expr} {es : List Expr} {Fr : FxA}
/-- how the callee is run: over the whole store, over nothing, over its first argument alone -/
inductive Kd where
  | len
  | pur
  | urn
def kdG : Kd → Nat → (List U → M U) → List U → M U
  | .len => lenG
  | .pur => pureG
  | .urn => urnG
theorem tG_kd {K : PySem.W.Frag} {ρ : List Addr} {H : Hp} {T : Sto} {us : List U} {vs : List V} {Q : VK} (kd : Kd) (s : RS K ρ H T) (r : RVs K ρ H us vs) (h : OK K ρ H E (rV K) (kdG kd ps.length g us T) Q) : tG K ps g E vs H Q := by
  cases kd with
  | len => exact tG_len s r h
  | pur => exact tG_pure s r h
  | urn => exact tG_urn s r h
theorem fe_call (kd : Kd) (F : FnG X.prog X.w X.K X.mg X.base C k f fd ps g) (room : Room k X.A) (gd : X.A.guards = some []) (hg : Gl X x) (hm : X.mg x = some (.ref f)) (hk : PySem.W.keepIn X.K (.ref f) = true) (hb : Binds X.K fd ps []) (hx : Passes C X E)
    (ha : FA X E (e :: es) Fr) (hdb : (x == ("__debug__" : Str)) = false := by decide) (he : starEach (e :: es) X.env = (false, eval e X.env) :: starEach es X.env := by rfl) (hpl : (backTo pos (starEach es X.env)).any (·.1) = false := by rfl) :
    FE X E (.Call (.Name x p) (e :: es) [] pos) (fCall (kdG kd ps.length g) Fr) := by
  obtain ⟨t, kk, q⟩ := ha
  refine ⟨_, peG F room gd hg hm hk hb hx kk hdb he hpl, fun σ H ρ T η Q s re h => ?_⟩
  exact q σ H ρ T η _ s re (OK.mono (OK.bind h) fun xs H1 ⟨ρ1, T1, us, g1, s1, r1, k1⟩ => tG_kd kd s1 r1 k1)
/-- the items at the places ix -/
def pick {α : Type} (ix : List Nat) (l : List α) : List α := ix.filterMap fun i => l[i]?
def kwG (kd : Kd) (n m : Nat) (ix : List Nat) (g : List U → M U) : List U → M U := fun us T => if us.length = m then kdG kd n g (pick ix us) T else .no
end
end Lf
set_option Elab.async false
set_option linter.all false
set_option maxRecDepth 100000
set_option maxHeartbeats 4000000
namespace Lf
open PySem PySem.Spec L2
def constI (xs : List U) : ItF := ⟨xs.map fun u _ => some u, fun _ => true⟩
def lstAt (T : Sto) (k n : Nat) : Option (List U) := match T[k]? with
  | some (.lst ys) => if ys.length = n then some ys else none
  | _ => none
def objI (k n : Nat) : ItF := ⟨(List.range n).map fun i T => (lstAt T k n).bind (·[i]?), fun T => (lstAt T k n).isSome⟩
def gIter : U → M ItF := fun u T => match u with
  | .tup xs => .ok (constI xs) T
  | .scr ns => .ok (constI (ns.map .int)) T
  | .ob k => match T[k]? with
    | some (.lst xs) => .ok (objI k xs.length) T
    | _ => .no
  | _ => .no
def fIter (Fe : FxE) : FxI := fun η T => (Fe η T).bind fun u T1 => gIter u T1
def signI (x : Str) : List U := x.cps.toList.map fun c => .str ⟨#[c]⟩
def fIterS (Fe : FxE) : FxI := fun η T => (Fe η T).bind fun u T1 => match u with
  | .str x => .ok (constI (signI x)) T1
  | _ => .no
def rgU (lo : Int) (n : Nat) : List U := (List.range n).map fun i => .int (lo + (i : Nat))
def small62 (i : Int) : Bool := decide (-4611686018427387904 ≤ i) && decide (i < 4611686018427387904)
def gRg1 : List U → M ItF := fun us T => match us with
  | [.int j] => if small62 j = true then .ok (constI (rgU 0 j.toNat)) T else .no
  | _ => .no
def fRg (g : List U → M ItF) (Fr : FxA) : FxI := fun η T => (Fr η T).bind fun us T1 => g us T1
section
variable {K : PySem.W.Frag} {ρ : List Addr} {H : Hp} {T : Sto}
theorem itOk_const {xs : List U} {J : It} (hgo : ∀ i H', i < xs.length → (∃ ρ', Gr K ρ H ρ' H') → J.go i H') (hst : ∀ H', (∃ ρ', Gr K ρ H ρ' H') → J.stop xs.length H')
    (hy : ∀ i u ρ' H' x H'', xs[i]? = some u → Gr K ρ H ρ' H' → J.yld i H' x H'' → H'' = H' ∧ RV K ρ' H' u x) : ItOk K ρ H (constI xs) J where
  go := fun i f ρ' H' T' u e g s ef => by
    refine hgo i H' ?_ ⟨ρ', g⟩
    have := (List.getElem?_eq_some_iff.mp e).1
    simpa [constI] using this
  yl := fun i f ρ' H' T' u x H'' e g s ef y => by
    have e : (xs.map fun (u : U) (_ : Sto) => some u)[i]? = some f := e
    rw [List.getElem?_map] at e
    cases q : xs[i]? with
    | none => rw [q] at e; cases e
    | some z =>
      rw [q] at e
      cases e
      have ez : z = u := Option.some.inj ef
      subst ez
      obtain ⟨rfl, r⟩ := hy i z ρ' H' x H'' q g y
      exact ⟨Gr.refl, s, r⟩
  st := fun ρ' H' T' g s _ => by
    have := hst H' ⟨ρ', g⟩
    have e : (constI xs).its.length = xs.length := by simp [constI]
    rw [e]
    exact this
theorem itOk_tup {a : Addr} {us : List U} {vs : List V} (q : SqT K H a vs) (r : RVs K ρ H us vs) : ItOk K ρ H (constI us) (Itt K a) := by
  have hl := r.length
  refine itOk_const (fun i H' hi ⟨ρ', g⟩ => ⟨vs, vs[i]'(by omega), g.sq _ _ q, by simp⟩) (fun H' ⟨ρ', g⟩ => ⟨vs, g.sq _ _ q, by omega⟩) (fun i u ρ' H' x H'' e g y => ?_)
  obtain ⟨e1, y⟩ := y
  refine ⟨e1, ?_⟩
  obtain ⟨v, h1, h2⟩ := r.get e
  have h3 := y vs (g.sq _ _ q)
  rw [h1] at h3
  cases h3
  exact h2.gr g
theorem itOk_scr {a : Addr} {ns : List Int} (q : RF K H a (ns.map V.int)) : ItOk K ρ H (constI (ns.map .int)) (Itl K a) := by
  refine itOk_const (fun i H' hi ⟨ρ', g⟩ => ⟨ns.map V.int, V.int (ns[i]'(by simpa using hi)), (g.rf _ _ q).sq, by simp⟩) (fun H' ⟨ρ', g⟩ => ⟨ns.map V.int, (g.rf _ _ q).sq, by simp⟩) (fun i u ρ' H' x H'' e g y => ?_)
  obtain ⟨e1, y⟩ := y
  refine ⟨e1, ?_⟩
  have h3 := y _ (g.rf _ _ q).sq
  rw [List.getElem?_map] at e h3
  cases z : ns[i]? with
  | none => rw [z] at e; cases e
  | some n =>
    rw [z] at e h3
    cases e
    cases h3
    exact .int n
theorem lstAt_some {T : Sto} {k n : Nat} {ys : List U} (h : lstAt T k n = some ys) : T[k]? = some (.lst ys) ∧ ys.length = n := by
  unfold lstAt at h
  split at h
  · split at h
    · cases h
      exact ⟨by assumption, by assumption⟩
    · cases h
  · cases h
theorem itOk_obj {a : Addr} {k n : Nat} (e : ρ[k]? = some a) : ItOk K ρ H (objI k n) (Itl K a) where
  go := fun i f ρ' H' T' u ef g s h => by
    have ef : ((List.range n).map fun (i : Nat) (T : Sto) => (lstAt T k n).bind (·[i]?))[i]? = some f := ef
    rw [List.getElem?_map] at ef
    cases q : (List.range n)[i]? with
    | none => rw [q] at ef; cases ef
    | some j =>
      rw [q] at ef
      cases ef
      have ej : j = i := by
        have := (List.getElem?_eq_some_iff.mp q).2
        simpa using this.symm
      subst ej
      obtain ⟨ys, h1, h2⟩ := Option.bind_eq_some_iff.mp h
      obtain ⟨h3, _⟩ := lstAt_some h1
      obtain ⟨b, p, vs, f1, rs⟩ := s.get h3
      rw [g.pre k a e] at p
      cases p
      obtain ⟨v, h4, _⟩ := rs.get h2
      exact ⟨vs, v, SqL.of f1, h4⟩
  yl := fun i f ρ' H' T' u x H'' ef g s h y => by
    have ef : ((List.range n).map fun (i : Nat) (T : Sto) => (lstAt T k n).bind (·[i]?))[i]? = some f := ef
    rw [List.getElem?_map] at ef
    cases q : (List.range n)[i]? with
    | none => rw [q] at ef; cases ef
    | some j =>
      rw [q] at ef
      cases ef
      have ej : j = i := by
        have := (List.getElem?_eq_some_iff.mp q).2
        simpa using this.symm
      subst ej
      obtain ⟨ys, h1, h2⟩ := Option.bind_eq_some_iff.mp h
      obtain ⟨h3, _⟩ := lstAt_some h1
      obtain ⟨b, p, vs, f1, rs⟩ := s.get h3
      rw [g.pre k a e] at p
      cases p
      obtain ⟨v, h4, h5⟩ := rs.get h2
      obtain ⟨rfl, y⟩ := y
      have := y vs (SqL.of f1)
      rw [h4] at this
      cases this
      exact ⟨Gr.refl, s, h5⟩
  st := fun ρ' H' T' g s h => by
    have h : (lstAt T' k n).isSome = true := h
    obtain ⟨ys, h1⟩ := Option.isSome_iff_exists.mp h
    obtain ⟨h3, h4⟩ := lstAt_some h1
    obtain ⟨b, p, vs, f1, rs⟩ := s.get h3
    rw [g.pre k a e] at p
    cases p
    exact ⟨vs, SqL.of f1, by rw [← rs.length, h4]; simp [objI]⟩
end
section
variable {X : Cx} {E : XK} {pos : Pos} {tg : Expr}
/-- a list or a tuple is walked -/
def iSeq (K : PySem.W.Frag) (te : TE) : TI := fun σ H R => te σ H fun x H1 => ∃ a, x = .ref a ∧ (((∃ xs, SqL K H1 a xs) ∧ R (Itl K a) H1) ∨ ((∃ xs, SqT K H1 a xs) ∧ R (Itt K a) H1))
theorem pi_seq {l : Expr} {te : TE} (hl : PE X l te) : PI X tg l (iSeq X.K te) := by
  constructor
  intro pins s σ H R I h
  refine thn (hl.run pins s σ H _ I h) ?_
  rintro v s1 ⟨x, H1, I1, r1, a, rfl, q⟩
  cases r1
  rcases q with ⟨⟨xs, hq⟩, q⟩ | ⟨⟨xs, hq⟩, q⟩
  · obtain ⟨its, rv, p, hz⟩ := I1.list hq
    refine PySem.wpAny_pyIter_list p.isList ⟨s1.heap.objs.size, [s1.heap.objs.size], fun i h => h.IsListIter s1.heap.objs.size a i, Itl X.K a, H1, rfl, I1.kept (t' := s1.toks) fun b o e => Heap.get?_push_of_some _ e, turn_list a _, ⟨_, Heap.get?_push_size _ rfl, rfl, rfl⟩, fun b hb => ?_, q⟩
    rw [List.mem_singleton.mp hb]
    exact I1.fpOk (Nat.le_refl _) (I1.hok.fresh (Nat.le_refl _))
  · obtain ⟨its, rv, p, hz⟩ := I1.tuple hq
    refine PySem.wpAny_pyIter_tuple (show s1.heap.IsTuple a its.toArray from p) ⟨s1.heap.objs.size, [s1.heap.objs.size], fun i h => h.IsTupleIter s1.heap.objs.size a i, Itt X.K a, H1, rfl, I1.kept (t' := s1.toks) fun b o e => Heap.get?_push_of_some _ e, turn_tuple a _, ⟨_, Heap.get?_push_size _ rfl, rfl, rfl⟩, fun b hb => ?_, q⟩
    rw [List.mem_singleton.mp hb]
    exact I1.fpOk (Nat.le_refl _) (I1.hok.fresh (Nat.le_refl _))
theorem fi_seq {l : Expr} {Fe : FxE} (hl : FE X E l Fe) : FI X E tg l (fIter Fe) := by
  obtain ⟨t, k, q⟩ := hl
  refine ⟨_, pi_seq k, fun σ H ρ T η R s r h => ?_⟩
  refine q σ H ρ T η _ s r (OK.mono (OK.bind h) fun x H1 ⟨ρ1, T1, u, g1, s1, r1, k1⟩ => ?_)
  unfold gIter at k1
  cases r1 with
  | @tup a vs us sq rs => exact ⟨a, rfl, .inr ⟨⟨vs, sq⟩, k1 _ _ _ Gr.refl s1 (itOk_tup sq rs)⟩⟩
  | @scr a ns h => exact ⟨a, rfl, .inl ⟨⟨_, h.sq⟩, k1 _ _ _ Gr.refl s1 (itOk_scr h)⟩⟩
  | @ob i a ea =>
    dsimp only at k1
    split at k1
    · rename_i xs e
      obtain ⟨b, p, vs, f1, rs⟩ := s1.get e
      rw [ea] at p
      cases p
      exact ⟨a, rfl, .inl ⟨⟨vs, SqL.of f1⟩, k1 _ _ _ Gr.refl s1 (itOk_obj ea)⟩⟩
    · exact False.elim k1
  | _ => exact False.elim k1
theorem fi_str {l : Expr} {Fe : FxE} (hl : FE X E l Fe) : FI X E tg l (fIterS Fe) := by
  obtain ⟨t, k, q⟩ := hl
  refine ⟨_, pi_str k, fun σ H ρ T η R s r h => ?_⟩
  refine q σ H ρ T η _ s r (OK.mono (OK.bind h) fun v H1 ⟨ρ1, T1, u, g1, s1, r1, k1⟩ => ?_)
  cases u with
  | str x =>
    cases r1
    have hl : (signI x).length = x.cps.size := by simp [signI]
    refine ⟨x, rfl, k1 _ _ _ Gr.refl s1 (itOk_const (fun i H' hi _ => by rw [hl] at hi; exact hi) (fun H' _ => by rw [hl]; exact Nat.le_refl _) (fun i u ρ' H' y H'' e g yy => ?_))⟩
    obtain ⟨e1, c, hc, rfl⟩ := yy
    refine ⟨e1, ?_⟩
    unfold signI at e
    rw [List.getElem?_map] at e
    have : x.cps.toList[i]? = some c := by rw [Array.getElem?_toList]; exact hc
    rw [this] at e
    cases e
    exact .str _
  | _ => exact False.elim k1
theorem itOk_rg {K : PySem.W.Frag} {ρ : List Addr} {H : Hp} {lo : Int} {n : Nat} : ItOk K ρ H (constI (rgU lo n)) (Itr lo n) := by
  have hl : (rgU lo n).length = n := by simp [rgU]
  refine itOk_const (fun i H' hi _ => by rw [hl] at hi; exact hi) (fun H' _ => by rw [hl]; exact Nat.le_refl _) (fun i u ρ' H' y H'' e g yy => ?_)
  obtain ⟨e1, rfl⟩ := yy
  refine ⟨e1, ?_⟩
  unfold rgU at e
  rw [List.getElem?_map] at e
  cases q : (List.range n)[i]? with
  | none => rw [q] at e; cases e
  | some j =>
    rw [q] at e
    have ej : j = i := by
      have := (List.getElem?_eq_some_iff.mp q).2
      simpa using this.symm
    subst ej
    cases e
    exact .int _
theorem small62_iff {i : Int} (h : small62 i = true) : -(2 ^ 62) ≤ i ∧ i < 2 ^ 62 := by
  unfold small62 at h
  simp only [Bool.and_eq_true, decide_eq_true_eq] at h
  omega
theorem fi_range1 {a : Expr} {Fr : FxA} {p : Pos} (hg : Gl X "range") (hm : X.mg "range" = none) (ha : FA X E [a] Fr) (hs : starEach [a] X.env = [(false, eval a X.env)] := by rfl) : FI X E tg (.Call (.Name "range" p) [a] [] pos) (fRg gRg1 Fr) := by
  obtain ⟨t, k, q⟩ := ha
  refine ⟨_, pi_range1 hg hm k hs, fun σ H ρ T η R s r h => ?_⟩
  refine q σ H ρ T η _ s r (OK.mono (OK.bind h) fun vs H1 ⟨ρ1, T1, us, g1, s1, r1, k1⟩ => ?_)
  unfold gRg1 at k1
  split at k1
  · match r1 with
    | .cons (.int j) .nil =>
      split at k1
      · rename_i hj
        exact ⟨_, rfl, (small62_iff hj).1, (small62_iff hj).2, k1 _ _ _ Gr.refl s1 itOk_rg⟩
      · exact False.elim k1
  · exact False.elim k1
end
def gIx : U → U → M U := fun o i T => match o, i with
  | .tup xs, .int n => match atI xs n with
    | some u => .ok u T
    | none => .no
  | .scr ns, .int n => match atI ns n with
    | some m => .ok (.int m) T
    | none => .no
  | .str z, .int n => if z.length ≤ 16777216 then match atI z.cps.toList n with
    | some c => .ok (.str ⟨#[c]⟩) T
    | none => .no else .no
  | .ob k, .int n => match T[k]? with
    | some (.lst xs) => match atI xs n with
      | some u => .ok u T
      | none => .no
    | _ => .no
  | _, _ => .no
section
variable {X : Cx} {E : XK} {pos : Pos}
theorem atI_rel {K : PySem.W.Frag} {ρ : List Addr} {H : Hp} {us : List U} {vs : List V} {n : Int} {u : U} (r : RVs K ρ H us vs) (h : atI us n = some u) : ∃ v, atI vs n = some v ∧ RV K ρ H u v := by
  unfold atI at h ⊢
  obtain ⟨j, h1, h2⟩ := Option.bind_eq_some_iff.mp h
  obtain ⟨v, h3, h4⟩ := r.get h2
  exact ⟨v, Option.bind_eq_some_iff.mpr ⟨j, by rw [← r.length]; exact h1, h3⟩, h4⟩
theorem atI_map {α β : Type} {f : α → β} {xs : List α} {n : Int} {x : α} (h : atI xs n = some x) : atI (xs.map f) n = some (f x) := by
  unfold atI at h ⊢
  obtain ⟨j, h1, h2⟩ := Option.bind_eq_some_iff.mp h
  exact Option.bind_eq_some_iff.mpr ⟨j, by rw [List.length_map]; exact h1, by rw [List.getElem?_map, h2]; rfl⟩
theorem fe_ix {a b : Expr} {Fa Fb : FxE} (ha : FE X E a Fa) (hb : FE X E b Fb) (hs : PlainIx b := by intro _ _; rfl) : FE X E (.Subscript a b pos) (fBin gIx Fa Fb) := by
  obtain ⟨ta, ka, qa⟩ := ha
  obtain ⟨tb, kb, qb⟩ := hb
  refine ⟨_, pe_ix ix_seq ka kb hs, fun σ H ρ T η Q s re h => ?_⟩
  refine qa σ H ρ T η _ s re (OK.mono (OK.bind h) fun x H1 ⟨ρ1, T1, u, g1, s1, r1, k1⟩ => ?_)
  refine qb σ H1 ρ1 T1 η _ s1 (re.gr g1) (OK.mono (OK.bind k1) fun y H2 ⟨ρ2, T2, w, g2, s2, r2, k2⟩ => ?_)
  have r1 := RV.gr r1 g2
  unfold gIx at k2
  split at k2
  · split at k2
    · rename_i v e
      cases r2
      match r1 with
      | .tup q rs =>
        obtain ⟨v', h1, h2⟩ := atI_rel rs e
        exact .inr (.inl ⟨_, _, _, _, rfl, rfl, q, h1, okV s2 k2 h2⟩)
    · exact False.elim k2
  · split at k2
    · rename_i v e
      cases r2
      match r1 with
      | .scr q => exact .inl ⟨_, _, _, _, rfl, rfl, q.sq, atI_map e, okV s2 k2 (.int _)⟩
    · exact False.elim k2
  · split at k2
    · rename_i hz
      split at k2
      · rename_i v e
        cases r2
        cases r1
        exact .inr (.inr ⟨_, _, _, rfl, rfl, by rw [sz16]; exact hz, e, okV s2 k2 (.str _)⟩)
      · exact False.elim k2
    · exact False.elim k2
  · split at k2
    · rename_i xs ex
      split at k2
      · rename_i v e
        cases r2
        match r1 with
        | .ob ea =>
          obtain ⟨b, p, vs, f1, rs⟩ := s2.get ex
          rw [ea] at p
          cases p
          obtain ⟨v', h1, h2⟩ := atI_rel rs e
          exact .inl ⟨_, _, _, _, rfl, rfl, SqL.of f1, h1, okV s2 k2 h2⟩
      · exact False.elim k2
    · exact False.elim k2
  · exact False.elim k2
def cutU {α : Type} (xs : List α) (lo hi : Option Int) : List α := (xs.drop (HT.sIx xs.length 0 lo)).take (HT.sIx xs.length xs.length hi - HT.sIx xs.length 0 lo)
def gCut (lo hi : Option Int) : U → M U := fun o T => match o with
  | .tup xs => .ok (.tup (cutU xs lo hi)) T
  | .ob k => match T[k]? with
    | some (.lst xs) => nw (.lst (cutU xs lo hi)) T
    | _ => .no
  | _ => .no
abbrev FxO := Lo → M (Option Int)
structure FO (X : Cx) (E : XK) (e : Option Expr) (F : FxO) : Prop where
  ex : ∃ t : TO, PO X e t ∧ ∀ (σ : L2.St) (H : Hp) (ρ : List Addr) (T : Sto) (η : Lo) (Q : Option Int → Hp → Prop), RS X.K ρ H T → RE X.K ρ H η σ → OK X.K ρ H E (fun _ _ a b => a = b) (F η T) Q → t σ H Q
def fNoP : FxO := fun _ T => .ok none T
def fPt (Fe : FxE) : FxO := fun η T => (Fe η T).bind fun u T1 => match u with
  | .int i => .ok (some i) T1
  | _ => .no
theorem fo_none : FO X E none fNoP := ⟨_, po_none, fun _ _ _ _ _ _ s _ h => h _ _ _ Gr.refl s rfl⟩
theorem fo_some {e : Expr} {Fe : FxE} (he : FE X E e Fe) : FO X E (some e) (fPt Fe) := by
  obtain ⟨t, k, q⟩ := he
  refine ⟨_, po_some k, fun σ H ρ T η Q s re h => ?_⟩
  refine q σ H ρ T η _ s re (OK.mono (OK.bind h) fun x H1 ⟨ρ1, T1, u, g1, s1, r1, k1⟩ => ?_)
  cases u with
  | int i => cases r1; exact ⟨i, rfl, k1 _ _ _ Gr.refl s1 rfl⟩
  | _ => exact False.elim k1
def fSl (Fe : FxE) (Fl Fh : FxO) : FxE := fun η T => (Fe η T).bind fun u T1 => (Fl η T1).bind fun lo T2 => (Fh η T2).bind fun hi T3 => gCut lo hi u T3
theorem cut_rel {K : PySem.W.Frag} {ρ : List Addr} {H : Hp} {us : List U} {vs : List V} (r : RVs K ρ H us vs) (lo hi : Option Int) : RVs K ρ H (cutU us lo hi) (cutV vs lo hi) := by
  unfold cutU cutV
  rw [r.length]
  exact (r.drop _).take _
theorem cut_whole {K : PySem.W.Frag} {ρ : List Addr} {H : Hp} {us : List U} {vs : List V} {lo hi : Option Int} (r : RVs K ρ H us vs) (h1 : HT.sIx vs.length 0 lo = 0) (h2 : HT.sIx vs.length vs.length hi = vs.length) : cutU us lo hi = us := by
  unfold cutU
  rw [r.length, h1, h2, List.drop_zero, Nat.sub_zero, ← r.length, List.take_length]
theorem fe_slice {e : Expr} {lo hi : Option Expr} {p2 : Pos} {Fe : FxE} {Fl Fh : FxO} (he : FE X E e Fe) (hl : FO X E lo Fl) (hh : FO X E hi Fh) : FE X E (.Subscript e (.Slice lo hi none p2) pos) (fSl Fe Fl Fh) := by
  obtain ⟨t, k, q⟩ := he
  obtain ⟨tl, kl, ql⟩ := hl
  obtain ⟨th, kh, qh⟩ := hh
  refine ⟨_, pe_slice (SlR.or sl_tupA sl_list) k kl kh, fun σ H ρ T η Q s re h => ?_⟩
  refine q σ H ρ T η _ s re (OK.mono (OK.bind h) fun x H1 ⟨ρ1, T1, u, g1, s1, r1, k1⟩ => ?_)
  refine ql σ H1 ρ1 T1 η _ s1 (re.gr g1) (OK.mono (OK.bind k1) fun lo' H2 ⟨ρ2, T2, l2, g2, s2, r2, k2⟩ => ?_)
  cases r2
  refine qh σ H2 ρ2 T2 η _ s2 (re.gr (g1.trans g2)) (OK.mono (OK.bind k2) fun hi' H3 ⟨ρ3, T3, l3, g3, s3, r3, k3⟩ => ?_)
  cases r3
  have r1 := RV.gr r1 (g2.trans g3)
  unfold gCut at k3
  split at k3
  · match r1 with
    | .tup (a := a) (vs := vs) sq rs =>
      have cr := cut_rel rs lo' hi'
      refine .inl ⟨a, vs, rfl, sq, fun ⟨h1, h2⟩ => ?_, fun _ p n => okTup s3 k3 cr n⟩
      rw [cut_whole rs h1 h2] at k3
      exact okV s3 k3 (.tup sq rs)
  · split at k3
    · rename_i xs ex
      match r1 with
      | .ob ea =>
        obtain ⟨b, p, vs, f1, rs⟩ := s3.get ex
        rw [ea] at p
        cases p
        exact .inr ⟨_, vs, rfl, SqL.of f1, fun p n => okNew s3 k3 (cut_rel rs lo' hi') n⟩
    · exact False.elim k3
  · exact False.elim k3
end
def seqU (T : Sto) : U → Option (List U)
  | .tup xs => some xs
  | .scr ns => some (ns.map .int)
  | .ob k => match T[k]? with
    | some (.lst xs) => some xs
    | _ => none
  | _ => none
def gLen : List U → M U := fun us T => match us with
  | [.str z] => if z.length ≤ 16777216 then .ok (.int z.length) T else .no
  | [u] => match seqU T u with
    | some xs => .ok (.int xs.length) T
    | none => .no
  | _ => .no
def gAbs : List U → M U := fun us T => match us with
  | [.int i] => .ok (.int (if i < 0 then -i else i)) T
  | _ => .no
def gInt : List U → M U := fun us T => match us with
  | [.int i] => .ok (.int i) T
  | [.bl b] => .ok (.int (if b then 1 else 0)) T
  | [.str a] => match PySem.intText? a with
    | some n => if a.length ≤ 640 then .ok (.int n) T else .no
    | none => .no
  | _ => .no
def gMax2 : List U → M U := fun us T => match us with
  | [.int i, .int j] => .ok (.int (if j > i then j else i)) T
  | _ => .no
def gMin2 : List U → M U := fun us T => match us with
  | [.int i, .int j] => .ok (.int (if j < i then j else i)) T
  | _ => .no
def blsU : List U → Option (List Bool)
  | [] => some []
  | .bl b :: us => (blsU us).map (b :: ·)
  | _ :: _ => none
def intsU : List U → Option (List Int)
  | [] => some []
  | .int b :: us => (intsU us).map (b :: ·)
  | _ :: _ => none
def lstU (T : Sto) : U → Option (List U)
  | .ob k => match T[k]? with
    | some (.lst xs) => some xs
    | _ => none
  | .scr ns => some (ns.map .int)
  | _ => none
def gAll : List U → M U := fun us T => match us with
  | [u] => match (lstU T u).bind blsU with
    | some bs => .ok (.bl (bs.all id)) T
    | none => .no
  | _ => .no
def gSum : List U → M U := fun us T => match us with
  | [u] => match (lstU T u).bind intsU with
    | some ns => .ok (.int ns.sum) T
    | none => .no
  | _ => .no
def gList : List U → M U := fun us T => match us with
  | [u] => match seqU T u with
    | some xs => nw (.lst xs) T
    | none => .no
  | _ => .no
def gTuple : List U → M U := fun us T => match us with
  | [u] => match seqU T u with
    | some xs => .ok (.tup xs) T
    | none => .no
  | _ => .no
section
variable {K : PySem.W.Frag} {ρ : List Addr} {H : Hp} {T : Sto}
theorem seqU_ok {u : U} {v : V} {xs : List U} (s : RS K ρ H T) (r : RV K ρ H u v) (e : seqU T u = some xs) : ∃ (a : Addr) (vs : List V), v = .ref a ∧ (SqL K H a vs ∨ SqT K H a vs) ∧ RVs K ρ H xs vs ∧ ((∃ us, u = .tup us) → SqT K H a vs) ∧ ((∀ us, u ≠ .tup us) → SqL K H a vs) := by
  cases r with
  | tup sq rs => cases e; exact ⟨_, _, rfl, .inr sq, rs, fun _ => sq, fun h => absurd rfl (h _)⟩
  | scr q => cases e; exact ⟨_, _, rfl, .inl q.sq, RVs.ints _, (fun ⟨_, z⟩ => by cases z), fun _ => q.sq⟩
  | @ob k a ea =>
    have e : (match T[k]? with
      | some (.lst xs) => some xs
      | _ => none) = some xs := e
    split at e
    · rename_i ys ex
      cases e
      obtain ⟨b, p, vs, f1, rs⟩ := s.get ex
      rw [ea] at p
      cases p
      exact ⟨a, vs, rfl, .inl (SqL.of f1), rs, (fun ⟨_, z⟩ => by cases z), fun _ => SqL.of f1⟩
    · cases e
  | _ => cases e
theorem lstU_ok {u : U} {v : V} {xs : List U} (s : RS K ρ H T) (r : RV K ρ H u v) (e : lstU T u = some xs) : ∃ a vs, v = .ref a ∧ SqL K H a vs ∧ RVs K ρ H xs vs := by
  cases r with
  | scr q => cases e; exact ⟨_, _, rfl, q.sq, RVs.ints _⟩
  | @ob k a ea =>
    have e : (match T[k]? with
      | some (.lst xs) => some xs
      | _ => none) = some xs := e
    split at e
    · rename_i ys ex
      cases e
      obtain ⟨b, p, vs, f1, rs⟩ := s.get ex
      rw [ea] at p
      cases p
      exact ⟨a, vs, rfl, SqL.of f1, rs⟩
    · cases e
  | _ => cases e
theorem blsU_ok : ∀ {us : List U} {vs : List V} {bs : List Bool}, RVs K ρ H us vs → blsU us = some bs → vs = bs.map V.bl
  | _, _, _, .nil, e => by cases e; rfl
  | u :: us, _, bs, .cons r rs, e => by
    cases u with
    | bl b =>
      obtain ⟨cs, h1, h2⟩ := Option.map_eq_some_iff.mp e
      subst h2
      cases r
      rw [blsU_ok rs h1]
      rfl
    | _ => cases e
theorem intsU_ok : ∀ {us : List U} {vs : List V} {bs : List Int}, RVs K ρ H us vs → intsU us = some bs → vs = bs.map V.int
  | _, _, _, .nil, e => by cases e; rfl
  | u :: us, _, bs, .cons r rs, e => by
    cases u with
    | int b =>
      obtain ⟨cs, h1, h2⟩ := Option.map_eq_some_iff.mp e
      subst h2
      cases r
      rw [intsU_ok rs h1]
      rfl
    | _ => cases e
end
section
variable {X : Cx} {E : XK} {pos : Pos}
theorem fcl_len : FCall X E (.builtin "len") gLen := by
  refine ⟨_, CallR.or call_len_str call_len_seq, fun ρ H T us xs Q s r h => ?_⟩
  unfold gLen at h
  split at h
  · match r with
    | .cons (.str z) .nil =>
      split at h
      · rename_i hz
        exact .inl ⟨_, rfl, by rw [sz16]; exact hz, okV s h (.int _)⟩
      · exact False.elim h
  · split at h
    · rename_i xs e
      match r with
      | .cons r .nil =>
        obtain ⟨a, vs, rfl, q, rs, _⟩ := seqU_ok s r e
        exact .inr ⟨a, vs, rfl, q, by rw [← rs.length]; exact okV s h (.int _)⟩
    · exact False.elim h
  · exact False.elim h
theorem fcl_abs : FCall X E (.builtin "abs") gAbs := by
  refine ⟨_, call_abs, fun ρ H T us xs Q s r h => ?_⟩
  unfold gAbs at h
  split at h
  · match r with
    | .cons (.int _) .nil => exact ⟨_, rfl, okV s h (.int _)⟩
  · exact False.elim h
theorem fcl_int : FCall X E (.type "int") gInt := by
  refine ⟨_, CallR.or call_int1 call_int_str, fun ρ H T us xs Q s r h => ?_⟩
  unfold gInt at h
  split at h
  · match r with
    | .cons (.int _) .nil => exact .inl (.inl ⟨_, rfl, okV s h (.int _)⟩)
  · match r with
    | .cons (.bl _) .nil => exact .inl (.inr ⟨_, rfl, okV s h (.int _)⟩)
  · split at h
    · rename_i n e
      split at h
      · rename_i hl
        match r with
        | .cons (.str _) .nil => exact .inr ⟨_, _, rfl, e, hl, okV s h (.int _)⟩
      · exact False.elim h
    · exact False.elim h
  · exact False.elim h
theorem fcl_max2 (hc : X.calm = true) : FCall X E (.builtin "max") gMax2 := by
  refine ⟨_, call_max2 hc, fun ρ H T us xs Q s r h => ?_⟩
  unfold gMax2 at h
  split at h
  · match r with
    | .cons (.int _) (.cons (.int _) .nil) => exact ⟨_, _, rfl, okV s h (.int _)⟩
  · exact False.elim h
theorem fcl_min2 (hc : X.calm = true) : FCall X E (.builtin "min") gMin2 := by
  refine ⟨_, call_min2 hc, fun ρ H T us xs Q s r h => ?_⟩
  unfold gMin2 at h
  split at h
  · match r with
    | .cons (.int _) (.cons (.int _) .nil) => exact ⟨_, _, rfl, okV s h (.int _)⟩
  · exact False.elim h
theorem fcl_all (hc : X.calm = true) : FCall X E (.builtin "all") gAll := by
  refine ⟨_, cr_all hc, fun ρ H T us xs Q s r h => ?_⟩
  unfold gAll at h
  split at h
  · split at h
    · rename_i bs e
      obtain ⟨ys, e1, e2⟩ := Option.bind_eq_some_iff.mp e
      match r with
      | .cons r .nil =>
        obtain ⟨a, vs, rfl, q, rs⟩ := lstU_ok s r e1
        rw [blsU_ok rs e2] at q
        exact ⟨a, bs, rfl, q, okV s h (.bl _)⟩
    · exact False.elim h
  · exact False.elim h
theorem fcl_sum (hc : X.calm = true) : FCall X E (.builtin "sum") gSum := by
  refine ⟨_, cr_sum hc, fun ρ H T us xs Q s r h => ?_⟩
  unfold gSum at h
  split at h
  · split at h
    · rename_i bs e
      obtain ⟨ys, e1, e2⟩ := Option.bind_eq_some_iff.mp e
      match r with
      | .cons r .nil =>
        obtain ⟨a, vs, rfl, q, rs⟩ := lstU_ok s r e1
        rw [intsU_ok rs e2] at q
        exact ⟨a, bs, rfl, q, okV s h (.int _)⟩
    · exact False.elim h
  · exact False.elim h
theorem fcl_tuple : FCall X E (.type "tuple") gTuple := by
  refine ⟨_, call_tuple_of, fun ρ H T us xs Q s r h => ?_⟩
  unfold gTuple at h
  split at h
  · rename_i u
    split at h
    · rename_i ys e
      match r with
      | .cons r .nil =>
        obtain ⟨a, vs, rfl, q, rs, ht, hl⟩ := seqU_ok s r e
        by_cases z : ∃ us, u = U.tup us
        · obtain ⟨zs, rfl⟩ := z
          cases e
          exact ⟨a, vs, rfl, .inr ⟨ht ⟨_, rfl⟩, okV s h (.tup (ht ⟨_, rfl⟩) rs)⟩⟩
        · exact ⟨a, vs, rfl, .inl ⟨hl fun us e => z ⟨us, e⟩, fun p n => okTup s h rs n⟩⟩
    · exact False.elim h
  · exact False.elim h
def tyU (T : Sto) : U → Option String
  | .non => some "NoneType"
  | .bl _ => some "bool"
  | .int _ => some "int"
  | .str _ => some "str"
  | .tup _ => some "tuple"
  | .scr _ => some "list"
  | .ob k => match T[k]? with
    | some (.lst _) => some "list"
    | some (.dic _) => some "dict"
    | _ => none
  | .raw _ => none
def gIsi : List U → M U := fun us T => match us with
  | [u, .raw (.ty n)] => match tyU T u with
    | some t => match kitB t n with
      | some b => .ok (.bl b) T
      | none => .no
    | none => .no
  | _ => .no
theorem tyU_ok {K : PySem.W.Frag} {ρ : List Addr} {H : Hp} {T : Sto} {u : U} {v : V} {t : String} (s : RS K ρ H T) (r : RV K ρ H u v) (e : tyU T u = some t) : TyX K H v (.type t) := by
  cases r with
  | non => cases e; exact .base .non
  | bl b => cases e; exact .base (.bl b)
  | int b => cases e; exact .base (.int b)
  | str b => cases e; exact .base (.str b)
  | tup sq rs =>
    cases e
    rcases sq with (q | ⟨o, q⟩) | ⟨o, its, n, h1, h2, _⟩
    · exact .base (.tup q)
    · exact .fTuple q
    · exact .kTuple h1 h2
  | scr q =>
    cases e
    rcases q with ⟨o, q⟩ | ⟨o, its, n, h1, h2, _⟩
    · exact .base (.frz q)
    · exact .kList h1 h2
  | @ob k a ea =>
    have e : (match T[k]? with
      | some (.lst _) => some "list"
      | some (.dic _) => some "dict"
      | _ => none) = some t := e
    split at e
    · rename_i xs ex
      cases e
      obtain ⟨b, p, vs, f1, rs⟩ := s.get ex
      rw [ea] at p
      cases p
      exact .base (.lst f1)
    · rename_i xs ex
      cases e
      obtain ⟨b, p, f⟩ := s.get ex
      rw [ea] at p
      cases p
      rcases f with ⟨ks, f, _⟩ | ⟨k0, ks, f, _⟩
      · exact .base (.dK f)
      · exact .base (.dT f)
    · cases e
  | raw v => cases e
theorem fcl_isi : FCall X E (.builtin "isinstance") gIsi := by
  refine ⟨_, call_isi, fun ρ H T us xs Q s r h => ?_⟩
  unfold gIsi at h
  split at h
  · split at h
    · rename_i t et
      split at h
      · rename_i b eb
        match r with
        | .cons r (.cons (.raw _) .nil) => exact ⟨_, _, _, _, b, rfl, .ty _, tyU_ok s r et, kit_ty eb, okV s h (.bl _)⟩
      · exact False.elim h
    · exact False.elim h
  · exact False.elim h
/-- a built-in type by its name -/
theorem fe_ty {x : Str} {n : String} {pos : Pos} (hg : Gl X x) (hm : X.mg x = none) (hv : bootBuiltins x = some (.type n)) (hn : x ≠ "__name__" := by decide) (hd : (x == ("__debug__" : Str)) = false := by decide) : FE X E (.Name x pos) (fC (.raw (.ty n))) :=
  ⟨_, pe_bltn (v := .ty n) hg hm hv rfl hn hd, fun _ _ _ _ _ _ s _ h => okV s h (.raw _)⟩
/-- a module's int, text -/
theorem fe_gint {x : Str} {i : Int} {t : Tok} {pos : Pos} (hg : Gl X x) (hm : X.mg x = some (.int i t)) (hd : (x == ("__debug__" : Str)) = false := by decide) : FE X E (.Name x pos) (fC (.int i)) := ⟨_, pe_glob (v := .int i) hg hm ⟨t, rfl⟩ hd, fun _ _ _ _ _ _ s _ h => okV s h (.int i)⟩
theorem fe_gstr {x : Str} {z : Str} {t : Tok} {pos : Pos} (hg : Gl X x) (hm : X.mg x = some (.str z t)) (hd : (x == ("__debug__" : Str)) = false := by decide) : FE X E (.Name x pos) (fC (.str z)) := ⟨_, pe_glob (v := .str z) hg hm ⟨t, rfl⟩ hd, fun _ _ _ _ _ _ s _ h => okV s h (.str z)⟩
def FMt (X : Cx) (E : XK) (id : String) (g : U → List U → M U) : Prop :=
  ∃ r : V → List V → Hp → VK → Prop, MtR X id r ∧ ∀ (ρ : List Addr) (H : Hp) (T : Sto) (o : U) (us : List U) (x : V) (xs : List V) (Q : V → Hp → Prop), RS X.K ρ H T → RV X.K ρ H o x → RVs X.K ρ H us xs → OK X.K ρ H E (rV X.K) (g o us T) Q → r x xs H Q
def isL (T : Sto) : U → Bool
  | .ob k => match T[k]? with
    | some (.lst _) => true
    | _ => false
  | .scr _ => true
  | _ => false
def fMeth (is : Sto → U → Bool) (g : U → List U → M U) (Fo : FxE) (Fr : FxA) : FxE := fun η T => (Fo η T).bind fun o T1 => if is T1 o = true then (Fr η T1).bind fun us T2 => g o us T2 else .no
theorem isL_ok {K : PySem.W.Frag} {ρ : List Addr} {H : Hp} {T : Sto} {u : U} {v : V} (s : RS K ρ H T) (r : RV K ρ H u v) (e : isL T u = true) : tyV K "list" v H := by
  cases r with
  | scr q => exact .inl ⟨rfl, _, q.sq⟩
  | @ob k a ea =>
    have e : (match T[k]? with
      | some (.lst _) => true
      | _ => false) = true := e
    split at e
    · rename_i xs ex
      obtain ⟨b, p, vs, f1, rs⟩ := s.get ex
      rw [ea] at p
      cases p
      exact .inl ⟨rfl, _, SqL.of f1⟩
    · cases e
  | _ => cases e
theorem fe_lm0 {o : Expr} {name : Str} {id : String} {apos cpos : Pos} {g : U → List U → M U} {Fo : FxE} (slot : Slot "list" name id) (hty : typeOf (.builtin id) = pure (.type "method_descriptor")) (hm : FMt X E id g) (ho : FE X E o Fo)
    (hbase : attributeBase o name X.env (eval o X.env) = eval o X.env := by rfl) (hline : (apos.endLine == cpos.line) = true := by rfl) : FE X E (.Call (.Attribute o name apos) [] [] cpos) (fMeth isL g Fo fNil) := by
  obtain ⟨r, h1, h2⟩ := hm
  obtain ⟨t, k, q⟩ := ho
  refine ⟨_, pe_bm0 PySem.F.plainAttrs_list slot hty h1 k hbase hline, fun σ H ρ T η Q s re h => ?_⟩
  refine q σ H ρ T η _ s re (OK.mono (OK.bind h) fun x H1 ⟨ρ1, T1, u, g1, s1, r1, k1⟩ => ?_)
  split at k1
  · rename_i hi
    exact ⟨isL_ok s1 r1 hi, h2 ρ1 H1 T1 u [] x [] Q s1 r1 .nil k1⟩
  · exact False.elim k1
theorem fe_lm {o e : Expr} {es : List Expr} {name : Str} {id : String} {apos cpos : Pos} {g : U → List U → M U} {Fo : FxE} {Fr : FxA} (slot : Slot "list" name id) (hty : typeOf (.builtin id) = pure (.type "method_descriptor")) (hm : FMt X E id g) (ho : FE X E o Fo) (ha : FA X E (e :: es) Fr)
    (hbase : attributeBase o name X.env (eval o X.env) = eval o X.env := by rfl)
    (hfew : ((backTo cpos (starEach (e :: es) X.env)).all (fun x => !x.1) && (backToKw cpos (keywordEach [] X.env)).all (fun x => x.1.isSome)
      && decide ((e :: es).length + ([] : List Keyword).length + (if ([] : List Keyword).isEmpty then 0 else 1) < 30)) = true := by rfl)
    (hline : (apos.endLine == cpos.line) = true := by rfl) (hs : starEach (e :: es) X.env = (false, eval e X.env) :: starEach es X.env := by rfl) (hplain : (backTo cpos (starEach es X.env)).any (·.1) = false := by rfl) :
    FE X E (.Call (.Attribute o name apos) (e :: es) [] cpos) (fMeth isL g Fo Fr) := by
  obtain ⟨r, h1, h2⟩ := hm
  obtain ⟨t, k, q⟩ := ho
  obtain ⟨ta, ka, qa⟩ := ha
  refine ⟨_, pe_bm PySem.F.plainAttrs_list slot hty h1 k ka hbase hfew hline hs hplain, fun σ H ρ T η Q s re h => ?_⟩
  refine q σ H ρ T η _ s re (OK.mono (OK.bind h) fun x H1 ⟨ρ1, T1, u, g1, s1, r1, k1⟩ => ?_)
  split at k1
  · rename_i hi
    refine ⟨isL_ok s1 r1 hi, qa σ H1 ρ1 T1 η _ s1 (re.gr g1) (OK.mono (OK.bind k1) fun xs H2 ⟨ρ2, T2, us, g2, s2, r2, k2⟩ => h2 ρ2 H2 T2 u us x xs Q s2 (RV.gr r1 g2) r2 k2)⟩
  · exact False.elim k1
def gAppend : U → List U → M U := fun o us T => match o, us with
  | .ob k, [u] => match T[k]? with
    | some (.lst xs) => if xs.length < 16777216 then .ok .non (T.set k (.lst (xs ++ [u]))) else .no
    | _ => .no
  | _, _ => .no
def gExtend : U → List U → M U := fun o us T => match o, us with
  | .ob k, [.ob j] => match T[k]?, T[j]? with
    | some (.lst xs), some (.lst ys) => if xs.length + ys.length ≤ 16777216 then .ok .non (T.set k (.lst (xs ++ ys))) else .no
    | _, _ => .no
  | _, _ => .no
def gPop : U → List U → M U := fun o us T => match o, us with
  | .ob k, [] => match T[k]? with
    | some (.lst xs) => match xs[xs.length - 1]? with
      | some u => .ok u (T.set k (.lst xs.dropLast))
      | none => .no
    | _ => .no
  | _, _ => .no
theorem okPut {u : U} {v : V} {ρ : List Addr} {H : Hp} {T : Sto} {Q : V → Hp → Prop} {k : Nat} {a : Addr} {us : List U} {vs : List V} (s : RS X.K ρ H T) (e : ρ[k]? = some a) (h : OK X.K ρ H E (rV X.K) (.ok u (T.set k (.lst us))) Q) (r : RVs X.K ρ H us vs) (rv : RV X.K ρ H u v) (hf : NF H a := by first | exact nf_lst ‹_›) : Q v (upd H a (.lst vs)) :=
  have g : Gr X.K ρ H ρ (upd H a (.lst vs)) := Gr.put s e hf
  h ρ _ v g (s.put e ⟨vs, upd_same, r.gr g⟩ (s.liveN (List.mem_of_getElem? e) hf)) (rv.gr g)
theorem RVs.dropLast {K : PySem.W.Frag} {ρ : List Addr} {H : Hp} {us : List U} {vs : List V} (r : RVs K ρ H us vs) : RVs K ρ H us.dropLast vs.dropLast := by
  rw [List.dropLast_eq_take, List.dropLast_eq_take, r.length]
  exact r.take _
theorem fmt_append : FMt X E "list.append" gAppend := by
  refine ⟨_, mt_append, fun ρ H T o us x xs Q s ro r h => ?_⟩
  unfold gAppend at h
  split at h
  · rename_i k u
    split at h
    · rename_i ys ey
      split at h
      · rename_i hl
        match ro, r with
        | .ob (a := a) ea, .cons r .nil =>
          obtain ⟨b, p, vs, f1, rs⟩ := s.get ey
          rw [ea] at p
          cases p
          exact ⟨a, vs, _, rfl, rfl, f1, by rw [sz16, ← rs.length]; exact hl, okPut s ea h (rs.append (.cons r .nil)) .non⟩
      · exact False.elim h
    · exact False.elim h
  · exact False.elim h
theorem fmt_extend : FMt X E "list.extend" gExtend := by
  refine ⟨_, mt_extend, fun ρ H T o us x xs Q s ro r h => ?_⟩
  unfold gExtend at h
  split at h
  · rename_i k j
    split at h
    · rename_i ys zs ey ez
      split at h
      · rename_i hl
        match ro, r with
        | .ob (a := a) ea, .cons (.ob (a := b) eb) .nil =>
          obtain ⟨a', p, vs, f1, rs⟩ := s.get ey
          rw [ea] at p
          cases p
          obtain ⟨b', p, ws, f2, rs2⟩ := s.get ez
          rw [eb] at p
          cases p
          exact ⟨a, b, vs, ws, rfl, rfl, f1, f2, by rw [sz16, ← rs.length, ← rs2.length]; exact hl, okPut s ea h (rs.append rs2) .non⟩
      · exact False.elim h
    · exact False.elim h
  · exact False.elim h
theorem fmt_pop : FMt X E "list.pop" gPop := by
  refine ⟨_, mt_pop, fun ρ H T o us x xs Q s ro r h => ?_⟩
  unfold gPop at h
  split at h
  · rename_i k
    split at h
    · rename_i ys ey
      split at h
      · rename_i u eu
        match ro, r with
        | .ob (a := a) ea, .nil =>
          obtain ⟨b, p, vs, f1, rs⟩ := s.get ey
          rw [ea] at p
          cases p
          obtain ⟨v, h1, h2⟩ := rs.get eu
          exact ⟨a, vs, v, rfl, rfl, f1, by rw [← rs.length]; exact h1, okPut s ea h rs.dropLast h2⟩
      · exact False.elim h
    · exact False.elim h
  · exact False.elim h
def fAug (i : Nat) (g : U → U → M U) (Fe : FxE) : FxS := fun η T => match η[i]? with
  | some (some u) => (Fe η T).bind fun w T1 => (g u w T1).bind fun z T2 => .ok (.nx, η.set i (some z)) T2
  | _ => .no
theorem fs_aug {i : Nat} {x : Str} {e : Expr} {Fe : FxE} {op : Operator} {g : U → U → M U} {pos' : Pos} (hN : X.N.Nodup) (hi : X.N[i]? = some x) (hx : Loc X.env.scope x) (ho : FOp X E (inplaceOp op) g) (he : FE X E e Fe)
    (hf : X.fn x = true ∨ X.env.scope.names.lookup x = some .local := by first | exact .inl rfl | exact .inr rfl | assumption) : FS X E (.AugAssign (.Name x pos') op e pos) (fAug i g Fe) := by
  obtain ⟨t, k, q⟩ := he
  obtain ⟨r, h1, h2⟩ := ho
  refine ⟨_, ps_aug hN hi hx k (fun pins s σ H x y v u Q I rx ry q => h1 pins s σ H x y v u Q I rx ry q) hf, fun σ H ρ T η D s re h => ?_⟩
  unfold fAug at h
  split at h
  · rename_i u eu
    obtain ⟨v, e1, e2⟩ := re.at_ i u eu
    refine ⟨v, e1, q σ H ρ T η _ s re (OK.mono (OKS.bind h) fun y H1 ⟨ρ1, T1, w, g1, s1, r1, k1⟩ => ?_)⟩
    exact h2 ρ1 H1 T1 u w v y _ s1 (e2.gr g1) r1 (OK.mono (OKS.bind k1) fun z H2 ⟨ρ2, T2, uz, g2, s2, r2, k2⟩ => k2 _ _ _ Gr.refl s2 ((re.gr (g1.trans g2)).set i r2))
  · exact False.elim h
def gIAdd : U → U → M U
  | .int i, .int j, T => .ok (.int (i + j)) T
  | _, _, _ => .no
theorem fop_iadd : FOp X E (inplaceOp .Add) gIAdd := by
  refine ⟨_, iop_add, fun ρ H T u w x y Q s ru rw h => ?_⟩
  cases u with
  | int i =>
    cases w with
    | int j => cases ru; cases rw; exact ⟨i, j, rfl, rfl, okV s h (.int _)⟩
    | _ => exact False.elim h
  | _ => exact False.elim h
end
end Lf
set_option Elab.async false
set_option linter.all false
set_option maxRecDepth 100000
set_option maxHeartbeats 4000000
namespace Lf
open PySem PySem.Spec L2
/-- from a heap in which at most the script is tracked -/
theorem end_core {P : Program} {w : World} {K : PySem.W.Frag} {mg mb : Str → Option Value} {k : Nat} {fa a : Addr} {fd : FuncData} {x : Str} {g : List U → M U} {s : Shared} {vs : List Value} {ns : List Int} {H : Hp}
    (inK : K.In s.heap) (hns : s.heap.Ns mainGlobals mg) (hmb : s.heap.Ns builtinsNs mb) (hbb : ∀ x : Str, x ≠ "__name__" → mb x = bootBuiltins x) (nolim : s.heap.NoLimit) (nogen : s.gens = #[])
    (ha : s.heap.get? a = some { cls := .type "list", data := .seq vs.toArray }) (room : Room k callerA)
    (F : ∀ base : Heap, K.In base → base.Ns mainGlobals mg → FnG P w K mg base CX0 k fa fd [x] g) (bd : ∀ (s : Shared) (u : Value), BindsTo s fd ⟨[u], []⟩ [(x, u)])
    (res : ∃ T, g [.scr ns] [] = .ok (.bl true) T) (hrf : RF K H a (ns.map V.int)) (hok : HOk P w H s.heap) (only : ∀ b, H b ≠ none → b = a ∧ ∃ o xs, H b = some (.frz o (.lst xs))) (offK : H a ≠ none → K.lookup a = none) :
    codeAny (model P w) callerA (.call (.ref fa) ⟨[.ref a], []⟩) (fun r s' => r = .ok (.ret (.bool true)) ∧ OldK s.heap s'.heap ∧ s'.os = s.os ∧ PyProof.Rows.AllBare s'.gens) s := by
  have free : ∀ {b : Addr} {o : Obj} {es : Array DictEntry} {ep : Nat}, s.heap.get? b = some o → o.data = .dict es ep → H b = none := by
    intro b o es ep e d
    cases q : H b with
    | none => rfl
    | some u =>
      have eb := (only b (by rw [q]; simp)).1
      subst eb
      rw [ha] at e
      cases e
      cases d
  have nsT : ∀ {b : Addr} {m : Str → Option Value}, s.heap.Ns b m → (hidT s.heap H).Ns b m := fun {b m} ⟨o, es, ep, e, d, r⟩ => ⟨o, es, ep, hidT_get e (free e d), d, r⟩
  have kinT : K.In (hidT s.heap H) := by
    intro b o e
    refine hidT_get (inK b o e) ?_
    cases q : H b with
    | none => rfl
    | some u =>
      have eb := (only b (by rw [q]; simp)).1
      subst eb
      rw [offK (by rw [q]; simp)] at e
      cases e
  have md : Mod K mg (hidT s.heap H) := ⟨kinT, nsT hns, ⟨mb, nsT hmb, hbb⟩, let ⟨mc, h1, h2⟩ := nolim; ⟨mc, nsT h1, h2⟩⟩
  have e0 : Env0 P w K mg (hidT s.heap H) callerA [] s H := ⟨rfl, md, fun b o e => of_hidT e, Nat.le_of_eq (hidT_size _ _), trivial, fun b hb => absurd (show b ∈ ([] : List Addr) from hb) (by simp), hok, .of_eq nogen⟩
  obtain ⟨T, eT⟩ := res
  have ask : OK K [] H (fun _ _ _ => False) (rV K) (g [.scr ns] []) (fun v _ => v = .bl true) := by
    rw [eT]
    intro ρ' H' b _ _ r
    cases r
    rfl
  refine codeAny_mono ((F _ kinT (nsT hns)).run callerA [] s H ⟨[.ref a], []⟩ [.ref a] [.ref a] [.scr ns] [] [] (fun v _ => v = .bl true) (fun _ _ _ => False) room rfl e0 (bd s (.ref a)) (.cons rfl .nil) rs_nil (.cons (.scr hrf) .nil) rfl ask) fun r s' h => ?_
  match r, h with
  | .error e, h => exact False.elim h
  | .ok .next, h => exact False.elim h
  | .ok .brk, h => exact False.elim h
  | .ok .cont, h => exact False.elim h
  | .ok (.ret u), h =>
    obtain ⟨v, H', os, bare, un, hok', rv, q⟩ := h
    have q : v = .bl true := q
    subst q
    obtain rfl : u = Value.bool true := rv
    refine ⟨rfl, OldK.of_keep fun b o e => ?_, os, bare⟩
    cases q : H b with
    | none => exact un.keep b o e q (fun z => absurd (show b ∈ ([] : List Addr) from z) (by simp)) (by simp)
    | some u =>
      obtain ⟨_, ob, xs, z⟩ := only b (by rw [q]; simp)
      have z2 := un.frzs b ob _ z
      obtain ⟨e1, _⟩ := hok b _ z
      obtain ⟨e2, _⟩ := hok' b _ z2
      rw [e] at e1
      cases e1
      exact e2
theorem law_end {P : Program} {w : World} {K : PySem.W.Frag} {mg mb : Str → Option Value} {k : Nat} {fa a : Addr} {fd : FuncData} {x : Str} {g : List U → M U} {s : Shared} {vs : List Value} {ns : List Int}
    (inK : K.In s.heap) (hns : s.heap.Ns mainGlobals mg) (hmb : s.heap.Ns builtinsNs mb) (hbb : ∀ x : Str, x ≠ "__name__" → mb x = bootBuiltins x) (nolim : s.heap.NoLimit) (nogen : s.gens = #[])
    (ha : s.heap.get? a = some { cls := .type "list", data := .seq vs.toArray }) (hi : PyProof.Rows.IntsAre vs ns) (hl : ns.length ≤ sizeLine) (room : Room k callerA)
    (F : ∀ base : Heap, K.In base → base.Ns mainGlobals mg → FnG P w K mg base CX0 k fa fd [x] g) (bd : ∀ (s : Shared) (u : Value), BindsTo s fd ⟨[u], []⟩ [(x, u)]) (res : ∃ T, g [.scr ns] [] = .ok (.bl true) T) :
    codeAny (model P w) callerA (.call (.ref fa) ⟨[.ref a], []⟩) (fun r s' => r = .ok (.ret (.bool true)) ∧ OldK s.heap s'.heap ∧ s'.os = s.os ∧ PyProof.Rows.AllBare s'.gens) s := by
  have rv := L2.vals_ints hi
  have hlen := hi.length
  cases hk : K.lookup a with
  | some o =>
    have e := inK a o hk
    rw [ha] at e
    cases e
    exact end_core (H := fun _ => none) inK hns hmb hbb nolim nogen ha room F bd res (.inr ⟨_, vs.toArray, _, hk, rfl, rfl, rfl, by rw [List.size_toArray, hlen]; exact hl, by simpa using rv⟩) (fun b u z => by cases z) (fun b z => absurd rfl z) (fun z => absurd rfl z)
  | none =>
    refine end_core (H := fun b => if b = a then some (.frz { cls := .type "list", data := .seq vs.toArray } (.lst (ns.map V.int))) else none) inK hns hmb hbb nolim nogen ha room F bd res (.inl ⟨{ cls := .type "list", data := .seq vs.toArray }, if_pos rfl⟩) (fun b u z => ?_) (fun b z => ?_) (fun _ => hk)
    · by_cases hb : b = a
      · have z := (if_pos hb).symm.trans z
        cases z
        subst hb
        exact ⟨ha, by rw [List.length_map]; exact hl, vs, _, rv, ha⟩
      · have z := (if_neg hb).symm.trans z
        cases z
    · by_cases hb : b = a
      · exact ⟨hb, _, _, if_pos hb⟩
      · exact absurd (if_neg hb) z
theorem walk_end {l : PySem.W.OpenLaw} {n k : Nat} {q : Program} {loose : List Str} {XP : (Str → Option Value) → Heap → Prop} {YP : World → Heap → Prop} {d : DefRec} {x : Str} (hn : l.most = some n) (hn2 : n ≤ sizeLine) (hdf : d.params.defaults = []) (room : Room k callerA)
    (F : ∀ (w : World) (mg : Str → Option Value) (fa : Addr) (h : Heap), YP w h → h.Ns mainGlobals mg → mg d.name = some (.ref fa) → ∃ (K : PySem.W.Frag) (fd : FuncData) (g : List U → M U), K.In h ∧ (∀ (s : Shared) (u : Value), BindsTo s fd ⟨[u], []⟩ [(x, u)]) ∧
        (∀ ns : List Int, ns.length ≤ n → ∃ T, g [.scr ns] [] = .ok (.bl true) T) ∧ ∀ base : Heap, K.In base → base.Ns mainGlobals mg → FnG l.prog w K mg base CX0 k fa fd [x] g) :
    PySem.W.WalkO q loose XP YP l.row.toRowW d [] (fun f vs => PySem.call f vs) := by
  refine Att.attach_call hn hdf fun w s₀ s₁ mg mb fa o pm cd doc a vs ns G Y ho hd hcd hmg hobj hints hlen hg => ?_
  obtain ⟨K, fd, g, inK, bd, res, hF⟩ := F w mg fa _ Y G.T.g hmg
  exact law_end inK G.T.g G.T.b G.T.builtins G.T.nolimit hg hobj hints (Nat.le_trans hlen hn2) room hF bd (res ns hlen)
end Lf
set_option Elab.async false
set_option linter.all false
set_option maxRecDepth 100000
set_option maxHeartbeats 4000000
namespace Lf
open PySem PySem.Spec L2
/-- the def that the module's name x stands for does what g tells; kw: how it is called by keywords alone -/
structure Dok (P : Program) (w : World) (K : PySem.W.Frag) (mg : Str → Option Value) (base : Heap) (x : Str) (k : Nat) (ps : List Str) (kw : List (List Str × List Nat)) (g : List U → M U) : Prop where
  ex : ∃ f fd, FnG P w K mg base CX0 k f fd ps g ∧ mg x = some (.ref f) ∧ PySem.W.keepIn K (.ref f) = true ∧ Binds K fd ps [] ∧
    ∀ q ∈ kw, ∀ (s : Shared) (ws : List Value), ws.length = q.1.length → BindsTo s fd ⟨[], q.1.zip ws⟩ (ps.zip (pick q.2 ws))
theorem FnG.zero {P : Program} {w : World} {K : PySem.W.Frag} {mg : Str → Option Value} {base : Heap} {C : CXT} {k : Nat} {f : Addr} {fd : FuncData} {ps : List Str} : FnG P w K mg base C k f fd ps (fun _ _ => .no) :=
  ⟨fun _ _ _ _ _ _ _ _ _ _ _ _ _ _ _ _ _ _ _ _ h => False.elim h⟩
theorem Dok.of {P : Program} {w : World} {K : PySem.W.Frag} {mg : Str → Option Value} {base : Heap} {x : Str} {k : Nat} {ps : List Str} {kw : List (List Str × List Nat)} {g : List U → M U} {f : Addr} {fd : FuncData} {name qual : Str} {params : Arguments} {body : List Stmt} {scope : Scope}
    (G : FnG P w K mg base CX0 k f fd ps g) (hm : mg x = some (.ref f)) (D : FunD K name qual params body scope [] [] f fd)
    (hb : ∀ (kV doc pm : Value) (an : Option Addr) (cdv ct : Value) (us : List Value), us.length = ps.length → bindArgs (PySem.W.fnOf name qual params body scope .none kV doc pm an cdv ct) ⟨us, []⟩ = pure (ps.zip us))
    (hk : ∀ q ∈ kw, ∀ (kV doc pm : Value) (an : Option Addr) (cdv ct : Value) (ws : List Value), ws.length = q.1.length → bindArgs (PySem.W.fnOf name qual params body scope .none kV doc pm an cdv ct) ⟨[], q.1.zip ws⟩ = pure (ps.zip (pick q.2 ws))) : Dok P w K mg base x k ps kw g := by
  refine ⟨f, fd, G, hm, D.kp, D.bindsN hb, fun q hq s ws hl => ?_⟩
  obtain ⟨oc, od, dV, kV, doc, pm, an, cdv, ct, osl, rfl, lk, hcd, hD, hK⟩ := D.ex
  rcases hD with ⟨_, rfl⟩ | ⟨e, _⟩
  · exact .of_eq (hk q hq kV doc pm an cdv ct ws hl)
  · exact absurd rfl e
section
variable {X : Cx} {E : XK} {j k : Nat} {ps : List Str} {kw : List (List Str × List Nat)} {g : List U → M U} {x : Str} {p pos : Pos} {e : Expr} {es : List Expr} {Fr : FxA}
theorem fe_def (kd : Kd) (D : Dok X.prog X.w X.K X.mg X.base x j ps kw g) (room : Room k X.A) (hjk : Nat.ble j k = true) (gd : X.A.guards = some []) (hg : Gl X x) (ha : FA X E (e :: es) Fr) {n : Nat} (hn : ps.length = n := by rfl)
    (hdb : (x == ("__debug__" : Str)) = false := by decide) (he : starEach (e :: es) X.env = (false, eval e X.env) :: starEach es X.env := by rfl) (hpl : (backTo pos (starEach es X.env)).any (·.1) = false := by rfl) : FE X E (.Call (.Name x p) (e :: es) [] pos) (fCall (kdG kd n g) Fr) := by
  subst hn
  obtain ⟨f, fd, G, hmm, hk, hb, _⟩ := D.ex
  exact fe_call (C := CX0) kd G (room.mono (Nat.le_of_ble_eq_true hjk)) gd hg hmm hk hb (fun _ _ _ _ _ _ _ h => h.elim) ha hdb he hpl
end
end Lf
set_option Elab.async false
set_option linter.all false
set_option maxRecDepth 100000
set_option maxHeartbeats 4000000
namespace Lf
open PySem PySem.Spec L2
/-- it ends well, and Q holds of what it tells -/
def Wp {α : Type} (r : R α) (Q : α → Sto → Prop) : Prop := ∃ a T, r = .ok a T ∧ Q a T
section
variable {α β : Type}
theorem Wp.ok {a : α} {T : Sto} {Q : α → Sto → Prop} (h : Q a T) : Wp (.ok a T) Q := ⟨a, T, rfl, h⟩
theorem Wp.bind {r : R α} {k : α → M β} {Q : β → Sto → Prop} (h : Wp r fun a T => Wp (k a T) Q) : Wp (r.bind k) Q := by
  obtain ⟨a, T, rfl, h⟩ := h
  exact h
theorem Wp.mono {r : R α} {Q Q' : α → Sto → Prop} (h : Wp r Q) (i : ∀ a T, Q a T → Q' a T) : Wp r Q' := by
  obtain ⟨a, T, e, h⟩ := h
  exact ⟨a, T, e, i _ _ h⟩
theorem Wp.bindE {r : R α} {k : α → M β} {Q' : α → Sto → Prop} {Q : β → Sto → Prop} (h : Wp r Q') (i : ∀ a T, Q' a T → Wp (k a T) Q) : Wp (r.bind k) Q :=
  .bind (h.mono i)
@[simp] theorem wp_ok {a : α} {T : Sto} {Q : α → Sto → Prop} : Wp (.ok a T) Q ↔ Q a T := ⟨fun ⟨_, _, e, h⟩ => by cases e; exact h, fun h => ⟨_, _, rfl, h⟩⟩
@[simp] theorem wp_no {Q : α → Sto → Prop} : Wp (.no : R α) Q ↔ False := ⟨fun ⟨_, _, e, _⟩ => (nomatch e), False.elim⟩
end
/-- then A, but for what leaves -/
def kS (A : Lo → Sto → Prop) (Q : Fl × Lo → Sto → Prop) : Fl × Lo → Sto → Prop
  | (.nx, η), T => A η T
  | p, T => Q p T
def kD (Q : U → Sto → Prop) : Fl × Lo → Sto → Prop
  | (.rt u, _), T => Q u T
  | (.nx, _), T => Q .non T
  | _, _ => False
def kF (A : Lo → Sto → Prop) (Q : Fl × Lo → Sto → Prop) : Fl × Lo → Sto → Prop
  | (.nx, η), T => A η T
  | (.ct, η), T => A η T
  | (.bk, η), T => Q (.nx, η) T
  | (.rt u, η), T => Q (.rt u, η) T
section
variable {A : Lo → Sto → Prop} {Q : Fl × Lo → Sto → Prop} {QU : U → Sto → Prop} {η : Lo} {T : Sto} {u : U}
theorem kS_nx (h : A η T) : kS A Q (.nx, η) T := h
theorem kS_rt (h : Q (.rt u, η) T) : kS A Q (.rt u, η) T := h
theorem kS_bk (h : Q (.bk, η) T) : kS A Q (.bk, η) T := h
theorem kS_ct (h : Q (.ct, η) T) : kS A Q (.ct, η) T := h
theorem kD_rt (h : QU u T) : kD QU (.rt u, η) T := h
theorem kD_nx (h : QU .non T) : kD QU (.nx, η) T := h
theorem kF_nx (h : A η T) : kF A Q (.nx, η) T := h
theorem kF_ct (h : A η T) : kF A Q (.ct, η) T := h
theorem kF_bk (h : Q (.nx, η) T) : kF A Q (.bk, η) T := h
theorem kF_rt (h : Q (.rt u, η) T) : kF A Q (.rt u, η) T := h
theorem v_ifT {X Y : Prop} (h : X) : (true = true → X) ∧ (true = false → Y) := ⟨fun _ => h, fun h => nomatch h⟩
theorem v_ifF {X Y : Prop} (h : Y) : (false = true → X) ∧ (false = false → Y) := ⟨fun h => (nomatch h), fun _ => h⟩
theorem v_ifd {p : Prop} [Decidable p] {X Y : Prop} (h1 : p → X) (h2 : ¬p → Y) : (decide p = true → X) ∧ (decide p = false → Y) := ⟨fun h => h1 (of_decide_eq_true h), fun h => h2 (of_decide_eq_false h)⟩
theorem v_ifdn {p : Prop} [Decidable p] {X Y : Prop} (h1 : p → Y) (h2 : ¬p → X) : ((!decide p) = true → X) ∧ ((!decide p) = false → Y) := ⟨fun h => h2 (by simpa using h), fun h => h1 (by simpa using h)⟩
end
/-- a pure loop over the known items xs, by an invariant of what is left -/
theorem wp_for {G : U → Lo → M Lo} {Fb : FxS} (I : List U → Lo → Sto → Prop) {Q : Fl × Lo → Sto → Prop} {fin : Sto → Bool} (hf : ∀ T, fin T = true)
    (step : ∀ x r η T, I (x :: r) η T → Wp (G x η T) fun η1 T1 => Wp (Fb η1 T1) (kF (I r) Q))
    (hend : ∀ η T, I [] η T → Q (.nx, η) T) : ∀ xs η T, I xs η T → Wp (forN G Fb fin (xs.map fun u _ => some u) η T) Q
  | [], η, T, h => by
    show Wp (if fin T = true then .ok (.nx, η) T else .no) Q
    rw [if_pos (hf T)]
    exact .ok (hend _ _ h)
  | x :: r, η, T, h => by
    show Wp ((G x η T).bind fun η1 T1 => (Fb η1 T1).bind fun p T2 => match p.1 with
      | .nx => forN G Fb fin (r.map fun u _ => some u) p.2 T2
      | .ct => forN G Fb fin (r.map fun u _ => some u) p.2 T2
      | .bk => .ok (.nx, p.2) T2
      | .rt u => .ok (.rt u, p.2) T2) Q
    refine .bindE (step x r η T h) fun η1 T1 h1 => .bindE h1 fun p T2 h2 => ?_
    obtain ⟨f, η2⟩ := p
    cases f with
    | nx => exact wp_for I hf step hend r η2 T2 h2
    | ct => exact wp_for I hf step hend r η2 T2 h2
    | bk => exact .ok h2
    | rt u => exact .ok h2
/-- a comprehension over the known items xs: I tells of what is left and of what is made -/
theorem wp_lc {G : U → Lo → M Lo} {Ft : FxT} {Fe : FxE} {η : Lo} (I : List U → List U → Sto → Prop) {Q : U → Sto → Prop} {fin : Sto → Bool} (hf : ∀ T, fin T = true)
    (step : ∀ x r acc T, I (x :: r) acc T → Wp (G x η T) fun η1 T1 => Wp (Ft η1 T1) fun b T2 => if b = true then Wp (Fe η1 T2) fun y T3 => acc.length < 16777216 ∧ I r (acc ++ [y]) T3 else I r acc T2)
    (hend : ∀ acc T, I [] acc T → Q (.ob T.length) (T ++ [.lst acc])) : ∀ xs acc T, I xs acc T → Wp (lcN G Ft Fe fin η (xs.map fun u _ => some u) acc T) Q
  | [], acc, T, h => by
    show Wp (if fin T = true then nw (.lst acc) T else .no) Q
    rw [if_pos (hf T)]
    exact .ok (hend _ _ h)
  | x :: r, acc, T, h => by
    show Wp ((G x η T).bind fun η1 T1 => (Ft η1 T1).bind fun b T2 => if b = true then (Fe η1 T2).bind fun y T3 => if acc.length < 16777216 then lcN G Ft Fe fin η (r.map fun u _ => some u) (acc ++ [y]) T3 else .no else lcN G Ft Fe fin η (r.map fun u _ => some u) acc T2) Q
    refine .bindE (step x r acc T h) fun η1 T1 h1 => .bindE h1 fun b T2 h2 => ?_
    cases b with
    | true =>
      rw [if_pos rfl] at h2 ⊢
      refine .bindE h2 fun y T3 h3 => ?_
      rw [if_pos h3.1]
      exact wp_lc I hf step hend r _ _ h3.2
    | false =>
      rw [if_neg (by decide)] at h2 ⊢
      exact wp_lc I hf step hend r _ _ h2
theorem gDef_wp {n : Nat} {F : FxS} {us : List U} {T : Sto} {Q : U → Sto → Prop} (h : Wp (F (us.map some ++ List.replicate (n - us.length) none) T) (kD Q)) : Wp (gDef n F us T) Q := by
  refine .bindE h fun p T1 h => ?_
  obtain ⟨f, η⟩ := p
  cases f with
  | nx => exact .ok h
  | rt u => exact .ok h
  | bk => exact h.elim
  | ct => exact h.elim
theorem seq_wp {F G : FxS} {η : Lo} {T : Sto} {Q : Fl × Lo → Sto → Prop} (h : Wp (F η T) (kS (fun η T => Wp (G η T) Q) Q)) : Wp (fSeq F G η T) Q := by
  refine .bindE h fun p T1 h => ?_
  obtain ⟨f, η⟩ := p
  cases f with
  | nx => exact h
  | rt u => exact .ok h
  | bk => exact .ok h
  | ct => exact .ok h
/-- a call of what takes its first object alone -/
theorem urn_wp {n : Nat} {g : List U → M U} {i : Nat} {r : List U} {T : Sto} {o : O} {Q : U → Sto → Prop} (hn : r.length + 1 = n) (hr : nrs r = true) (ht : T[i]? = some o) (ho : nrO o = true)
    (h : Wp (g (.ob 0 :: r) [o]) fun u T' => ∃ o' l, T' = o' :: l ∧ nrO o' = true ∧ nr u = true ∧ Q u (T.set i o')) : Wp (urnG n g (.ob i :: r) T) Q := by
  obtain ⟨u, T', e, o', l, rfl, ho', hu, hq⟩ := h
  refine ⟨u, _, ?_, hq⟩
  simp only [urnG, hn, hr, ht, ho, e, ho', hu, and_self, if_true]
theorem pur_wp {n : Nat} {g : List U → M U} {us : List U} {T : Sto} {Q : U → Sto → Prop} (hn : us.length = n) (hr : nrs us = true)
    (h : Wp (g us []) fun u T' => match u with
      | .ob k => ∃ o, T'[k]? = some o ∧ nrO o = true ∧ Q (.ob T.length) (T ++ [o])
      | u => nr u = true ∧ Q u T) : Wp (pureG n g us T) Q := by
  obtain ⟨u, T', e, hq⟩ := h
  cases u with
  | ob k =>
    obtain ⟨o, e1, e2, e3⟩ := hq
    exact ⟨_, _, by simp only [pureG, hn, hr, e, e1, e2, and_self, if_true], e3⟩
  | _ =>
    obtain ⟨e2, e3⟩ := hq
    refine ⟨_, _, ?_, e3⟩
    simp only [pureG, hn, hr, e, e2, and_self, if_true]
theorem len_wp {n : Nat} {g : List U → M U} {us : List U} {T : Sto} {Q : U → Sto → Prop} (hn : us.length = n) (h : Wp (g us T) Q) : Wp (lenG n g us T) Q := by
  simpa only [lenG, hn, if_true] using h
def Urn (o : O) : Prop := ∃ a b : Int, o = .lst [.int a, .int b] ∧ 0 ≤ b ∧ b < 2305843009213693951
theorem Urn.nr {o : O} (h : Urn o) : nrO o = true := by
  obtain ⟨a, b, rfl, _⟩ := h
  rfl
/-- small enough for the multiplications -/
def Sm (i : Int) : Prop := -100000000000000000000000000000000000000000000000000000000000000000000000000000000000000000000000000000000000000000000000000000000000000000000000000000000000000000000000000000000000000000000000000000000 < i ∧ i < 100000000000000000000000000000000000000000000000000000000000000000000000000000000000000000000000000000000000000000000000000000000000000000000000000000000000000000000000000000000000000000000000000000000
theorem log2_small {i : Int} (h : Sm i) : i.natAbs.log2 < 665 := by
  obtain ⟨h1, h2⟩ := h
  by_cases h0 : i.natAbs = 0
  · rw [h0]; decide
  · rw [Nat.log2_lt h0]
    have : (2 : Nat) ^ 665 = 153090103458041951154620325043801237641319743206933311288544235956760011447392195175450369025277569052617268428910122535686807015741471080782585043071649294869136754165183653769539196448293593632735232 := by decide +kernel
    omega
theorem log2m {i j : Int} (h1 : Sm i) (h2 : Sm j) : i.natAbs.log2 + j.natAbs.log2 < 1000000 := by
  have := log2_small h1
  have := log2_small h2
  omega
theorem log2d {j : Int} (h1 : 0 < j) (h2 : Sm j) : 0 < j ∧ j.natAbs.log2 < 9000 := by
  have := log2_small h2
  exact ⟨h1, by omega⟩
section
variable {η : Lo} {T : Sto} {Fa Fb Fc Fe : FxE} {Ft Ft2 : FxT} {Fr : FxA} {F G : FxS} {g h : U → U → M U} {Q : U → Sto → Prop} {QB : Bool → Sto → Prop} {QA : List U → Sto → Prop} {QS : Fl × Lo → Sto → Prop} {QL : Lo → Sto → Prop}
theorem v_var {i : Nat} {u : U} (e : η[i]? = some (some u)) (q : Q u T) : Wp (fVar i η T) Q := by
  unfold fVar; rw [e]; exact .ok q
theorem v_c {u : U} (q : Q u T) : Wp (fC u η T) Q := .ok q
theorem v_bin (q : Wp (Fa η T) fun u T1 => Wp (Fb η T1) fun v T2 => Wp (g u v T2) Q) : Wp (fBin g Fa Fb η T) Q := .bindE q fun _ _ q => .bind q
theorem v_un {g : U → M U} (q : Wp (Fa η T) fun u T1 => Wp (g u T1) Q) : Wp (fUn g Fa η T) Q := .bind q
theorem v_nil (q : QA [] T) : Wp (fNil η T) QA := .ok q
theorem v_cons (q : Wp (Fa η T) fun u T1 => Wp (Fr η T1) fun us T2 => QA (u :: us) T2) : Wp (fCons Fa Fr η T) QA := .bindE q fun _ _ q => .bindE q fun _ _ q => .ok q
theorem v_call {g : List U → M U} (q : Wp (Fr η T) fun us T1 => Wp (g us T1) Q) : Wp (fCall g Fr η T) Q := .bind q
theorem v_tup (q : Wp (Fr η T) fun us T1 => us.length ≤ 16777216 ∧ Q (.tup us) T1) : Wp (fTup Fr η T) Q := .bindE q fun _ _ q => by rw [if_pos q.1]; exact .ok q.2
theorem v_lst (q : Wp (Fr η T) fun us T1 => us.length ≤ 16777216 ∧ Q (.ob T1.length) (T1 ++ [.lst us])) : Wp (fLst Fr η T) Q := .bindE q fun _ _ q => by rw [if_pos q.1]; exact .ok q.2
theorem v_nw {o : O} (q : Q (.ob T.length) (T ++ [o])) : Wp (nw o T) Q := .ok q
theorem v_ite {α : Type} {b : Bool} {x y : R α} {Q : α → Sto → Prop} (h1 : b = true → Wp x Q) (h2 : b = false → Wp y Q) : Wp (if b = true then x else y) Q := by
  cases b
  · exact h2 rfl
  · exact h1 rfl
theorem v_ifE (q : Wp (Ft η T) fun b T1 => (b = true → Wp (Fa η T1) Q) ∧ (b = false → Wp (Fb η T1) Q)) : Wp (fIfE Ft Fa Fb η T) Q := .bindE q fun _ _ q => v_ite q.1 q.2
theorem v_if (q : Wp (Ft η T) fun b T1 => (b = true → Wp (F η T1) QS) ∧ (b = false → Wp (G η T1) QS)) : Wp (fIf Ft F G η T) QS := .bindE q fun _ _ q => v_ite q.1 q.2
theorem v_tru (q : Wp (Fa η T) fun u T1 => ∃ b, tru T1 u = some b ∧ QB b T1) : Wp (fTru Fa η T) QB := .bindE q fun _ _ ⟨b, e, q⟩ => by rw [e]; exact .ok q
theorem v_bl (q : Wp (Fa η T) fun u T1 => ∃ b, u = .bl b ∧ QB b T1) : Wp (fBl Fa η T) QB := .bindE q fun _ _ ⟨b, e, q⟩ => by subst e; exact .ok q
theorem v_and (q : Wp (Ft η T) fun b T1 => (b = true → Wp (Ft2 η T1) QB) ∧ (b = false → QB false T1)) : Wp (fAnd Ft Ft2 η T) QB := .bindE q fun _ _ q => v_ite q.1 fun e => .ok (q.2 e)
theorem v_or (q : Wp (Ft η T) fun b T1 => (b = true → QB true T1) ∧ (b = false → Wp (Ft2 η T1) QB)) : Wp (fOr Ft Ft2 η T) QB := .bindE q fun _ _ q => v_ite (fun e => .ok (q.1 e)) q.2
theorem v_not (q : Wp (Ft η T) fun b T1 => QB (!b) T1) : Wp (fNot Ft η T) QB := .bindE q fun _ _ q => .ok q
theorem v_andV (q : Wp (Fa η T) fun u T1 => ∃ b, u = .bl b ∧ (b = true → Wp (Fb η T1) Q) ∧ (b = false → Q (.bl false) T1)) : Wp (fAndV Fa Fb η T) Q := .bindE q fun _ _ ⟨b, e, q⟩ => by
  subst e
  cases b
  · exact .ok (q.2 rfl)
  · exact q.1 rfl
theorem v_orV (q : Wp (Fa η T) fun u T1 => ∃ b, u = .bl b ∧ (b = true → Q (.bl true) T1) ∧ (b = false → Wp (Fb η T1) Q)) : Wp (fOrV Fa Fb η T) Q := .bindE q fun _ _ ⟨b, e, q⟩ => by
  subst e
  cases b
  · exact q.2 rfl
  · exact .ok (q.1 rfl)
theorem v_notV (q : Wp (Fa η T) fun u T1 => ∃ b, tru T1 u = some b ∧ Q (.bl (!b)) T1) : Wp (fNotV Fa η T) Q := .bindE q fun _ _ ⟨b, e, q⟩ => by rw [e]; exact .ok q
theorem v_chain (q : Wp (Fa η T) fun u T1 => Wp (Fb η T1) fun v T2 => Wp (g u v T2) fun z T3 => ∃ b, z = .bl b ∧ (b = true → Wp (Fc η T3) fun x T4 => Wp (h v x T4) Q) ∧ (b = false → Q (.bl false) T3)) : Wp (fChain g h Fa Fb Fc η T) Q :=
  .bindE q fun _ _ q => .bindE q fun _ _ q => .bindE q fun _ _ ⟨b, e, q⟩ => by
    subst e
    cases b
    · exact .ok (q.2 rfl)
    · exact .bind (q.1 rfl)
theorem v_skip (q : QS (.nx, η) T) : Wp (fSkip η T) QS := .ok q
theorem v_drop (q : Wp (Fe η T) fun _ T1 => QS (.nx, η) T1) : Wp (fDrop Fe η T) QS := .bindE q fun _ _ q => .ok q
theorem v_ret (q : Wp (Fe η T) fun u T1 => QS (.rt u, η) T1) : Wp (fRet Fe η T) QS := .bindE q fun _ _ q => .ok q
theorem v_retN (q : QS (.rt .non, η) T) : Wp (fRetN η T) QS := .ok q
theorem v_brk (q : QS (.bk, η) T) : Wp (fBrk η T) QS := .ok q
theorem v_cnt (q : QS (.ct, η) T) : Wp (fCnt η T) QS := .ok q
theorem v_set {i : Nat} (q : Wp (Fe η T) fun u T1 => QS (.nx, η.set i (some u)) T1) : Wp (fSet i Fe η T) QS := .bindE q fun _ _ q => .ok q
theorem v_asg {G : U → Lo → M Lo} (q : Wp (Fe η T) fun u T1 => Wp (G u η T1) fun η1 T2 => QS (.nx, η1) T2) : Wp (fAsg Fe G η T) QS := .bindE q fun _ _ q => .bindE q fun _ _ q => .ok q
theorem v_par2 {i j : Nat} (q : Wp (Fr η T) fun us T1 => ∃ u w, us = [u, w] ∧ QS (.nx, (η.set i (some u)).set j (some w)) T1) : Wp (fPar2 i j Fr η T) QS := .bindE q fun _ _ ⟨u, w, e, q⟩ => by subst e; exact .ok q
theorem v_par3 {i j l : Nat} (q : Wp (Fr η T) fun us T1 => ∃ u w z, us = [u, w, z] ∧ QS (.nx, ((η.set i (some u)).set j (some w)).set l (some z)) T1) : Wp (fPar3 i j l Fr η T) QS := .bindE q fun _ _ ⟨u, w, z, e, q⟩ => by subst e; exact .ok q
theorem v_nm {i : Nat} {u : U} (q : QL (η.set i (some u)) T) : Wp (gNm i u η T) QL := .ok q
theorem v_gnil (q : QL η T) : Wp (gNil [] η T) QL := .ok q
theorem v_gcons {G : U → Lo → M Lo} {Gr : List U → Lo → M Lo} {u : U} {r : List U} (q : Wp (G u η T) fun η1 T1 => Wp (Gr r η1 T1) QL) : Wp (gCons G Gr (u :: r) η T) QL := .bind q
theorem v_unp {n : Nat} {Gr : List U → Lo → M Lo} {xs : List U} (e : xs.length = n) (q : Wp (Gr xs η T) QL) : Wp (gUnp n Gr (.tup xs) η T) QL := by
  unfold gUnp; simpa only [e, if_true] using q
theorem v_subT {v : U} (q : Wp (Fa η T) fun o T1 => Wp (Fb η T1) fun i T2 => ∃ T3, gSetIt o i v T2 = some T3 ∧ QL η T3) : Wp (gSubT Fa Fb v η T) QL := .bindE q fun _ _ q => .bindE q fun _ _ ⟨T3, e, q⟩ => by rw [e]; exact .ok q
theorem v_aug {i : Nat} {u : U} (e : η[i]? = some (some u)) (q : Wp (Fe η T) fun w T1 => Wp (g u w T1) fun z T2 => QS (.nx, η.set i (some z)) T2) : Wp (fAug i g Fe η T) QS := by
  unfold fAug; rw [e]
  exact .bindE q fun _ _ q => .bindE q fun _ _ q => .ok q
theorem v_yes (q : QB true T) : Wp (fYes η T) QB := .ok q
theorem v_for {Fi : FxI} {G : U → Lo → M Lo} (q : Wp (Fi η T) fun it T1 => Wp (forN G F it.fin it.its η T1) QS) : Wp (fFor Fi G F η T) QS := .bind q
theorem v_lc {vs : List Nat} {Fi : FxI} {G : U → Lo → M Lo} (q : Wp (Fi η T) fun it T1 => Wp (lcN G Ft Fe it.fin (wipeU η vs) it.its [] T1) Q) : Wp (fLc vs Fi G Ft Fe η T) Q := .bind q
theorem v_rg {Fi : List U → M ItF} {QI : ItF → Sto → Prop} (q : Wp (Fr η T) fun us T1 => Wp (Fi us T1) QI) : Wp (fRg Fi Fr η T) QI := .bind q
theorem v_rg1 {j : Int} {QI : ItF → Sto → Prop} (e : small62 j = true) (q : QI (constI (rgU 0 j.toNat)) T) : Wp (gRg1 [.int j] T) QI := by
  unfold gRg1; simp only [e, if_true]; exact .ok q
theorem v_iter {QI : ItF → Sto → Prop} (q : Wp (Fe η T) fun u T1 => Wp (gIter u T1) QI) : Wp (fIter Fe η T) QI := .bind q
theorem v_iterT {xs : List U} {QI : ItF → Sto → Prop} (q : QI (constI xs) T) : Wp (gIter (.tup xs) T) QI := .ok q
theorem v_iterO {k : Nat} {xs : List U} {QI : ItF → Sto → Prop} (e : T[k]? = some (.lst xs)) (q : QI (objI k xs.length) T) : Wp (gIter (.ob k) T) QI := by
  unfold gIter; simp only [e]; exact .ok q
theorem v_add {i j : Int} (q : Q (.int (i + j)) T) : Wp (gAdd (.int i) (.int j) T) Q := .ok q
theorem v_addS {x y : Str} (e : x.length + y.length ≤ 16777216) (q : Q (.str (x ++ y)) T) : Wp (gAdd (.str x) (.str y) T) Q := by
  unfold gAdd; simp only [e, if_true]; exact .ok q
theorem v_addT {x y : List U} (e : x.length + y.length ≤ 16777216) (q : Q (.tup (x ++ y)) T) : Wp (gAdd (.tup x) (.tup y) T) Q := by
  unfold gAdd; simp only [e, if_true]; exact .ok q
theorem v_sub {i j : Int} (q : Q (.int (i - j)) T) : Wp (gSub (.int i) (.int j) T) Q := .ok q
theorem v_mul {i j : Int} (e : i.natAbs.log2 + j.natAbs.log2 < 1000000) (q : Q (.int (i * j)) T) : Wp (gMul (.int i) (.int j) T) Q := by
  unfold gMul; simp only [e, if_true]; exact .ok q
theorem v_div {i j : Int} (e : 0 < j ∧ j.natAbs.log2 < 9000) (q : Q (.int (i / j)) T) : Wp (gDiv (.int i) (.int j) T) Q := by
  unfold gDiv; simp only [e, if_true]; exact .ok q
theorem v_mod {i j : Int} (e : 0 < j) (q : Q (.int (i % j)) T) : Wp (gMod (.int i) (.int j) T) Q := by
  unfold gMod; simp only [e, if_true]; exact .ok q
theorem v_pow {i j : Int} (e : 0 ≤ j ∧ j ≤ 1000000 ∧ i.natAbs < 18446744073709551616) (q : Q (.int (i ^ j.toNat)) T) : Wp (gPow (.int i) (.int j) T) Q := by
  unfold gPow; simp only [e, and_self, if_true]; exact .ok q
theorem v_neg {i : Int} (q : Q (.int (-i)) T) : Wp (gNeg (.int i) T) Q := .ok q
theorem v_lt {i j : Int} (q : Q (.bl (decide (i < j))) T) : Wp (gLt (.int i) (.int j) T) Q := .ok q
theorem v_le {i j : Int} (q : Q (.bl (decide (i ≤ j))) T) : Wp (gLe (.int i) (.int j) T) Q := .ok q
theorem v_gt {i j : Int} (q : Q (.bl (decide (j < i))) T) : Wp (gGt (.int i) (.int j) T) Q := .ok q
theorem v_ge {i j : Int} (q : Q (.bl (decide (j ≤ i))) T) : Wp (gGe (.int i) (.int j) T) Q := .ok q
theorem v_eqI {i j : Int} (q : Q (.bl (decide (i = j))) T) : Wp (gEq false (.int i) (.int j) T) Q := by
  have e : PyData.eqv (.int i) (.int j) = decide (i = j) := by unfold PyData.eqv; rfl
  unfold gEq gEqD dat
  simp only [SeqAt.shaped, and_self, if_true, e, Bool.false_eq_true, if_false]
  exact .ok q
theorem v_neI {i j : Int} (q : Q (.bl (decide (i ≠ j))) T) : Wp (gEq true (.int i) (.int j) T) Q := by
  have e : PyData.eqv (.int i) (.int j) = decide (i = j) := by unfold PyData.eqv; rfl
  unfold gEq gEqD dat
  simp only [SeqAt.shaped, and_self, if_true, e]
  refine .ok ?_
  rw [show (!decide (i = j)) = decide (i ≠ j) from (decide_not ..).symm]
  exact q
theorem v_len {u : U} {xs : List U} (hu : ∀ z, u ≠ .str z) (e : seqU T u = some xs) (q : Q (.int xs.length) T) : Wp (gLen [u] T) Q := by
  unfold gLen
  cases u with
  | str z => exact absurd rfl (hu z)
  | _ => simp only [e]; exact .ok q
theorem v_lenL {k : Nat} {xs : List U} (e : T[k]? = some (.lst xs)) (q : Q (.int xs.length) T) : Wp (gLen [.ob k] T) Q := v_len (fun _ => U.noConfusion) (by unfold seqU; simp only [e]) q
theorem v_lenT {xs : List U} (q : Q (.int xs.length) T) : Wp (gLen [.tup xs] T) Q := v_len (fun _ => U.noConfusion) rfl q
theorem v_lenN {ns : List Int} (q : Q (.int ns.length) T) : Wp (gLen [.scr ns] T) Q := v_len (fun _ => U.noConfusion) rfl (by rw [List.length_map]; exact q)
theorem v_lenS {z : Str} (e : z.length ≤ 16777216) (q : Q (.int z.length) T) : Wp (gLen [.str z] T) Q := by
  unfold gLen; simp only [e, if_true]; exact .ok q
theorem v_abs {i : Int} (q : Q (.int (if i < 0 then -i else i)) T) : Wp (gAbs [.int i] T) Q := .ok q
theorem v_intI {i : Int} (q : Q (.int i) T) : Wp (gInt [.int i] T) Q := .ok q
theorem v_intB {b : Bool} (q : Q (.int (if b then 1 else 0)) T) : Wp (gInt [.bl b] T) Q := .ok q
theorem v_max2 {i j : Int} (q : Q (.int (if j > i then j else i)) T) : Wp (gMax2 [.int i, .int j] T) Q := .ok q
theorem v_min2 {i j : Int} (q : Q (.int (if j < i then j else i)) T) : Wp (gMin2 [.int i, .int j] T) Q := .ok q
theorem v_ixL {k : Nat} {n : Int} {xs : List U} {u : U} (e : T[k]? = some (.lst xs)) (e2 : atI xs n = some u) (q : Q u T) : Wp (gIx (.ob k) (.int n) T) Q := by
  unfold gIx; simp only [e, e2]; exact .ok q
theorem v_ixT {n : Int} {xs : List U} {u : U} (e2 : atI xs n = some u) (q : Q u T) : Wp (gIx (.tup xs) (.int n) T) Q := by
  unfold gIx; simp only [e2]; exact .ok q
theorem v_ixN {n : Int} {xs : List Int} {u : Int} (e2 : atI xs n = some u) (q : Q (.int u) T) : Wp (gIx (.scr xs) (.int n) T) Q := by
  unfold gIx; simp only [e2]; exact .ok q
theorem v_all {k : Nat} {xs : List U} {bs : List Bool} (e : T[k]? = some (.lst xs)) (e2 : blsU xs = some bs) (q : Q (.bl (bs.all id)) T) : Wp (gAll [.ob k] T) Q := by
  unfold gAll lstU; simp only [e, Option.bind_some, e2]; exact .ok q
theorem v_sum {k : Nat} {xs : List U} {bs : List Int} (e : T[k]? = some (.lst xs)) (e2 : intsU xs = some bs) (q : Q (.int bs.sum) T) : Wp (gSum [.ob k] T) Q := by
  unfold gSum lstU; simp only [e, Option.bind_some, e2]; exact .ok q
theorem v_list {u : U} {xs : List U} (e : seqU T u = some xs) (q : Q (.ob T.length) (T ++ [.lst xs])) : Wp (gList [u] T) Q := by
  unfold gList; simp only [e]; exact .ok q
theorem v_tuple {u : U} {xs : List U} (e : seqU T u = some xs) (q : Q (.tup xs) T) : Wp (gTuple [u] T) Q := by
  unfold gTuple; simp only [e]; exact .ok q
theorem v_meth {is : Sto → U → Bool} {g : U → List U → M U} (q : Wp (Fe η T) fun o T1 => is T1 o = true ∧ Wp (Fr η T1) fun us T2 => Wp (g o us T2) Q) : Wp (fMeth is g Fe Fr η T) Q :=
  .bindE q fun _ _ q => by rw [if_pos q.1]; exact .bind q.2
theorem v_app {k : Nat} {xs : List U} {u : U} (e : T[k]? = some (.lst xs)) (q : xs.length < 16777216 ∧ Q .non (T.set k (.lst (xs ++ [u])))) : Wp (gAppend (.ob k) [u] T) Q := by
  unfold gAppend; simp only [e, q.1, if_true]; exact .ok q.2
end
end Lf
set_option Elab.async false
set_option linter.all false
set_option maxRecDepth 100000
namespace Lf
open PySem PySem.Spec L2
end Lf
set_option Elab.async false
set_option linter.all false
set_option maxRecDepth 100000
set_option maxHeartbeats 4000000
namespace Lf
open PySem PySem.Spec L2
theorem emod_bd {a n : Int} (h : 0 < n) : 0 ≤ a % n ∧ a % n < n := ⟨Int.emod_nonneg _ (by omega), Int.emod_lt_of_pos _ h⟩
theorem Sm.lt {i n : Int} (h0 : 0 ≤ i) (h1 : i < n) (h : Sm n) : Sm i := ⟨by have := h.1; omega, by have := h.2; omega⟩
local macro_rules | `(tactic| rfl') => `(tactic| repeat (first | with_reducible refine Lf.kS_nx ?_ | with_reducible refine Lf.kS_rt ?_ | with_reducible refine Lf.kS_bk ?_ | with_reducible refine Lf.kS_ct ?_ | with_reducible refine Lf.kD_rt ?_ | with_reducible refine Lf.kD_nx ?_ | with_reducible refine Lf.kF_nx ?_ | with_reducible refine Lf.kF_ct ?_ | with_reducible refine Lf.kF_bk ?_ | with_reducible refine Lf.kF_rt ?_ | with_reducible refine Lf.v_ifT ?_ | with_reducible refine Lf.v_ifF ?_ | with_reducible refine Lf.v_ifNT ?_ | with_reducible refine Lf.v_ifNF ?_ | with_reducible refine Lf.kP_int ?_ | with_reducible refine Lf.kP_bl ?_ | with_reducible refine Lf.kP_str ?_ | with_reducible refine Lf.kP_non ?_ | with_reducible refine Lf.v_iadd ?_ | with_reducible refine Lf.Wp.ok ?_ | with_reducible refine Lf.seq_wp ?_ | with_reducible refine Lf.v_bin ?_ | with_reducible refine Lf.v_cons ?_ | with_reducible refine Lf.v_call ?_ | with_reducible refine Lf.v_ret ?_ | with_reducible refine Lf.v_set ?_ | with_reducible refine Lf.v_asg ?_ | with_reducible refine Lf.v_if ?_ | with_reducible refine Lf.v_ifE ?_ | with_reducible refine Lf.v_bl ?_ | with_reducible refine Lf.v_tru ?_ | with_reducible refine Lf.v_and ?_ | with_reducible refine Lf.v_or ?_ | with_reducible refine Lf.v_not ?_ | with_reducible refine Lf.v_andV ?_ | with_reducible refine Lf.v_orV ?_ | with_reducible refine Lf.v_notV ?_ | with_reducible refine Lf.v_c ?_ | with_reducible refine Lf.v_nil ?_ | with_reducible refine Lf.v_skip ?_ | with_reducible refine Lf.v_drop ?_ | with_reducible refine Lf.v_retN ?_ | with_reducible refine Lf.v_brk ?_ | with_reducible refine Lf.v_cnt ?_ | with_reducible refine Lf.v_nm ?_ | with_reducible refine Lf.v_gnil ?_ | with_reducible refine Lf.v_gcons ?_ | with_reducible refine Lf.v_yes ?_ | with_reducible refine Lf.v_for ?_ | with_reducible refine Lf.v_lc ?_ | with_reducible refine Lf.v_rg ?_ | with_reducible refine Lf.v_iter ?_ | with_reducible refine Lf.v_iterT ?_ | with_reducible refine Lf.v_add ?_ | with_reducible refine Lf.v_sub ?_ | with_reducible refine Lf.v_neg ?_ | with_reducible refine Lf.v_lt ?_ | with_reducible refine Lf.v_le ?_ | with_reducible refine Lf.v_gt ?_ | with_reducible refine Lf.v_ge ?_ | with_reducible refine Lf.v_eqI ?_ | with_reducible refine Lf.v_neI ?_ | with_reducible refine Lf.v_abs ?_ | with_reducible refine Lf.v_intI ?_ | with_reducible refine Lf.v_intB ?_ | with_reducible refine Lf.v_max2 ?_ | with_reducible refine Lf.v_min2 ?_ | with_reducible refine Lf.v_lenT ?_ | with_reducible refine Lf.v_lenN ?_ | with_reducible refine Lf.v_nw ?_ | with_reducible refine Lf.v_un ?_ | with_reducible refine Lf.v_tup ?_ | with_reducible refine Lf.v_lst ?_ | with_reducible refine Lf.v_par2 ?_ | with_reducible refine Lf.v_par3 ?_ | with_reducible refine Lf.v_chain ?_ | with_reducible refine Lf.v_meth ?_ | with_reducible refine Lf.v_subT ?_ | with_reducible refine Lf.v_isiIB ?_ | with_reducible refine Lf.v_isiII ?_ | with_reducible refine Lf.v_sl ?_ | with_reducible refine Lf.v_noP ?_ | with_reducible refine Lf.v_pt ?_ | with_reducible refine Lf.v_cutT ?_ | ((with_reducible apply Lf.v_var); exact rfl) | ((with_reducible refine Lf.v_kw ?_ ?_); exact rfl) | ((with_reducible apply Lf.v_iterO); first | exact rfl | assumption) | ((with_reducible apply Lf.v_lenL); first | exact rfl | assumption) | ((with_reducible refine Lf.v_unp ?_ ?_); exact rfl) | ((with_reducible apply Lf.v_aug); exact rfl) | ((with_reducible refine Lf.v_mod ?_ ?_); first | decide | omega | assumption | fail) | ((with_reducible refine Lf.v_div ?_ ?_); first | exact ⟨by decide, by decide +kernel⟩ | assumption | exact Lf.log2d (by omega) ⟨by omega, by omega⟩ | fail) | ((with_reducible refine Lf.v_mul ?_ ?_); first | exact Lf.log2m ⟨by omega, by omega⟩ ⟨by omega, by omega⟩ | exact Lf.log2m (by assumption) ⟨by omega, by omega⟩ | exact Lf.log2m ⟨by omega, by omega⟩ (by assumption) | fail) | ((with_reducible refine Lf.v_pow ?_ ?_); exact ⟨by decide, by decide, by decide⟩) | ((with_reducible refine Lf.v_rg1 ?_ ?_); first | decide | fail) | ((with_reducible apply Lf.v_ixL); (first | exact rfl | assumption | fail); (first | exact rfl | assumption | fail)) | ((with_reducible apply Lf.v_ixT); (first | exact rfl | assumption | fail)) | ((with_reducible apply Lf.v_ixN); (first | exact rfl | assumption | fail)) | with_reducible refine ⟨_, rfl, ?_⟩ | (refine ⟨_, (rfl : Lf.tru _ (Lf.U.bl _) = some _), ?_⟩) | with_reducible refine ⟨_, _, rfl, ?_⟩ | with_reducible refine ⟨_, _, _, rfl, ?_⟩ | (refine ⟨(Nat.le_of_ble_eq_true rfl : List.length _ ≤ 16777216), ?_⟩) | with_reducible refine Lf.v_enum ?_ | fail))
theorem atI_mem {α : Type} {xs : List α} {n : Int} (h0 : 0 ≤ n) (h1 : n < xs.length) : ∃ u, atI xs n = some u ∧ u ∈ xs := by
  have h : n.toNat < xs.length := by omega
  refine ⟨xs[n.toNat], ?_, List.getElem_mem h⟩
  unfold atI ixN
  simp only [h0, h1, if_true, Option.bind_some, List.getElem?_eq_getElem h]
end Lf
set_option Elab.async false
set_option linter.all false
set_option maxRecDepth 100000
set_option maxHeartbeats 4000000
namespace Lf
open PySem PySem.Spec L2
theorem wp_forC {G : U → Lo → M Lo} {Fb : FxS} {xs : List U} (I : List U → Lo → Sto → Prop) {Q : Fl × Lo → Sto → Prop} {η : Lo} {T : Sto} (h0 : I xs η T)
    (step : ∀ x r η T, I (x :: r) η T → Wp (G x η T) fun η1 T1 => Wp (Fb η1 T1) (kF (I r) Q))
    (hend : ∀ η T, I [] η T → Q (.nx, η) T) : Wp (forN G Fb (constI xs).fin (constI xs).its η T) Q :=
  wp_for I (fun _ => rfl) step hend xs η T h0
theorem wp_lcC {G : U → Lo → M Lo} {Ft : FxT} {Fe : FxE} {η : Lo} {xs : List U} (I : List U → List U → Sto → Prop) {Q : U → Sto → Prop} {T : Sto} (h0 : I xs [] T)
    (step : ∀ x r acc T, I (x :: r) acc T → Wp (G x η T) fun η1 T1 => Wp (Ft η1 T1) fun b T2 => (b = true → Wp (Fe η1 T2) fun y T3 => acc.length < 16777216 ∧ I r (acc ++ [y]) T3) ∧ (b = false → I r acc T2))
    (hend : ∀ acc T, I [] acc T → Q (.ob T.length) (T ++ [.lst acc])) : Wp (lcN G Ft Fe (constI xs).fin η (constI xs).its [] T) Q :=
  wp_lc I (fun _ => rfl) (fun x r acc T h => (step x r acc T h).mono fun η1 T1 h => h.mono fun b T2 h => by
    cases b
    · exact h.2 rfl
    · exact h.1 rfl) hend xs [] T h0
theorem small62_of {i : Int} (h1 : -1000000000000 < i) (h2 : i < 1000000000000) : small62 i = true := by
  unfold small62
  rw [decide_eq_true (by omega), decide_eq_true (by omega)]
  rfl
theorem rgU_len {lo : Int} {n : Nat} : (rgU lo n).length = n := by
  unfold rgU
  rw [List.length_map, List.length_range]
theorem v_isiIB {i : Int} {T : Sto} {Q : U → Sto → Prop} (q : Q (.bl false) T) : Wp (gIsi [.int i, .raw (.ty "bool")] T) Q := .ok q
theorem v_isiII {i : Int} {T : Sto} {Q : U → Sto → Prop} (q : Q (.bl true) T) : Wp (gIsi [.int i, .raw (.ty "int")] T) Q := .ok q
theorem v_kw {kd : Kd} {n m : Nat} {ix : List Nat} {g : List U → M U} {us : List U} {T : Sto} {Q : U → Sto → Prop} (hl : us.length = m) (q : Wp (kdG kd n g (pick ix us) T) Q) : Wp (kwG kd n m ix g us T) Q := by
  simpa only [kwG, hl, if_true] using q
theorem v_ifNT {X Y : Prop} (h : Y) : ((!true) = true → X) ∧ ((!true) = false → Y) := ⟨fun h => (nomatch h), fun _ => h⟩
theorem v_ifNF {X Y : Prop} (h : X) : ((!false) = true → X) ∧ ((!false) = false → Y) := ⟨fun _ => h, fun h => (nomatch h)⟩
/-- a test whose answer is known -/
theorem v_yesd {p : Prop} [Decidable p] {X Y : Prop} (hp : p) (h : X) : (decide p = true → X) ∧ (decide p = false → Y) := v_ifd (fun _ => h) (fun z => absurd hp z)
theorem v_nod {p : Prop} [Decidable p] {X Y : Prop} (hp : ¬p) (h : Y) : (decide p = true → X) ∧ (decide p = false → Y) := v_ifd (fun z => absurd z hp) (fun _ => h)
theorem v_yesn {p : Prop} [Decidable p] {X Y : Prop} (hp : p) (h : Y) : ((!decide p) = true → X) ∧ ((!decide p) = false → Y) := v_ifdn (fun _ => h) (fun z => absurd hp z)
theorem v_non {p : Prop} [Decidable p] {X Y : Prop} (hp : ¬p) (h : X) : ((!decide p) = true → X) ∧ ((!decide p) = false → Y) := v_ifdn (fun z => absurd z hp) (fun _ => h)
end Lf
set_option Elab.async false
set_option linter.all false
set_option maxRecDepth 100000
set_option maxHeartbeats 4000000
namespace Lf
open PySem PySem.Spec L2
def fV : U → Option V
  | .non => some .non
  | .bl b => some (.bl b)
  | .int i => some (.int i)
  | .str x => some (.str x)
  | _ => none
def fVs : List U → Option (List V)
  | [] => some []
  | u :: us => match fV u, fVs us with
    | some v, some vs => some (v :: vs)
    | _, _ => none
def gIn (neg : Bool) : U → U → M U := fun x y T => match fV x, (seqU T y).bind fVs with
  | some a, some bs => .ok (.bl (if neg then !inV a bs else inV a bs)) T
  | _, _ => .no
def gRepr : List U → M U := fun us T => match us with
  | [.int i] => if i.natAbs.log2 < 1920 then .ok (.str (toString i)) T else .no
  | [.bl b] => .ok (.str (if b then "True" else "False")) T
  | [.non] => .ok (.str "None") T
  | [.str x] => if (reprText x).length ≤ 16777216 then .ok (.str (reprText x)) T else .no
  | [.tup xs] => match dat T 66 (.tup xs) with
    | some d => if d.showable = true ∧ SeqAt.shaped d = true ∧ d.shown.length ≤ 16777216 then .ok (.str d.shown) T else .no
    | none => .no
  | [.ob k] => match dat T 66 (.ob k) with
    | some d => if d.showable = true ∧ SeqAt.shaped d = true ∧ d.shown.length ≤ 16777216 then .ok (.str d.shown) T else .no
    | none => .no
  | _ => .no
def fNo {α : Type} : Lo → M α := fun _ _ => .no
section
variable {X : Cx} {E : XK}
theorem fV_ok {K : PySem.W.Frag} {ρ : List Addr} {H : Hp} {u : U} {v w : V} (r : RV K ρ H u v) (e : fV u = some w) : v = w ∧ flatV w = true := by
  cases r <;> first | (cases e; exact ⟨rfl, rfl⟩) | cases e
theorem fVs_ok {K : PySem.W.Frag} {ρ : List Addr} {H : Hp} : ∀ {us : List U} {vs ws : List V}, RVs K ρ H us vs → fVs us = some ws → vs = ws ∧ ws.all flatV = true
  | _, _, _, .nil, e => by cases e; exact ⟨rfl, rfl⟩
  | u :: us, _, ws, .cons r rs, e => by
    unfold fVs at e
    split at e
    · rename_i w ws' e1 e2
      cases e
      obtain ⟨rfl, h1⟩ := fV_ok r e1
      obtain ⟨rfl, h2⟩ := fVs_ok rs e2
      exact ⟨rfl, by rw [List.all_cons, h1, h2]; rfl⟩
    · cases e
theorem gIn_ok {ρ : List Addr} {H : Hp} {T : Sto} {u w : U} {x y : V} {Q : V → Hp → Prop} {neg : Bool} (s : RS X.K ρ H T) (ru : RV X.K ρ H u x) (rw_ : RV X.K ρ H w y) (h : OK X.K ρ H E (rV X.K) (gIn neg u w T) Q) : rIn X.K neg x y H Q := by
  unfold gIn at h
  split at h
  · rename_i a bs e1 e2
    obtain ⟨xs, e3, e4⟩ := Option.bind_eq_some_iff.mp e2
    obtain ⟨p, vs, rfl, hq, rs, _⟩ := seqU_ok s rw_ e3
    obtain ⟨rfl, h1⟩ := fV_ok ru e1
    obtain ⟨rfl, h2⟩ := fVs_ok rs e4
    exact ⟨p, _, rfl, hq, h1, h2, okV s h (.bl _)⟩
  · exact False.elim h
theorem fop_in : FOp X E (compareOp .In) (gIn false) := ⟨_, op_in_seq, fun ρ H T u w x y Q s ru rw h => gIn_ok s ru rw h⟩
theorem u66 {k : Nat} {A : Around} (r : Room k A) : A.units + 66 < cLine := by have := r.un; omega
def rRepr (K : PySem.W.Frag) : List V → Hp → VK → Prop := fun xs H Q =>
  (∃ i, xs = [.int i] ∧ i.natAbs.log2 < 1920 ∧ Q (.str (toString i)) H) ∨ (∃ b, xs = [.bl b] ∧ Q (.str (if b then "True" else "False")) H) ∨ (xs = [.non] ∧ Q (.str "None") H) ∨
  (∃ x, xs = [.str x] ∧ (reprText x).length ≤ sizeLine ∧ Q (.str (reprText x)) H) ∨
  (∃ a d, xs = [.ref a] ∧ Dp K H (.ref a) d ∧ d.showable = true ∧ SeqAt.shaped d = true ∧ d.shown.length ≤ sizeLine ∧ Q (.str d.shown) H)
theorem shaped_at {d : PyData} (h : SeqAt.shaped d = true) : d.canLay0 = true ∧ d.depth ≤ 64 := by
  have h : (d.canLay0 && decide (d.depth ≤ 64)) = true := h
  rw [Bool.and_eq_true, decide_eq_true_eq] at h
  exact h
theorem call_reprA (gd : X.A.guards = some []) (hu : X.A.units + 66 < cLine) : CallR X (.builtin "repr") (rRepr X.K) := by
  intro pins s σ H xs us Q I r h
  rcases h with ⟨i, rfl, hz, q⟩ | ⟨b, rfl, q⟩ | ⟨rfl, q⟩ | ⟨x, rfl, hz, q⟩ | ⟨a, d, rfl, hd, h1, h2, h3, q⟩
  · obtain ⟨u, rfl, t, rfl⟩ := vals1 r
    exact PySem.P.repr_of_int hz ⟨.str _, H, I.tok _, ⟨_, rfl⟩, q⟩
  · obtain ⟨u, rfl, rfl⟩ := vals1 r
    exact PySem.P.repr_of_bool ⟨.str _, H, I.tok _, ⟨_, rfl⟩, q⟩
  · obtain ⟨u, rfl, rfl⟩ := vals1 r
    exact PySem.P.repr_of_none ⟨.str _, H, I.tok _, ⟨_, rfl⟩, q⟩
  · obtain ⟨u, rfl, t, rfl⟩ := vals1 r
    exact PySem.P.repr_of_str ⟨.str _, H, I.tok _, ⟨_, rfl⟩, q⟩ hz
  · obtain ⟨u, rfl, rfl⟩ := vals1 r
    obtain ⟨as, rd⟩ := Dp.reads I d _ _ hd rfl
    have h4 := shaped_at h2
    exact PySem.repr_of_reads' rd h1 (PyData.noDict_hsm (PyData.hasDict_of_canLay d h4.1)) gd (by omega) (fun b o e => e) (fun h' u tk hk => ⟨.str _, H, I.kept hk, ⟨_, rfl⟩, q⟩) h3
theorem fcl_repr (gd : X.A.guards = some []) (hu : X.A.units + 66 < cLine) : FCall X E (.builtin "repr") gRepr := by
  refine ⟨_, call_reprA gd hu, fun ρ H T us xs Q s r h => ?_⟩
  have sz : sizeLine = 16777216 := sizeLine_eq
  unfold gRepr at h
  split at h
  · split at h
    · rename_i i hi
      match r with
      | .cons (.int _) .nil => exact .inl ⟨i, rfl, hi, okV s h (.str _)⟩
    · exact False.elim h
  · match r with
    | .cons (.bl b) .nil => exact .inr (.inl ⟨b, rfl, okV s h (.str _)⟩)
  · match r with
    | .cons .non .nil => exact .inr (.inr (.inl ⟨rfl, okV s h (.str _)⟩))
  · split at h
    · rename_i x hx
      match r with
      | .cons (.str _) .nil => exact .inr (.inr (.inr (.inl ⟨x, rfl, by rw [sz]; exact hx, okV s h (.str _)⟩)))
    · exact False.elim h
  · split at h
    · rename_i ys d e
      split at h
      · rename_i hd
        match r with
        | .cons r .nil =>
          have dp := dat_ok s _ _ _ _ r e
          cases r with
          | tup _ _ => exact .inr (.inr (.inr (.inr ⟨_, d, rfl, dp, hd.1, hd.2.1, by rw [sz]; exact hd.2.2, okV s h (.str _)⟩)))
      · exact False.elim h
    · exact False.elim h
  · split at h
    · rename_i k d e
      split at h
      · rename_i hd
        match r with
        | .cons r .nil =>
          have dp := dat_ok s _ _ _ _ r e
          cases r with
          | ob _ => exact .inr (.inr (.inr (.inr ⟨_, d, rfl, dp, hd.1, hd.2.1, by rw [sz]; exact hd.2.2, okV s h (.str _)⟩)))
      · exact False.elim h
    · exact False.elim h
  · exact False.elim h
theorem fs_no {st : Stmt} : FS X E st fNo := ⟨fun _ _ _ => False, ⟨fun _ _ _ _ _ _ h => h.elim⟩, fun _ _ _ _ _ _ _ _ h => h.elim⟩
end
end Lf
set_option Elab.async false
set_option linter.all false
set_option maxRecDepth 100000
set_option maxHeartbeats 4000000
namespace Lf
open PySem PySem.Spec L2
section
variable {T : Sto} {Q : U → Sto → Prop}
theorem v_yesb {c : Bool} {X Y : Prop} (h : c = true) (q : X) : (c = true → X) ∧ (c = false → Y) := by subst h; exact v_ifT q
theorem v_nob {c : Bool} {X Y : Prop} (h : c = false) (q : Y) : (c = true → X) ∧ (c = false → Y) := by subst h; exact v_ifF q
theorem eqv_str (x y : Str) : PyData.eqv (.str x) (.str y) = decide (x = y) := by unfold PyData.eqv; rfl
theorem v_eqS {x y : Str} (hx : PyData.strOk x = true) (hy : PyData.strOk y = true) (q : Q (.bl (decide (x = y))) T) : Wp (gEq false (.str x) (.str y) T) Q := .ok q
theorem v_neT {x y : Str} (q : Q (.bl (decide (x ≠ y))) T) : Wp (gEq true (.str x) (.str y) T) Q := by
  refine .ok ?_
  rw [show (if true = true then !decide (x = y) else decide (x = y)) = decide (x ≠ y) from (decide_not ..).symm]
  exact q
theorem v_in2 {x a b : Str} (q : Q (.bl (inV (.str x) [.str a, .str b])) T) : Wp (gIn false (.str x) (.tup [.str a, .str b]) T) Q := .ok q
end
/-- T' is T but for the urn at i, and more objects -/
structure Ext (i : Nat) (T T' : Sto) : Prop where
  urn : ∃ o, T'[i]? = some o ∧ Urn o
  kp : ∀ j, j ≠ i → j < T.length → T'[j]? = T[j]?
  le : T.length ≤ T'.length
theorem Ext.refl {i : Nat} {T : Sto} {o : O} (h : T[i]? = some o) (u : Urn o) : Ext i T T := ⟨⟨o, h, u⟩, fun _ _ _ => rfl, Nat.le_refl _⟩
theorem Ext.trans {i : Nat} {T T1 T2 : Sto} (a : Ext i T T1) (b : Ext i T1 T2) : Ext i T T2 := ⟨b.urn, fun j h1 h2 => (b.kp j h1 (Nat.lt_of_lt_of_le h2 a.le)).trans (a.kp j h1 h2), Nat.le_trans a.le b.le⟩
theorem Ext.set {i : Nat} {T : Sto} {o : O} (h : i < T.length) (u : Urn o) : Ext i T (T.set i o) := ⟨⟨o, List.getElem?_set_self h, u⟩, fun j h1 h2 => List.getElem?_set_ne (Ne.symm h1), by rw [List.length_set]; exact Nat.le_refl _⟩
theorem Ext.add {i : Nat} {T : Sto} {o o' : O} (h : T[i]? = some o) (u : Urn o) : Ext i T (T ++ [o']) := ⟨⟨o, by rw [List.getElem?_append_left (List.getElem?_eq_some_iff.mp h).1]; exact h, u⟩, fun j h1 h2 => List.getElem?_append_left h2, by rw [List.length_append]; exact Nat.le_add_right _ _⟩
theorem Ext.at_ {i j : Nat} {T T' : Sto} {o : O} (a : Ext i T T') (h : T[j]? = some o) (hj : j ≠ i) : T'[j]? = some o := (a.kp j hj (List.getElem?_eq_some_iff.mp h).1).trans h
theorem lt_at {i : Nat} {T : Sto} {o : O} (h : T[i]? = some o) : i < T.length := (List.getElem?_eq_some_iff.mp h).1
def OpOk (p n : Int) (ws : List Str) (x : U) : Prop :=
  (∃ w a c, x = .tup [.str w, .int a, .int c] ∧ (w = "set" ∨ w = "scale") ∧ 0 ≤ a ∧ a < n ∧ 0 ≤ c ∧ c < p ∧ (w ∈ ws ∨ (w = "set" ∧ n = 1))) ∨
  (∃ w a, x = .tup [.str w, .int a] ∧ (w = "read" ∨ w = "write") ∧ 0 ≤ a ∧ a < n ∧ w ∈ ws) ∨
  (∃ a b c, x = .tup [.str "add", .int a, .int b, .int c] ∧ 0 ≤ a ∧ a < n ∧ 0 ≤ b ∧ b < n ∧ a ≠ b ∧ 1 ≤ c ∧ c < p ∧ Str.ofString "add" ∈ ws) ∨
  (∃ w a b, x = .tup [.str w, .int a, .int b] ∧ (w = "copy" ∨ w = "swap") ∧ 0 ≤ a ∧ a < n ∧ 0 ≤ b ∧ b < n ∧ a ≠ b ∧ w ∈ ws)
def words7 : List Str := ["set", "scale", "read", "write", "add", "copy", "swap"]
theorem words7_ok : ∀ w ∈ words7, PyData.strOk w = true := by decide +kernel
local macro_rules | `(tactic| rfl') => `(tactic| repeat (first | with_reducible refine Lf.kS_nx ?_ | with_reducible refine Lf.kS_rt ?_ | with_reducible refine Lf.kS_bk ?_ | with_reducible refine Lf.kS_ct ?_ | with_reducible refine Lf.kD_rt ?_ | with_reducible refine Lf.kD_nx ?_ | with_reducible refine Lf.kF_nx ?_ | with_reducible refine Lf.kF_ct ?_ | with_reducible refine Lf.kF_bk ?_ | with_reducible refine Lf.kF_rt ?_ | with_reducible refine Lf.v_ifT ?_ | with_reducible refine Lf.v_ifF ?_ | with_reducible refine Lf.v_ifNT ?_ | with_reducible refine Lf.v_ifNF ?_ | with_reducible refine Lf.kP_int ?_ | with_reducible refine Lf.kP_bl ?_ | with_reducible refine Lf.kP_str ?_ | with_reducible refine Lf.kP_non ?_ | with_reducible refine Lf.v_iadd ?_ | with_reducible refine Lf.Wp.ok ?_ | with_reducible refine Lf.seq_wp ?_ | with_reducible refine Lf.v_bin ?_ | with_reducible refine Lf.v_cons ?_ | with_reducible refine Lf.v_call ?_ | with_reducible refine Lf.v_ret ?_ | with_reducible refine Lf.v_set ?_ | with_reducible refine Lf.v_asg ?_ | with_reducible refine Lf.v_if ?_ | with_reducible refine Lf.v_ifE ?_ | with_reducible refine Lf.v_bl ?_ | with_reducible refine Lf.v_tru ?_ | with_reducible refine Lf.v_and ?_ | with_reducible refine Lf.v_or ?_ | with_reducible refine Lf.v_not ?_ | with_reducible refine Lf.v_andV ?_ | with_reducible refine Lf.v_orV ?_ | with_reducible refine Lf.v_notV ?_ | with_reducible refine Lf.v_c ?_ | with_reducible refine Lf.v_nil ?_ | with_reducible refine Lf.v_skip ?_ | with_reducible refine Lf.v_drop ?_ | with_reducible refine Lf.v_retN ?_ | with_reducible refine Lf.v_brk ?_ | with_reducible refine Lf.v_cnt ?_ | with_reducible refine Lf.v_nm ?_ | with_reducible refine Lf.v_gnil ?_ | with_reducible refine Lf.v_gcons ?_ | with_reducible refine Lf.v_yes ?_ | with_reducible refine Lf.v_for ?_ | with_reducible refine Lf.v_lc ?_ | with_reducible refine Lf.v_rg ?_ | with_reducible refine Lf.v_iter ?_ | with_reducible refine Lf.v_iterT ?_ | with_reducible refine Lf.v_add ?_ | with_reducible refine Lf.v_sub ?_ | with_reducible refine Lf.v_neg ?_ | with_reducible refine Lf.v_lt ?_ | with_reducible refine Lf.v_le ?_ | with_reducible refine Lf.v_gt ?_ | with_reducible refine Lf.v_ge ?_ | with_reducible refine Lf.v_eqI ?_ | with_reducible refine Lf.v_neI ?_ | with_reducible refine Lf.v_abs ?_ | with_reducible refine Lf.v_intI ?_ | with_reducible refine Lf.v_intB ?_ | with_reducible refine Lf.v_max2 ?_ | with_reducible refine Lf.v_min2 ?_ | with_reducible refine Lf.v_lenT ?_ | with_reducible refine Lf.v_lenN ?_ | with_reducible refine Lf.v_nw ?_ | with_reducible refine Lf.v_un ?_ | with_reducible refine Lf.v_tup ?_ | with_reducible refine Lf.v_lst ?_ | with_reducible refine Lf.v_par2 ?_ | with_reducible refine Lf.v_par3 ?_ | with_reducible refine Lf.v_chain ?_ | with_reducible refine Lf.v_meth ?_ | with_reducible refine Lf.v_subT ?_ | with_reducible refine Lf.v_isiIB ?_ | with_reducible refine Lf.v_isiII ?_ | with_reducible refine Lf.v_sl ?_ | with_reducible refine Lf.v_noP ?_ | with_reducible refine Lf.v_pt ?_ | with_reducible refine Lf.v_cutT ?_ | ((with_reducible apply Lf.v_var); exact rfl) | ((with_reducible refine Lf.v_kw ?_ ?_); exact rfl) | ((with_reducible apply Lf.v_iterO); first | exact rfl | assumption) | ((with_reducible apply Lf.v_lenL); first | exact rfl | assumption) | ((with_reducible refine Lf.v_unp ?_ ?_); exact rfl) | ((with_reducible apply Lf.v_aug); exact rfl) | ((with_reducible refine Lf.v_mod ?_ ?_); first | decide | omega | assumption | fail) | ((with_reducible refine Lf.v_div ?_ ?_); first | exact ⟨by decide, by decide +kernel⟩ | assumption | exact Lf.log2d (by omega) ⟨by omega, by omega⟩ | fail) | ((with_reducible refine Lf.v_mul ?_ ?_); first | exact Lf.log2m ⟨by omega, by omega⟩ ⟨by omega, by omega⟩ | exact Lf.log2m (by assumption) ⟨by omega, by omega⟩ | exact Lf.log2m ⟨by omega, by omega⟩ (by assumption) | fail) | ((with_reducible refine Lf.v_pow ?_ ?_); exact ⟨by decide, by decide, by decide⟩) | ((with_reducible refine Lf.v_rg1 ?_ ?_); first | decide | fail) | ((with_reducible apply Lf.v_ixL); (first | exact rfl | assumption | fail); (first | exact rfl | assumption | fail)) | ((with_reducible apply Lf.v_ixT); (first | exact rfl | assumption | fail)) | ((with_reducible apply Lf.v_ixN); (first | exact rfl | assumption | fail)) | with_reducible refine ⟨_, rfl, ?_⟩ | (refine ⟨_, (rfl : Lf.tru _ (Lf.U.bl _) = some _), ?_⟩) | with_reducible refine ⟨_, _, rfl, ?_⟩ | with_reducible refine ⟨_, _, _, rfl, ?_⟩ | (refine ⟨(Nat.le_of_ble_eq_true rfl : List.length _ ≤ 16777216), ?_⟩) | with_reducible refine Lf.v_enum ?_ | fail))
def lpU (k : Int) (b : List U) : U := .tup [.str "loop", .int k, .tup b]
/-- the programs of at most l items a level (half as many below), d levels of loops -/
def Pr (A : U → Prop) (R : Int → Prop) : Nat → Int → List U → Prop
  | 0, l, xs => (xs.length : Int) ≤ l ∧ ∀ x ∈ xs, A x
  | d + 1, l, xs => (xs.length : Int) ≤ l ∧ ∀ x ∈ xs, A x ∨ ∃ k b, x = lpU k b ∧ R k ∧ Pr A R d (l / 2) b
theorem Pr.len {A : U → Prop} {R : Int → Prop} : ∀ {d : Nat} {l : Int} {xs : List U}, Pr A R d l xs → (xs.length : Int) ≤ l
  | 0, _, _, h => h.1
  | _ + 1, _, _, h => h.1
theorem Ext.app {i : Nat} {T T1 : Sto} {f : List U} (e : Ext i T T1) (hi : i < T.length) (xs : List U) : Ext i T (T1.set T.length (.lst xs)) := by
  obtain ⟨o, h, u⟩ := e.urn
  exact ⟨⟨o, by rw [List.getElem?_set_ne (Nat.ne_of_gt hi)]; exact h, u⟩, fun j h1 h2 => by rw [List.getElem?_set_ne (Nat.ne_of_gt h2)]; exact e.kp j h1 h2, by rw [List.length_set]; exact e.le⟩
end Lf
set_option Elab.async false
set_option linter.all false
set_option maxRecDepth 100000
set_option maxHeartbeats 4000000
namespace Lf
open PySem PySem.Spec L2
def lpOf : U → Option (Int × List U)
  | .tup [.str w, .int k, .tup b] => if w = "loop" then some (k, b) else none
  | _ => none
theorem lpOf_lpU (k : Int) (b : List U) : lpOf (lpU k b) = some (k, b) := rfl
/-- the word of an instruction -/
def wdOf : U → Option Str
  | .tup (.str w :: _) => some w
  | _ => none
/-- an instruction that is no loop -/
def Op (x : U) : Prop := ∃ (w : Str) (is : List Int), x = .tup (.str w :: is.map .int) ∧ w ∈ words7 ∧ is.length ≤ 3 ∧ ∀ i ∈ is, 0 ≤ i ∧ i < 1000000
theorem Op.no {x : U} (h : Op x) : lpOf x = none := by
  obtain ⟨w, is, rfl, _⟩ := h
  match is with
  | [] => rfl
  | [_] => rfl
  | [_, _] => rfl
  | _ :: _ :: _ :: _ => rfl
theorem OpOk.op {p n : Int} {ws : List Str} {x : U} (hp : p < 1000000) (hn : n < 1000) (h : OpOk p n ws x) : Op x := by
  rcases h with ⟨w, a, c, rfl, h, _⟩ | ⟨w, a, rfl, h, _⟩ | ⟨a, b, c, rfl, h⟩ | ⟨w, a, b, rfl, h, _⟩
  · exact ⟨w, [a, c], rfl, by rcases h with rfl | rfl <;> decide, by simp, by simp; omega⟩
  · exact ⟨w, [a], rfl, by rcases h with rfl | rfl <;> decide, by simp, by simp; omega⟩
  · exact ⟨_, [a, b, c], rfl, by decide, by simp, by simp; omega⟩
  · exact ⟨w, [a, b], rfl, by rcases h with rfl | rfl <;> decide, by simp, by simp; omega⟩
/-- programs of at most L items a level, d levels of loops -/
def Pn (A : U → Prop) (R : Int → Prop) (L : Nat) : Nat → List U → Prop
  | 0, xs => xs.length ≤ L ∧ ∀ x ∈ xs, A x
  | d + 1, xs => xs.length ≤ L ∧ ∀ x ∈ xs, A x ∨ ∃ k b, x = lpU k b ∧ R k ∧ Pn A R L d b
theorem Pn.of {A A' : U → Prop} {R R' : Int → Prop} {L : Nat} (hA : ∀ x, A x → A' x) (hR : ∀ k, R k → R' k) : ∀ {d : Nat} {l : Int} {xs : List U}, Pr A R d l xs → l ≤ L → 0 ≤ l → Pn A' R' L d xs
  | 0, l, xs, h, hl, _ => ⟨by have := h.1; omega, fun x hx => hA x (h.2 x hx)⟩
  | d + 1, l, xs, h, hl, h0 => ⟨by have := h.1; omega, fun x hx => by
      rcases h.2 x hx with h | ⟨k, b, e, hr, hb⟩
      · exact .inl (hA x h)
      · exact .inr ⟨k, b, e, hR k hr, Pn.of hA hR hb (by omega) (by omega)⟩⟩
theorem Pn.len {A : U → Prop} {R : Int → Prop} {L : Nat} : ∀ {d : Nat} {xs : List U}, Pn A R L d xs → xs.length ≤ L
  | 0, _, h => h.1
  | _ + 1, _, h => h.1
theorem Pn.up {A : U → Prop} {R : Int → Prop} {L : Nat} : ∀ {d : Nat} {xs : List U}, Pn A R L d xs → Pn A R L (d + 1) xs
  | 0, _, h => ⟨h.1, fun x hx => .inl (h.2 x hx)⟩
  | d + 1, _, h => ⟨h.1, fun x hx => by
      rcases h.2 x hx with h | ⟨k, b, e, hr, hb⟩
      · exact .inl h
      · exact .inr ⟨k, b, e, hr, hb.up⟩⟩
theorem Pn.sub {A : U → Prop} {R : Int → Prop} {L : Nat} : ∀ {d : Nat} {xs ys : List U}, Pn A R L d xs → (∀ y ∈ ys, y ∈ xs) → ys.length ≤ L → Pn A R L d ys
  | 0, _, _, h, hs, hl => ⟨hl, fun x hx => h.2 x (hs x hx)⟩
  | _ + 1, _, _, h, hs, hl => ⟨hl, fun x hx => h.2 x (hs x hx)⟩
/-- what an item counts, what a program counts, by the weight f of an instruction -/
def cnt (f : U → Int) : Nat → List U → Int
  | 0, xs => (xs.map f).sum
  | d + 1, xs => (xs.map fun x => match lpOf x with
    | some (k, b) => k * cnt f d b
    | none => f x).sum
def cn1 (f : U → Int) : Nat → U → Int
  | 0, x => f x
  | d + 1, x => match lpOf x with
    | some (k, b) => k * cnt f d b
    | none => f x
theorem cnt_eq (f : U → Int) (d : Nat) (xs : List U) : cnt f d xs = (xs.map (cn1 f d)).sum := by
  cases d <;> rfl
theorem cnt_nil (f : U → Int) (d : Nat) : cnt f d [] = 0 := by rw [cnt_eq]; rfl
theorem cnt_cons (f : U → Int) (d : Nat) (x : U) (xs : List U) : cnt f d (x :: xs) = cn1 f d x + cnt f d xs := by rw [cnt_eq, cnt_eq, List.map_cons, List.sum_cons]
theorem cnt_app (f : U → Int) (d : Nat) (xs ys : List U) : cnt f d (xs ++ ys) = cnt f d xs + cnt f d ys := by
  induction xs with
  | nil => rw [cnt_nil]; simp
  | cons x xs ih => rw [List.cons_append, cnt_cons, cnt_cons, ih]; omega
theorem cnt_one (f : U → Int) (d : Nat) (x : U) : cnt f d [x] = cn1 f d x := by rw [cnt_cons, cnt_nil]; omega
theorem cn1_op {f : U → Int} {d : Nat} {x : U} (h : Op x) : cn1 f d x = f x := by
  cases d with
  | zero => rfl
  | succ d =>
    show (match lpOf x with
      | some (k, b) => k * cnt f d b
      | none => f x) = f x
    rw [h.no]
theorem cn1_lp {f : U → Int} {d : Nat} {k : Int} {b : List U} : cn1 f (d + 1) (lpU k b) = k * cnt f d b := rfl
/-- rounds of at most 10 ** 18 -/
def Rd (k : Int) : Prop := 0 ≤ k ∧ k ≤ 1000000000000000000
theorem sum_bd {f : U → Int} {M : Int} : ∀ xs : List U, (∀ x ∈ xs, 0 ≤ f x ∧ f x ≤ M) → 0 ≤ (xs.map f).sum ∧ (xs.map f).sum ≤ xs.length * M
  | [], _ => by simp
  | x :: xs, h => by
    have h1 := h x (List.mem_cons_self ..)
    have h2 := sum_bd xs fun y hy => h y (List.mem_cons_of_mem _ hy)
    rw [List.map_cons, List.sum_cons, List.length_cons]
    have : ((xs.length + 1 : Nat) : Int) * M = xs.length * M + M := by push_cast; rw [Int.add_mul]; omega
    omega
def Bd : Nat → Int
  | 0 => 1000
  | d + 1 => 1000000000000000000000 * Bd d
theorem Bd_pos : ∀ d, 1000 ≤ Bd d
  | 0 => by decide
  | d + 1 => by have := Bd_pos d; unfold Bd; omega
theorem cnt_bd {f : U → Int} {L : Nat} (hL : L ≤ 1000) (hf : ∀ x, 0 ≤ f x ∧ f x ≤ 1) : ∀ {d : Nat} {xs : List U}, Pn Op Rd L d xs → 0 ≤ cnt f d xs ∧ cnt f d xs ≤ Bd d
  | 0, xs, h => by
    have := sum_bd (M := 1) xs fun x _ => hf x
    have := h.1
    unfold cnt Bd
    omega
  | d + 1, xs, h => by
    rw [cnt_eq]
    have hB := Bd_pos d
    have := sum_bd (f := cn1 f (d + 1)) (M := 1000000000000000000 * Bd d) xs fun x hx => by
      rcases h.2 x hx with h | ⟨k, b, rfl, hr, hb⟩
      · rw [cn1_op h]
        have := hf x
        omega
      · rw [cn1_lp]
        have ih := cnt_bd hL hf hb
        refine ⟨Int.mul_nonneg hr.1 ih.1, ?_⟩
        exact Int.mul_le_mul hr.2 ih.2 ih.1 (by decide)
    have h1 : xs.length ≤ L := h.1
    refine ⟨this.1, Int.le_trans this.2 ?_⟩
    have : (xs.length : Int) * (1000000000000000000 * Bd d) ≤ 1000 * (1000000000000000000 * Bd d) := Int.mul_le_mul_of_nonneg_right (by omega) (by omega)
    show _ ≤ 1000000000000000000000 * Bd d
    omega
theorem Bd_sm : ∀ d, d ≤ 6 → 1000000000000000000 * Bd d < 1000000000000000000000000000000000000000000000000000000000000000000000000000000000000000000000000000000000000000000000000000000000000000000000000000000000000000000000000000000000 := by decide +kernel
def tmA (self : List U → M U) : FxS :=
  fSeq (fSet 2 (fC (.int 0))) (fSeq (fFor (fIter (fVar 0)) (gNm 3) (fIf (fBl (fBin (gEq false) (fBin gIx (fVar 3) (fC (.int 0))) (fC (.str "loop")))) (fAug 2 gIAdd (fBin gMul (fBin gIx (fVar 3) (fC (.int 1))) (fCall (kdG .pur 2 self) (fCons (fBin gIx (fVar 3) (fC (.int 2))) (fCons (fVar 1) (fNil)))))) (fIf (fOr (fBl (fBin (gEq false) (fVar 1) (fTup (fNil)))) (fBl (fBin (gIn false) (fBin gIx (fVar 3) (fC (.int 0))) (fVar 1)))) (fAug 2 gIAdd (fC (.int 1))) (fSkip)))) (fRet (fVar 2)))
theorem nrs_ints : ∀ is : List Int, nrs (is.map .int) = true
  | [] => rfl
  | i :: is => by show (nr (.int i) && nrs (is.map .int)) = true; rw [nrs_ints is]; rfl
theorem nrs_strs : ∀ is : List Str, nrs (is.map .str) = true
  | [] => rfl
  | i :: is => by show (nr (.str i) && nrs (is.map .str)) = true; rw [nrs_strs is]; rfl
theorem nr_op {x : U} (h : Op x) : nr x = true := by
  obtain ⟨w, is, rfl, _⟩ := h
  have : nrs (is.map .int) = true := nrs_ints is
  show (nr (.str w) && nrs (is.map .int)) = true
  rw [this]; rfl
theorem nrs_of : ∀ {xs : List U}, (∀ x ∈ xs, nr x = true) → nrs xs = true
  | [], _ => rfl
  | x :: xs, h => by
    show (nr x && nrs xs) = true
    rw [h x (List.mem_cons_self ..), nrs_of fun y hy => h y (List.mem_cons_of_mem _ hy)]; rfl
theorem nrs_lp {k : Int} {b : List U} (h : nrs b = true) : nr (lpU k b) = true := by
  show (nr (.str "loop") && (nr (.int k) && (nrs b && true))) = true
  rw [h]; rfl
theorem Pn.nrs {R : Int → Prop} {L : Nat} : ∀ {d : Nat} {xs : List U}, Pn Op R L d xs → nrs xs = true
  | 0, _, h => nrs_of fun x hx => nr_op (h.2 x hx)
  | d + 1, _, h => nrs_of fun x hx => by
    rcases h.2 x hx with h | ⟨k, b, rfl, _, hb⟩
    · exact nr_op h
    · exact nrs_lp hb.nrs
/-- the weight by words: any word if there is none -/
def wt (ws : List Str) (x : U) : Int := match wdOf x with
  | some w => if ws = [] ∨ w ∈ ws then 1 else 0
  | none => 0
theorem wt_bd (ws : List Str) (x : U) : 0 ≤ wt ws x ∧ wt ws x ≤ 1 := by
  unfold wt
  split
  · split <;> omega
  · omega
theorem words7_ne : ∀ w ∈ words7, w ≠ "loop" := by decide +kernel
theorem sm_of {x : Int} {d : Nat} (hd : d ≤ 6) (h : -(1000000000000000000 * Bd d) ≤ x ∧ x ≤ 1000000000000000000 * Bd d) : Sm x := by
  have := Bd_sm d hd
  exact ⟨by omega, by omega⟩
theorem gEq_D {neg : Bool} {T : Sto} {u v : U} {d e : PyData} (h1 : dat T 66 u = some d) (h2 : dat T 66 v = some e) (h3 : SeqAt.shaped d = true) (h4 : SeqAt.shaped e = true) : gEq neg u v T = .ok (.bl (if neg then !PyData.eqv d e else PyData.eqv d e)) T := by
  unfold gEq
  split
  · cases h1; cases h2
    rw [eqv_str]
  · unfold gEqD
    simp only [h1, h2, h3, h4, and_self, if_true]
theorem v_eqD {T : Sto} {u v : U} {d e : PyData} {Q : U → Sto → Prop} (h1 : dat T 66 u = some d) (h2 : dat T 66 v = some e) (h3 : SeqAt.shaped d = true) (h4 : SeqAt.shaped e = true) (q : Q (.bl (PyData.eqv d e)) T) : Wp (gEq false u v T) Q := by
  rw [gEq_D h1 h2 h3 h4]; exact .ok q
theorem v_neD {T : Sto} {u v : U} {d e : PyData} {Q : U → Sto → Prop} (h1 : dat T 66 u = some d) (h2 : dat T 66 v = some e) (h3 : SeqAt.shaped d = true) (h4 : SeqAt.shaped e = true) (q : Q (.bl (!PyData.eqv d e)) T) : Wp (gEq true u v T) Q := by
  rw [gEq_D h1 h2 h3 h4]; exact .ok q
theorem v_in1 {x a : Str} {T : Sto} {Q : U → Sto → Prop} (q : Q (.bl (decide (x = a))) T) : Wp (gIn false (.str x) (.tup [.str a]) T) Q := by
  refine ⟨_, T, rfl, ?_⟩
  have : (if false = true then !inV (.str x) [.str a] else inV (.str x) [.str a]) = decide (x = a) := by
    show (eqV (.str a) (.str x) || false) = decide (x = a)
    rw [Bool.or_false]
    show (a == x) = decide (x = a)
    by_cases h : x = a
    · subst h; simp
    · rw [decide_eq_false h]; exact beq_false_of_ne (Ne.symm h)
  rw [this]
  exact q
theorem v_iadd {i j : Int} {T : Sto} {Q : U → Sto → Prop} (q : Q (.int (i + j)) T) : Wp (gIAdd (.int i) (.int j) T) Q := .ok q
/-- what a call without objects hands back -/
def kP (T : Sto) (Q : U → Sto → Prop) (u : U) (T' : Sto) : Prop := match u with
  | .ob k => ∃ o, T'[k]? = some o ∧ nrO o = true ∧ Q (.ob T.length) (T ++ [o])
  | u => nr u = true ∧ Q u T
section
variable {T T' : Sto} {Q : U → Sto → Prop}
theorem kP_int {i : Int} (q : Q (.int i) T) : kP T Q (.int i) T' := ⟨rfl, q⟩
theorem kP_bl {i : Bool} (q : Q (.bl i) T) : kP T Q (.bl i) T' := ⟨rfl, q⟩
theorem kP_str {i : Str} (q : Q (.str i) T) : kP T Q (.str i) T' := ⟨rfl, q⟩
theorem kP_non (q : Q .non T) : kP T Q .non T' := ⟨rfl, q⟩
theorem kP_tup {xs : List U} (h : nrs xs = true) (q : Q (.tup xs) T) : kP T Q (.tup xs) T' := ⟨h, q⟩
theorem purK {n : Nat} {g : List U → M U} {us : List U} (hn : us.length = n) (hr : nrs us = true) (h : Wp (g us []) (kP T Q)) : Wp (pureG n g us T) Q :=
  pur_wp hn hr (h.mono fun u T' h => by cases u <;> exact h)
end
theorem v_ix0 {x : U} {r : List U} {T : Sto} {Q : U → Sto → Prop} (q : Q x T) : Wp (gIx (.tup (x :: r)) (.int 0) T) Q := by
  refine v_ixT ?_ q
  unfold atI ixN
  rw [if_pos (by decide), if_pos (by rw [List.length_cons]; omega)]
  rfl
theorem Pn.item {A : U → Prop} {R : Int → Prop} {L : Nat} {d : Nat} {xs : List U} {x : U} (h : Pn A R L d xs) (hx : x ∈ xs) : A x ∨ ∃ d' k b, d = d' + 1 ∧ x = lpU k b ∧ R k ∧ Pn A R L d' b := by
  cases d with
  | zero => exact .inl (h.2 x hx)
  | succ d =>
    rcases h.2 x hx with h | ⟨k, b, h1, h2, h3⟩
    · exact .inl h
    · exact .inr ⟨d, k, b, rfl, h1, h2, h3⟩
theorem lp_str : PyData.strOk "loop" = true := by decide +kernel
local macro_rules | `(tactic| rfl') => `(tactic| repeat (first | with_reducible refine Lf.kS_nx ?_ | with_reducible refine Lf.kS_rt ?_ | with_reducible refine Lf.kS_bk ?_ | with_reducible refine Lf.kS_ct ?_ | with_reducible refine Lf.kD_rt ?_ | with_reducible refine Lf.kD_nx ?_ | with_reducible refine Lf.kF_nx ?_ | with_reducible refine Lf.kF_ct ?_ | with_reducible refine Lf.kF_bk ?_ | with_reducible refine Lf.kF_rt ?_ | with_reducible refine Lf.v_ifT ?_ | with_reducible refine Lf.v_ifF ?_ | with_reducible refine Lf.v_ifNT ?_ | with_reducible refine Lf.v_ifNF ?_ | with_reducible refine Lf.kP_int ?_ | with_reducible refine Lf.kP_bl ?_ | with_reducible refine Lf.kP_str ?_ | with_reducible refine Lf.kP_non ?_ | with_reducible refine Lf.v_iadd ?_ | with_reducible refine Lf.Wp.ok ?_ | with_reducible refine Lf.seq_wp ?_ | with_reducible refine Lf.v_bin ?_ | with_reducible refine Lf.v_cons ?_ | with_reducible refine Lf.v_call ?_ | with_reducible refine Lf.v_ret ?_ | with_reducible refine Lf.v_set ?_ | with_reducible refine Lf.v_asg ?_ | with_reducible refine Lf.v_if ?_ | with_reducible refine Lf.v_ifE ?_ | with_reducible refine Lf.v_bl ?_ | with_reducible refine Lf.v_tru ?_ | with_reducible refine Lf.v_and ?_ | with_reducible refine Lf.v_or ?_ | with_reducible refine Lf.v_not ?_ | with_reducible refine Lf.v_andV ?_ | with_reducible refine Lf.v_orV ?_ | with_reducible refine Lf.v_notV ?_ | with_reducible refine Lf.v_c ?_ | with_reducible refine Lf.v_nil ?_ | with_reducible refine Lf.v_skip ?_ | with_reducible refine Lf.v_drop ?_ | with_reducible refine Lf.v_retN ?_ | with_reducible refine Lf.v_brk ?_ | with_reducible refine Lf.v_cnt ?_ | with_reducible refine Lf.v_nm ?_ | with_reducible refine Lf.v_gnil ?_ | with_reducible refine Lf.v_gcons ?_ | with_reducible refine Lf.v_yes ?_ | with_reducible refine Lf.v_for ?_ | with_reducible refine Lf.v_lc ?_ | with_reducible refine Lf.v_rg ?_ | with_reducible refine Lf.v_iter ?_ | with_reducible refine Lf.v_iterT ?_ | with_reducible refine Lf.v_add ?_ | with_reducible refine Lf.v_sub ?_ | with_reducible refine Lf.v_neg ?_ | with_reducible refine Lf.v_lt ?_ | with_reducible refine Lf.v_le ?_ | with_reducible refine Lf.v_gt ?_ | with_reducible refine Lf.v_ge ?_ | with_reducible refine Lf.v_eqI ?_ | with_reducible refine Lf.v_neI ?_ | with_reducible refine Lf.v_abs ?_ | with_reducible refine Lf.v_intI ?_ | with_reducible refine Lf.v_intB ?_ | with_reducible refine Lf.v_max2 ?_ | with_reducible refine Lf.v_min2 ?_ | with_reducible refine Lf.v_lenT ?_ | with_reducible refine Lf.v_lenN ?_ | with_reducible refine Lf.v_nw ?_ | with_reducible refine Lf.v_un ?_ | with_reducible refine Lf.v_tup ?_ | with_reducible refine Lf.v_lst ?_ | with_reducible refine Lf.v_par2 ?_ | with_reducible refine Lf.v_par3 ?_ | with_reducible refine Lf.v_chain ?_ | with_reducible refine Lf.v_meth ?_ | with_reducible refine Lf.v_subT ?_ | with_reducible refine Lf.v_isiIB ?_ | with_reducible refine Lf.v_isiII ?_ | with_reducible refine Lf.v_sl ?_ | with_reducible refine Lf.v_noP ?_ | with_reducible refine Lf.v_pt ?_ | with_reducible refine Lf.v_cutT ?_ | ((with_reducible apply Lf.v_var); exact rfl) | ((with_reducible refine Lf.v_kw ?_ ?_); exact rfl) | ((with_reducible apply Lf.v_iterO); first | exact rfl | assumption) | ((with_reducible apply Lf.v_lenL); first | exact rfl | assumption) | ((with_reducible refine Lf.v_unp ?_ ?_); exact rfl) | ((with_reducible apply Lf.v_aug); exact rfl) | ((with_reducible refine Lf.v_mod ?_ ?_); first | decide | omega | assumption | fail) | ((with_reducible refine Lf.v_div ?_ ?_); first | exact ⟨by decide, by decide +kernel⟩ | assumption | exact Lf.log2d (by omega) ⟨by omega, by omega⟩ | fail) | ((with_reducible refine Lf.v_mul ?_ ?_); first | exact Lf.log2m ⟨by omega, by omega⟩ ⟨by omega, by omega⟩ | exact Lf.log2m (by assumption) ⟨by omega, by omega⟩ | exact Lf.log2m ⟨by omega, by omega⟩ (by assumption) | fail) | ((with_reducible refine Lf.v_pow ?_ ?_); exact ⟨by decide, by decide, by decide⟩) | ((with_reducible refine Lf.v_rg1 ?_ ?_); first | decide | fail) | ((with_reducible apply Lf.v_ixL); (first | exact rfl | assumption | fail); (first | exact rfl | assumption | fail)) | ((with_reducible apply Lf.v_ixT); (first | exact rfl | assumption | fail)) | ((with_reducible apply Lf.v_ixN); (first | exact rfl | assumption | fail)) | with_reducible refine ⟨_, rfl, ?_⟩ | (refine ⟨_, (rfl : Lf.tru _ (Lf.U.bl _) = some _), ?_⟩) | with_reducible refine ⟨_, _, rfl, ?_⟩ | with_reducible refine ⟨_, _, _, rfl, ?_⟩ | (refine ⟨(Nat.le_of_ble_eq_true rfl : List.length _ ≤ 16777216), ?_⟩) | with_reducible refine Lf.v_enum ?_ | fail))
theorem tm_ok {g : Nat → List U → M U} (hg : ∀ m, g (m + 1) = gDef 4 (tmA (g m))) {ws : List Str} (hw1 : ws = [] ∨ ∃ w ∈ words7, ws = [w]) {L : Nat} (hL : L ≤ 1000) : ∀ (d m : Nat) (xs : List U), d < m → d ≤ 6 → Pn Op Rd L d xs →
    ∀ T (Q : U → Sto → Prop), Q (.int (cnt (wt ws) d xs)) T → Wp (kdG .pur 2 (g m) [.tup xs, .tup (ws.map .str)] T) Q := by
  intro d
  induction d using Nat.strongRecOn with
  | ind d ih =>
    intro m xs hm hd hx T Q q
    obtain ⟨m, rfl⟩ : ∃ m', m = m' + 1 := ⟨m - 1, by omega⟩
    have hn := nrs_strs ws
    rw [hg]
    refine purK rfl ?_ (gDef_wp ?_)
    · show (Lf.nrs xs && (Lf.nrs (ws.map .str) && true)) = true
      rw [hx.nrs, hn]; rfl
    unfold tmA
    rfl'
    refine wp_forC (fun r η T => T = [] ∧ ∃ done o, xs = done ++ r ∧ η = [some (.tup xs), some (.tup (ws.map .str)), some (.int (cnt (wt ws) d done)), o]) ⟨rfl, [], _, rfl, by rw [cnt_nil]; rfl⟩ (fun x r η T ⟨eT, done, o, ex, e⟩ => ?_) (fun η T ⟨eT, done, o, ex, e⟩ => ?_)
    · subst eT e
      have hxx : x ∈ xs := by rw [ex]; exact List.mem_append_right _ (List.mem_cons_self ..)
      have enx : xs = (done ++ [x]) ++ r := by rw [ex]; simp
      rcases hx.item hxx with ho | ⟨d', k, b, rfl, rfl, hk, hb⟩
      · have h1 := cn1_op (f := wt ws) (d := d) ho
        obtain ⟨w, is, rfl, hw, _, _⟩ := ho
        rfl'
        refine v_ix0 ?_
        rfl'
        refine v_eqS (words7_ok w hw) lp_str ?_
        rfl'
        refine v_nod (words7_ne w hw) ?_
        rfl'
        have add : wt ws (.tup (.str w :: is.map .int)) = 1 → cnt (wt ws) d (done ++ [.tup (.str w :: is.map .int)]) = cnt (wt ws) d done + 1 := fun h => by rw [cnt_app, cnt_one, h1, h]
        have add0 : wt ws (.tup (.str w :: is.map .int)) = 0 → cnt (wt ws) d (done ++ [.tup (.str w :: is.map .int)]) = cnt (wt ws) d done := fun h => by rw [cnt_app, cnt_one, h1, h]; omega
        rcases hw1 with rfl | ⟨w1, hw1, rfl⟩
        · refine v_eqD (d := .tuple []) (e := .tuple []) rfl rfl (by decide +kernel) (by decide +kernel) ?_
          rfl'
          refine v_yesb (by decide +kernel) ?_
          rfl'
          exact ⟨rfl, _, _, enx, by rw [add (by unfold wt wdOf; simp)]; rfl⟩
        · refine v_eqD (d := .tuple [.str w1]) (e := .tuple []) rfl rfl (by simp [SeqAt.shaped, PyData.canLay0, PyData.canLayAll0, PyData.depth, PyData.depthAll, words7_ok w1 hw1]) (by decide +kernel) ?_
          rfl'
          refine v_nob (by simp [PyData.eqv, PyData.eqvAll]) ?_
          rfl'
          refine v_ix0 ?_
          rfl'
          refine v_in1 ?_
          rfl'
          refine v_ifd (fun hww => ?_) (fun hww => ?_)
          · rfl'
            exact ⟨rfl, _, _, enx, by rw [add (by unfold wt wdOf; simp [hww])]; rfl⟩
          · rfl'
            exact ⟨rfl, _, _, enx, by rw [add0 (by unfold wt wdOf; simp [hww])]; rfl⟩
      · unfold lpU
        rfl'
        refine v_eqS lp_str lp_str ?_
        rfl'
        refine v_yesb (by decide +kernel) ?_
        rfl'
        refine ih d' (Nat.lt_succ_self _) m b (by omega) (by omega) hb _ _ ?_
        have hb2 := cnt_bd hL (wt_bd ws) hb
        have sk : Sm k := sm_of (d := 0) (by decide) ⟨by have := hk.1; have := Bd_pos 0; omega, by have := hk.2; have := Bd_pos 0; omega⟩
        have sc : Sm (cnt (wt ws) d' b) := sm_of (d := d') (by omega) ⟨by have := hb2.1; have := Bd_pos d'; omega, by have := hb2.2; have := Bd_pos d'; omega⟩
        refine v_mul (log2m sk sc) ?_
        rfl'
        exact ⟨rfl, _, _, enx, by rw [cnt_app, cnt_one, ← cn1_lp (k := k) (b := b)]; rfl⟩
    · subst eT e
      rw [List.append_nil] at ex
      subst ex
      rfl'
      exact q
end Lf
set_option Elab.async false
set_option linter.all false
set_option maxRecDepth 100000
set_option maxHeartbeats 4000000
namespace Lf
open PySem PySem.Spec L2
section
variable {η : Lo} {T : Sto} {Fe : FxE} {Fl Fh : FxO} {Q : U → Sto → Prop} {QO : Option Int → Sto → Prop}
theorem v_sl (q : Wp (Fe η T) fun u T1 => Wp (Fl η T1) fun lo T2 => Wp (Fh η T2) fun hi T3 => Wp (gCut lo hi u T3) Q) : Wp (fSl Fe Fl Fh η T) Q := .bindE q fun _ _ q => .bindE q fun _ _ q => .bind q
theorem v_noP (q : QO none T) : Wp (fNoP η T) QO := .ok q
theorem v_pt (q : Wp (Fe η T) fun u T1 => ∃ i, u = .int i ∧ QO (some i) T1) : Wp (fPt Fe η T) QO := .bindE q fun _ _ ⟨i, e, q⟩ => by subst e; exact .ok q
theorem v_cutT {lo hi : Option Int} {xs : List U} (q : Q (.tup (cutU xs lo hi)) T) : Wp (gCut lo hi (.tup xs) T) Q := .ok q
end
theorem cut_drop {α : Type} (xs : List α) {i : Int} {n : Nat} (hi : i = n) : cutU xs (some i) none = xs.drop n := by
  subst hi
  unfold cutU
  rw [HT.sIx_nat, HT.sIx_none]
  by_cases h : n ≤ xs.length
  · rw [Nat.min_eq_left h, List.take_of_length_le (by rw [List.length_drop]; exact Nat.le_refl _)]
  · rw [Nat.min_eq_right (by omega), Nat.sub_self, List.take_zero, List.drop_eq_nil_iff.mpr (by omega)]
abbrev stp (d : Nat) (xs : List U) : Int := cnt (wt []) d xs
theorem wt_op {x : U} (h : Op x) : wt [] x = 1 := by
  obtain ⟨w, is, rfl, _⟩ := h
  unfold wt wdOf
  simp
/-- step s of the program stands at the path P, it is the instruction it -/
inductive At : Nat → List U → List Int → Int → U → Prop
  | op {d : Nat} {done r : List U} {x : U} : Op x → At d (done ++ x :: r) [(done.length : Int)] (stp d done) x
  | lp {d : Nat} {done b r : List U} {k t s : Int} {P : List Int} {it : U} : 0 ≤ t → t < k → At d b P s it → At (d + 1) (done ++ lpU k b :: r) ((done.length : Int) :: t :: P) (stp (d + 1) done + (t * stp d b + s)) it
theorem stp_nn {L d : Nat} {xs : List U} (hL : L ≤ 1000) (h : Pn Op Rd L d xs) : 0 ≤ stp d xs := (cnt_bd hL (wt_bd []) h).1
/-- each step has its place -/
theorem At.find {L : Nat} (hL : L ≤ 1000) : ∀ (d : Nat) (xs : List U), Pn Op Rd L d xs → ∀ (done : List U) (s : Int), 0 ≤ s → s < stp d xs → (∀ xs' : List U, xs' = xs → Pn Op Rd L d (done ++ xs)) → ∃ P it, At d (done ++ xs) P (stp d done + s) it := by
  intro d
  induction d with
  | zero =>
    intro xs
    induction xs with
    | nil => intro _ done s h0 h1 _; rw [show stp 0 [] = 0 from rfl] at h1; omega
    | cons x r ih =>
      intro hx done s h0 h1 hw
      have ho : Op x := hx.2 x (List.mem_cons_self ..)
      have e := cnt_cons (wt []) 0 x r
      rw [cn1_op ho, wt_op ho] at e
      by_cases hs : s < 1
      · have : s = 0 := by omega
        subst this
        rw [Int.add_zero]
        exact ⟨_, _, .op ho⟩
      · have hr : Pn Op Rd L 0 r := hx.sub (fun y hy => by simp [hy]) (by have := hx.len; simp at this; omega)
        have := ih hr (done ++ [x]) (s - 1) (by omega) (by show s - 1 < cnt (wt []) 0 r; have : s < cnt (wt []) 0 (x :: r) := h1; omega) (fun _ _ => by rw [List.append_assoc]; exact hw _ rfl)
        rw [List.append_assoc] at this
        have e2 : stp 0 (done ++ [x]) = stp 0 done + 1 := by show cnt _ _ _ = _; rw [cnt_app, cnt_one, cn1_op ho, wt_op ho]
        rw [e2, show stp 0 done + 1 + (s - 1) = stp 0 done + s by omega] at this
        exact this
  | succ d ihd =>
    intro xs
    induction xs with
    | nil => intro _ done s h0 h1 _; rw [show stp (d + 1) [] = 0 from rfl] at h1; omega
    | cons x r ih =>
      intro hx done s h0 h1 hw
      have hr : Pn Op Rd L (d + 1) r := hx.sub (fun y hy => by simp [hy]) (by have := hx.len; simp at this; omega)
      have e := cnt_cons (wt []) (d + 1) x r
      have h1 : s < cnt (wt []) (d + 1) (x :: r) := h1
      by_cases hs : s < cn1 (wt []) (d + 1) x
      · rcases hx.item (List.mem_cons_self ..) with ho | ⟨d', k, b, ed, rfl, hk, hb⟩
        · rw [cn1_op ho, wt_op ho] at hs
          have : s = 0 := by omega
          subst this
          rw [Int.add_zero]
          exact ⟨_, _, .op ho⟩
        · cases ed
          rw [cn1_lp] at hs
          have hb0 := stp_nn hL hb
          have hc : 0 < stp d b := by
            by_cases z : stp d b = 0
            · have : cnt (wt []) d b = 0 := z
              rw [this, Int.mul_zero] at hs
              omega
            · omega
          have m := emod_bd (a := s) hc
          obtain ⟨P, it, a⟩ := ihd b hb [] (s % stp d b) m.1 m.2 (fun _ _ => hb)
          rw [List.nil_append, show stp d [] = 0 from cnt_nil _ _, Int.zero_add] at a
          have h7 := Int.emod_add_mul_ediv s (stp d b)
          have hq : 0 ≤ s / stp d b := Int.ediv_nonneg h0 (by omega)
          have hq2 : s / stp d b < k := Int.ediv_lt_of_lt_mul hc hs
          have := At.lp (done := done) (r := r) (k := k) hq hq2 a
          rw [show s / stp d b * stp d b + s % stp d b = s by rw [Int.mul_comm]; omega] at this
          exact ⟨_, _, this⟩
      · have := ih hr (done ++ [x]) (s - cn1 (wt []) (d + 1) x) (by omega) (by show _ < cnt (wt []) (d + 1) r; omega) (fun _ _ => by rw [List.append_assoc]; exact hw _ rfl)
        rw [List.append_assoc] at this
        have e2 : stp (d + 1) (done ++ [x]) = stp (d + 1) done + cn1 (wt []) (d + 1) x := by show cnt _ _ _ = _; rw [cnt_app, cnt_one]
        rw [e2, show stp (d + 1) done + cn1 (wt []) (d + 1) x + (s - cn1 (wt []) (d + 1) x) = stp (d + 1) done + s by omega] at this
        exact this
theorem At.ex {L : Nat} (hL : L ≤ 1000) {d : Nat} {xs : List U} (h : Pn Op Rd L d xs) {s : Int} (h0 : 0 ≤ s) (h1 : s < stp d xs) : ∃ P it, At d xs P s it := by
  have := At.find hL d xs h [] s h0 h1 (fun _ _ => h)
  rwa [List.nil_append, show stp d [] = 0 from cnt_nil _ _, Int.zero_add] at this
def iwA : FxS := fRet (fAndV (fCall gIsi (fCons (fVar 0) (fCons (fC (.raw (.ty "int"))) (fNil)))) (fAndV (fNotV (fCall gIsi (fCons (fVar 0) (fCons (fC (.raw (.ty "bool"))) (fNil))))) (fChain gLe gLe (fVar 1) (fVar 0) (fVar 2))))
local macro_rules | `(tactic| rfl') => `(tactic| repeat (first | with_reducible refine Lf.kS_nx ?_ | with_reducible refine Lf.kS_rt ?_ | with_reducible refine Lf.kS_bk ?_ | with_reducible refine Lf.kS_ct ?_ | with_reducible refine Lf.kD_rt ?_ | with_reducible refine Lf.kD_nx ?_ | with_reducible refine Lf.kF_nx ?_ | with_reducible refine Lf.kF_ct ?_ | with_reducible refine Lf.kF_bk ?_ | with_reducible refine Lf.kF_rt ?_ | with_reducible refine Lf.v_ifT ?_ | with_reducible refine Lf.v_ifF ?_ | with_reducible refine Lf.v_ifNT ?_ | with_reducible refine Lf.v_ifNF ?_ | with_reducible refine Lf.kP_int ?_ | with_reducible refine Lf.kP_bl ?_ | with_reducible refine Lf.kP_str ?_ | with_reducible refine Lf.kP_non ?_ | with_reducible refine Lf.v_iadd ?_ | with_reducible refine Lf.Wp.ok ?_ | with_reducible refine Lf.seq_wp ?_ | with_reducible refine Lf.v_bin ?_ | with_reducible refine Lf.v_cons ?_ | with_reducible refine Lf.v_call ?_ | with_reducible refine Lf.v_ret ?_ | with_reducible refine Lf.v_set ?_ | with_reducible refine Lf.v_asg ?_ | with_reducible refine Lf.v_if ?_ | with_reducible refine Lf.v_ifE ?_ | with_reducible refine Lf.v_bl ?_ | with_reducible refine Lf.v_tru ?_ | with_reducible refine Lf.v_and ?_ | with_reducible refine Lf.v_or ?_ | with_reducible refine Lf.v_not ?_ | with_reducible refine Lf.v_andV ?_ | with_reducible refine Lf.v_orV ?_ | with_reducible refine Lf.v_notV ?_ | with_reducible refine Lf.v_c ?_ | with_reducible refine Lf.v_nil ?_ | with_reducible refine Lf.v_skip ?_ | with_reducible refine Lf.v_drop ?_ | with_reducible refine Lf.v_retN ?_ | with_reducible refine Lf.v_brk ?_ | with_reducible refine Lf.v_cnt ?_ | with_reducible refine Lf.v_nm ?_ | with_reducible refine Lf.v_gnil ?_ | with_reducible refine Lf.v_gcons ?_ | with_reducible refine Lf.v_yes ?_ | with_reducible refine Lf.v_for ?_ | with_reducible refine Lf.v_lc ?_ | with_reducible refine Lf.v_rg ?_ | with_reducible refine Lf.v_iter ?_ | with_reducible refine Lf.v_iterT ?_ | with_reducible refine Lf.v_add ?_ | with_reducible refine Lf.v_sub ?_ | with_reducible refine Lf.v_neg ?_ | with_reducible refine Lf.v_lt ?_ | with_reducible refine Lf.v_le ?_ | with_reducible refine Lf.v_gt ?_ | with_reducible refine Lf.v_ge ?_ | with_reducible refine Lf.v_eqI ?_ | with_reducible refine Lf.v_neI ?_ | with_reducible refine Lf.v_abs ?_ | with_reducible refine Lf.v_intI ?_ | with_reducible refine Lf.v_intB ?_ | with_reducible refine Lf.v_max2 ?_ | with_reducible refine Lf.v_min2 ?_ | with_reducible refine Lf.v_lenT ?_ | with_reducible refine Lf.v_lenN ?_ | with_reducible refine Lf.v_nw ?_ | with_reducible refine Lf.v_un ?_ | with_reducible refine Lf.v_tup ?_ | with_reducible refine Lf.v_lst ?_ | with_reducible refine Lf.v_par2 ?_ | with_reducible refine Lf.v_par3 ?_ | with_reducible refine Lf.v_chain ?_ | with_reducible refine Lf.v_meth ?_ | with_reducible refine Lf.v_subT ?_ | with_reducible refine Lf.v_isiIB ?_ | with_reducible refine Lf.v_isiII ?_ | with_reducible refine Lf.v_sl ?_ | with_reducible refine Lf.v_noP ?_ | with_reducible refine Lf.v_pt ?_ | with_reducible refine Lf.v_cutT ?_ | ((with_reducible apply Lf.v_var); exact rfl) | ((with_reducible refine Lf.v_kw ?_ ?_); exact rfl) | ((with_reducible apply Lf.v_iterO); first | exact rfl | assumption) | ((with_reducible apply Lf.v_lenL); first | exact rfl | assumption) | ((with_reducible refine Lf.v_unp ?_ ?_); exact rfl) | ((with_reducible apply Lf.v_aug); exact rfl) | ((with_reducible refine Lf.v_mod ?_ ?_); first | decide | omega | assumption | fail) | ((with_reducible refine Lf.v_div ?_ ?_); first | exact ⟨by decide, by decide +kernel⟩ | assumption | exact Lf.log2d (by omega) ⟨by omega, by omega⟩ | fail) | ((with_reducible refine Lf.v_mul ?_ ?_); first | exact Lf.log2m ⟨by omega, by omega⟩ ⟨by omega, by omega⟩ | exact Lf.log2m (by assumption) ⟨by omega, by omega⟩ | exact Lf.log2m ⟨by omega, by omega⟩ (by assumption) | fail) | ((with_reducible refine Lf.v_pow ?_ ?_); exact ⟨by decide, by decide, by decide⟩) | ((with_reducible refine Lf.v_rg1 ?_ ?_); first | decide | fail) | ((with_reducible apply Lf.v_ixL); (first | exact rfl | assumption | fail); (first | exact rfl | assumption | fail)) | ((with_reducible apply Lf.v_ixT); (first | exact rfl | assumption | fail)) | ((with_reducible apply Lf.v_ixN); (first | exact rfl | assumption | fail)) | with_reducible refine ⟨_, rfl, ?_⟩ | (refine ⟨_, (rfl : Lf.tru _ (Lf.U.bl _) = some _), ?_⟩) | with_reducible refine ⟨_, _, rfl, ?_⟩ | with_reducible refine ⟨_, _, _, rfl, ?_⟩ | (refine ⟨(Nat.le_of_ble_eq_true rfl : List.length _ ≤ 16777216), ?_⟩) | with_reducible refine Lf.v_enum ?_ | fail))
def scA (tm : List U → M U) : FxS := fRet (fCall (kdG .pur 2 tm) (fCons (fVar 0) (fCons (fTup (fNil)) (fNil))))
end Lf
set_option Elab.async false
set_option linter.all false
set_option maxRecDepth 100000
set_option maxHeartbeats 4000000
namespace Lf
open PySem PySem.Spec L2
end Lf
set_option Elab.async false
set_option linter.all false
set_option maxRecDepth 100000
set_option maxHeartbeats 4000000
namespace Lf
open PySem PySem.Spec L2
section
variable {X : Cx} {E : XK}
def gRev : U → M U := fun u T => match u with
  | .tup xs => .ok (.tup xs.reverse) T
  | .ob k => match T[k]? with
    | some (.lst xs) => nw (.lst xs.reverse) T
    | _ => .no
  | _ => .no
end
theorem v_revT {xs : List U} {T : Sto} {Q : U → Sto → Prop} (q : Q (.tup xs.reverse) T) : Wp (gRev (.tup xs) T) Q := .ok q
end Lf
set_option Elab.async false
set_option linter.all false
set_option maxRecDepth 100000
set_option maxHeartbeats 4000000
namespace Lf
open PySem PySem.Spec L2
/-- the steps of a program one by one -/
def flt : Nat → List U → List U
  | 0, xs => xs
  | d + 1, xs => xs.flatMap fun x => match lpOf x with
    | some (k, b) => (List.replicate k.toNat (flt d b)).flatten
    | none => [x]
theorem flt_nil (d : Nat) : flt d [] = [] := by cases d <;> rfl
theorem flt_cons (d : Nat) (x : U) (xs : List U) : flt d (x :: xs) = flt d [x] ++ flt d xs := by
  cases d with
  | zero => rfl
  | succ d =>
    show List.flatMap _ _ = List.flatMap _ _ ++ List.flatMap _ _
    simp
theorem flt_app (d : Nat) (xs ys : List U) : flt d (xs ++ ys) = flt d xs ++ flt d ys := by
  induction xs with
  | nil => rw [flt_nil]; rfl
  | cons x xs ih => rw [List.cons_append, flt_cons, ih, flt_cons d x xs, List.append_assoc]
theorem flt_op {d : Nat} {x : U} (h : Op x) : flt d [x] = [x] := by
  cases d with
  | zero => rfl
  | succ d =>
    show List.flatMap (fun x => match lpOf x with
      | some (k, b) => (List.replicate k.toNat (flt d b)).flatten
      | none => [x]) [x] = [x]
    simp [h.no]
theorem flt_lp {d : Nat} {k : Int} {b : List U} : flt (d + 1) [lpU k b] = (List.replicate k.toNat (flt d b)).flatten := by
  show List.flatMap _ [lpU k b] = _
  simp [lpOf_lpU]
theorem rep_len {α : Type} (k : Nat) (l : List α) : ((List.replicate k l).flatten.length : Int) = k * l.length := by
  induction k with
  | zero => simp
  | succ k ih => rw [List.replicate_succ, List.flatten_cons, List.length_append, Int.natCast_add, ih]; push_cast; rw [Int.add_mul]; omega
/-- as many as the steps -/
theorem flt_len {R : Int → Prop} (hR : ∀ k, R k → 0 ≤ k) {L : Nat} : ∀ {d : Nat} {xs : List U}, Pn Op R L d xs → ((flt d xs).length : Int) = stp d xs := by
  intro d
  induction d with
  | zero =>
    intro xs h
    have : ∀ xs : List U, (∀ x ∈ xs, Op x) → ((xs.length : Nat) : Int) = cnt (wt []) 0 xs := by
      intro xs
      induction xs with
      | nil => intro _; rfl
      | cons x xs ih =>
        intro h
        rw [cnt_cons, cn1_op (h x (List.mem_cons_self ..)), wt_op (h x (List.mem_cons_self ..)), ← ih fun y hy => h y (List.mem_cons_of_mem _ hy), List.length_cons]
        omega
    exact this xs h.2
  | succ d ih =>
    intro xs h
    have : ∀ xs : List U, (∀ x ∈ xs, Op x ∨ ∃ k b, x = lpU k b ∧ R k ∧ Pn Op R L d b) → ((flt (d + 1) xs).length : Int) = cnt (wt []) (d + 1) xs := by
      intro xs
      induction xs with
      | nil => intro _; rfl
      | cons x xs ihx =>
        intro h
        rw [flt_cons, cnt_cons, List.length_append, Int.natCast_add, ihx fun y hy => h y (List.mem_cons_of_mem _ hy)]
        rcases h x (List.mem_cons_self ..) with ho | ⟨k, b, rfl, hk, hb⟩
        · rw [flt_op ho, cn1_op ho, wt_op ho]; simp
        · rw [flt_lp, cn1_lp, rep_len, ih hb, Int.toNat_of_nonneg (hR k hk)]
    exact this xs h.2
/-- at most N steps in it and in each of its bodies -/
def Ps (N : Int) : Nat → List U → Prop
  | 0, xs => (xs.length : Int) ≤ N ∧ ∀ x ∈ xs, Op x
  | d + 1, xs => stp (d + 1) xs ≤ N ∧ ∀ x ∈ xs, Op x ∨ ∃ k b, x = lpU k b ∧ 0 ≤ k ∧ k ≤ 1000000 ∧ Ps N d b
theorem Ps.item {N : Int} {d : Nat} {xs : List U} {x : U} (h : Ps N d xs) (hx : x ∈ xs) : Op x ∨ ∃ d' k b, d = d' + 1 ∧ x = lpU k b ∧ 0 ≤ k ∧ k ≤ 1000000 ∧ Ps N d' b := by
  cases d with
  | zero => exact .inl (h.2 x hx)
  | succ d =>
    rcases h.2 x hx with h | ⟨k, b, h1, h2, h3, h4⟩
    · exact .inl h
    · exact .inr ⟨d, k, b, rfl, h1, h2, h3, h4⟩
theorem ops_dat {T : Sto} {n : Nat} : ∀ xs : List U, (∀ x ∈ xs, Op x) → ∃ ds, dats (dat T (n + 2)) xs = some ds ∧ PyData.canLayAll0 ds = true ∧ PyData.depthAll ds ≤ 2 ∧ ds.length = xs.length
  | [], _ => ⟨[], rfl, rfl, by decide +kernel, rfl⟩
  | x :: xs, h => by
    obtain ⟨ds, h1, h2, h3, h4⟩ := ops_dat xs fun y hy => h y (List.mem_cons_of_mem _ hy)
    obtain ⟨w, is, rfl, hw, _⟩ := h x (List.mem_cons_self ..)
    have hi : ∀ ns : List Int, dats (dat T (n + 1)) (ns.map .int) = some (ns.map .int) := by
      intro ns
      induction ns with
      | nil => rfl
      | cons m ns ih => rw [List.map_cons]; unfold dats; rw [ih]; rfl
    have hl : ∀ ns : List Int, PyData.canLayAll0 (ns.map .int) = true ∧ PyData.depthAll (ns.map .int) = 0 := by
      intro ns
      induction ns with
      | nil => exact ⟨rfl, by decide +kernel⟩
      | cons m ns ih => rw [List.map_cons]; simp [PyData.canLayAll0, PyData.canLay0, PyData.depthAll, PyData.depth, ih]
    have e : dat T (n + 2) (.tup (.str w :: is.map .int)) = some (.tuple (.str w :: is.map .int)) := by
      show (dats (dat T (n + 1)) (.str w :: is.map .int)).map PyData.tuple = _
      unfold dats
      rw [hi is]; rfl
    refine ⟨.tuple (.str w :: is.map .int) :: ds, by unfold dats; rw [e, h1], ?_, ?_, by simp [h4]⟩
    · simp [PyData.canLayAll0, PyData.canLay0, h2, words7_ok w hw, hl]
    · simp [PyData.depthAll, PyData.depth, hl]; omega
end Lf
set_option Elab.async false
set_option linter.all false
set_option maxRecDepth 100000
set_option maxHeartbeats 4000000
namespace Lf
open PySem PySem.Spec L2
theorem v_ext {k j : Nat} {xs ys : List U} {T : Sto} {Q : U → Sto → Prop} (e : T[k]? = some (.lst xs)) (e2 : T[j]? = some (.lst ys)) (q : xs.length + ys.length ≤ 16777216 ∧ Q .non (T.set k (.lst (xs ++ ys)))) : Wp (gExtend (.ob k) [.ob j] T) Q := by
  unfold gExtend; simp only [e, e2, q.1, if_true]; exact .ok q.2
local macro_rules | `(tactic| rfl') => `(tactic| repeat (first | with_reducible refine Lf.kS_nx ?_ | with_reducible refine Lf.kS_rt ?_ | with_reducible refine Lf.kS_bk ?_ | with_reducible refine Lf.kS_ct ?_ | with_reducible refine Lf.kD_rt ?_ | with_reducible refine Lf.kD_nx ?_ | with_reducible refine Lf.kF_nx ?_ | with_reducible refine Lf.kF_ct ?_ | with_reducible refine Lf.kF_bk ?_ | with_reducible refine Lf.kF_rt ?_ | with_reducible refine Lf.v_ifT ?_ | with_reducible refine Lf.v_ifF ?_ | with_reducible refine Lf.v_ifNT ?_ | with_reducible refine Lf.v_ifNF ?_ | with_reducible refine Lf.kP_int ?_ | with_reducible refine Lf.kP_bl ?_ | with_reducible refine Lf.kP_str ?_ | with_reducible refine Lf.kP_non ?_ | with_reducible refine Lf.v_iadd ?_ | with_reducible refine Lf.Wp.ok ?_ | with_reducible refine Lf.seq_wp ?_ | with_reducible refine Lf.v_bin ?_ | with_reducible refine Lf.v_cons ?_ | with_reducible refine Lf.v_call ?_ | with_reducible refine Lf.v_ret ?_ | with_reducible refine Lf.v_set ?_ | with_reducible refine Lf.v_asg ?_ | with_reducible refine Lf.v_if ?_ | with_reducible refine Lf.v_ifE ?_ | with_reducible refine Lf.v_bl ?_ | with_reducible refine Lf.v_tru ?_ | with_reducible refine Lf.v_and ?_ | with_reducible refine Lf.v_or ?_ | with_reducible refine Lf.v_not ?_ | with_reducible refine Lf.v_andV ?_ | with_reducible refine Lf.v_orV ?_ | with_reducible refine Lf.v_notV ?_ | with_reducible refine Lf.v_c ?_ | with_reducible refine Lf.v_nil ?_ | with_reducible refine Lf.v_skip ?_ | with_reducible refine Lf.v_drop ?_ | with_reducible refine Lf.v_retN ?_ | with_reducible refine Lf.v_brk ?_ | with_reducible refine Lf.v_cnt ?_ | with_reducible refine Lf.v_nm ?_ | with_reducible refine Lf.v_gnil ?_ | with_reducible refine Lf.v_gcons ?_ | with_reducible refine Lf.v_yes ?_ | with_reducible refine Lf.v_for ?_ | with_reducible refine Lf.v_lc ?_ | with_reducible refine Lf.v_rg ?_ | with_reducible refine Lf.v_iter ?_ | with_reducible refine Lf.v_iterT ?_ | with_reducible refine Lf.v_add ?_ | with_reducible refine Lf.v_sub ?_ | with_reducible refine Lf.v_neg ?_ | with_reducible refine Lf.v_lt ?_ | with_reducible refine Lf.v_le ?_ | with_reducible refine Lf.v_gt ?_ | with_reducible refine Lf.v_ge ?_ | with_reducible refine Lf.v_eqI ?_ | with_reducible refine Lf.v_neI ?_ | with_reducible refine Lf.v_abs ?_ | with_reducible refine Lf.v_intI ?_ | with_reducible refine Lf.v_intB ?_ | with_reducible refine Lf.v_max2 ?_ | with_reducible refine Lf.v_min2 ?_ | with_reducible refine Lf.v_lenT ?_ | with_reducible refine Lf.v_lenN ?_ | with_reducible refine Lf.v_nw ?_ | with_reducible refine Lf.v_un ?_ | with_reducible refine Lf.v_tup ?_ | with_reducible refine Lf.v_lst ?_ | with_reducible refine Lf.v_par2 ?_ | with_reducible refine Lf.v_par3 ?_ | with_reducible refine Lf.v_chain ?_ | with_reducible refine Lf.v_meth ?_ | with_reducible refine Lf.v_subT ?_ | with_reducible refine Lf.v_isiIB ?_ | with_reducible refine Lf.v_isiII ?_ | with_reducible refine Lf.v_sl ?_ | with_reducible refine Lf.v_noP ?_ | with_reducible refine Lf.v_pt ?_ | with_reducible refine Lf.v_cutT ?_ | ((with_reducible apply Lf.v_var); exact rfl) | ((with_reducible refine Lf.v_kw ?_ ?_); exact rfl) | ((with_reducible apply Lf.v_iterO); first | exact rfl | assumption) | ((with_reducible apply Lf.v_lenL); first | exact rfl | assumption) | ((with_reducible refine Lf.v_unp ?_ ?_); exact rfl) | ((with_reducible apply Lf.v_aug); exact rfl) | ((with_reducible refine Lf.v_mod ?_ ?_); first | decide | omega | assumption | fail) | ((with_reducible refine Lf.v_div ?_ ?_); first | exact ⟨by decide, by decide +kernel⟩ | assumption | exact Lf.log2d (by omega) ⟨by omega, by omega⟩ | fail) | ((with_reducible refine Lf.v_mul ?_ ?_); first | exact Lf.log2m ⟨by omega, by omega⟩ ⟨by omega, by omega⟩ | exact Lf.log2m (by assumption) ⟨by omega, by omega⟩ | exact Lf.log2m ⟨by omega, by omega⟩ (by assumption) | fail) | ((with_reducible refine Lf.v_pow ?_ ?_); exact ⟨by decide, by decide, by decide⟩) | ((with_reducible refine Lf.v_rg1 ?_ ?_); first | decide | fail) | ((with_reducible apply Lf.v_ixL); (first | exact rfl | assumption | fail); (first | exact rfl | assumption | fail)) | ((with_reducible apply Lf.v_ixT); (first | exact rfl | assumption | fail)) | ((with_reducible apply Lf.v_ixN); (first | exact rfl | assumption | fail)) | with_reducible refine ⟨_, rfl, ?_⟩ | (refine ⟨_, (rfl : Lf.tru _ (Lf.U.bl _) = some _), ?_⟩) | with_reducible refine ⟨_, _, rfl, ?_⟩ | with_reducible refine ⟨_, _, _, rfl, ?_⟩ | (refine ⟨(Nat.le_of_ble_eq_true rfl : List.length _ ≤ 16777216), ?_⟩) | with_reducible refine Lf.v_enum ?_ | fail))
end Lf
set_option Elab.async false
set_option linter.all false
set_option maxRecDepth 100000
set_option maxHeartbeats 4000000
namespace Lf
open PySem PySem.Spec L2
local macro_rules | `(tactic| rfl') => `(tactic| repeat (first | with_reducible refine Lf.kS_nx ?_ | with_reducible refine Lf.kS_rt ?_ | with_reducible refine Lf.kS_bk ?_ | with_reducible refine Lf.kS_ct ?_ | with_reducible refine Lf.kD_rt ?_ | with_reducible refine Lf.kD_nx ?_ | with_reducible refine Lf.kF_nx ?_ | with_reducible refine Lf.kF_ct ?_ | with_reducible refine Lf.kF_bk ?_ | with_reducible refine Lf.kF_rt ?_ | with_reducible refine Lf.v_ifT ?_ | with_reducible refine Lf.v_ifF ?_ | with_reducible refine Lf.v_ifNT ?_ | with_reducible refine Lf.v_ifNF ?_ | with_reducible refine Lf.kP_int ?_ | with_reducible refine Lf.kP_bl ?_ | with_reducible refine Lf.kP_str ?_ | with_reducible refine Lf.kP_non ?_ | with_reducible refine Lf.v_iadd ?_ | with_reducible refine Lf.Wp.ok ?_ | with_reducible refine Lf.seq_wp ?_ | with_reducible refine Lf.v_bin ?_ | with_reducible refine Lf.v_cons ?_ | with_reducible refine Lf.v_call ?_ | with_reducible refine Lf.v_ret ?_ | with_reducible refine Lf.v_set ?_ | with_reducible refine Lf.v_asg ?_ | with_reducible refine Lf.v_if ?_ | with_reducible refine Lf.v_ifE ?_ | with_reducible refine Lf.v_bl ?_ | with_reducible refine Lf.v_tru ?_ | with_reducible refine Lf.v_and ?_ | with_reducible refine Lf.v_or ?_ | with_reducible refine Lf.v_not ?_ | with_reducible refine Lf.v_andV ?_ | with_reducible refine Lf.v_orV ?_ | with_reducible refine Lf.v_notV ?_ | with_reducible refine Lf.v_c ?_ | with_reducible refine Lf.v_nil ?_ | with_reducible refine Lf.v_skip ?_ | with_reducible refine Lf.v_drop ?_ | with_reducible refine Lf.v_retN ?_ | with_reducible refine Lf.v_brk ?_ | with_reducible refine Lf.v_cnt ?_ | with_reducible refine Lf.v_nm ?_ | with_reducible refine Lf.v_gnil ?_ | with_reducible refine Lf.v_gcons ?_ | with_reducible refine Lf.v_yes ?_ | with_reducible refine Lf.v_for ?_ | with_reducible refine Lf.v_lc ?_ | with_reducible refine Lf.v_rg ?_ | with_reducible refine Lf.v_iter ?_ | with_reducible refine Lf.v_iterT ?_ | with_reducible refine Lf.v_add ?_ | with_reducible refine Lf.v_sub ?_ | with_reducible refine Lf.v_neg ?_ | with_reducible refine Lf.v_lt ?_ | with_reducible refine Lf.v_le ?_ | with_reducible refine Lf.v_gt ?_ | with_reducible refine Lf.v_ge ?_ | with_reducible refine Lf.v_eqI ?_ | with_reducible refine Lf.v_neI ?_ | with_reducible refine Lf.v_abs ?_ | with_reducible refine Lf.v_intI ?_ | with_reducible refine Lf.v_intB ?_ | with_reducible refine Lf.v_max2 ?_ | with_reducible refine Lf.v_min2 ?_ | with_reducible refine Lf.v_lenT ?_ | with_reducible refine Lf.v_lenN ?_ | with_reducible refine Lf.v_nw ?_ | with_reducible refine Lf.v_un ?_ | with_reducible refine Lf.v_tup ?_ | with_reducible refine Lf.v_lst ?_ | with_reducible refine Lf.v_par2 ?_ | with_reducible refine Lf.v_par3 ?_ | with_reducible refine Lf.v_chain ?_ | with_reducible refine Lf.v_meth ?_ | with_reducible refine Lf.v_subT ?_ | with_reducible refine Lf.v_isiIB ?_ | with_reducible refine Lf.v_isiII ?_ | with_reducible refine Lf.v_sl ?_ | with_reducible refine Lf.v_noP ?_ | with_reducible refine Lf.v_pt ?_ | with_reducible refine Lf.v_cutT ?_ | ((with_reducible apply Lf.v_var); exact rfl) | ((with_reducible refine Lf.v_kw ?_ ?_); exact rfl) | ((with_reducible apply Lf.v_iterO); first | exact rfl | assumption) | ((with_reducible apply Lf.v_lenL); first | exact rfl | assumption) | ((with_reducible refine Lf.v_unp ?_ ?_); exact rfl) | ((with_reducible apply Lf.v_aug); exact rfl) | ((with_reducible refine Lf.v_mod ?_ ?_); first | decide | omega | assumption | fail) | ((with_reducible refine Lf.v_div ?_ ?_); first | exact ⟨by decide, by decide +kernel⟩ | assumption | exact Lf.log2d (by omega) ⟨by omega, by omega⟩ | fail) | ((with_reducible refine Lf.v_mul ?_ ?_); first | exact Lf.log2m ⟨by omega, by omega⟩ ⟨by omega, by omega⟩ | exact Lf.log2m (by assumption) ⟨by omega, by omega⟩ | exact Lf.log2m ⟨by omega, by omega⟩ (by assumption) | fail) | ((with_reducible refine Lf.v_pow ?_ ?_); exact ⟨by decide, by decide, by decide⟩) | ((with_reducible refine Lf.v_rg1 ?_ ?_); first | decide | fail) | ((with_reducible apply Lf.v_ixL); (first | exact rfl | assumption | fail); (first | exact rfl | assumption | fail)) | ((with_reducible apply Lf.v_ixT); (first | exact rfl | assumption | fail)) | ((with_reducible apply Lf.v_ixN); (first | exact rfl | assumption | fail)) | with_reducible refine ⟨_, rfl, ?_⟩ | (refine ⟨_, (rfl : Lf.tru _ (Lf.U.bl _) = some _), ?_⟩) | with_reducible refine ⟨_, _, rfl, ?_⟩ | with_reducible refine ⟨_, _, _, rfl, ?_⟩ | (refine ⟨(Nat.le_of_ble_eq_true rfl : List.length _ ≤ 16777216), ?_⟩) | with_reducible refine Lf.v_enum ?_ | fail))
end Lf
set_option Elab.async false
set_option linter.all false
set_option maxRecDepth 100000
set_option maxHeartbeats 4000000
namespace Lf
open PySem PySem.Spec L2
def InP (p : Int) (rs : List Int) : Prop := ∀ r ∈ rs, 0 ≤ r ∧ r < p
theorem InP.get {p : Int} (hp : 2 ≤ p) {rs : List Int} (h : InP p rs) (i : Nat) : 0 ≤ rs.getD i 0 ∧ rs.getD i 0 < p := by
  by_cases hi : i < rs.length
  · have e : rs.getD i 0 = rs[i] := by simp [hi]
    rw [e]
    exact h _ (List.getElem_mem hi)
  · have e : rs.getD i 0 = 0 := by simp [Nat.le_of_not_lt hi]
    rw [e]
    omega
theorem InP.set {p : Int} {rs : List Int} (h : InP p rs) {i : Nat} {v : Int} (hv : 0 ≤ v ∧ v < p) : InP p (rs.set i v) := fun r hr => by
  rcases List.mem_or_eq_of_mem_set hr with hr | rfl
  · exact h r hr
  · exact hv
end Lf
set_option Elab.async false
set_option linter.all false
set_option maxRecDepth 100000
set_option maxHeartbeats 4000000
namespace Lf
open PySem PySem.Spec L2
local macro_rules | `(tactic| rfl') => `(tactic| repeat (first | with_reducible refine Lf.kS_nx ?_ | with_reducible refine Lf.kS_rt ?_ | with_reducible refine Lf.kS_bk ?_ | with_reducible refine Lf.kS_ct ?_ | with_reducible refine Lf.kD_rt ?_ | with_reducible refine Lf.kD_nx ?_ | with_reducible refine Lf.kF_nx ?_ | with_reducible refine Lf.kF_ct ?_ | with_reducible refine Lf.kF_bk ?_ | with_reducible refine Lf.kF_rt ?_ | with_reducible refine Lf.v_ifT ?_ | with_reducible refine Lf.v_ifF ?_ | with_reducible refine Lf.v_ifNT ?_ | with_reducible refine Lf.v_ifNF ?_ | with_reducible refine Lf.kP_int ?_ | with_reducible refine Lf.kP_bl ?_ | with_reducible refine Lf.kP_str ?_ | with_reducible refine Lf.kP_non ?_ | with_reducible refine Lf.v_iadd ?_ | with_reducible refine Lf.Wp.ok ?_ | with_reducible refine Lf.seq_wp ?_ | with_reducible refine Lf.v_bin ?_ | with_reducible refine Lf.v_cons ?_ | with_reducible refine Lf.v_call ?_ | with_reducible refine Lf.v_ret ?_ | with_reducible refine Lf.v_set ?_ | with_reducible refine Lf.v_asg ?_ | with_reducible refine Lf.v_if ?_ | with_reducible refine Lf.v_ifE ?_ | with_reducible refine Lf.v_bl ?_ | with_reducible refine Lf.v_tru ?_ | with_reducible refine Lf.v_and ?_ | with_reducible refine Lf.v_or ?_ | with_reducible refine Lf.v_not ?_ | with_reducible refine Lf.v_andV ?_ | with_reducible refine Lf.v_orV ?_ | with_reducible refine Lf.v_notV ?_ | with_reducible refine Lf.v_c ?_ | with_reducible refine Lf.v_nil ?_ | with_reducible refine Lf.v_skip ?_ | with_reducible refine Lf.v_drop ?_ | with_reducible refine Lf.v_retN ?_ | with_reducible refine Lf.v_brk ?_ | with_reducible refine Lf.v_cnt ?_ | with_reducible refine Lf.v_nm ?_ | with_reducible refine Lf.v_gnil ?_ | with_reducible refine Lf.v_gcons ?_ | with_reducible refine Lf.v_yes ?_ | with_reducible refine Lf.v_for ?_ | with_reducible refine Lf.v_lc ?_ | with_reducible refine Lf.v_rg ?_ | with_reducible refine Lf.v_iter ?_ | with_reducible refine Lf.v_iterT ?_ | with_reducible refine Lf.v_add ?_ | with_reducible refine Lf.v_sub ?_ | with_reducible refine Lf.v_neg ?_ | with_reducible refine Lf.v_lt ?_ | with_reducible refine Lf.v_le ?_ | with_reducible refine Lf.v_gt ?_ | with_reducible refine Lf.v_ge ?_ | with_reducible refine Lf.v_eqI ?_ | with_reducible refine Lf.v_neI ?_ | with_reducible refine Lf.v_abs ?_ | with_reducible refine Lf.v_intI ?_ | with_reducible refine Lf.v_intB ?_ | with_reducible refine Lf.v_max2 ?_ | with_reducible refine Lf.v_min2 ?_ | with_reducible refine Lf.v_lenT ?_ | with_reducible refine Lf.v_lenN ?_ | with_reducible refine Lf.v_nw ?_ | with_reducible refine Lf.v_un ?_ | with_reducible refine Lf.v_tup ?_ | with_reducible refine Lf.v_lst ?_ | with_reducible refine Lf.v_par2 ?_ | with_reducible refine Lf.v_par3 ?_ | with_reducible refine Lf.v_chain ?_ | with_reducible refine Lf.v_meth ?_ | with_reducible refine Lf.v_subT ?_ | with_reducible refine Lf.v_isiIB ?_ | with_reducible refine Lf.v_isiII ?_ | with_reducible refine Lf.v_sl ?_ | with_reducible refine Lf.v_noP ?_ | with_reducible refine Lf.v_pt ?_ | with_reducible refine Lf.v_cutT ?_ | ((with_reducible apply Lf.v_var); exact rfl) | ((with_reducible refine Lf.v_kw ?_ ?_); exact rfl) | ((with_reducible apply Lf.v_iterO); first | exact rfl | assumption) | ((with_reducible apply Lf.v_lenL); first | exact rfl | assumption) | ((with_reducible refine Lf.v_unp ?_ ?_); exact rfl) | ((with_reducible apply Lf.v_aug); exact rfl) | ((with_reducible refine Lf.v_mod ?_ ?_); first | decide | omega | assumption | fail) | ((with_reducible refine Lf.v_div ?_ ?_); first | exact ⟨by decide, by decide +kernel⟩ | assumption | exact Lf.log2d (by omega) ⟨by omega, by omega⟩ | fail) | ((with_reducible refine Lf.v_mul ?_ ?_); first | exact Lf.log2m ⟨by omega, by omega⟩ ⟨by omega, by omega⟩ | exact Lf.log2m (by assumption) ⟨by omega, by omega⟩ | exact Lf.log2m ⟨by omega, by omega⟩ (by assumption) | fail) | ((with_reducible refine Lf.v_pow ?_ ?_); exact ⟨by decide, by decide, by decide⟩) | ((with_reducible refine Lf.v_rg1 ?_ ?_); first | decide | fail) | ((with_reducible apply Lf.v_ixL); (first | exact rfl | assumption | fail); (first | exact rfl | assumption | fail)) | ((with_reducible apply Lf.v_ixT); (first | exact rfl | assumption | fail)) | ((with_reducible apply Lf.v_ixN); (first | exact rfl | assumption | fail)) | with_reducible refine ⟨_, rfl, ?_⟩ | (refine ⟨_, (rfl : Lf.tru _ (Lf.U.bl _) = some _), ?_⟩) | with_reducible refine ⟨_, _, rfl, ?_⟩ | with_reducible refine ⟨_, _, _, rfl, ?_⟩ | (refine ⟨(Nat.le_of_ble_eq_true rfl : List.length _ ≤ 16777216), ?_⟩) | with_reducible refine Lf.v_enum ?_ | fail))
end Lf
set_option Elab.async false
set_option linter.all false
set_option maxRecDepth 100000
set_option maxHeartbeats 4000000
namespace Lf
open PySem PySem.Spec L2
section
variable {T : Sto} {Q : U → Sto → Prop}
theorem v_eqS0 {x y : Str} (q : Q (.bl (decide (x = y))) T) : Wp (gEq false (.str x) (.str y) T) Q := .ok q
theorem isl_at {k : Nat} {xs : List U} (h : T[k]? = some (.lst xs)) : isL T (.ob k) = true := by unfold isL; simp only [h]
theorem isl_and {k : Nat} {xs : List U} {P : Prop} (h : T[k]? = some (.lst xs)) (q : P) : isL T (.ob k) = true ∧ P := ⟨isl_at h, q⟩
theorem v_appZ {k : Nat} {xs : List U} {u : U} (e : T[k]? = some (.lst xs)) (hl : xs.length < 16777216) (q : Q .non (T.set k (.lst (xs ++ [u])))) : Wp (gAppend (.ob k) [u] T) Q := v_app e ⟨hl, q⟩
theorem v_tupleL {k : Nat} {xs : List U} (e : T[k]? = some (.lst xs)) (q : Q (.tup xs) T) : Wp (gTuple [.ob k] T) Q := v_tuple (by unfold seqU; simp only [e]) q
theorem v_tupleT {xs : List U} (q : Q (.tup xs) T) : Wp (gTuple [.tup xs] T) Q := .ok q
theorem v_listL {k : Nat} {xs : List U} (e : T[k]? = some (.lst xs)) (q : Q (.ob T.length) (T ++ [.lst xs])) : Wp (gList [.ob k] T) Q := v_list (by unfold seqU; simp only [e]) q
theorem v_listT {xs : List U} (q : Q (.ob T.length) (T ++ [.lst xs])) : Wp (gList [.tup xs] T) Q := .ok q
theorem dat_int {n : Nat} (i : Int) : dat T n (.int i) = some (.int i) := by cases n <;> rfl
theorem dat_str {n : Nat} (i : Str) : dat T n (.str i) = some (.str i) := by cases n <;> rfl
theorem dat_tup {n : Nat} {xs : List U} {ds : List PyData} (h : dats (dat T n) xs = some ds) : dat T (n + 1) (.tup xs) = some (.tuple ds) := by
  show (dats (dat T n) xs).map PyData.tuple = _
  rw [h]; rfl
theorem dats_cons {f : U → Option PyData} {x : U} {xs : List U} {d : PyData} {ds : List PyData} (h : f x = some d) (h2 : dats f xs = some ds) : dats f (x :: xs) = some (d :: ds) := by
  unfold dats; rw [h, h2]
theorem intsU_map : ∀ ns : List Int, intsU (ns.map .int) = some ns
  | [] => rfl
  | n :: ns => by
    show Option.map (fun x => n :: x) (intsU (ns.map .int)) = some (n :: ns)
    rw [intsU_map ns]; rfl
theorem blsU_map : ∀ ns : List Bool, blsU (ns.map .bl) = some ns
  | [] => rfl
  | n :: ns => by
    show Option.map (fun x => n :: x) (blsU (ns.map .bl)) = some (n :: ns)
    rw [blsU_map ns]; rfl
theorem v_allM {k : Nat} {bs : List Bool} (e : T[k]? = some (.lst (bs.map .bl))) (q : Q (.bl (bs.all id)) T) : Wp (gAll [.ob k] T) Q := v_all e (blsU_map bs) q
end
local macro_rules | `(tactic| rfl') => `(tactic| repeat (first | with_reducible refine Lf.kS_nx ?_ | with_reducible refine Lf.kS_rt ?_ | with_reducible refine Lf.kS_bk ?_ | with_reducible refine Lf.kS_ct ?_ | with_reducible refine Lf.kD_rt ?_ | with_reducible refine Lf.kD_nx ?_ | with_reducible refine Lf.kF_nx ?_ | with_reducible refine Lf.kF_ct ?_ | with_reducible refine Lf.kF_bk ?_ | with_reducible refine Lf.kF_rt ?_ | with_reducible refine Lf.v_ifT ?_ | with_reducible refine Lf.v_ifF ?_ | with_reducible refine Lf.v_ifNT ?_ | with_reducible refine Lf.v_ifNF ?_ | with_reducible refine Lf.kP_int ?_ | with_reducible refine Lf.kP_bl ?_ | with_reducible refine Lf.kP_str ?_ | with_reducible refine Lf.kP_non ?_ | with_reducible refine Lf.v_iadd ?_ | with_reducible refine Lf.Wp.ok ?_ | with_reducible refine Lf.seq_wp ?_ | with_reducible refine Lf.v_bin ?_ | with_reducible refine Lf.v_cons ?_ | with_reducible refine Lf.v_call ?_ | with_reducible refine Lf.v_ret ?_ | with_reducible refine Lf.v_set ?_ | with_reducible refine Lf.v_asg ?_ | with_reducible refine Lf.v_if ?_ | with_reducible refine Lf.v_ifE ?_ | with_reducible refine Lf.v_bl ?_ | with_reducible refine Lf.v_tru ?_ | with_reducible refine Lf.v_and ?_ | with_reducible refine Lf.v_or ?_ | with_reducible refine Lf.v_not ?_ | with_reducible refine Lf.v_andV ?_ | with_reducible refine Lf.v_orV ?_ | with_reducible refine Lf.v_notV ?_ | with_reducible refine Lf.v_c ?_ | with_reducible refine Lf.v_nil ?_ | with_reducible refine Lf.v_skip ?_ | with_reducible refine Lf.v_drop ?_ | with_reducible refine Lf.v_retN ?_ | with_reducible refine Lf.v_brk ?_ | with_reducible refine Lf.v_cnt ?_ | with_reducible refine Lf.v_nm ?_ | with_reducible refine Lf.v_gnil ?_ | with_reducible refine Lf.v_gcons ?_ | with_reducible refine Lf.v_yes ?_ | with_reducible refine Lf.v_for ?_ | with_reducible refine Lf.v_lc ?_ | with_reducible refine Lf.v_rg ?_ | with_reducible refine Lf.v_iter ?_ | with_reducible refine Lf.v_iterT ?_ | with_reducible refine Lf.v_add ?_ | with_reducible refine Lf.v_sub ?_ | with_reducible refine Lf.v_neg ?_ | with_reducible refine Lf.v_lt ?_ | with_reducible refine Lf.v_le ?_ | with_reducible refine Lf.v_gt ?_ | with_reducible refine Lf.v_ge ?_ | with_reducible refine Lf.v_eqI ?_ | with_reducible refine Lf.v_neI ?_ | with_reducible refine Lf.v_abs ?_ | with_reducible refine Lf.v_intI ?_ | with_reducible refine Lf.v_intB ?_ | with_reducible refine Lf.v_max2 ?_ | with_reducible refine Lf.v_min2 ?_ | with_reducible refine Lf.v_lenT ?_ | with_reducible refine Lf.v_lenN ?_ | with_reducible refine Lf.v_nw ?_ | with_reducible refine Lf.v_un ?_ | with_reducible refine Lf.v_tup ?_ | with_reducible refine Lf.v_lst ?_ | with_reducible refine Lf.v_par2 ?_ | with_reducible refine Lf.v_par3 ?_ | with_reducible refine Lf.v_chain ?_ | with_reducible refine Lf.v_meth ?_ | with_reducible refine Lf.v_subT ?_ | with_reducible refine Lf.v_isiIB ?_ | with_reducible refine Lf.v_isiII ?_ | with_reducible refine Lf.v_sl ?_ | with_reducible refine Lf.v_noP ?_ | with_reducible refine Lf.v_pt ?_ | with_reducible refine Lf.v_cutT ?_ | ((with_reducible apply Lf.v_var); exact rfl) | ((with_reducible refine Lf.v_kw ?_ ?_); exact rfl) | ((with_reducible apply Lf.v_iterO); first | exact rfl | assumption) | ((with_reducible apply Lf.v_lenL); first | exact rfl | assumption) | ((with_reducible refine Lf.v_unp ?_ ?_); exact rfl) | ((with_reducible apply Lf.v_aug); exact rfl) | ((with_reducible refine Lf.v_mod ?_ ?_); first | decide | omega | assumption | fail) | ((with_reducible refine Lf.v_div ?_ ?_); first | exact ⟨by decide, by decide +kernel⟩ | assumption | exact Lf.log2d (by omega) ⟨by omega, by omega⟩ | fail) | ((with_reducible refine Lf.v_mul ?_ ?_); first | exact Lf.log2m ⟨by omega, by omega⟩ ⟨by omega, by omega⟩ | exact Lf.log2m (by assumption) ⟨by omega, by omega⟩ | exact Lf.log2m ⟨by omega, by omega⟩ (by assumption) | fail) | ((with_reducible refine Lf.v_pow ?_ ?_); exact ⟨by decide, by decide, by decide⟩) | ((with_reducible refine Lf.v_rg1 ?_ ?_); first | decide | fail) | ((with_reducible apply Lf.v_ixL); (first | exact rfl | assumption | fail); (first | exact rfl | assumption | fail)) | ((with_reducible apply Lf.v_ixT); (first | exact rfl | assumption | fail)) | ((with_reducible apply Lf.v_ixN); (first | exact rfl | assumption | fail)) | with_reducible refine ⟨_, rfl, ?_⟩ | (refine ⟨_, (rfl : Lf.tru _ (Lf.U.bl _) = some _), ?_⟩) | with_reducible refine ⟨_, _, rfl, ?_⟩ | with_reducible refine ⟨_, _, _, rfl, ?_⟩ | (refine ⟨(Nat.le_of_ble_eq_true rfl : List.length _ ≤ 16777216), ?_⟩) | with_reducible refine Lf.v_enum ?_ | fail))
end Lf
set_option Elab.async false
set_option linter.all false
set_option maxRecDepth 100000
set_option maxHeartbeats 4000000
namespace Lf
open PySem PySem.Spec L2
theorem Pn.map {A A' : U → Prop} {R R' : Int → Prop} {L L' : Nat} (hA : ∀ x, A x → A' x) (hR : ∀ k, R k → R' k) (hL : L ≤ L') : ∀ {d : Nat} {xs : List U}, Pn A R L d xs → Pn A' R' L' d xs
  | 0, xs, h => ⟨Nat.le_trans h.1 hL, fun x hx => hA x (h.2 x hx)⟩
  | d + 1, xs, h => ⟨Nat.le_trans h.1 hL, fun x hx => by
      rcases h.2 x hx with h | ⟨k, b, e, hr, hb⟩
      · exact .inl (hA x h)
      · exact .inr ⟨k, b, e, hR k hr, Pn.map hA hR hL hb⟩⟩
theorem flt_all {A : U → Prop} {R : Int → Prop} {L : Nat} (hA : ∀ x, A x → Op x) : ∀ {d : Nat} {xs : List U}, Pn A R L d xs → ∀ x ∈ flt d xs, A x := by
  intro d
  induction d with
  | zero => intro xs h; exact h.2
  | succ d ih =>
    intro xs h x hx
    obtain ⟨y, hy, hx⟩ := List.mem_flatMap.mp hx
    rcases h.2 y hy with ho | ⟨k, b, rfl, hk, hb⟩
    · rw [(hA y ho).no] at hx
      rw [List.mem_singleton.mp hx]
      exact ho
    · rw [lpOf_lpU] at hx
      obtain ⟨l, hl, hx⟩ := List.mem_flatten.mp hx
      rw [(List.mem_replicate.mp hl).2] at hx
      exact ih hb x hx
/-- an item of a drawn program -/
def PrI (A : U → Prop) (R : Int → Prop) (d : Nat) (l : Int) (x : U) : Prop := A x ∨ ∃ d' k b, d = d' + 1 ∧ x = lpU k b ∧ R k ∧ Pr A R d' (l / 2) b
theorem Pr.item {A : U → Prop} {R : Int → Prop} {d : Nat} {l : Int} {xs : List U} {x : U} (h : Pr A R d l xs) (hx : x ∈ xs) : PrI A R d l x := by
  cases d with
  | zero => exact .inl (h.2 x hx)
  | succ d =>
    rcases h.2 x hx with h | ⟨k, b, h1, h2, h3⟩
    · exact .inl h
    · exact .inr ⟨d, k, b, rfl, h1, h2, h3⟩
theorem Pr.mk {A : U → Prop} {R : Int → Prop} {d : Nat} {l : Int} {xs : List U} (hl : (xs.length : Int) ≤ l) (h : ∀ x ∈ xs, PrI A R d l x) : Pr A R d l xs := by
  cases d with
  | zero => exact ⟨hl, fun x hx => by
      rcases h x hx with h | ⟨d', k, b, e, _⟩
      · exact h
      · cases e⟩
  | succ d => exact ⟨hl, fun x hx => by
      rcases h x hx with h | ⟨d', k, b, e, h1, h2, h3⟩
      · exact .inl h
      · cases e
        exact .inr ⟨k, b, h1, h2, h3⟩⟩
theorem Pr.nrs {A : U → Prop} {R : Int → Prop} (hA : ∀ x, A x → Op x) : ∀ {d : Nat} {l : Int} {xs : List U}, Pr A R d l xs → Lf.nrs xs = true
  | 0, _, _, h => nrs_of fun x hx => nr_op (hA x (h.2 x hx))
  | d + 1, _, _, h => nrs_of fun x hx => by
    rcases h.2 x hx with h | ⟨k, b, rfl, _, hb⟩
    · exact nr_op (hA x h)
    · exact nrs_lp (Pr.nrs hA hb)
theorem Ps.app {N : Int} {d : Nat} {xs ys : List U} (h1 : Ps N (d + 1) xs) (h2 : Ps N (d + 1) ys) (h : stp (d + 1) xs + stp (d + 1) ys ≤ N) : Ps N (d + 1) (xs ++ ys) := by
  refine ⟨?_, fun x hx => ?_⟩
  · show cnt _ _ _ ≤ _
    rw [cnt_app]
    exact h
  · rcases List.mem_append.mp hx with hx | hx
    · exact h1.2 x hx
    · exact h2.2 x hx
end Lf
set_option Elab.async false
set_option linter.all false
set_option maxRecDepth 100000
set_option maxHeartbeats 4000000
namespace Lf
open PySem PySem.Spec L2
def gDivmod : List U → M U := fun us T => match us with
  | [.int i, .int j] => if 0 < j ∧ j.natAbs.log2 < 9000 then .ok (.tup [.int (i / j), .int (i % j)]) T else .no
  | _ => .no
section
variable {X : Cx} {E : XK}
def enumO (k n : Nat) : ItF := ⟨(List.range n).map fun i T => (lstAt T k n).bind fun xs => (xs[i]?).map fun u => .tup [.int (i : Nat), u], fun T => (lstAt T k n).isSome⟩
def gEnum : List U → M ItF := fun us T => match us with
  | [.ob k] => match T[k]? with
    | some (.lst xs) => .ok (enumO k xs.length) T
    | _ => .no
  | _ => .no
def fEnumerate (Fr : FxA) : FxI := fun η T => (Fr η T).bind fun us T1 => gEnum us T1
theorem range_at {n i j : Nat} (h : (List.range n)[i]? = some j) : j = i := by
  have := (List.getElem?_eq_some_iff.mp h).2
  simpa using this.symm
theorem itOk_enumO {K : PySem.W.Frag} {ρ : List Addr} {H : Hp} {a : Addr} {k n : Nat} (e : ρ[k]? = some a) : ItOk K ρ H (enumO k n) (Ite K a) where
  go := fun i f ρ' H' T' u ef g s h => by
    have ef : ((List.range n).map fun (i : Nat) (T : Sto) => (lstAt T k n).bind fun xs => (xs[i]?).map fun u => U.tup [.int (i : Nat), u])[i]? = some f := ef
    rw [List.getElem?_map] at ef
    obtain ⟨j, q, rfl⟩ := Option.map_eq_some_iff.mp ef
    obtain rfl := range_at q
    obtain ⟨ys, h1, h2⟩ := Option.bind_eq_some_iff.mp h
    obtain ⟨z, h3, _⟩ := Option.map_eq_some_iff.mp h2
    obtain ⟨h4, _⟩ := lstAt_some h1
    obtain ⟨b, p, vs, f1, rs⟩ := s.get h4
    rw [g.pre k a e] at p
    cases p
    obtain ⟨v, h5, _⟩ := rs.get h3
    exact ⟨vs, v, SqL.of f1, h5⟩
  yl := fun i f ρ' H' T' u x H'' ef g s h y => by
    have ef : ((List.range n).map fun (i : Nat) (T : Sto) => (lstAt T k n).bind fun xs => (xs[i]?).map fun u => U.tup [.int (i : Nat), u])[i]? = some f := ef
    rw [List.getElem?_map] at ef
    obtain ⟨j, q, rfl⟩ := Option.map_eq_some_iff.mp ef
    obtain rfl := range_at q
    obtain ⟨ys, h1, h2⟩ := Option.bind_eq_some_iff.mp h
    obtain ⟨z, h3, h6⟩ := Option.map_eq_some_iff.mp h2
    subst h6
    obtain ⟨h4, _⟩ := lstAt_some h1
    obtain ⟨b, p, vs, f1, rs⟩ := s.get h4
    rw [g.pre k a e] at p
    cases p
    obtain ⟨v, h5, h7⟩ := rs.get h3
    obtain ⟨D, x0, rfl, nD, rfl, hy⟩ := y
    have := hy vs (SqL.of f1)
    rw [h5] at this
    cases this
    have g2 : Gr K ρ' H' ρ' (upd H' D (.tup [.int (j : Nat), v])) := Gr.fill nD
    exact ⟨g2, s.fill nD, .tup (SqT.of upd_same) ((RVs.cons (.int _) (.cons h7 .nil)).gr g2)⟩
  st := fun ρ' H' T' g s h => by
    have h : (lstAt T' k n).isSome = true := h
    obtain ⟨ys, h1⟩ := Option.isSome_iff_exists.mp h
    obtain ⟨h3, h4⟩ := lstAt_some h1
    obtain ⟨b, p, vs, f1, rs⟩ := s.get h3
    rw [g.pre k a e] at p
    cases p
    exact ⟨vs, SqL.of f1, by rw [← rs.length, h4]; simp [enumO]⟩
theorem fi_enumerate {e : Expr} {Fr : FxA} {p pos tpos : Pos} {elts : List Expr} {kk : Nat} (hg : Gl X "enumerate") (hm : X.mg "enumerate" = none) (ha : FA X E [e] Fr) (hs : starEach [e] X.env = [(false, eval e X.env)] := by rfl) :
    FI X E (.Tuple elts kk tpos) (.Call (.Name "enumerate" p) [e] [] pos) (fEnumerate Fr) := by
  obtain ⟨t, k, q⟩ := ha
  refine ⟨_, pi_enum hg hm k hs, fun σ H ρ T η R s r h => ?_⟩
  refine q σ H ρ T η _ s r (OK.mono (OK.bind h) fun vs H1 ⟨ρ1, T1, us, g1, s1, r1, k1⟩ => ?_)
  unfold gEnum at k1
  split at k1
  · rename_i j
    split at k1
    · rename_i xs e
      match r1 with
      | .cons (.ob ea) .nil =>
        obtain ⟨b, p, vs, f1, rs⟩ := s1.get e
        rw [ea] at p
        cases p
        exact ⟨_, vs, rfl, SqL.of f1, k1 _ _ _ Gr.refl s1 (itOk_enumO ea)⟩
    · exact False.elim k1
  · exact False.elim k1
end
section
variable {T : Sto} {Q : U → Sto → Prop} {η : Lo} {Fr : FxA} {QI : ItF → Sto → Prop}
theorem v_enum (q : Wp (Fr η T) fun us T1 => Wp (gEnum us T1) QI) : Wp (fEnumerate Fr η T) QI := .bind q
theorem v_enumL {k : Nat} {xs : List U} (e : T[k]? = some (.lst xs)) (q : QI (enumO k xs.length) T) : Wp (gEnum [.ob k] T) QI := by
  unfold gEnum; simp only [e]; exact .ok q
end
end Lf
set_option Elab.async false
set_option linter.all false
set_option maxRecDepth 100000
set_option maxHeartbeats 4000000
namespace Lf
open PySem PySem.Spec L2
section
variable {T : Sto} {Q : U → Sto → Prop}
theorem v_isNN {neg : Bool} (q : Q (.bl (!neg)) T) : Wp (gIs neg .non .non T) Q := .ok q
theorem v_isIN {neg : Bool} {i : Int} (q : Q (.bl neg) T) : Wp (gIs neg (.int i) .non T) Q := .ok q
end
theorem rep_s' {α : Type} (k : Nat) (l : List α) : (List.replicate (k + 1) l).flatten = (List.replicate k l).flatten ++ l := by
  rw [List.replicate_succ', List.flatten_append]; simp
def asA : FxS := fSeq (fIf (fBl (fBin (gEq false) (fBin gIx (fVar 0) (fC (.int 0))) (fC (.str "swap")))) (fRet (fBin (gIn false) (fVar 1) (fSl (fVar 0) (fPt (fC (.int 1))) fNoP))) (fSkip)) (fRet (fAndV (fBin (gEq true) (fBin gIx (fVar 0) (fC (.int 0))) (fC (.str "write"))) (fBin (gEq false) (fBin gIx (fVar 0) (fC (.int 1))) (fVar 1))))
local macro_rules | `(tactic| bv_omega) => `(tactic| repeat (first | with_reducible refine Lf.kS_nx ?_ | with_reducible refine Lf.kS_rt ?_ | with_reducible refine Lf.kS_bk ?_ | with_reducible refine Lf.kS_ct ?_ | with_reducible refine Lf.kD_rt ?_ | with_reducible refine Lf.kD_nx ?_ | with_reducible refine Lf.kF_nx ?_ | with_reducible refine Lf.kF_ct ?_ | with_reducible refine Lf.kF_bk ?_ | with_reducible refine Lf.kF_rt ?_ | with_reducible refine Lf.v_ifT ?_ | with_reducible refine Lf.v_ifF ?_ | with_reducible refine Lf.v_ifNT ?_ | with_reducible refine Lf.v_ifNF ?_ | with_reducible refine Lf.kP_int ?_ | with_reducible refine Lf.kP_bl ?_ | with_reducible refine Lf.kP_str ?_ | with_reducible refine Lf.kP_non ?_ | with_reducible refine Lf.v_iadd ?_ | with_reducible refine Lf.Wp.ok ?_ | with_reducible refine Lf.seq_wp ?_ | with_reducible refine Lf.v_bin ?_ | with_reducible refine Lf.v_cons ?_ | with_reducible refine Lf.v_call ?_ | with_reducible refine Lf.v_ret ?_ | with_reducible refine Lf.v_set ?_ | with_reducible refine Lf.v_asg ?_ | with_reducible refine Lf.v_if ?_ | with_reducible refine Lf.v_ifE ?_ | with_reducible refine Lf.v_bl ?_ | with_reducible refine Lf.v_tru ?_ | with_reducible refine Lf.v_and ?_ | with_reducible refine Lf.v_or ?_ | with_reducible refine Lf.v_not ?_ | with_reducible refine Lf.v_andV ?_ | with_reducible refine Lf.v_orV ?_ | with_reducible refine Lf.v_notV ?_ | with_reducible refine Lf.v_c ?_ | with_reducible refine Lf.v_nil ?_ | with_reducible refine Lf.v_skip ?_ | with_reducible refine Lf.v_drop ?_ | with_reducible refine Lf.v_retN ?_ | with_reducible refine Lf.v_brk ?_ | with_reducible refine Lf.v_cnt ?_ | with_reducible refine Lf.v_nm ?_ | with_reducible refine Lf.v_gnil ?_ | with_reducible refine Lf.v_gcons ?_ | with_reducible refine Lf.v_yes ?_ | with_reducible refine Lf.v_for ?_ | with_reducible refine Lf.v_lc ?_ | with_reducible refine Lf.v_rg ?_ | with_reducible refine Lf.v_iter ?_ | with_reducible refine Lf.v_iterT ?_ | with_reducible refine Lf.v_add ?_ | with_reducible refine Lf.v_sub ?_ | with_reducible refine Lf.v_neg ?_ | with_reducible refine Lf.v_lt ?_ | with_reducible refine Lf.v_le ?_ | with_reducible refine Lf.v_gt ?_ | with_reducible refine Lf.v_ge ?_ | with_reducible refine Lf.v_eqI ?_ | with_reducible refine Lf.v_neI ?_ | with_reducible refine Lf.v_abs ?_ | with_reducible refine Lf.v_intI ?_ | with_reducible refine Lf.v_intB ?_ | with_reducible refine Lf.v_max2 ?_ | with_reducible refine Lf.v_min2 ?_ | with_reducible refine Lf.v_lenT ?_ | with_reducible refine Lf.v_lenN ?_ | with_reducible refine Lf.v_nw ?_ | with_reducible refine Lf.v_un ?_ | with_reducible refine Lf.v_tup ?_ | with_reducible refine Lf.v_lst ?_ | with_reducible refine Lf.v_par2 ?_ | with_reducible refine Lf.v_par3 ?_ | with_reducible refine Lf.v_chain ?_ | with_reducible refine Lf.v_meth ?_ | with_reducible refine Lf.v_subT ?_ | with_reducible refine Lf.v_isiIB ?_ | with_reducible refine Lf.v_isiII ?_ | with_reducible refine Lf.v_sl ?_ | with_reducible refine Lf.v_noP ?_ | with_reducible refine Lf.v_pt ?_ | with_reducible refine Lf.v_cutT ?_ | ((with_reducible apply Lf.v_var); exact rfl) | ((with_reducible refine Lf.v_kw ?_ ?_); exact rfl) | ((with_reducible apply Lf.v_iterO); first | exact rfl | assumption) | ((with_reducible apply Lf.v_lenL); first | exact rfl | assumption) | ((with_reducible refine Lf.v_unp ?_ ?_); exact rfl) | ((with_reducible apply Lf.v_aug); exact rfl) | ((with_reducible refine Lf.v_mod ?_ ?_); first | decide | omega | assumption | fail) | ((with_reducible refine Lf.v_div ?_ ?_); first | exact ⟨by decide, by decide +kernel⟩ | assumption | exact Lf.log2d (by omega) ⟨by omega, by omega⟩ | fail) | ((with_reducible refine Lf.v_mul ?_ ?_); first | exact Lf.log2m ⟨by omega, by omega⟩ ⟨by omega, by omega⟩ | exact Lf.log2m (by assumption) ⟨by omega, by omega⟩ | exact Lf.log2m ⟨by omega, by omega⟩ (by assumption) | fail) | ((with_reducible refine Lf.v_pow ?_ ?_); exact ⟨by decide, by decide, by decide⟩) | ((with_reducible refine Lf.v_rg1 ?_ ?_); first | decide | fail) | ((with_reducible apply Lf.v_ixL); (first | exact rfl | assumption | fail); (first | exact rfl | assumption | fail)) | ((with_reducible apply Lf.v_ixT); (first | exact rfl | assumption | fail)) | ((with_reducible apply Lf.v_ixN); (first | exact rfl | assumption | fail)) | with_reducible refine ⟨_, rfl, ?_⟩ | (refine ⟨_, (rfl : Lf.tru _ (Lf.U.bl _) = some _), ?_⟩) | with_reducible refine ⟨_, _, rfl, ?_⟩ | with_reducible refine ⟨_, _, _, rfl, ?_⟩ | (refine ⟨(Nat.le_of_ble_eq_true rfl : List.length _ ≤ 16777216), ?_⟩) | with_reducible refine Lf.v_enum ?_ | with_reducible refine Lf.v_eqS0 ?_ | with_reducible refine Lf.v_neT ?_ | with_reducible refine Lf.v_ix0 ?_ | with_reducible refine Lf.v_tupleT ?_ | with_reducible refine Lf.v_listT ?_ | with_reducible refine Lf.v_revT ?_ | with_reducible refine Lf.v_dic0 ?_ | with_reducible refine Lf.v_dic1 ?_ | with_reducible refine Lf.v_mkE ?_ | with_reducible refine Lf.v_mkE0 ?_ | with_reducible refine Lf.v_fldS ?_ | with_reducible refine Lf.v_fldAug ?_ | with_reducible refine Lf.v_mkC ?_ | with_reducible refine Lf.v_mkW ?_ | with_reducible refine Lf.v_mth ?_ | with_reducible refine Lf.v_getK ?_ | with_reducible refine Lf.v_dic1K ?_ | with_reducible refine Lf.v_items ?_ | with_reducible refine Lf.v_subTD ?_ | with_reducible refine Lf.v_subTT ?_ | with_reducible refine Lf.v_enT ?_ | with_reducible refine Lf.v_enTT ?_ | ((with_reducible apply Lf.v_fld); (first | assumption | fail); (first | assumption | exact List.mem_cons_self .. | simp | fail); (first | rfl | decide +kernel | fail)) | ((with_reducible apply Lf.isl_and); (first | exact rfl | assumption | fail)) | ((with_reducible refine Lf.v_idiv ?_ ?_); exact ⟨by decide, by decide⟩) | ((with_reducible apply Lf.v_appZ); (first | exact rfl | assumption | fail); (first | omega | (simp only [List.length_append, List.length_map, List.length_cons, List.length_nil]; omega) | (simp; omega) | fail)) | ((with_reducible apply Lf.v_tupleL); (first | exact rfl | assumption | fail)) | ((with_reducible apply Lf.v_listL); (first | exact rfl | assumption | fail)) | ((with_reducible refine Lf.v_yesd ?_ ?_); (first | (with_reducible rfl) | assumption | (exact fun z => z rfl) | decide +kernel | omega | fail)) | ((with_reducible refine Lf.v_nod ?_ ?_); (first | (with_reducible rfl) | assumption | (exact fun z => z rfl) | decide +kernel | omega | fail)) | ((with_reducible refine Lf.v_yesn ?_ ?_); (first | (with_reducible rfl) | assumption | (exact fun z => z rfl) | decide +kernel | omega | fail)) | ((with_reducible refine Lf.v_non ?_ ?_); (first | (with_reducible rfl) | assumption | (exact fun z => z rfl) | decide +kernel | omega | fail)) | ((with_reducible refine Lf.kP_tup ?_ ?_); first | exact rfl | exact Lf.nrs_ints _ | assumption | fail) | ((with_reducible refine Lf.v_rg1 ?_ ?_); exact Lf.small62_of (by omega) (by omega)) | fail))
/-- the programs -/
abbrev Po (p n : Int) (ws : List Str) (L d : Nat) (xs : List U) : Prop := Pn (OpOk p n ws) Rd L d xs
theorem Po.pn {p n : Int} {ws : List Str} {L d : Nat} {xs : List U} (hp : p < 1000000) (hn : n < 1000) (h : Po p n ws L d xs) : Pn Op Rd L d xs := Pn.map (fun _ h => h.op hp hn) (fun _ h => h) (Nat.le_refl _) h
theorem Po.len {p n : Int} {ws : List Str} {L d : Nat} {xs : List U} (hp : p < 1000000) (hn : n < 1000) (h : Po p n ws L d xs) : ((flt d xs).length : Int) = stp d xs := flt_len (R := Rd) (fun k h => h.1) (h.pn hp hn)
def lilA (sc sa : List U → M U) : FxS :=
  fSeq (fIf (fBl (fBin (gEq false) (fVar 1) (fC (.int 0)))) (fRet (fC .non)) (fSkip)) (fSeq (fSet 3 (fCall (kdG .pur 1 sc) (fCons (fVar 0) (fNil)))) (fSeq (fAsg (fCall gDivmod (fCons (fVar 1) (fCons (fVar 3) (fNil)))) (gUnp 2 (gCons (gNm 4) (gCons (gNm 5) (gNil))))) (fSeq (fSet 6 (fCall (kdG .pur 3 sa) (fCons (fVar 0) (fCons (fVar 5) (fCons (fVar 2) (fNil)))))) (fSeq (fIf (fBl (fBin (gIs true) (fVar 6) (fC .non))) (fRet (fBin gAdd (fBin gMul (fVar 4) (fVar 3)) (fVar 6))) (fSkip)) (fSeq (fSet 6 (fIfE (fBl (fBin gGt (fVar 4) (fC (.int 0)))) (fCall (kdG .pur 3 sa) (fCons (fVar 0) (fCons (fVar 3) (fCons (fVar 2) (fNil))))) (fC .non))) (fRet (fIfE (fBl (fBin (gIs false) (fVar 6) (fC .non))) (fC .non) (fBin gAdd (fBin gMul (fBin gSub (fVar 4) (fC (.int 1))) (fVar 3)) (fVar 6)))))))))
def laA (sc as_ sl : List U → M U) : FxS :=
  fSeq (fAsg (fTup (fCons (fC (.int 0)) (fCons (fC .non) (fNil)))) (gUnp 2 (gCons (gNm 3) (gCons (gNm 4) (gNil))))) (fSeq (fFor (fIter (fVar 0)) (gNm 5) (fSeq (fSet 6 (fBin gSub (fVar 1) (fVar 3))) (fSeq (fIf (fBl (fBin gLe (fVar 6) (fC (.int 0)))) (fRet (fVar 4)) (fSkip)) (fSeq (fIf (fBl (fBin (gEq false) (fBin gIx (fVar 5) (fC (.int 0))) (fC (.str "loop")))) (fSet 7 (fCall (kdG .pur 3 sl) (fCons (fBin gIx (fVar 5) (fC (.int 2))) (fCons (fCall gMin2 (fCons (fVar 6) (fCons (fCall (kdG .pur 1 sc) (fCons (fTup (fCons (fVar 5) (fNil))) (fNil))) (fNil)))) (fCons (fVar 2) (fNil)))))) (fSet 7 (fIfE (fTru (fCall (kdG .pur 2 as_) (fCons (fVar 5) (fCons (fVar 2) (fNil))))) (fC (.int 0)) (fC .non)))) (fSeq (fSet 4 (fIfE (fBl (fBin (gIs false) (fVar 7) (fC .non))) (fVar 4) (fBin gAdd (fVar 3) (fVar 7)))) (fAug 3 gIAdd (fCall (kdG .pur 1 sc) (fCons (fTup (fCons (fVar 5) (fNil))) (fNil))))))))) (fRet (fVar 4)))
section
variable {sc as_ : List U → M U} {gt gA gL : Nat → List U → M U} {mt : Nat} (hs : sc = gDef 1 (scA (gt mt))) (ht : ∀ m, gt (m + 1) = gDef 4 (tmA (gt m))) (ha : as_ = gDef 2 asA)
  (hA : ∀ m, gA (m + 1) = gDef 8 (laA sc as_ (gL m))) (hL : ∀ m, gL (m + 1) = gDef 7 (lilA sc (gA m)))
  {p n : Int} {ws : List Str} (hp : p < 1000000) (hn : n < 1000) {x : Int} {L : Nat} (hLn : L ≤ 1000)
include hs ht hL hp hn hLn
local macro_rules | `(tactic| rfl') => `(tactic| repeat (first | with_reducible refine Lf.kS_nx ?_ | with_reducible refine Lf.kS_rt ?_ | with_reducible refine Lf.kS_bk ?_ | with_reducible refine Lf.kS_ct ?_ | with_reducible refine Lf.kD_rt ?_ | with_reducible refine Lf.kD_nx ?_ | with_reducible refine Lf.kF_nx ?_ | with_reducible refine Lf.kF_ct ?_ | with_reducible refine Lf.kF_bk ?_ | with_reducible refine Lf.kF_rt ?_ | with_reducible refine Lf.v_ifT ?_ | with_reducible refine Lf.v_ifF ?_ | with_reducible refine Lf.v_ifNT ?_ | with_reducible refine Lf.v_ifNF ?_ | with_reducible refine Lf.kP_int ?_ | with_reducible refine Lf.kP_bl ?_ | with_reducible refine Lf.kP_str ?_ | with_reducible refine Lf.kP_non ?_ | with_reducible refine Lf.v_iadd ?_ | with_reducible refine Lf.Wp.ok ?_ | with_reducible refine Lf.seq_wp ?_ | with_reducible refine Lf.v_bin ?_ | with_reducible refine Lf.v_cons ?_ | with_reducible refine Lf.v_call ?_ | with_reducible refine Lf.v_ret ?_ | with_reducible refine Lf.v_set ?_ | with_reducible refine Lf.v_asg ?_ | with_reducible refine Lf.v_if ?_ | with_reducible refine Lf.v_ifE ?_ | with_reducible refine Lf.v_bl ?_ | with_reducible refine Lf.v_tru ?_ | with_reducible refine Lf.v_and ?_ | with_reducible refine Lf.v_or ?_ | with_reducible refine Lf.v_not ?_ | with_reducible refine Lf.v_andV ?_ | with_reducible refine Lf.v_orV ?_ | with_reducible refine Lf.v_notV ?_ | with_reducible refine Lf.v_c ?_ | with_reducible refine Lf.v_nil ?_ | with_reducible refine Lf.v_skip ?_ | with_reducible refine Lf.v_drop ?_ | with_reducible refine Lf.v_retN ?_ | with_reducible refine Lf.v_brk ?_ | with_reducible refine Lf.v_cnt ?_ | with_reducible refine Lf.v_nm ?_ | with_reducible refine Lf.v_gnil ?_ | with_reducible refine Lf.v_gcons ?_ | with_reducible refine Lf.v_yes ?_ | with_reducible refine Lf.v_for ?_ | with_reducible refine Lf.v_lc ?_ | with_reducible refine Lf.v_rg ?_ | with_reducible refine Lf.v_iter ?_ | with_reducible refine Lf.v_iterT ?_ | with_reducible refine Lf.v_add ?_ | with_reducible refine Lf.v_sub ?_ | with_reducible refine Lf.v_neg ?_ | with_reducible refine Lf.v_lt ?_ | with_reducible refine Lf.v_le ?_ | with_reducible refine Lf.v_gt ?_ | with_reducible refine Lf.v_ge ?_ | with_reducible refine Lf.v_eqI ?_ | with_reducible refine Lf.v_neI ?_ | with_reducible refine Lf.v_abs ?_ | with_reducible refine Lf.v_intI ?_ | with_reducible refine Lf.v_intB ?_ | with_reducible refine Lf.v_max2 ?_ | with_reducible refine Lf.v_min2 ?_ | with_reducible refine Lf.v_lenT ?_ | with_reducible refine Lf.v_lenN ?_ | with_reducible refine Lf.v_nw ?_ | with_reducible refine Lf.v_un ?_ | with_reducible refine Lf.v_tup ?_ | with_reducible refine Lf.v_lst ?_ | with_reducible refine Lf.v_par2 ?_ | with_reducible refine Lf.v_par3 ?_ | with_reducible refine Lf.v_chain ?_ | with_reducible refine Lf.v_meth ?_ | with_reducible refine Lf.v_subT ?_ | with_reducible refine Lf.v_isiIB ?_ | with_reducible refine Lf.v_isiII ?_ | with_reducible refine Lf.v_sl ?_ | with_reducible refine Lf.v_noP ?_ | with_reducible refine Lf.v_pt ?_ | with_reducible refine Lf.v_cutT ?_ | ((with_reducible apply Lf.v_var); exact rfl) | ((with_reducible refine Lf.v_kw ?_ ?_); exact rfl) | ((with_reducible apply Lf.v_iterO); first | exact rfl | assumption) | ((with_reducible apply Lf.v_lenL); first | exact rfl | assumption) | ((with_reducible refine Lf.v_unp ?_ ?_); exact rfl) | ((with_reducible apply Lf.v_aug); exact rfl) | ((with_reducible refine Lf.v_mod ?_ ?_); first | decide | omega | assumption | fail) | ((with_reducible refine Lf.v_div ?_ ?_); first | exact ⟨by decide, by decide +kernel⟩ | assumption | exact Lf.log2d (by omega) ⟨by omega, by omega⟩ | fail) | ((with_reducible refine Lf.v_mul ?_ ?_); first | exact Lf.log2m ⟨by omega, by omega⟩ ⟨by omega, by omega⟩ | exact Lf.log2m (by assumption) ⟨by omega, by omega⟩ | exact Lf.log2m ⟨by omega, by omega⟩ (by assumption) | fail) | ((with_reducible refine Lf.v_pow ?_ ?_); exact ⟨by decide, by decide, by decide⟩) | ((with_reducible refine Lf.v_rg1 ?_ ?_); first | decide | fail) | ((with_reducible apply Lf.v_ixL); (first | exact rfl | assumption | fail); (first | exact rfl | assumption | fail)) | ((with_reducible apply Lf.v_ixT); (first | exact rfl | assumption | fail)) | ((with_reducible apply Lf.v_ixN); (first | exact rfl | assumption | fail)) | with_reducible refine ⟨_, rfl, ?_⟩ | (refine ⟨_, (rfl : Lf.tru _ (Lf.U.bl _) = some _), ?_⟩) | with_reducible refine ⟨_, _, rfl, ?_⟩ | with_reducible refine ⟨_, _, _, rfl, ?_⟩ | (refine ⟨(Nat.le_of_ble_eq_true rfl : List.length _ ≤ 16777216), ?_⟩) | with_reducible refine Lf.v_enum ?_ | fail))
include ha hA
end
end Lf
set_option Elab.async false
set_option linter.all false
set_option maxRecDepth 100000
set_option maxHeartbeats 4000000
namespace Lf
open PySem PySem.Spec L2
/-- a value whose text can be told: how deep, how long at most -/
def Rp (T : Sto) (u : U) (k b : Nat) : Prop := ∃ d, (∀ n, k ≤ n → dat T n u = some d) ∧ d.showable = true ∧ d.canLay0 = true ∧ d.depth ≤ k ∧ d.leavesShort 1930 = true ∧ d.bulk ≤ b ∧ ∀ ns, u ≠ .scr ns
def Rps (T : Sto) (us : List U) (k b : Nat) : Prop := ∃ ds, (∀ n, k ≤ n → dats (dat T n) us = some ds) ∧ PyData.showableAll ds = true ∧ PyData.canLayAll0 ds = true ∧ PyData.depthAll ds ≤ k ∧ PyData.leavesShortAll 1930 ds = true ∧ PyData.bulkAll ds ≤ b
section
variable {T : Sto}
theorem Rp.mono {u : U} {k b k' b' : Nat} (h : Rp T u k b) (hk : k ≤ k') (hb : b ≤ b') : Rp T u k' b' :=
  let ⟨d, h1, h2, h3, h4, h5, h6, h7⟩ := h; ⟨d, fun n hn => h1 n (Nat.le_trans hk hn), h2, h3, Nat.le_trans h4 hk, h5, Nat.le_trans h6 hb, h7⟩
theorem Rps.mono {u : List U} {k b k' b' : Nat} (h : Rps T u k b) (hk : k ≤ k') (hb : b ≤ b') : Rps T u k' b' :=
  let ⟨d, h1, h2, h3, h4, h5, h6⟩ := h; ⟨d, fun n hn => h1 n (Nat.le_trans hk hn), h2, h3, Nat.le_trans h4 hk, h5, Nat.le_trans h6 hb⟩
theorem Rp.int {i : Int} (h : i.natAbs.log2 < 1920) : Rp T (.int i) 0 0 := by
  refine ⟨.int i, fun n _ => dat_int i, by simp [PyData.showable, h], rfl, Nat.le_of_eq rfl, ?_, Nat.le_of_eq rfl, fun _ => U.noConfusion⟩
  simp only [PyData.leavesShort, decide_eq_true_eq]
  exact Nat.le_trans (PyProof.Rows.int_text_len_1921 h) (by decide)
theorem Rp.sm {i : Int} (h : Sm i) : Rp T (.int i) 0 0 := .int (by have := log2_small h; omega)
theorem Rp.non : Rp T .non 0 0 := ⟨.none, fun n _ => by cases n <;> rfl, rfl, rfl, Nat.le_of_eq rfl, rfl, Nat.le_of_eq rfl, fun _ => U.noConfusion⟩
theorem Rp.bl (b : Bool) : Rp T (.bl b) 0 0 := ⟨.bool b, fun n _ => by cases n <;> rfl, rfl, rfl, Nat.le_of_eq rfl, rfl, Nat.le_of_eq rfl, fun _ => U.noConfusion⟩
theorem Rp.str {x : Str} (h : PyData.strOk x = true) : Rp T (.str x) 0 x.cps.size := by
  refine ⟨.str x, fun n _ => dat_str x, rfl, h, Nat.le_of_eq rfl, ?_, Nat.le_of_eq rfl, fun _ => U.noConfusion⟩
  unfold PyData.strOk at h
  simp only [PyData.leavesShort, List.all_eq_true, decide_eq_true_eq]
  intro c hc
  rw [Array.all_eq_true] at h
  obtain ⟨i, hi, rfl⟩ := List.mem_iff_getElem.mp hc
  have := h i (by simpa using hi)
  simp only [decide_eq_true_eq] at this
  rw [Array.getElem_toList]
  omega
theorem Rps.nil : Rps T [] 0 0 := ⟨[], fun _ _ => rfl, rfl, rfl, Nat.le_of_eq rfl, rfl, Nat.le_of_eq rfl⟩
theorem Rps.cons {u : U} {us : List U} {k b c : Nat} (h : Rp T u k b) (h2 : Rps T us k c) : Rps T (u :: us) k (b + 1 + c) := by
  obtain ⟨d, a1, a2, a3, a4, a5, a6, _⟩ := h
  obtain ⟨ds, b1, b2, b3, b4, b5, b6⟩ := h2
  refine ⟨d :: ds, fun n hn => dats_cons (a1 n hn) (b1 n hn), ?_, ?_, ?_, ?_, ?_⟩
  · simp only [PyData.showableAll, a2, b2, Bool.and_self]
  · simp only [PyData.canLayAll0, a3, b3, Bool.and_self]
  · simp only [PyData.depthAll]; omega
  · simp only [PyData.leavesShortAll, a5, b5, Bool.and_self]
  · simp only [PyData.bulkAll]; omega
theorem Rp.tup {us : List U} {k b : Nat} (h : Rps T us k b) : Rp T (.tup us) (k + 1) b := by
  obtain ⟨ds, b1, b2, b3, b4, b5, b6⟩ := h
  refine ⟨.tuple ds, fun n hn => ?_, ?_, ?_, ?_, ?_, ?_, fun _ => U.noConfusion⟩
  · obtain ⟨n, rfl⟩ : ∃ m, n = m + 1 := ⟨n - 1, by omega⟩
    exact dat_tup (b1 n (by omega))
  · simpa only [PyData.showable] using b2
  · simpa only [PyData.canLay0] using b3
  · simp only [PyData.depth]; omega
  · simpa only [PyData.leavesShort] using b5
  · simpa only [PyData.bulk] using b6
theorem Rp.ob {us : List U} {i k b : Nat} (e : T[i]? = some (.lst us)) (h : Rps T us k b) : Rp T (.ob i) (k + 1) b := by
  obtain ⟨ds, b1, b2, b3, b4, b5, b6⟩ := h
  refine ⟨.list ds, fun n hn => ?_, ?_, ?_, ?_, ?_, ?_, fun _ => U.noConfusion⟩
  · obtain ⟨n, rfl⟩ : ∃ m, n = m + 1 := ⟨n - 1, by omega⟩
    show (match T[i]? with
      | some (.lst xs) => (dats (dat T n) xs).map PyData.list
      | _ => none) = _
    rw [e]
    show (dats (dat T n) us).map PyData.list = _
    rw [b1 n (by omega)]; rfl
  · simpa only [PyData.showable] using b2
  · simpa only [PyData.canLay0] using b3
  · simp only [PyData.depth]; omega
  · simpa only [PyData.leavesShort] using b5
  · simpa only [PyData.bulk] using b6
theorem Rps.all {us : List U} {k b : Nat} (h : ∀ u ∈ us, Rp T u k b) : Rps T us k (us.length * (b + 1)) := by
  induction us with
  | nil => exact Rps.mono .nil (Nat.zero_le _) (Nat.zero_le _)
  | cons u us ih =>
    refine Rps.mono (.cons (h u (List.mem_cons_self ..)) (ih fun v hv => h v (List.mem_cons_of_mem _ hv))) (Nat.le_refl _) ?_
    rw [List.length_cons, Nat.succ_mul]; omega
theorem Rps.ints {ns : List Int} (h : ∀ i ∈ ns, i.natAbs.log2 < 1920) : Rps T (ns.map .int) 0 ns.length := by
  have : Rps T (ns.map .int) 0 ((ns.map U.int).length * (0 + 1)) := Rps.all fun u hu => by
    obtain ⟨i, hi, rfl⟩ := List.mem_map.mp hu
    exact .int (h i hi)
  simpa using this
theorem Rps.app {us vs : List U} {k b c : Nat} (h : Rps T us k b) (h2 : Rps T vs k c) : Rps T (us ++ vs) k (b + c) := by
  obtain ⟨ds, a1, a2, a3, a4, a5, a6⟩ := h
  obtain ⟨es, b1, b2, b3, b4, b5, b6⟩ := h2
  have da : ∀ n, ∀ (us : List U) (ds : List PyData), dats (dat T n) us = some ds → dats (dat T n) vs = some es → dats (dat T n) (us ++ vs) = some (ds ++ es) := by
    intro n us
    induction us with
    | nil => intro ds e e2; cases e; exact e2
    | cons u us ih =>
      intro ds e e2
      unfold dats at e
      split at e
      · rename_i d ds' h1 h2
        cases e
        exact dats_cons h1 (ih _ h2 e2)
      · cases e
  refine ⟨ds ++ es, fun n hn => da n us ds (a1 n hn) (b1 n hn), ?_, ?_, ?_, ?_, ?_⟩
  · clear a1 a3 a4 a5 a6 da
    induction ds with
    | nil => exact b2
    | cons d ds ih => simp only [List.cons_append, PyData.showableAll, Bool.and_eq_true] at a2 ⊢; exact ⟨a2.1, ih a2.2⟩
  · clear a1 a2 a4 a5 a6 da
    induction ds with
    | nil => exact b3
    | cons d ds ih => simp only [List.cons_append, PyData.canLayAll0, Bool.and_eq_true] at a3 ⊢; exact ⟨a3.1, ih a3.2⟩
  · clear a1 a2 a3 a5 a6 da
    induction ds with
    | nil => exact b4
    | cons d ds ih => simp only [List.cons_append, PyData.depthAll] at a4 ⊢; have := ih (by omega); omega
  · clear a1 a2 a3 a4 a6 da
    induction ds with
    | nil => exact b5
    | cons d ds ih => simp only [List.cons_append, PyData.leavesShortAll, Bool.and_eq_true] at a5 ⊢; exact ⟨a5.1, ih a5.2⟩
  · clear a1 a2 a3 a4 a5 da
    have : ∀ ds : List PyData, PyData.bulkAll (ds ++ es) = PyData.bulkAll ds + PyData.bulkAll es := by
      intro ds
      induction ds with
      | nil => simp [PyData.bulkAll]
      | cons d ds ih => simp only [List.cons_append, PyData.bulkAll, ih]; omega
    rw [this]; omega
theorem Rp.op {x : U} (h : Op x) : Rp T x 1 9 := by
  obtain ⟨w, is, rfl, hw, hl, hi⟩ := h
  have h1 : Rps T (is.map .int) 0 is.length := Rps.ints fun i h => by
    have := log2_small (i := i) ⟨by have := hi i h; omega, by have := hi i h; omega⟩
    omega
  have hs : ∀ w ∈ words7, w.cps.size ≤ 5 := by decide +kernel
  have := hs w hw
  exact Rp.mono (.tup (.cons (.str (words7_ok w hw)) h1)) (by omega) (by omega)
def bkP : Nat → Nat → Nat
  | 0, l => 10 * l
  | d + 1, l => l * (10 + bkP d (l / 2))
theorem Rps.prog {A : U → Prop} {R : Int → Prop} (hA : ∀ x, A x → Op x) (hR : ∀ k, R k → Rd k) : ∀ {d l : Nat} {xs : List U}, Pr A R d l xs → Rps T xs (2 * d + 1) (bkP d l)
  | 0, l, xs, h => by
    refine Rps.mono (Rps.all (b := 9) fun u hu => Rp.op (hA u (h.2 u hu))) (by omega) ?_
    have := h.1
    unfold bkP
    omega
  | d + 1, l, xs, h => by
    have hb : ∀ u ∈ xs, Rp T u (2 * (d + 1) + 1) (9 + bkP d (l / 2)) := fun u hu => by
      rcases h.2 u hu with h | ⟨k, b, rfl, hk, hb⟩
      · exact Rp.mono (.op (hA u h)) (by omega) (by omega)
      · have hk := hR k hk
        have hb : Pr A R d ((l / 2 : Nat) : Int) b := by rw [show ((l / 2 : Nat) : Int) = (l : Int) / 2 by omega]; exact hb
        have h1 := Rps.prog hA hR hb
        have hs : (Str.ofString "loop").cps.size = 4 := by decide +kernel
        have h3 : Rps T [.str "loop", .int k, .tup b] (2 * d + 2) ((Str.ofString "loop").cps.size + 1 + (0 + 1 + (bkP d (l / 2) + 1 + 0))) :=
          .cons (Rp.mono (.str lp_str) (Nat.zero_le _) (Nat.le_refl _)) (.cons (Rp.mono (.sm ⟨by have := hk.1; omega, by have := hk.2; omega⟩) (Nat.zero_le _) (Nat.le_refl _)) (.cons (.tup h1) (Rps.mono .nil (Nat.zero_le _) (Nat.le_refl _))))
        exact Rp.mono (.tup h3) (by omega) (by omega)
    refine Rps.mono (Rps.all hb) (Nat.le_refl _) ?_
    have hl : xs.length ≤ l := by have := h.1; omega
    have := Nat.mul_le_mul_right (10 + bkP d (l / 2)) hl
    show _ ≤ l * (10 + bkP d (l / 2))
    rw [show 9 + bkP d (l / 2) + 1 = 10 + bkP d (l / 2) by omega]
    exact this
end
mutual
theorem dat_nr {T T' : Sto} : ∀ (n : Nat) (u : U), nr u = true → dat T n u = dat T' n u
  | n, .non, _ => by cases n <;> rfl
  | n, .bl _, _ => by cases n <;> rfl
  | n, .int _, _ => by cases n <;> rfl
  | n, .str _, _ => by cases n <;> rfl
  | 0, .tup _, _ => rfl
  | n + 1, .tup us, h => by
    show (dats (dat T n) us).map PyData.tuple = (dats (dat T' n) us).map PyData.tuple
    rw [dats_nr n us h]
  | n, .ob _, h => by cases h
  | n, .scr _, _ => by cases n <;> rfl
  | n, .raw _, _ => by cases n <;> rfl
theorem dats_nr {T T' : Sto} : ∀ (n : Nat) (us : List U), nrs us = true → dats (dat T n) us = dats (dat T' n) us
  | _, [], _ => rfl
  | n, u :: us, h => by
    have h : (nr u && nrs us) = true := h
    rw [Bool.and_eq_true] at h
    unfold dats
    rw [dat_nr (T := T) (T' := T') n u h.1, dats_nr n us h.2]
end
theorem Rp.nr {T T' : Sto} {u : U} {k b : Nat} (h : Rp T u k b) (hn : Lf.nr u = true) : Rp T' u k b :=
  let ⟨d, h1, h2⟩ := h; ⟨d, fun n hn' => by rw [← dat_nr (T := T) (T' := T') n u hn]; exact h1 n hn', h2⟩
local macro_rules | `(tactic| bv_omega) => `(tactic| repeat (first | with_reducible refine Lf.kS_nx ?_ | with_reducible refine Lf.kS_rt ?_ | with_reducible refine Lf.kS_bk ?_ | with_reducible refine Lf.kS_ct ?_ | with_reducible refine Lf.kD_rt ?_ | with_reducible refine Lf.kD_nx ?_ | with_reducible refine Lf.kF_nx ?_ | with_reducible refine Lf.kF_ct ?_ | with_reducible refine Lf.kF_bk ?_ | with_reducible refine Lf.kF_rt ?_ | with_reducible refine Lf.v_ifT ?_ | with_reducible refine Lf.v_ifF ?_ | with_reducible refine Lf.v_ifNT ?_ | with_reducible refine Lf.v_ifNF ?_ | with_reducible refine Lf.kP_int ?_ | with_reducible refine Lf.kP_bl ?_ | with_reducible refine Lf.kP_str ?_ | with_reducible refine Lf.kP_non ?_ | with_reducible refine Lf.v_iadd ?_ | with_reducible refine Lf.Wp.ok ?_ | with_reducible refine Lf.seq_wp ?_ | with_reducible refine Lf.v_bin ?_ | with_reducible refine Lf.v_cons ?_ | with_reducible refine Lf.v_call ?_ | with_reducible refine Lf.v_ret ?_ | with_reducible refine Lf.v_set ?_ | with_reducible refine Lf.v_asg ?_ | with_reducible refine Lf.v_if ?_ | with_reducible refine Lf.v_ifE ?_ | with_reducible refine Lf.v_bl ?_ | with_reducible refine Lf.v_tru ?_ | with_reducible refine Lf.v_and ?_ | with_reducible refine Lf.v_or ?_ | with_reducible refine Lf.v_not ?_ | with_reducible refine Lf.v_andV ?_ | with_reducible refine Lf.v_orV ?_ | with_reducible refine Lf.v_notV ?_ | with_reducible refine Lf.v_c ?_ | with_reducible refine Lf.v_nil ?_ | with_reducible refine Lf.v_skip ?_ | with_reducible refine Lf.v_drop ?_ | with_reducible refine Lf.v_retN ?_ | with_reducible refine Lf.v_brk ?_ | with_reducible refine Lf.v_cnt ?_ | with_reducible refine Lf.v_nm ?_ | with_reducible refine Lf.v_gnil ?_ | with_reducible refine Lf.v_gcons ?_ | with_reducible refine Lf.v_yes ?_ | with_reducible refine Lf.v_for ?_ | with_reducible refine Lf.v_lc ?_ | with_reducible refine Lf.v_rg ?_ | with_reducible refine Lf.v_iter ?_ | with_reducible refine Lf.v_iterT ?_ | with_reducible refine Lf.v_add ?_ | with_reducible refine Lf.v_sub ?_ | with_reducible refine Lf.v_neg ?_ | with_reducible refine Lf.v_lt ?_ | with_reducible refine Lf.v_le ?_ | with_reducible refine Lf.v_gt ?_ | with_reducible refine Lf.v_ge ?_ | with_reducible refine Lf.v_eqI ?_ | with_reducible refine Lf.v_neI ?_ | with_reducible refine Lf.v_abs ?_ | with_reducible refine Lf.v_intI ?_ | with_reducible refine Lf.v_intB ?_ | with_reducible refine Lf.v_max2 ?_ | with_reducible refine Lf.v_min2 ?_ | with_reducible refine Lf.v_lenT ?_ | with_reducible refine Lf.v_lenN ?_ | with_reducible refine Lf.v_nw ?_ | with_reducible refine Lf.v_un ?_ | with_reducible refine Lf.v_tup ?_ | with_reducible refine Lf.v_lst ?_ | with_reducible refine Lf.v_par2 ?_ | with_reducible refine Lf.v_par3 ?_ | with_reducible refine Lf.v_chain ?_ | with_reducible refine Lf.v_meth ?_ | with_reducible refine Lf.v_subT ?_ | with_reducible refine Lf.v_isiIB ?_ | with_reducible refine Lf.v_isiII ?_ | with_reducible refine Lf.v_sl ?_ | with_reducible refine Lf.v_noP ?_ | with_reducible refine Lf.v_pt ?_ | with_reducible refine Lf.v_cutT ?_ | ((with_reducible apply Lf.v_var); exact rfl) | ((with_reducible refine Lf.v_kw ?_ ?_); exact rfl) | ((with_reducible apply Lf.v_iterO); first | exact rfl | assumption) | ((with_reducible apply Lf.v_lenL); first | exact rfl | assumption) | ((with_reducible refine Lf.v_unp ?_ ?_); exact rfl) | ((with_reducible apply Lf.v_aug); exact rfl) | ((with_reducible refine Lf.v_mod ?_ ?_); first | decide | omega | assumption | fail) | ((with_reducible refine Lf.v_div ?_ ?_); first | exact ⟨by decide, by decide +kernel⟩ | assumption | exact Lf.log2d (by omega) ⟨by omega, by omega⟩ | fail) | ((with_reducible refine Lf.v_mul ?_ ?_); first | exact Lf.log2m ⟨by omega, by omega⟩ ⟨by omega, by omega⟩ | exact Lf.log2m (by assumption) ⟨by omega, by omega⟩ | exact Lf.log2m ⟨by omega, by omega⟩ (by assumption) | fail) | ((with_reducible refine Lf.v_pow ?_ ?_); exact ⟨by decide, by decide, by decide⟩) | ((with_reducible refine Lf.v_rg1 ?_ ?_); first | decide | fail) | ((with_reducible apply Lf.v_ixL); (first | exact rfl | assumption | fail); (first | exact rfl | assumption | fail)) | ((with_reducible apply Lf.v_ixT); (first | exact rfl | assumption | fail)) | ((with_reducible apply Lf.v_ixN); (first | exact rfl | assumption | fail)) | with_reducible refine ⟨_, rfl, ?_⟩ | (refine ⟨_, (rfl : Lf.tru _ (Lf.U.bl _) = some _), ?_⟩) | with_reducible refine ⟨_, _, rfl, ?_⟩ | with_reducible refine ⟨_, _, _, rfl, ?_⟩ | (refine ⟨(Nat.le_of_ble_eq_true rfl : List.length _ ≤ 16777216), ?_⟩) | with_reducible refine Lf.v_enum ?_ | with_reducible refine Lf.v_eqS0 ?_ | with_reducible refine Lf.v_neT ?_ | with_reducible refine Lf.v_ix0 ?_ | with_reducible refine Lf.v_tupleT ?_ | with_reducible refine Lf.v_listT ?_ | with_reducible refine Lf.v_revT ?_ | with_reducible refine Lf.v_dic0 ?_ | with_reducible refine Lf.v_dic1 ?_ | with_reducible refine Lf.v_mkE ?_ | with_reducible refine Lf.v_mkE0 ?_ | with_reducible refine Lf.v_fldS ?_ | with_reducible refine Lf.v_fldAug ?_ | with_reducible refine Lf.v_mkC ?_ | with_reducible refine Lf.v_mkW ?_ | with_reducible refine Lf.v_mth ?_ | with_reducible refine Lf.v_getK ?_ | with_reducible refine Lf.v_dic1K ?_ | with_reducible refine Lf.v_items ?_ | with_reducible refine Lf.v_subTD ?_ | with_reducible refine Lf.v_subTT ?_ | with_reducible refine Lf.v_enT ?_ | with_reducible refine Lf.v_enTT ?_ | ((with_reducible apply Lf.v_fld); (first | assumption | fail); (first | assumption | exact List.mem_cons_self .. | simp | fail); (first | rfl | decide +kernel | fail)) | ((with_reducible apply Lf.isl_and); (first | exact rfl | assumption | fail)) | ((with_reducible refine Lf.v_idiv ?_ ?_); exact ⟨by decide, by decide⟩) | ((with_reducible apply Lf.v_appZ); (first | exact rfl | assumption | fail); (first | omega | (simp only [List.length_append, List.length_map, List.length_cons, List.length_nil]; omega) | (simp; omega) | fail)) | ((with_reducible apply Lf.v_tupleL); (first | exact rfl | assumption | fail)) | ((with_reducible apply Lf.v_listL); (first | exact rfl | assumption | fail)) | ((with_reducible refine Lf.v_yesd ?_ ?_); (first | (with_reducible rfl) | assumption | (exact fun z => z rfl) | decide +kernel | omega | fail)) | ((with_reducible refine Lf.v_nod ?_ ?_); (first | (with_reducible rfl) | assumption | (exact fun z => z rfl) | decide +kernel | omega | fail)) | ((with_reducible refine Lf.v_yesn ?_ ?_); (first | (with_reducible rfl) | assumption | (exact fun z => z rfl) | decide +kernel | omega | fail)) | ((with_reducible refine Lf.v_non ?_ ?_); (first | (with_reducible rfl) | assumption | (exact fun z => z rfl) | decide +kernel | omega | fail)) | ((with_reducible refine Lf.kP_tup ?_ ?_); first | exact rfl | exact Lf.nrs_ints _ | assumption | fail) | ((with_reducible refine Lf.v_rg1 ?_ ?_); exact Lf.small62_of (by omega) (by omega)) | fail))
local macro_rules | `(tactic| rfl') => `(tactic| repeat (first | with_reducible refine Lf.kS_nx ?_ | with_reducible refine Lf.kS_rt ?_ | with_reducible refine Lf.kS_bk ?_ | with_reducible refine Lf.kS_ct ?_ | with_reducible refine Lf.kD_rt ?_ | with_reducible refine Lf.kD_nx ?_ | with_reducible refine Lf.kF_nx ?_ | with_reducible refine Lf.kF_ct ?_ | with_reducible refine Lf.kF_bk ?_ | with_reducible refine Lf.kF_rt ?_ | with_reducible refine Lf.v_ifT ?_ | with_reducible refine Lf.v_ifF ?_ | with_reducible refine Lf.v_ifNT ?_ | with_reducible refine Lf.v_ifNF ?_ | with_reducible refine Lf.kP_int ?_ | with_reducible refine Lf.kP_bl ?_ | with_reducible refine Lf.kP_str ?_ | with_reducible refine Lf.kP_non ?_ | with_reducible refine Lf.v_iadd ?_ | with_reducible refine Lf.Wp.ok ?_ | with_reducible refine Lf.seq_wp ?_ | with_reducible refine Lf.v_bin ?_ | with_reducible refine Lf.v_cons ?_ | with_reducible refine Lf.v_call ?_ | with_reducible refine Lf.v_ret ?_ | with_reducible refine Lf.v_set ?_ | with_reducible refine Lf.v_asg ?_ | with_reducible refine Lf.v_if ?_ | with_reducible refine Lf.v_ifE ?_ | with_reducible refine Lf.v_bl ?_ | with_reducible refine Lf.v_tru ?_ | with_reducible refine Lf.v_and ?_ | with_reducible refine Lf.v_or ?_ | with_reducible refine Lf.v_not ?_ | with_reducible refine Lf.v_andV ?_ | with_reducible refine Lf.v_orV ?_ | with_reducible refine Lf.v_notV ?_ | with_reducible refine Lf.v_c ?_ | with_reducible refine Lf.v_nil ?_ | with_reducible refine Lf.v_skip ?_ | with_reducible refine Lf.v_drop ?_ | with_reducible refine Lf.v_retN ?_ | with_reducible refine Lf.v_brk ?_ | with_reducible refine Lf.v_cnt ?_ | with_reducible refine Lf.v_nm ?_ | with_reducible refine Lf.v_gnil ?_ | with_reducible refine Lf.v_gcons ?_ | with_reducible refine Lf.v_yes ?_ | with_reducible refine Lf.v_for ?_ | with_reducible refine Lf.v_lc ?_ | with_reducible refine Lf.v_rg ?_ | with_reducible refine Lf.v_iter ?_ | with_reducible refine Lf.v_iterT ?_ | with_reducible refine Lf.v_add ?_ | with_reducible refine Lf.v_sub ?_ | with_reducible refine Lf.v_neg ?_ | with_reducible refine Lf.v_lt ?_ | with_reducible refine Lf.v_le ?_ | with_reducible refine Lf.v_gt ?_ | with_reducible refine Lf.v_ge ?_ | with_reducible refine Lf.v_eqI ?_ | with_reducible refine Lf.v_neI ?_ | with_reducible refine Lf.v_abs ?_ | with_reducible refine Lf.v_intI ?_ | with_reducible refine Lf.v_intB ?_ | with_reducible refine Lf.v_max2 ?_ | with_reducible refine Lf.v_min2 ?_ | with_reducible refine Lf.v_lenT ?_ | with_reducible refine Lf.v_lenN ?_ | with_reducible refine Lf.v_nw ?_ | with_reducible refine Lf.v_un ?_ | with_reducible refine Lf.v_tup ?_ | with_reducible refine Lf.v_lst ?_ | with_reducible refine Lf.v_par2 ?_ | with_reducible refine Lf.v_par3 ?_ | with_reducible refine Lf.v_chain ?_ | with_reducible refine Lf.v_meth ?_ | with_reducible refine Lf.v_subT ?_ | with_reducible refine Lf.v_isiIB ?_ | with_reducible refine Lf.v_isiII ?_ | with_reducible refine Lf.v_sl ?_ | with_reducible refine Lf.v_noP ?_ | with_reducible refine Lf.v_pt ?_ | with_reducible refine Lf.v_cutT ?_ | ((with_reducible apply Lf.v_var); exact rfl) | ((with_reducible refine Lf.v_kw ?_ ?_); exact rfl) | ((with_reducible apply Lf.v_iterO); first | exact rfl | assumption) | ((with_reducible apply Lf.v_lenL); first | exact rfl | assumption) | ((with_reducible refine Lf.v_unp ?_ ?_); exact rfl) | ((with_reducible apply Lf.v_aug); exact rfl) | ((with_reducible refine Lf.v_mod ?_ ?_); first | decide | omega | assumption | fail) | ((with_reducible refine Lf.v_div ?_ ?_); first | exact ⟨by decide, by decide +kernel⟩ | assumption | exact Lf.log2d (by omega) ⟨by omega, by omega⟩ | fail) | ((with_reducible refine Lf.v_mul ?_ ?_); first | exact Lf.log2m ⟨by omega, by omega⟩ ⟨by omega, by omega⟩ | exact Lf.log2m (by assumption) ⟨by omega, by omega⟩ | exact Lf.log2m ⟨by omega, by omega⟩ (by assumption) | fail) | ((with_reducible refine Lf.v_pow ?_ ?_); exact ⟨by decide, by decide, by decide⟩) | ((with_reducible refine Lf.v_rg1 ?_ ?_); first | decide | fail) | ((with_reducible apply Lf.v_ixL); (first | exact rfl | assumption | fail); (first | exact rfl | assumption | fail)) | ((with_reducible apply Lf.v_ixT); (first | exact rfl | assumption | fail)) | ((with_reducible apply Lf.v_ixN); (first | exact rfl | assumption | fail)) | with_reducible refine ⟨_, rfl, ?_⟩ | (refine ⟨_, (rfl : Lf.tru _ (Lf.U.bl _) = some _), ?_⟩) | with_reducible refine ⟨_, _, rfl, ?_⟩ | with_reducible refine ⟨_, _, _, rfl, ?_⟩ | (refine ⟨(Nat.le_of_ble_eq_true rfl : List.length _ ≤ 16777216), ?_⟩) | with_reducible refine Lf.v_enum ?_ | fail))
end Lf
set_option Elab.async false
set_option linter.all false
set_option maxRecDepth 100000
set_option maxHeartbeats 4000000
namespace Lf
open PySem PySem.Spec L2
local macro_rules | `(tactic| rfl') => `(tactic| repeat (first | with_reducible refine Lf.kS_nx ?_ | with_reducible refine Lf.kS_rt ?_ | with_reducible refine Lf.kS_bk ?_ | with_reducible refine Lf.kS_ct ?_ | with_reducible refine Lf.kD_rt ?_ | with_reducible refine Lf.kD_nx ?_ | with_reducible refine Lf.kF_nx ?_ | with_reducible refine Lf.kF_ct ?_ | with_reducible refine Lf.kF_bk ?_ | with_reducible refine Lf.kF_rt ?_ | with_reducible refine Lf.v_ifT ?_ | with_reducible refine Lf.v_ifF ?_ | with_reducible refine Lf.v_ifNT ?_ | with_reducible refine Lf.v_ifNF ?_ | with_reducible refine Lf.kP_int ?_ | with_reducible refine Lf.kP_bl ?_ | with_reducible refine Lf.kP_str ?_ | with_reducible refine Lf.kP_non ?_ | with_reducible refine Lf.v_iadd ?_ | with_reducible refine Lf.Wp.ok ?_ | with_reducible refine Lf.seq_wp ?_ | with_reducible refine Lf.v_bin ?_ | with_reducible refine Lf.v_cons ?_ | with_reducible refine Lf.v_call ?_ | with_reducible refine Lf.v_ret ?_ | with_reducible refine Lf.v_set ?_ | with_reducible refine Lf.v_asg ?_ | with_reducible refine Lf.v_if ?_ | with_reducible refine Lf.v_ifE ?_ | with_reducible refine Lf.v_bl ?_ | with_reducible refine Lf.v_tru ?_ | with_reducible refine Lf.v_and ?_ | with_reducible refine Lf.v_or ?_ | with_reducible refine Lf.v_not ?_ | with_reducible refine Lf.v_andV ?_ | with_reducible refine Lf.v_orV ?_ | with_reducible refine Lf.v_notV ?_ | with_reducible refine Lf.v_c ?_ | with_reducible refine Lf.v_nil ?_ | with_reducible refine Lf.v_skip ?_ | with_reducible refine Lf.v_drop ?_ | with_reducible refine Lf.v_retN ?_ | with_reducible refine Lf.v_brk ?_ | with_reducible refine Lf.v_cnt ?_ | with_reducible refine Lf.v_nm ?_ | with_reducible refine Lf.v_gnil ?_ | with_reducible refine Lf.v_gcons ?_ | with_reducible refine Lf.v_yes ?_ | with_reducible refine Lf.v_for ?_ | with_reducible refine Lf.v_lc ?_ | with_reducible refine Lf.v_rg ?_ | with_reducible refine Lf.v_iter ?_ | with_reducible refine Lf.v_iterT ?_ | with_reducible refine Lf.v_add ?_ | with_reducible refine Lf.v_sub ?_ | with_reducible refine Lf.v_neg ?_ | with_reducible refine Lf.v_lt ?_ | with_reducible refine Lf.v_le ?_ | with_reducible refine Lf.v_gt ?_ | with_reducible refine Lf.v_ge ?_ | with_reducible refine Lf.v_eqI ?_ | with_reducible refine Lf.v_neI ?_ | with_reducible refine Lf.v_abs ?_ | with_reducible refine Lf.v_intI ?_ | with_reducible refine Lf.v_intB ?_ | with_reducible refine Lf.v_max2 ?_ | with_reducible refine Lf.v_min2 ?_ | with_reducible refine Lf.v_lenT ?_ | with_reducible refine Lf.v_lenN ?_ | with_reducible refine Lf.v_nw ?_ | with_reducible refine Lf.v_un ?_ | with_reducible refine Lf.v_tup ?_ | with_reducible refine Lf.v_lst ?_ | with_reducible refine Lf.v_par2 ?_ | with_reducible refine Lf.v_par3 ?_ | with_reducible refine Lf.v_chain ?_ | with_reducible refine Lf.v_meth ?_ | with_reducible refine Lf.v_subT ?_ | with_reducible refine Lf.v_isiIB ?_ | with_reducible refine Lf.v_isiII ?_ | with_reducible refine Lf.v_sl ?_ | with_reducible refine Lf.v_noP ?_ | with_reducible refine Lf.v_pt ?_ | with_reducible refine Lf.v_cutT ?_ | ((with_reducible apply Lf.v_var); exact rfl) | ((with_reducible refine Lf.v_kw ?_ ?_); exact rfl) | ((with_reducible apply Lf.v_iterO); first | exact rfl | assumption) | ((with_reducible apply Lf.v_lenL); first | exact rfl | assumption) | ((with_reducible refine Lf.v_unp ?_ ?_); exact rfl) | ((with_reducible apply Lf.v_aug); exact rfl) | ((with_reducible refine Lf.v_mod ?_ ?_); first | decide | omega | assumption | fail) | ((with_reducible refine Lf.v_div ?_ ?_); first | exact ⟨by decide, by decide +kernel⟩ | assumption | exact Lf.log2d (by omega) ⟨by omega, by omega⟩ | fail) | ((with_reducible refine Lf.v_mul ?_ ?_); first | exact Lf.log2m ⟨by omega, by omega⟩ ⟨by omega, by omega⟩ | exact Lf.log2m (by assumption) ⟨by omega, by omega⟩ | exact Lf.log2m ⟨by omega, by omega⟩ (by assumption) | fail) | ((with_reducible refine Lf.v_pow ?_ ?_); exact ⟨by decide, by decide, by decide⟩) | ((with_reducible refine Lf.v_rg1 ?_ ?_); first | decide | fail) | ((with_reducible apply Lf.v_ixL); (first | exact rfl | assumption | fail); (first | exact rfl | assumption | fail)) | ((with_reducible apply Lf.v_ixT); (first | exact rfl | assumption | fail)) | ((with_reducible apply Lf.v_ixN); (first | exact rfl | assumption | fail)) | with_reducible refine ⟨_, rfl, ?_⟩ | (refine ⟨_, (rfl : Lf.tru _ (Lf.U.bl _) = some _), ?_⟩) | with_reducible refine ⟨_, _, rfl, ?_⟩ | with_reducible refine ⟨_, _, _, rfl, ?_⟩ | (refine ⟨(Nat.le_of_ble_eq_true rfl : List.length _ ≤ 16777216), ?_⟩) | with_reducible refine Lf.v_enum ?_ | fail))
local macro_rules | `(tactic| bv_omega) => `(tactic| repeat (first | with_reducible refine Lf.kS_nx ?_ | with_reducible refine Lf.kS_rt ?_ | with_reducible refine Lf.kS_bk ?_ | with_reducible refine Lf.kS_ct ?_ | with_reducible refine Lf.kD_rt ?_ | with_reducible refine Lf.kD_nx ?_ | with_reducible refine Lf.kF_nx ?_ | with_reducible refine Lf.kF_ct ?_ | with_reducible refine Lf.kF_bk ?_ | with_reducible refine Lf.kF_rt ?_ | with_reducible refine Lf.v_ifT ?_ | with_reducible refine Lf.v_ifF ?_ | with_reducible refine Lf.v_ifNT ?_ | with_reducible refine Lf.v_ifNF ?_ | with_reducible refine Lf.kP_int ?_ | with_reducible refine Lf.kP_bl ?_ | with_reducible refine Lf.kP_str ?_ | with_reducible refine Lf.kP_non ?_ | with_reducible refine Lf.v_iadd ?_ | with_reducible refine Lf.Wp.ok ?_ | with_reducible refine Lf.seq_wp ?_ | with_reducible refine Lf.v_bin ?_ | with_reducible refine Lf.v_cons ?_ | with_reducible refine Lf.v_call ?_ | with_reducible refine Lf.v_ret ?_ | with_reducible refine Lf.v_set ?_ | with_reducible refine Lf.v_asg ?_ | with_reducible refine Lf.v_if ?_ | with_reducible refine Lf.v_ifE ?_ | with_reducible refine Lf.v_bl ?_ | with_reducible refine Lf.v_tru ?_ | with_reducible refine Lf.v_and ?_ | with_reducible refine Lf.v_or ?_ | with_reducible refine Lf.v_not ?_ | with_reducible refine Lf.v_andV ?_ | with_reducible refine Lf.v_orV ?_ | with_reducible refine Lf.v_notV ?_ | with_reducible refine Lf.v_c ?_ | with_reducible refine Lf.v_nil ?_ | with_reducible refine Lf.v_skip ?_ | with_reducible refine Lf.v_drop ?_ | with_reducible refine Lf.v_retN ?_ | with_reducible refine Lf.v_brk ?_ | with_reducible refine Lf.v_cnt ?_ | with_reducible refine Lf.v_nm ?_ | with_reducible refine Lf.v_gnil ?_ | with_reducible refine Lf.v_gcons ?_ | with_reducible refine Lf.v_yes ?_ | with_reducible refine Lf.v_for ?_ | with_reducible refine Lf.v_lc ?_ | with_reducible refine Lf.v_rg ?_ | with_reducible refine Lf.v_iter ?_ | with_reducible refine Lf.v_iterT ?_ | with_reducible refine Lf.v_add ?_ | with_reducible refine Lf.v_sub ?_ | with_reducible refine Lf.v_neg ?_ | with_reducible refine Lf.v_lt ?_ | with_reducible refine Lf.v_le ?_ | with_reducible refine Lf.v_gt ?_ | with_reducible refine Lf.v_ge ?_ | with_reducible refine Lf.v_eqI ?_ | with_reducible refine Lf.v_neI ?_ | with_reducible refine Lf.v_abs ?_ | with_reducible refine Lf.v_intI ?_ | with_reducible refine Lf.v_intB ?_ | with_reducible refine Lf.v_max2 ?_ | with_reducible refine Lf.v_min2 ?_ | with_reducible refine Lf.v_lenT ?_ | with_reducible refine Lf.v_lenN ?_ | with_reducible refine Lf.v_nw ?_ | with_reducible refine Lf.v_un ?_ | with_reducible refine Lf.v_tup ?_ | with_reducible refine Lf.v_lst ?_ | with_reducible refine Lf.v_par2 ?_ | with_reducible refine Lf.v_par3 ?_ | with_reducible refine Lf.v_chain ?_ | with_reducible refine Lf.v_meth ?_ | with_reducible refine Lf.v_subT ?_ | with_reducible refine Lf.v_isiIB ?_ | with_reducible refine Lf.v_isiII ?_ | with_reducible refine Lf.v_sl ?_ | with_reducible refine Lf.v_noP ?_ | with_reducible refine Lf.v_pt ?_ | with_reducible refine Lf.v_cutT ?_ | ((with_reducible apply Lf.v_var); exact rfl) | ((with_reducible refine Lf.v_kw ?_ ?_); exact rfl) | ((with_reducible apply Lf.v_iterO); first | exact rfl | assumption) | ((with_reducible apply Lf.v_lenL); first | exact rfl | assumption) | ((with_reducible refine Lf.v_unp ?_ ?_); exact rfl) | ((with_reducible apply Lf.v_aug); exact rfl) | ((with_reducible refine Lf.v_mod ?_ ?_); first | decide | omega | assumption | fail) | ((with_reducible refine Lf.v_div ?_ ?_); first | exact ⟨by decide, by decide +kernel⟩ | assumption | exact Lf.log2d (by omega) ⟨by omega, by omega⟩ | fail) | ((with_reducible refine Lf.v_mul ?_ ?_); first | exact Lf.log2m ⟨by omega, by omega⟩ ⟨by omega, by omega⟩ | exact Lf.log2m (by assumption) ⟨by omega, by omega⟩ | exact Lf.log2m ⟨by omega, by omega⟩ (by assumption) | fail) | ((with_reducible refine Lf.v_pow ?_ ?_); exact ⟨by decide, by decide, by decide⟩) | ((with_reducible refine Lf.v_rg1 ?_ ?_); first | decide | fail) | ((with_reducible apply Lf.v_ixL); (first | exact rfl | assumption | fail); (first | exact rfl | assumption | fail)) | ((with_reducible apply Lf.v_ixT); (first | exact rfl | assumption | fail)) | ((with_reducible apply Lf.v_ixN); (first | exact rfl | assumption | fail)) | with_reducible refine ⟨_, rfl, ?_⟩ | (refine ⟨_, (rfl : Lf.tru _ (Lf.U.bl _) = some _), ?_⟩) | with_reducible refine ⟨_, _, rfl, ?_⟩ | with_reducible refine ⟨_, _, _, rfl, ?_⟩ | (refine ⟨(Nat.le_of_ble_eq_true rfl : List.length _ ≤ 16777216), ?_⟩) | with_reducible refine Lf.v_enum ?_ | with_reducible refine Lf.v_eqS0 ?_ | with_reducible refine Lf.v_neT ?_ | with_reducible refine Lf.v_ix0 ?_ | with_reducible refine Lf.v_tupleT ?_ | with_reducible refine Lf.v_listT ?_ | with_reducible refine Lf.v_revT ?_ | with_reducible refine Lf.v_dic0 ?_ | with_reducible refine Lf.v_dic1 ?_ | with_reducible refine Lf.v_mkE ?_ | with_reducible refine Lf.v_mkE0 ?_ | with_reducible refine Lf.v_fldS ?_ | with_reducible refine Lf.v_fldAug ?_ | with_reducible refine Lf.v_mkC ?_ | with_reducible refine Lf.v_mkW ?_ | with_reducible refine Lf.v_mth ?_ | with_reducible refine Lf.v_getK ?_ | with_reducible refine Lf.v_dic1K ?_ | with_reducible refine Lf.v_items ?_ | with_reducible refine Lf.v_subTD ?_ | with_reducible refine Lf.v_subTT ?_ | with_reducible refine Lf.v_enT ?_ | with_reducible refine Lf.v_enTT ?_ | ((with_reducible apply Lf.v_fld); (first | assumption | fail); (first | assumption | exact List.mem_cons_self .. | simp | fail); (first | rfl | decide +kernel | fail)) | ((with_reducible apply Lf.isl_and); (first | exact rfl | assumption | fail)) | ((with_reducible refine Lf.v_idiv ?_ ?_); exact ⟨by decide, by decide⟩) | ((with_reducible apply Lf.v_appZ); (first | exact rfl | assumption | fail); (first | omega | (simp only [List.length_append, List.length_map, List.length_cons, List.length_nil]; omega) | (simp; omega) | fail)) | ((with_reducible apply Lf.v_tupleL); (first | exact rfl | assumption | fail)) | ((with_reducible apply Lf.v_listL); (first | exact rfl | assumption | fail)) | ((with_reducible refine Lf.v_yesd ?_ ?_); (first | (with_reducible rfl) | assumption | (exact fun z => z rfl) | decide +kernel | omega | fail)) | ((with_reducible refine Lf.v_nod ?_ ?_); (first | (with_reducible rfl) | assumption | (exact fun z => z rfl) | decide +kernel | omega | fail)) | ((with_reducible refine Lf.v_yesn ?_ ?_); (first | (with_reducible rfl) | assumption | (exact fun z => z rfl) | decide +kernel | omega | fail)) | ((with_reducible refine Lf.v_non ?_ ?_); (first | (with_reducible rfl) | assumption | (exact fun z => z rfl) | decide +kernel | omega | fail)) | ((with_reducible refine Lf.kP_tup ?_ ?_); first | exact rfl | exact Lf.nrs_ints _ | assumption | fail) | ((with_reducible refine Lf.v_rg1 ?_ ?_); exact Lf.small62_of (by omega) (by omega)) | fail))
end Lf
set_option Elab.async false
set_option linter.all false
set_option maxRecDepth 100000
set_option maxHeartbeats 4000000
namespace Lf
open PySem PySem.Spec L2
theorem Pr.sub {A : U → Prop} {R : Int → Prop} {d : Nat} {l : Int} {xs ys : List U} (h : Pr A R d l xs) (hs : ∀ y ∈ ys, y ∈ xs) (hl : (ys.length : Int) ≤ l) : Pr A R d l ys :=
  Pr.mk hl fun y hy => h.item (hs y hy)
theorem rgU_at {lo : Int} {n i : Nat} {x : U} (h : (rgU lo n)[i]? = some x) : x = .int (lo + (i : Nat)) ∧ i < n := by
  unfold rgU at h
  rw [List.getElem?_map] at h
  obtain ⟨j, q, rfl⟩ := Option.map_eq_some_iff.mp h
  obtain rfl := range_at q
  exact ⟨rfl, by have := (List.getElem?_eq_some_iff.mp q).1; simpa using this⟩
end Lf
set_option Elab.async false
set_option linter.all false
set_option maxRecDepth 100000
set_option maxHeartbeats 4000000
namespace Lf
open PySem PySem.Spec L2
end Lf
set_option Elab.async false
set_option linter.all false
set_option maxRecDepth 100000
set_option maxHeartbeats 4000000
namespace Lf
open PySem PySem.Spec L2
def strIn (i j : Str) : Bool := !(Builtin.Str.occurrences j i 0 j.length 1).isEmpty
def gInS (neg : Bool) : U → U → M U := fun x y T => match x, y with
  | .str i, .str j => .ok (.bl (if neg then !strIn i j else strIn i j)) T
  | _, _ => .no
section
variable {X : Cx} {E : XK}
theorem fop_inS : FOp X E (compareOp .In) (gInS false) := by
  refine ⟨_, op_in_str, fun ρ H T u w x y Q s ru rw h => ?_⟩
  unfold gInS at h
  split at h
  · cases ru; cases rw; exact ⟨_, _, rfl, rfl, okV s h (.bl _)⟩
  · exact False.elim h
end
def tbA (sc tm self : List U → M U) : FxS :=
  fSeq (fPar2 3 4 (fCons (fC (.int 0)) (fCons (fVar 1) (fNil)))) (fSeq (fFor (fIter (fVar 0)) (gNm 5) (fSeq (fSet 6 (fCall (kdG .pur 1 sc) (fCons (fTup (fCons (fVar 5) (fNil))) (fNil)))) (fIf (fBl (fBin gGe (fVar 4) (fVar 6))) (fSeq (fAug 3 gIAdd (fCall (kdG .pur 2 tm) (fCons (fTup (fCons (fVar 5) (fNil))) (fCons (fVar 2) (fNil))))) (fAug 4 gSub (fVar 6))) (fIf (fBl (fBin (gEq false) (fVar 4) (fC (.int 0)))) (fRet (fVar 3)) (fSeq (fAsg (fCall gDivmod (fCons (fVar 4) (fCons (fCall (kdG .pur 1 sc) (fCons (fBin gIx (fVar 5) (fC (.int 2))) (fNil))) (fNil)))) (gUnp 2 (gCons (gNm 7) (gCons (gNm 8) (gNil))))) (fRet (fBin gAdd (fBin gAdd (fVar 3) (fBin gMul (fVar 7) (fCall (kdG .pur 2 tm) (fCons (fBin gIx (fVar 5) (fC (.int 2))) (fCons (fVar 2) (fNil)))))) (fCall (kdG .pur 3 self) (fCons (fBin gIx (fVar 5) (fC (.int 2))) (fCons (fVar 8) (fCons (fVar 2) (fNil)))))))))))) (fRet (fVar 3)))
section
variable {sc : List U → M U} {gt g : Nat → List U → M U} {mt : Nat} (hs : sc = gDef 1 (scA (gt mt))) (ht : ∀ m, gt (m + 1) = gDef 4 (tmA (gt m))) (hg : ∀ m, g (m + 1) = gDef 9 (tbA sc (gt mt) (g m))) {ws : List Str} (hw1 : ws = [] ∨ ∃ w ∈ words7, ws = [w]) {L : Nat} (hL : L ≤ 1000) (hL1 : 1 ≤ L)
include hs ht hg hw1 hL hL1
local macro_rules | `(tactic| bv_omega) => `(tactic| repeat (first | with_reducible refine Lf.kS_nx ?_ | with_reducible refine Lf.kS_rt ?_ | with_reducible refine Lf.kS_bk ?_ | with_reducible refine Lf.kS_ct ?_ | with_reducible refine Lf.kD_rt ?_ | with_reducible refine Lf.kD_nx ?_ | with_reducible refine Lf.kF_nx ?_ | with_reducible refine Lf.kF_ct ?_ | with_reducible refine Lf.kF_bk ?_ | with_reducible refine Lf.kF_rt ?_ | with_reducible refine Lf.v_ifT ?_ | with_reducible refine Lf.v_ifF ?_ | with_reducible refine Lf.v_ifNT ?_ | with_reducible refine Lf.v_ifNF ?_ | with_reducible refine Lf.kP_int ?_ | with_reducible refine Lf.kP_bl ?_ | with_reducible refine Lf.kP_str ?_ | with_reducible refine Lf.kP_non ?_ | with_reducible refine Lf.v_iadd ?_ | with_reducible refine Lf.Wp.ok ?_ | with_reducible refine Lf.seq_wp ?_ | with_reducible refine Lf.v_bin ?_ | with_reducible refine Lf.v_cons ?_ | with_reducible refine Lf.v_call ?_ | with_reducible refine Lf.v_ret ?_ | with_reducible refine Lf.v_set ?_ | with_reducible refine Lf.v_asg ?_ | with_reducible refine Lf.v_if ?_ | with_reducible refine Lf.v_ifE ?_ | with_reducible refine Lf.v_bl ?_ | with_reducible refine Lf.v_tru ?_ | with_reducible refine Lf.v_and ?_ | with_reducible refine Lf.v_or ?_ | with_reducible refine Lf.v_not ?_ | with_reducible refine Lf.v_andV ?_ | with_reducible refine Lf.v_orV ?_ | with_reducible refine Lf.v_notV ?_ | with_reducible refine Lf.v_c ?_ | with_reducible refine Lf.v_nil ?_ | with_reducible refine Lf.v_skip ?_ | with_reducible refine Lf.v_drop ?_ | with_reducible refine Lf.v_retN ?_ | with_reducible refine Lf.v_brk ?_ | with_reducible refine Lf.v_cnt ?_ | with_reducible refine Lf.v_nm ?_ | with_reducible refine Lf.v_gnil ?_ | with_reducible refine Lf.v_gcons ?_ | with_reducible refine Lf.v_yes ?_ | with_reducible refine Lf.v_for ?_ | with_reducible refine Lf.v_lc ?_ | with_reducible refine Lf.v_rg ?_ | with_reducible refine Lf.v_iter ?_ | with_reducible refine Lf.v_iterT ?_ | with_reducible refine Lf.v_add ?_ | with_reducible refine Lf.v_sub ?_ | with_reducible refine Lf.v_neg ?_ | with_reducible refine Lf.v_lt ?_ | with_reducible refine Lf.v_le ?_ | with_reducible refine Lf.v_gt ?_ | with_reducible refine Lf.v_ge ?_ | with_reducible refine Lf.v_eqI ?_ | with_reducible refine Lf.v_neI ?_ | with_reducible refine Lf.v_abs ?_ | with_reducible refine Lf.v_intI ?_ | with_reducible refine Lf.v_intB ?_ | with_reducible refine Lf.v_max2 ?_ | with_reducible refine Lf.v_min2 ?_ | with_reducible refine Lf.v_lenT ?_ | with_reducible refine Lf.v_lenN ?_ | with_reducible refine Lf.v_nw ?_ | with_reducible refine Lf.v_un ?_ | with_reducible refine Lf.v_tup ?_ | with_reducible refine Lf.v_lst ?_ | with_reducible refine Lf.v_par2 ?_ | with_reducible refine Lf.v_par3 ?_ | with_reducible refine Lf.v_chain ?_ | with_reducible refine Lf.v_meth ?_ | with_reducible refine Lf.v_subT ?_ | with_reducible refine Lf.v_isiIB ?_ | with_reducible refine Lf.v_isiII ?_ | with_reducible refine Lf.v_sl ?_ | with_reducible refine Lf.v_noP ?_ | with_reducible refine Lf.v_pt ?_ | with_reducible refine Lf.v_cutT ?_ | ((with_reducible apply Lf.v_var); exact rfl) | ((with_reducible refine Lf.v_kw ?_ ?_); exact rfl) | ((with_reducible apply Lf.v_iterO); first | exact rfl | assumption) | ((with_reducible apply Lf.v_lenL); first | exact rfl | assumption) | ((with_reducible refine Lf.v_unp ?_ ?_); exact rfl) | ((with_reducible apply Lf.v_aug); exact rfl) | ((with_reducible refine Lf.v_mod ?_ ?_); first | decide | omega | assumption | fail) | ((with_reducible refine Lf.v_div ?_ ?_); first | exact ⟨by decide, by decide +kernel⟩ | assumption | exact Lf.log2d (by omega) ⟨by omega, by omega⟩ | fail) | ((with_reducible refine Lf.v_mul ?_ ?_); first | exact Lf.log2m ⟨by omega, by omega⟩ ⟨by omega, by omega⟩ | exact Lf.log2m (by assumption) ⟨by omega, by omega⟩ | exact Lf.log2m ⟨by omega, by omega⟩ (by assumption) | fail) | ((with_reducible refine Lf.v_pow ?_ ?_); exact ⟨by decide, by decide, by decide⟩) | ((with_reducible refine Lf.v_rg1 ?_ ?_); first | decide | fail) | ((with_reducible apply Lf.v_ixL); (first | exact rfl | assumption | fail); (first | exact rfl | assumption | fail)) | ((with_reducible apply Lf.v_ixT); (first | exact rfl | assumption | fail)) | ((with_reducible apply Lf.v_ixN); (first | exact rfl | assumption | fail)) | with_reducible refine ⟨_, rfl, ?_⟩ | (refine ⟨_, (rfl : Lf.tru _ (Lf.U.bl _) = some _), ?_⟩) | with_reducible refine ⟨_, _, rfl, ?_⟩ | with_reducible refine ⟨_, _, _, rfl, ?_⟩ | (refine ⟨(Nat.le_of_ble_eq_true rfl : List.length _ ≤ 16777216), ?_⟩) | with_reducible refine Lf.v_enum ?_ | with_reducible refine Lf.v_eqS0 ?_ | with_reducible refine Lf.v_neT ?_ | with_reducible refine Lf.v_ix0 ?_ | with_reducible refine Lf.v_tupleT ?_ | with_reducible refine Lf.v_listT ?_ | with_reducible refine Lf.v_revT ?_ | with_reducible refine Lf.v_dic0 ?_ | with_reducible refine Lf.v_dic1 ?_ | with_reducible refine Lf.v_mkE ?_ | with_reducible refine Lf.v_mkE0 ?_ | with_reducible refine Lf.v_fldS ?_ | with_reducible refine Lf.v_fldAug ?_ | with_reducible refine Lf.v_mkC ?_ | with_reducible refine Lf.v_mkW ?_ | with_reducible refine Lf.v_mth ?_ | with_reducible refine Lf.v_getK ?_ | with_reducible refine Lf.v_dic1K ?_ | with_reducible refine Lf.v_items ?_ | with_reducible refine Lf.v_subTD ?_ | with_reducible refine Lf.v_subTT ?_ | with_reducible refine Lf.v_enT ?_ | with_reducible refine Lf.v_enTT ?_ | ((with_reducible apply Lf.v_fld); (first | assumption | fail); (first | assumption | exact List.mem_cons_self .. | simp | fail); (first | rfl | decide +kernel | fail)) | ((with_reducible apply Lf.isl_and); (first | exact rfl | assumption | fail)) | ((with_reducible refine Lf.v_idiv ?_ ?_); exact ⟨by decide, by decide⟩) | ((with_reducible apply Lf.v_appZ); (first | exact rfl | assumption | fail); (first | omega | (simp only [List.length_append, List.length_map, List.length_cons, List.length_nil]; omega) | (simp; omega) | fail)) | ((with_reducible apply Lf.v_tupleL); (first | exact rfl | assumption | fail)) | ((with_reducible apply Lf.v_listL); (first | exact rfl | assumption | fail)) | ((with_reducible refine Lf.v_yesd ?_ ?_); (first | (with_reducible rfl) | assumption | (exact fun z => z rfl) | decide +kernel | omega | fail)) | ((with_reducible refine Lf.v_nod ?_ ?_); (first | (with_reducible rfl) | assumption | (exact fun z => z rfl) | decide +kernel | omega | fail)) | ((with_reducible refine Lf.v_yesn ?_ ?_); (first | (with_reducible rfl) | assumption | (exact fun z => z rfl) | decide +kernel | omega | fail)) | ((with_reducible refine Lf.v_non ?_ ?_); (first | (with_reducible rfl) | assumption | (exact fun z => z rfl) | decide +kernel | omega | fail)) | ((with_reducible refine Lf.kP_tup ?_ ?_); first | exact rfl | exact Lf.nrs_ints _ | assumption | fail) | ((with_reducible refine Lf.v_rg1 ?_ ?_); exact Lf.small62_of (by omega) (by omega)) | fail))
end
local macro_rules | `(tactic| bv_omega) => `(tactic| repeat (first | with_reducible refine Lf.kS_nx ?_ | with_reducible refine Lf.kS_rt ?_ | with_reducible refine Lf.kS_bk ?_ | with_reducible refine Lf.kS_ct ?_ | with_reducible refine Lf.kD_rt ?_ | with_reducible refine Lf.kD_nx ?_ | with_reducible refine Lf.kF_nx ?_ | with_reducible refine Lf.kF_ct ?_ | with_reducible refine Lf.kF_bk ?_ | with_reducible refine Lf.kF_rt ?_ | with_reducible refine Lf.v_ifT ?_ | with_reducible refine Lf.v_ifF ?_ | with_reducible refine Lf.v_ifNT ?_ | with_reducible refine Lf.v_ifNF ?_ | with_reducible refine Lf.kP_int ?_ | with_reducible refine Lf.kP_bl ?_ | with_reducible refine Lf.kP_str ?_ | with_reducible refine Lf.kP_non ?_ | with_reducible refine Lf.v_iadd ?_ | with_reducible refine Lf.Wp.ok ?_ | with_reducible refine Lf.seq_wp ?_ | with_reducible refine Lf.v_bin ?_ | with_reducible refine Lf.v_cons ?_ | with_reducible refine Lf.v_call ?_ | with_reducible refine Lf.v_ret ?_ | with_reducible refine Lf.v_set ?_ | with_reducible refine Lf.v_asg ?_ | with_reducible refine Lf.v_if ?_ | with_reducible refine Lf.v_ifE ?_ | with_reducible refine Lf.v_bl ?_ | with_reducible refine Lf.v_tru ?_ | with_reducible refine Lf.v_and ?_ | with_reducible refine Lf.v_or ?_ | with_reducible refine Lf.v_not ?_ | with_reducible refine Lf.v_andV ?_ | with_reducible refine Lf.v_orV ?_ | with_reducible refine Lf.v_notV ?_ | with_reducible refine Lf.v_c ?_ | with_reducible refine Lf.v_nil ?_ | with_reducible refine Lf.v_skip ?_ | with_reducible refine Lf.v_drop ?_ | with_reducible refine Lf.v_retN ?_ | with_reducible refine Lf.v_brk ?_ | with_reducible refine Lf.v_cnt ?_ | with_reducible refine Lf.v_nm ?_ | with_reducible refine Lf.v_gnil ?_ | with_reducible refine Lf.v_gcons ?_ | with_reducible refine Lf.v_yes ?_ | with_reducible refine Lf.v_for ?_ | with_reducible refine Lf.v_lc ?_ | with_reducible refine Lf.v_rg ?_ | with_reducible refine Lf.v_iter ?_ | with_reducible refine Lf.v_iterT ?_ | with_reducible refine Lf.v_add ?_ | with_reducible refine Lf.v_sub ?_ | with_reducible refine Lf.v_neg ?_ | with_reducible refine Lf.v_lt ?_ | with_reducible refine Lf.v_le ?_ | with_reducible refine Lf.v_gt ?_ | with_reducible refine Lf.v_ge ?_ | with_reducible refine Lf.v_eqI ?_ | with_reducible refine Lf.v_neI ?_ | with_reducible refine Lf.v_abs ?_ | with_reducible refine Lf.v_intI ?_ | with_reducible refine Lf.v_intB ?_ | with_reducible refine Lf.v_max2 ?_ | with_reducible refine Lf.v_min2 ?_ | with_reducible refine Lf.v_lenT ?_ | with_reducible refine Lf.v_lenN ?_ | with_reducible refine Lf.v_nw ?_ | with_reducible refine Lf.v_un ?_ | with_reducible refine Lf.v_tup ?_ | with_reducible refine Lf.v_lst ?_ | with_reducible refine Lf.v_par2 ?_ | with_reducible refine Lf.v_par3 ?_ | with_reducible refine Lf.v_chain ?_ | with_reducible refine Lf.v_meth ?_ | with_reducible refine Lf.v_subT ?_ | with_reducible refine Lf.v_isiIB ?_ | with_reducible refine Lf.v_isiII ?_ | with_reducible refine Lf.v_sl ?_ | with_reducible refine Lf.v_noP ?_ | with_reducible refine Lf.v_pt ?_ | with_reducible refine Lf.v_cutT ?_ | ((with_reducible apply Lf.v_var); exact rfl) | ((with_reducible refine Lf.v_kw ?_ ?_); exact rfl) | ((with_reducible apply Lf.v_iterO); first | exact rfl | assumption) | ((with_reducible apply Lf.v_lenL); first | exact rfl | assumption) | ((with_reducible refine Lf.v_unp ?_ ?_); exact rfl) | ((with_reducible apply Lf.v_aug); exact rfl) | ((with_reducible refine Lf.v_mod ?_ ?_); first | decide | omega | assumption | fail) | ((with_reducible refine Lf.v_div ?_ ?_); first | exact ⟨by decide, by decide +kernel⟩ | assumption | exact Lf.log2d (by omega) ⟨by omega, by omega⟩ | fail) | ((with_reducible refine Lf.v_mul ?_ ?_); first | exact Lf.log2m ⟨by omega, by omega⟩ ⟨by omega, by omega⟩ | exact Lf.log2m (by assumption) ⟨by omega, by omega⟩ | exact Lf.log2m ⟨by omega, by omega⟩ (by assumption) | fail) | ((with_reducible refine Lf.v_pow ?_ ?_); exact ⟨by decide, by decide, by decide⟩) | ((with_reducible refine Lf.v_rg1 ?_ ?_); first | decide | fail) | ((with_reducible apply Lf.v_ixL); (first | exact rfl | assumption | fail); (first | exact rfl | assumption | fail)) | ((with_reducible apply Lf.v_ixT); (first | exact rfl | assumption | fail)) | ((with_reducible apply Lf.v_ixN); (first | exact rfl | assumption | fail)) | with_reducible refine ⟨_, rfl, ?_⟩ | (refine ⟨_, (rfl : Lf.tru _ (Lf.U.bl _) = some _), ?_⟩) | with_reducible refine ⟨_, _, rfl, ?_⟩ | with_reducible refine ⟨_, _, _, rfl, ?_⟩ | (refine ⟨(Nat.le_of_ble_eq_true rfl : List.length _ ≤ 16777216), ?_⟩) | with_reducible refine Lf.v_enum ?_ | with_reducible refine Lf.v_eqS0 ?_ | with_reducible refine Lf.v_neT ?_ | with_reducible refine Lf.v_ix0 ?_ | with_reducible refine Lf.v_tupleT ?_ | with_reducible refine Lf.v_listT ?_ | with_reducible refine Lf.v_revT ?_ | with_reducible refine Lf.v_dic0 ?_ | with_reducible refine Lf.v_dic1 ?_ | with_reducible refine Lf.v_mkE ?_ | with_reducible refine Lf.v_mkE0 ?_ | with_reducible refine Lf.v_fldS ?_ | with_reducible refine Lf.v_fldAug ?_ | with_reducible refine Lf.v_mkC ?_ | with_reducible refine Lf.v_mkW ?_ | with_reducible refine Lf.v_mth ?_ | with_reducible refine Lf.v_getK ?_ | with_reducible refine Lf.v_dic1K ?_ | with_reducible refine Lf.v_items ?_ | with_reducible refine Lf.v_subTD ?_ | with_reducible refine Lf.v_subTT ?_ | with_reducible refine Lf.v_enT ?_ | with_reducible refine Lf.v_enTT ?_ | ((with_reducible apply Lf.v_fld); (first | assumption | fail); (first | assumption | exact List.mem_cons_self .. | simp | fail); (first | rfl | decide +kernel | fail)) | ((with_reducible apply Lf.isl_and); (first | exact rfl | assumption | fail)) | ((with_reducible refine Lf.v_idiv ?_ ?_); exact ⟨by decide, by decide⟩) | ((with_reducible apply Lf.v_appZ); (first | exact rfl | assumption | fail); (first | omega | (simp only [List.length_append, List.length_map, List.length_cons, List.length_nil]; omega) | (simp; omega) | fail)) | ((with_reducible apply Lf.v_tupleL); (first | exact rfl | assumption | fail)) | ((with_reducible apply Lf.v_listL); (first | exact rfl | assumption | fail)) | ((with_reducible refine Lf.v_yesd ?_ ?_); (first | (with_reducible rfl) | assumption | (exact fun z => z rfl) | decide +kernel | omega | fail)) | ((with_reducible refine Lf.v_nod ?_ ?_); (first | (with_reducible rfl) | assumption | (exact fun z => z rfl) | decide +kernel | omega | fail)) | ((with_reducible refine Lf.v_yesn ?_ ?_); (first | (with_reducible rfl) | assumption | (exact fun z => z rfl) | decide +kernel | omega | fail)) | ((with_reducible refine Lf.v_non ?_ ?_); (first | (with_reducible rfl) | assumption | (exact fun z => z rfl) | decide +kernel | omega | fail)) | ((with_reducible refine Lf.kP_tup ?_ ?_); first | exact rfl | exact Lf.nrs_ints _ | assumption | fail) | ((with_reducible refine Lf.v_rg1 ?_ ?_); exact Lf.small62_of (by omega) (by omega)) | fail))
end Lf
set_option Elab.async false
set_option linter.all false
set_option maxRecDepth 100000
set_option maxHeartbeats 4000000
namespace PySem
end PySem
namespace Lf
open PySem PySem.Spec L2
end Lf
set_option Elab.async false
set_option linter.all false
set_option maxRecDepth 100000
set_option maxHeartbeats 4000000
namespace Lf
open PySem PySem.Spec L2
theorem InP.hd {p : Int} {ins : List Int} (hp : 2 ≤ p) (h : InP p ins) : 0 ≤ ins.headD 0 ∧ ins.headD 0 < p := by
  cases ins with
  | nil => exact ⟨by decide, by show (0 : Int) < p; omega⟩
  | cons i ins => exact h i (List.mem_cons_self ..)
local macro_rules | `(tactic| rfl') => `(tactic| repeat (first | with_reducible refine Lf.kS_nx ?_ | with_reducible refine Lf.kS_rt ?_ | with_reducible refine Lf.kS_bk ?_ | with_reducible refine Lf.kS_ct ?_ | with_reducible refine Lf.kD_rt ?_ | with_reducible refine Lf.kD_nx ?_ | with_reducible refine Lf.kF_nx ?_ | with_reducible refine Lf.kF_ct ?_ | with_reducible refine Lf.kF_bk ?_ | with_reducible refine Lf.kF_rt ?_ | with_reducible refine Lf.v_ifT ?_ | with_reducible refine Lf.v_ifF ?_ | with_reducible refine Lf.v_ifNT ?_ | with_reducible refine Lf.v_ifNF ?_ | with_reducible refine Lf.kP_int ?_ | with_reducible refine Lf.kP_bl ?_ | with_reducible refine Lf.kP_str ?_ | with_reducible refine Lf.kP_non ?_ | with_reducible refine Lf.v_iadd ?_ | with_reducible refine Lf.Wp.ok ?_ | with_reducible refine Lf.seq_wp ?_ | with_reducible refine Lf.v_bin ?_ | with_reducible refine Lf.v_cons ?_ | with_reducible refine Lf.v_call ?_ | with_reducible refine Lf.v_ret ?_ | with_reducible refine Lf.v_set ?_ | with_reducible refine Lf.v_asg ?_ | with_reducible refine Lf.v_if ?_ | with_reducible refine Lf.v_ifE ?_ | with_reducible refine Lf.v_bl ?_ | with_reducible refine Lf.v_tru ?_ | with_reducible refine Lf.v_and ?_ | with_reducible refine Lf.v_or ?_ | with_reducible refine Lf.v_not ?_ | with_reducible refine Lf.v_andV ?_ | with_reducible refine Lf.v_orV ?_ | with_reducible refine Lf.v_notV ?_ | with_reducible refine Lf.v_c ?_ | with_reducible refine Lf.v_nil ?_ | with_reducible refine Lf.v_skip ?_ | with_reducible refine Lf.v_drop ?_ | with_reducible refine Lf.v_retN ?_ | with_reducible refine Lf.v_brk ?_ | with_reducible refine Lf.v_cnt ?_ | with_reducible refine Lf.v_nm ?_ | with_reducible refine Lf.v_gnil ?_ | with_reducible refine Lf.v_gcons ?_ | with_reducible refine Lf.v_yes ?_ | with_reducible refine Lf.v_for ?_ | with_reducible refine Lf.v_lc ?_ | with_reducible refine Lf.v_rg ?_ | with_reducible refine Lf.v_iter ?_ | with_reducible refine Lf.v_iterT ?_ | with_reducible refine Lf.v_add ?_ | with_reducible refine Lf.v_sub ?_ | with_reducible refine Lf.v_neg ?_ | with_reducible refine Lf.v_lt ?_ | with_reducible refine Lf.v_le ?_ | with_reducible refine Lf.v_gt ?_ | with_reducible refine Lf.v_ge ?_ | with_reducible refine Lf.v_eqI ?_ | with_reducible refine Lf.v_neI ?_ | with_reducible refine Lf.v_abs ?_ | with_reducible refine Lf.v_intI ?_ | with_reducible refine Lf.v_intB ?_ | with_reducible refine Lf.v_max2 ?_ | with_reducible refine Lf.v_min2 ?_ | with_reducible refine Lf.v_lenT ?_ | with_reducible refine Lf.v_lenN ?_ | with_reducible refine Lf.v_nw ?_ | with_reducible refine Lf.v_un ?_ | with_reducible refine Lf.v_tup ?_ | with_reducible refine Lf.v_lst ?_ | with_reducible refine Lf.v_par2 ?_ | with_reducible refine Lf.v_par3 ?_ | with_reducible refine Lf.v_chain ?_ | with_reducible refine Lf.v_meth ?_ | with_reducible refine Lf.v_subT ?_ | with_reducible refine Lf.v_isiIB ?_ | with_reducible refine Lf.v_isiII ?_ | with_reducible refine Lf.v_sl ?_ | with_reducible refine Lf.v_noP ?_ | with_reducible refine Lf.v_pt ?_ | with_reducible refine Lf.v_cutT ?_ | ((with_reducible apply Lf.v_var); exact rfl) | ((with_reducible refine Lf.v_kw ?_ ?_); exact rfl) | ((with_reducible apply Lf.v_iterO); first | exact rfl | assumption) | ((with_reducible apply Lf.v_lenL); first | exact rfl | assumption) | ((with_reducible refine Lf.v_unp ?_ ?_); exact rfl) | ((with_reducible apply Lf.v_aug); exact rfl) | ((with_reducible refine Lf.v_mod ?_ ?_); first | decide | omega | assumption | fail) | ((with_reducible refine Lf.v_div ?_ ?_); first | exact ⟨by decide, by decide +kernel⟩ | assumption | exact Lf.log2d (by omega) ⟨by omega, by omega⟩ | fail) | ((with_reducible refine Lf.v_mul ?_ ?_); first | exact Lf.log2m ⟨by omega, by omega⟩ ⟨by omega, by omega⟩ | exact Lf.log2m (by assumption) ⟨by omega, by omega⟩ | exact Lf.log2m ⟨by omega, by omega⟩ (by assumption) | fail) | ((with_reducible refine Lf.v_pow ?_ ?_); exact ⟨by decide, by decide, by decide⟩) | ((with_reducible refine Lf.v_rg1 ?_ ?_); first | decide | fail) | ((with_reducible apply Lf.v_ixL); (first | exact rfl | assumption | fail); (first | exact rfl | assumption | fail)) | ((with_reducible apply Lf.v_ixT); (first | exact rfl | assumption | fail)) | ((with_reducible apply Lf.v_ixN); (first | exact rfl | assumption | fail)) | with_reducible refine ⟨_, rfl, ?_⟩ | (refine ⟨_, (rfl : Lf.tru _ (Lf.U.bl _) = some _), ?_⟩) | with_reducible refine ⟨_, _, rfl, ?_⟩ | with_reducible refine ⟨_, _, _, rfl, ?_⟩ | (refine ⟨(Nat.le_of_ble_eq_true rfl : List.length _ ≤ 16777216), ?_⟩) | with_reducible refine Lf.v_enum ?_ | fail))
local macro_rules | `(tactic| bv_omega) => `(tactic| repeat (first | with_reducible refine Lf.kS_nx ?_ | with_reducible refine Lf.kS_rt ?_ | with_reducible refine Lf.kS_bk ?_ | with_reducible refine Lf.kS_ct ?_ | with_reducible refine Lf.kD_rt ?_ | with_reducible refine Lf.kD_nx ?_ | with_reducible refine Lf.kF_nx ?_ | with_reducible refine Lf.kF_ct ?_ | with_reducible refine Lf.kF_bk ?_ | with_reducible refine Lf.kF_rt ?_ | with_reducible refine Lf.v_ifT ?_ | with_reducible refine Lf.v_ifF ?_ | with_reducible refine Lf.v_ifNT ?_ | with_reducible refine Lf.v_ifNF ?_ | with_reducible refine Lf.kP_int ?_ | with_reducible refine Lf.kP_bl ?_ | with_reducible refine Lf.kP_str ?_ | with_reducible refine Lf.kP_non ?_ | with_reducible refine Lf.v_iadd ?_ | with_reducible refine Lf.Wp.ok ?_ | with_reducible refine Lf.seq_wp ?_ | with_reducible refine Lf.v_bin ?_ | with_reducible refine Lf.v_cons ?_ | with_reducible refine Lf.v_call ?_ | with_reducible refine Lf.v_ret ?_ | with_reducible refine Lf.v_set ?_ | with_reducible refine Lf.v_asg ?_ | with_reducible refine Lf.v_if ?_ | with_reducible refine Lf.v_ifE ?_ | with_reducible refine Lf.v_bl ?_ | with_reducible refine Lf.v_tru ?_ | with_reducible refine Lf.v_and ?_ | with_reducible refine Lf.v_or ?_ | with_reducible refine Lf.v_not ?_ | with_reducible refine Lf.v_andV ?_ | with_reducible refine Lf.v_orV ?_ | with_reducible refine Lf.v_notV ?_ | with_reducible refine Lf.v_c ?_ | with_reducible refine Lf.v_nil ?_ | with_reducible refine Lf.v_skip ?_ | with_reducible refine Lf.v_drop ?_ | with_reducible refine Lf.v_retN ?_ | with_reducible refine Lf.v_brk ?_ | with_reducible refine Lf.v_cnt ?_ | with_reducible refine Lf.v_nm ?_ | with_reducible refine Lf.v_gnil ?_ | with_reducible refine Lf.v_gcons ?_ | with_reducible refine Lf.v_yes ?_ | with_reducible refine Lf.v_for ?_ | with_reducible refine Lf.v_lc ?_ | with_reducible refine Lf.v_rg ?_ | with_reducible refine Lf.v_iter ?_ | with_reducible refine Lf.v_iterT ?_ | with_reducible refine Lf.v_add ?_ | with_reducible refine Lf.v_sub ?_ | with_reducible refine Lf.v_neg ?_ | with_reducible refine Lf.v_lt ?_ | with_reducible refine Lf.v_le ?_ | with_reducible refine Lf.v_gt ?_ | with_reducible refine Lf.v_ge ?_ | with_reducible refine Lf.v_eqI ?_ | with_reducible refine Lf.v_neI ?_ | with_reducible refine Lf.v_abs ?_ | with_reducible refine Lf.v_intI ?_ | with_reducible refine Lf.v_intB ?_ | with_reducible refine Lf.v_max2 ?_ | with_reducible refine Lf.v_min2 ?_ | with_reducible refine Lf.v_lenT ?_ | with_reducible refine Lf.v_lenN ?_ | with_reducible refine Lf.v_nw ?_ | with_reducible refine Lf.v_un ?_ | with_reducible refine Lf.v_tup ?_ | with_reducible refine Lf.v_lst ?_ | with_reducible refine Lf.v_par2 ?_ | with_reducible refine Lf.v_par3 ?_ | with_reducible refine Lf.v_chain ?_ | with_reducible refine Lf.v_meth ?_ | with_reducible refine Lf.v_subT ?_ | with_reducible refine Lf.v_isiIB ?_ | with_reducible refine Lf.v_isiII ?_ | with_reducible refine Lf.v_sl ?_ | with_reducible refine Lf.v_noP ?_ | with_reducible refine Lf.v_pt ?_ | with_reducible refine Lf.v_cutT ?_ | ((with_reducible apply Lf.v_var); exact rfl) | ((with_reducible refine Lf.v_kw ?_ ?_); exact rfl) | ((with_reducible apply Lf.v_iterO); first | exact rfl | assumption) | ((with_reducible apply Lf.v_lenL); first | exact rfl | assumption) | ((with_reducible refine Lf.v_unp ?_ ?_); exact rfl) | ((with_reducible apply Lf.v_aug); exact rfl) | ((with_reducible refine Lf.v_mod ?_ ?_); first | decide | omega | assumption | fail) | ((with_reducible refine Lf.v_div ?_ ?_); first | exact ⟨by decide, by decide +kernel⟩ | assumption | exact Lf.log2d (by omega) ⟨by omega, by omega⟩ | fail) | ((with_reducible refine Lf.v_mul ?_ ?_); first | exact Lf.log2m ⟨by omega, by omega⟩ ⟨by omega, by omega⟩ | exact Lf.log2m (by assumption) ⟨by omega, by omega⟩ | exact Lf.log2m ⟨by omega, by omega⟩ (by assumption) | fail) | ((with_reducible refine Lf.v_pow ?_ ?_); exact ⟨by decide, by decide, by decide⟩) | ((with_reducible refine Lf.v_rg1 ?_ ?_); first | decide | fail) | ((with_reducible apply Lf.v_ixL); (first | exact rfl | assumption | fail); (first | exact rfl | assumption | fail)) | ((with_reducible apply Lf.v_ixT); (first | exact rfl | assumption | fail)) | ((with_reducible apply Lf.v_ixN); (first | exact rfl | assumption | fail)) | with_reducible refine ⟨_, rfl, ?_⟩ | (refine ⟨_, (rfl : Lf.tru _ (Lf.U.bl _) = some _), ?_⟩) | with_reducible refine ⟨_, _, rfl, ?_⟩ | with_reducible refine ⟨_, _, _, rfl, ?_⟩ | (refine ⟨(Nat.le_of_ble_eq_true rfl : List.length _ ≤ 16777216), ?_⟩) | with_reducible refine Lf.v_enum ?_ | with_reducible refine Lf.v_eqS0 ?_ | with_reducible refine Lf.v_neT ?_ | with_reducible refine Lf.v_ix0 ?_ | with_reducible refine Lf.v_tupleT ?_ | with_reducible refine Lf.v_listT ?_ | with_reducible refine Lf.v_revT ?_ | with_reducible refine Lf.v_dic0 ?_ | with_reducible refine Lf.v_dic1 ?_ | with_reducible refine Lf.v_mkE ?_ | with_reducible refine Lf.v_mkE0 ?_ | with_reducible refine Lf.v_fldS ?_ | with_reducible refine Lf.v_fldAug ?_ | with_reducible refine Lf.v_mkC ?_ | with_reducible refine Lf.v_mkW ?_ | with_reducible refine Lf.v_mth ?_ | with_reducible refine Lf.v_getK ?_ | with_reducible refine Lf.v_dic1K ?_ | with_reducible refine Lf.v_items ?_ | with_reducible refine Lf.v_subTD ?_ | with_reducible refine Lf.v_subTT ?_ | with_reducible refine Lf.v_enT ?_ | with_reducible refine Lf.v_enTT ?_ | ((with_reducible apply Lf.v_fld); (first | assumption | fail); (first | assumption | exact List.mem_cons_self .. | simp | fail); (first | rfl | decide +kernel | fail)) | ((with_reducible apply Lf.isl_and); (first | exact rfl | assumption | fail)) | ((with_reducible refine Lf.v_idiv ?_ ?_); exact ⟨by decide, by decide⟩) | ((with_reducible apply Lf.v_appZ); (first | exact rfl | assumption | fail); (first | omega | (simp only [List.length_append, List.length_map, List.length_cons, List.length_nil]; omega) | (simp; omega) | fail)) | ((with_reducible apply Lf.v_tupleL); (first | exact rfl | assumption | fail)) | ((with_reducible apply Lf.v_listL); (first | exact rfl | assumption | fail)) | ((with_reducible refine Lf.v_yesd ?_ ?_); (first | (with_reducible rfl) | assumption | (exact fun z => z rfl) | decide +kernel | omega | fail)) | ((with_reducible refine Lf.v_nod ?_ ?_); (first | (with_reducible rfl) | assumption | (exact fun z => z rfl) | decide +kernel | omega | fail)) | ((with_reducible refine Lf.v_yesn ?_ ?_); (first | (with_reducible rfl) | assumption | (exact fun z => z rfl) | decide +kernel | omega | fail)) | ((with_reducible refine Lf.v_non ?_ ?_); (first | (with_reducible rfl) | assumption | (exact fun z => z rfl) | decide +kernel | omega | fail)) | ((with_reducible refine Lf.kP_tup ?_ ?_); first | exact rfl | exact Lf.nrs_ints _ | assumption | fail) | ((with_reducible refine Lf.v_rg1 ?_ ?_); exact Lf.small62_of (by omega) (by omega)) | fail))
end Lf
set_option Elab.async false
set_option linter.all false
set_option maxRecDepth 100000
set_option maxHeartbeats 4000000
namespace Lf
open PySem PySem.Spec L2
end Lf
set_option Elab.async false
set_option linter.all false
set_option maxRecDepth 100000
set_option maxHeartbeats 4000000
namespace Lf
open PySem PySem.Spec L2
end Lf
set_option Elab.async false
set_option linter.all false
set_option maxRecDepth 100000
set_option maxHeartbeats 4000000
namespace Lf
open PySem PySem.Spec L2
def SqB (b : Bool) (K : PySem.W.Frag) (H : Hp) (a : Addr) (xs : List V) : Prop := match b with
  | true => SqL K H a xs
  | false => SqT K H a xs
def ItB (b : Bool) (h : Heap) (it l : Addr) (i : Nat) : Prop := match b with
  | true => h.IsListIter it l i
  | false => h.IsTupleIter it l i
def HqB (b : Bool) (h : Heap) (l : Addr) (vs : Array Value) : Prop := match b with
  | true => h.IsList l vs
  | false => h.IsTuple l vs
def obB (b : Bool) (l : Addr) : Obj := { cls := .type (if b then "list_iterator" else "tuple_iterator"), data := .fields #[.ref l, .int 0 0] }
theorem vals_cons {x : V} {xs : List V} {us : List Value} (r : Vals (x :: xs) us) : ∃ w ws, us = w :: ws ∧ RelV x w ∧ Vals xs ws := by
  cases r with
  | cons r rr => exact ⟨_, _, rfl, r, rr⟩
theorem vals_nil {us : List Value} (r : Vals [] us) : us = [] := by
  cases r
  rfl
theorem drawsB {prog : Program} {w : World} {A : Around} (b : Bool) (hh : A.handled = none) (it l : Addr) (hne : l ≠ it) (items : Array Value) :
    Draws prog w A it [it, l] items.size (fun i v => items[i]? = some v) (fun i h => ItB b h it l i ∧ HqB b h l items) := by
  cases b
  · exact Draws.tuple hh it l hne items
  · exact Draws.list hh it l hne items
theorem beginsB (b : Bool) (l : Addr) (items : Array Value) : Begins (.ref l) (obB b l) fun h => HqB b h l items := by
  cases b
  · exact begins_tuple l items
  · exact begins_list l items
theorem ItB.at {b : Bool} {h h' : Heap} {it l : Addr} {i : Nat} (x : ItB b h it l i) (k : ∀ o, h.get? it = some o → h'.get? it = some o) : ItB b h' it l i := by
  cases b
  · exact Heap.IsTupleIter.at x k
  · exact Heap.IsListIter.at x k
theorem ItB.obj {b : Bool} {h : Heap} {it l : Addr} {i : Nat} (x : ItB b h it l i) : ∃ o, h.get? it = some o ∧ ∀ v, o.data ≠ .cell v := by
  cases b
  · obtain ⟨o, e, _, d⟩ := x
    exact ⟨o, e, fun v q => by rw [d] at q; cases q⟩
  · obtain ⟨o, e, _, d⟩ := x
    exact ⟨o, e, fun v q => by rw [d] at q; cases q⟩
theorem ItB.new (b : Bool) {h : Heap} {it l : Addr} (e : h.get? it = some (obB b l)) : ItB b h it l 0 := by
  cases b
  · exact ⟨_, e, rfl, rfl⟩
  · exact ⟨_, e, rfl, rfl⟩
theorem sqB {X : Cx} {pins : List (Addr × Obj)} {σ : L2.St} {H : Hp} {s : Shared} {b : Bool} {a : Addr} {xs : List V} (I : Inv X pins σ H s) (h : SqB b X.K H a xs) :
    ∃ its : List Value, Vals xs its ∧ HqB b s.heap a its.toArray ∧ a < s.heap.objs.size := by
  cases b
  · obtain ⟨its, rv, p, _⟩ := I.tuple h
    refine ⟨its, rv, p, ?_⟩
    obtain ⟨o, e, _⟩ := id p
    exact Heap.lt_size e
  · obtain ⟨its, rv, p, _⟩ := I.list h
    exact ⟨its, rv, p.isList, p.lt⟩
theorem sqB_inj {X : Cx} {pins : List (Addr × Obj)} {σ : L2.St} {H : Hp} {s : Shared} {b : Bool} {a : Addr} {xs ys : List V} (I : Inv X pins σ H s) (h : SqB b X.K H a xs) (h2 : SqB b X.K H a ys) : xs = ys := by
  cases b
  · exact I.tuple_inj h h2
  · exact I.list_inj h h2
end Lf
set_option Elab.async false
set_option linter.all false
set_option maxRecDepth 100000
set_option maxHeartbeats 4000000
namespace Lf
open PySem PySem.Spec L2
def z2 : List U → List U → List U
  | x :: xs, y :: ys => .tup [x, y] :: z2 xs ys
  | _, _ => []
end Lf
set_option Elab.async false
set_option linter.all false
set_option maxRecDepth 100000
set_option maxHeartbeats 4000000
namespace Lf
open PySem PySem.Spec L2
open PyProof.Rows (envOfC)
/-- the base class: its __init__ is ValueError's -/
structure JoFc (K : PySem.W.Frag) (J : Str) : Prop where
  rd : PySem.W.readsIn K (He.ga K J) (.type "type") = true
  ga : PySem.W.specialIn K (.ref (He.ga K J)) "__getattribute__" = some (some (.builtin "type.__getattribute__"))
  fi : PySem.W.findCls K (.ref (He.ga K J)) (.type "type") "__init__" = some (.val (.builtin "ValueError.__init__"))
section
variable {X : Cx} {ta : TA} {J : Str} {e : Expr} {es : List Expr} {p1 p2 pos : Pos}
theorem pe_joinit {pl : Sem Bool} (hg : Gl X J) (hm : X.mg J = some (.ref (He.ga X.K J))) (F : JoFc X.K J) (ha : PA X (e :: es) ta)
    (hc : eval (.Call (.Attribute (.Name J p1) "__init__" p2) (e :: es) [] pos) X.env = (do
      let ov ← eval (.Name J p1) X.env
      standAt p2.atName
      let (f, first) ← holding [ov] (getMethod ov "__init__" pl)
      callWith pos f first (backTo pos (starEach (e :: es) X.env)) (backToKw pos (keywordEach [] X.env))) := by rfl)
    (hdb : (J == ("__debug__" : Str)) = false := by decide) (he : starEach (e :: es) X.env = (false, eval e X.env) :: starEach es X.env := by rfl) (hpl : (backTo pos (starEach es X.env)).any (·.1) = false := by rfl) :
    PE X (.Call (.Attribute (.Name J p1) "__init__" p2) (e :: es) [] pos) (tVeI X.K ta) := by
  refine ⟨fun pins s σ H Q I h => ?_⟩
  refine PySem.W.methodCall_KW (ld_glob I hg hm ?_ hdb) hc
  refine PySem.W.method_cls I.kIn F.ga (PySem.W.cls_value I.kIn F.rd F.fi rfl ?_)
  show wpAny _ _ (callWith pos (Value.builtin "ValueError.__init__") [] (backTo pos (starEach (e :: es) X.env)) []) _ _ _
  refine PyProof.Rows.callWith_method1 (thn (ha.run pos pins _ σ H _ (I.tok _) h) fun us s1 ⟨vs, H1, I1, r1, a, C, ws, ev, hl, T, ea, q⟩ => ?_) he hpl
  subst ev
  cases r1 with
  | @cons _ u0 _ ur ra rw' =>
    obtain rfl : u0 = Value.ref a := ra
    have hlen : ur.length ≤ sizeLine := by
      rw [← Paired.length rw', sizeLine_eq]
      omega
    exact oinit_ok T I1 ea hlen fun s' J => ⟨.non, H1, J, rfl, q⟩
end
/-- what such an __init__ does -/
def spI (K : PySem.W.Frag) (f : Str) : Sp := fun vs H Q _ => ∃ (a C : Addr) (v : V), vs = [.ref a, v] ∧ OexC K C ∧ PySem.W.findIn K (.ref C) f = some none ∧ H a = some (exo a C none) ∧
  ∀ dx, H dx = none → dx ≠ a → Q .non (upd (upd H dx (exd dx [(f, v)])) a (exo a C (some dx)))
section
variable {P : Program} {w : World} {K : PySem.W.Frag} {mg : Str → Option Value} {base : Heap}
theorem init_ok {J y f txt : Str} {fI : Addr} {fd : FuncData} {qual : Str} {params : Arguments} {scope : Scope} {body : List Stmt} {p1 p2 p3 p4 p5 p6 p7 p8 p9 p10 : Pos} {j : Nat} (hm : mg J = some (.ref (He.ga K J))) (F : JoFc K J)
    (hbody : body = [.Expr (.Call (.Attribute (.Name J p1) "__init__" p2) [.Name "self" p3, .Constant (.str txt) j p4] [] p5) p6, .Assign [.Attribute (.Name "self" p7) f p8] (.Name y p9) p10])
    (D : FunD K "__init__" qual params body scope [] [] fI fd) (S : FnScope ["self", y] ["self", y] scope) (hJ : ∀ (cdv : Value) (A : Around) (outer : List Env) (s : Shared) (H : Hp) (E : XK), Gl (cxOf CX0 P w K mg base ["self", y] qual scope fI cdv A outer s H E) J)
    (hc : ∀ env : Env, ∃ pl : Sem Bool, eval (.Call (.Attribute (.Name J p1) "__init__" p2) [.Name "self" p3, .Constant (.str txt) j p4] [] p5) env = (do
      let ov ← eval (.Name J p1) env
      standAt p2.atName
      let (f, first) ← holding [ov] (getMethod ov "__init__" pl)
      callWith p5 f first (backTo p5 (starEach [.Name "self" p3, .Constant (.str txt) j p4] env)) (backToKw p5 (keywordEach [] env))))
    (hsw : ∀ env : Env, swapsWith (.Name y p9) (some (.Attribute (.Name "self" p7) f p8)) p10.line env = pure false)
    (hs : scope.names.lookup ("self" : Str) = some NameKind.local) (hy : scope.names.lookup y = some NameKind.local) (hdb : (J == ("__debug__" : Str)) = false) (hyd : (y == ("__debug__" : Str)) = false) (hyc : (y == ("__classdict__" : Str)) = false) : FnOk P w K mg base CX0 1 fI fd ["self", y] (spI K f) := by
  subst hbody
  refine FunD.ok (CX := CX0) D S (fun vs H Q E h => ?_) fun cdv A outer s H vs Q E hr h => ?_
  · obtain ⟨a, C, v, rfl, _⟩ := h
    rfl
  · obtain ⟨a, C, v, rfl, T, no, ea, q⟩ := h
    obtain ⟨pl, hpl⟩ := hc (envOfC qual scope s.heap.objs.size fI cdv)
    refine ⟨_, pss_cons (ps_expr (pe_joinit (pl := pl) (hJ cdv A outer s H E) hm F (pa_cons (pe_var (i := 0) rfl (.inl hs) (by decide) (by decide)) (pa_cons pe_str pa_nil)) hpl hdb)) (pss_one (ps_ost (pe_var (i := 0) rfl (.inl hs) (by decide) (by decide)) (pe_var (i := 1) rfl (.inl hy) hyd hyc) (hsw _))), ?_⟩
    exact ⟨_, rfl, a, C, [.str txt], rfl, (by show 1 ≤ 1000; omega), T, ea, v, rfl, _, rfl, a, C, rfl, T, no, .inl ⟨ea, fun dx hd ne => q dx hd ne⟩⟩
end
end Lf
set_option Elab.async false
set_option linter.all false
set_option maxRecDepth 100000
set_option maxHeartbeats 4000000
namespace Lf
open PySem PySem.Spec L2
open PyProof.Rows (envOfC)
theorem ps_nox {X : Cx} {st : Stmt} {t : TS} (h : PS X.nox st t) : PS X st t :=
  ⟨fun pins s σ H D I hw => wpAny_mono (h.run pins s σ H D (I.wish _) hw) (fun _ _ q => SP.unwish q) (fun _ _ z => False.elim z)⟩
theorem FS.nox {X : Cx} {E : XK} {st : Stmt} {F : FxS} (h : FS X.nox E st F) : FS X E st F := let ⟨t, k, q⟩ := h; ⟨t, ps_nox k, q⟩
theorem FT.nox {X : Cx} {E : XK} {e : Expr} {F : FxT} (h : FT X.nox E e F) : FT X E e F := let ⟨t, k, q⟩ := h; ⟨t, k.nox, q⟩
theorem FE.nox {X : Cx} {E : XK} {e : Expr} {F : FxE} (h : FE X.nox E e F) : FE X E e F := let ⟨t, k, q⟩ := h; ⟨t, k.nox, q⟩
def noex {α : Type} (r : R α) : R α := match r with
  | .ex _ _ => .no
  | r => r
theorem FnG.calm {P : Program} {w : World} {K : PySem.W.Frag} {mg : Str → Option Value} {base : Heap} {k : Nat} {f : Addr} {fd : FuncData} {ps : List Str} {g : List U → M U} (F : FnG P w K mg base (L2.CX P w) k f fd ps g) : FnG P w K mg base CX0 k f fd ps (fun us T => noex (g us T)) := by
  constructor
  intro A fr s H args ws vs us ρ T Q E room gd e0 bd rv rs ru lu h
  refine codeAny_mono (F.run A fr s H args ws vs us ρ T Q (fun _ _ _ => False) room gd e0 bd rv rs ru lu ?_) fun r s' q => ?_
  · unfold noex at h
    generalize g us T = z at h
    cases z with
    | no => exact h
    | ok a T1 => exact h
    | ex e T1 => exact False.elim h
  · cases r with
    | ok fl => cases fl <;> exact q
    | error e => exact q.elim fun _ q => q.elim fun _ q => q.elim fun _ q => q.elim fun _ q => q.elim fun _ q => False.elim q.2.2.2.2.2.2.2
structure DokX (P : Program) (w : World) (K : PySem.W.Frag) (mg : Str → Option Value) (base : Heap) (x : Str) (k : Nat) (ps : List Str) (kw : List (List Str × List Nat)) (g : List U → M U) : Prop where
  ex : ∃ f fd, FnG P w K mg base (L2.CX P w) k f fd ps g ∧ mg x = some (.ref f) ∧ PySem.W.keepIn K (.ref f) = true ∧ Binds K fd ps [] ∧
    ∀ q ∈ kw, ∀ (s : Shared) (ws : List Value), ws.length = q.1.length → BindsTo s fd ⟨[], q.1.zip ws⟩ (ps.zip (pick q.2 ws))
theorem DokX.calm {P : Program} {w : World} {K : PySem.W.Frag} {mg : Str → Option Value} {base : Heap} {x : Str} {k : Nat} {ps : List Str} {kw : List (List Str × List Nat)} {g : List U → M U} (D : DokX P w K mg base x k ps kw g) : Dok P w K mg base x k ps kw (fun us T => noex (g us T)) := by
  obtain ⟨f, fd, G, r⟩ := D.ex
  exact ⟨f, fd, G.calm, r⟩
theorem DokX.of {P : Program} {w : World} {K : PySem.W.Frag} {mg : Str → Option Value} {base : Heap} {x : Str} {k : Nat} {ps : List Str} {kw : List (List Str × List Nat)} {g : List U → M U} {f : Addr} {fd : FuncData} {name qual : Str} {params : Arguments} {body : List Stmt} {scope : Scope}
    (G : FnG P w K mg base (L2.CX P w) k f fd ps g) (hm : mg x = some (.ref f)) (D : FunD K name qual params body scope [] [] f fd)
    (hb : ∀ (kV doc pm : Value) (an : Option Addr) (cdv ct : Value) (us : List Value), us.length = ps.length → bindArgs (PySem.W.fnOf name qual params body scope .none kV doc pm an cdv ct) ⟨us, []⟩ = pure (ps.zip us))
    (hk : ∀ q ∈ kw, ∀ (kV doc pm : Value) (an : Option Addr) (cdv ct : Value) (ws : List Value), ws.length = q.1.length → bindArgs (PySem.W.fnOf name qual params body scope .none kV doc pm an cdv ct) ⟨[], q.1.zip ws⟩ = pure (ps.zip (pick q.2 ws))) : DokX P w K mg base x k ps kw g := by
  have D0 := Dok.of (P := P) (w := w) (mg := mg) (base := base) (x := x) (k := k) (kw := kw) FnG.zero hm D hb hk
  obtain ⟨f', fd', _, e, r1, r2, r3⟩ := D0.ex
  obtain ⟨oc, od, dV, kV, doc, pm, an, cdv, ct, osl, e1, lk, hcd, hD, hK⟩ := D.ex
  exact ⟨f, fd, G, hm, D.kp, D.bindsN hb, fun q hq s ws hl => by
    rcases hD with ⟨_, e2⟩ | ⟨e2, _⟩
    · subst e2
      rw [e1]
      exact .of_eq (hk q hq kV doc pm an cdv ct ws hl)
    · exact absurd rfl e2⟩
/-- the wish about exceptions told at the slots -/
structure FAs (X : Cx) (E : L2.St → XK) (es : List Expr) (F : FxA) : Prop where
  ex : ∃ t : TA, PA X es t ∧ ∀ (σ : L2.St) (H : Hp) (ρ : List Addr) (T : Sto) (η : Lo) (Q : List V → Hp → Prop), RS X.K ρ H T → RE X.K ρ H η σ → OK X.K ρ H (E σ) (rVs X.K) (F η T) Q → t σ H Q
theorem FAs.of {X : Cx} {E : L2.St → XK} {es : List Expr} {F : FxA} (h : ∀ E : XK, FA X E es F) : FAs X E es F := by
  obtain ⟨t, ht⟩ := Classical.axiomOfChoice fun E : XK => (h E).ex
  refine ⟨fun σ H Q => t (E σ) σ H Q, ⟨fun pos pins s σ H Q I q => (ht (E σ)).1.run pos pins s σ H Q I q⟩, fun σ H ρ T η Q s r q => (ht (E σ)).2 σ H ρ T η Q s r q⟩
end Lf
set_option Elab.async false
set_option linter.all false
set_option maxRecDepth 100000
set_option maxHeartbeats 4000000
namespace Lf
open PySem PySem.Spec L2
section
variable {X : Cx} {pins : List (Addr × Obj)} {σ : L2.St} {H : Hp} {s : Shared} {a C d : Addr} {gs : List (Str × V)}
/-- what a class, or a tuple of classes, is -/
def ClV (K : PySem.W.Frag) (Ok : Addr → Bool → Prop) (v : V) (H : Hp) : Prop := ∀ (C : Addr) (b : Bool), Ok C b →
  (∃ cv, (∀ u, RelV v u → u = cv) ∧ PySem.W.kitOne K (.ref C) cv = some b) ∨ ∃ (tp : Addr) (rs : List Addr), v = .ref tp ∧ SqT K H tp (rs.map V.ref) ∧ PySem.W.kitAny K (.ref C) (rs.map Value.ref) = some b
theorem ClV.gr {K : PySem.W.Frag} {Ok : Addr → Bool → Prop} {v : V} {ρ ρ' : List Addr} {H H' : Hp} (h : ClV K Ok v H) (g : Gr K ρ H ρ' H') : ClV K Ok v H' := fun C b o => (h C b o).imp id fun ⟨tp, rs, e, q, k⟩ => ⟨tp, rs, e, g.sq _ _ q, k⟩
end
/-- what the names reach in n steps: a number's bits hold what was seen -/
def addB : List Addr → List Addr → Nat → List Addr × Nat
  | [], nw, m => (nw, m)
  | b :: bs, nw, m => match Nat.beq (Nat.land (Nat.shiftRight m b) 1) 1 with
    | true => addB bs nw m
    | false => addB bs (b :: nw) (Nat.lor m (Nat.shiftLeft 1 b))
def visB (g : Addr → Option Obj) : List Addr → List Addr → Nat → List Addr × Nat
  | [], nw, m => (nw, m)
  | a :: as, nw, m => match g a with
    | some o => match addB (He.refsD o) nw m with
      | (nw', m') => visB g as nw' m'
    | none => visB g as nw m
def levB (g : Addr → Option Obj) : Nat → List Addr → Nat → List Addr
  | 0, _, _ => []
  | n + 1, fr, m => match visB g fr [] m with
    | (nw, m') => nw.reverse ++ levB g n nw.reverse m'
def asB (g : Addr → Option Obj) (n : Nat) : List Addr := mainGlobals :: levB g n [mainGlobals] (Nat.shiftLeft 1 mainGlobals)
/-- both kinds of facts -/
structure SaysF (fa : List He.Fa) (fn : List He.DefD) (fx : PySem.W.Frag → Bool) (K : PySem.W.Frag) : Prop where
  d : He.SaysD fa fn K
  x : fx K = true
end Lf
set_option Elab.async false
set_option linter.all false
set_option maxRecDepth 100000
set_option maxHeartbeats 4000000
namespace Lf
open PySem PySem.Spec L2
/-- the program's run, its steps known; F: what stands in the place of the raise -/
local macro_rules | `(tactic| rfl') => `(tactic| repeat (first | with_reducible refine Lf.kS_nx ?_ | with_reducible refine Lf.kS_rt ?_ | with_reducible refine Lf.kS_bk ?_ | with_reducible refine Lf.kS_ct ?_ | with_reducible refine Lf.kD_rt ?_ | with_reducible refine Lf.kD_nx ?_ | with_reducible refine Lf.kF_nx ?_ | with_reducible refine Lf.kF_ct ?_ | with_reducible refine Lf.kF_bk ?_ | with_reducible refine Lf.kF_rt ?_ | with_reducible refine Lf.v_ifT ?_ | with_reducible refine Lf.v_ifF ?_ | with_reducible refine Lf.v_ifNT ?_ | with_reducible refine Lf.v_ifNF ?_ | with_reducible refine Lf.kP_int ?_ | with_reducible refine Lf.kP_bl ?_ | with_reducible refine Lf.kP_str ?_ | with_reducible refine Lf.kP_non ?_ | with_reducible refine Lf.v_iadd ?_ | with_reducible refine Lf.Wp.ok ?_ | with_reducible refine Lf.seq_wp ?_ | with_reducible refine Lf.v_bin ?_ | with_reducible refine Lf.v_cons ?_ | with_reducible refine Lf.v_call ?_ | with_reducible refine Lf.v_ret ?_ | with_reducible refine Lf.v_set ?_ | with_reducible refine Lf.v_asg ?_ | with_reducible refine Lf.v_if ?_ | with_reducible refine Lf.v_ifE ?_ | with_reducible refine Lf.v_bl ?_ | with_reducible refine Lf.v_tru ?_ | with_reducible refine Lf.v_and ?_ | with_reducible refine Lf.v_or ?_ | with_reducible refine Lf.v_not ?_ | with_reducible refine Lf.v_andV ?_ | with_reducible refine Lf.v_orV ?_ | with_reducible refine Lf.v_notV ?_ | with_reducible refine Lf.v_c ?_ | with_reducible refine Lf.v_nil ?_ | with_reducible refine Lf.v_skip ?_ | with_reducible refine Lf.v_drop ?_ | with_reducible refine Lf.v_retN ?_ | with_reducible refine Lf.v_brk ?_ | with_reducible refine Lf.v_cnt ?_ | with_reducible refine Lf.v_nm ?_ | with_reducible refine Lf.v_gnil ?_ | with_reducible refine Lf.v_gcons ?_ | with_reducible refine Lf.v_yes ?_ | with_reducible refine Lf.v_for ?_ | with_reducible refine Lf.v_lc ?_ | with_reducible refine Lf.v_rg ?_ | with_reducible refine Lf.v_iter ?_ | with_reducible refine Lf.v_iterT ?_ | with_reducible refine Lf.v_add ?_ | with_reducible refine Lf.v_sub ?_ | with_reducible refine Lf.v_neg ?_ | with_reducible refine Lf.v_lt ?_ | with_reducible refine Lf.v_le ?_ | with_reducible refine Lf.v_gt ?_ | with_reducible refine Lf.v_ge ?_ | with_reducible refine Lf.v_eqI ?_ | with_reducible refine Lf.v_neI ?_ | with_reducible refine Lf.v_abs ?_ | with_reducible refine Lf.v_intI ?_ | with_reducible refine Lf.v_intB ?_ | with_reducible refine Lf.v_max2 ?_ | with_reducible refine Lf.v_min2 ?_ | with_reducible refine Lf.v_lenT ?_ | with_reducible refine Lf.v_lenN ?_ | with_reducible refine Lf.v_nw ?_ | with_reducible refine Lf.v_un ?_ | with_reducible refine Lf.v_tup ?_ | with_reducible refine Lf.v_lst ?_ | with_reducible refine Lf.v_par2 ?_ | with_reducible refine Lf.v_par3 ?_ | with_reducible refine Lf.v_chain ?_ | with_reducible refine Lf.v_meth ?_ | with_reducible refine Lf.v_subT ?_ | with_reducible refine Lf.v_isiIB ?_ | with_reducible refine Lf.v_isiII ?_ | with_reducible refine Lf.v_sl ?_ | with_reducible refine Lf.v_noP ?_ | with_reducible refine Lf.v_pt ?_ | with_reducible refine Lf.v_cutT ?_ | ((with_reducible apply Lf.v_var); exact rfl) | ((with_reducible refine Lf.v_kw ?_ ?_); exact rfl) | ((with_reducible apply Lf.v_iterO); first | exact rfl | assumption) | ((with_reducible apply Lf.v_lenL); first | exact rfl | assumption) | ((with_reducible refine Lf.v_unp ?_ ?_); exact rfl) | ((with_reducible apply Lf.v_aug); exact rfl) | ((with_reducible refine Lf.v_mod ?_ ?_); first | decide | omega | assumption | fail) | ((with_reducible refine Lf.v_div ?_ ?_); first | exact ⟨by decide, by decide +kernel⟩ | assumption | exact Lf.log2d (by omega) ⟨by omega, by omega⟩ | fail) | ((with_reducible refine Lf.v_mul ?_ ?_); first | exact Lf.log2m ⟨by omega, by omega⟩ ⟨by omega, by omega⟩ | exact Lf.log2m (by assumption) ⟨by omega, by omega⟩ | exact Lf.log2m ⟨by omega, by omega⟩ (by assumption) | fail) | ((with_reducible refine Lf.v_pow ?_ ?_); exact ⟨by decide, by decide, by decide⟩) | ((with_reducible refine Lf.v_rg1 ?_ ?_); first | decide | fail) | ((with_reducible apply Lf.v_ixL); (first | exact rfl | assumption | fail); (first | exact rfl | assumption | fail)) | ((with_reducible apply Lf.v_ixT); (first | exact rfl | assumption | fail)) | ((with_reducible apply Lf.v_ixN); (first | exact rfl | assumption | fail)) | with_reducible refine ⟨_, rfl, ?_⟩ | (refine ⟨_, (rfl : Lf.tru _ (Lf.U.bl _) = some _), ?_⟩) | with_reducible refine ⟨_, _, rfl, ?_⟩ | with_reducible refine ⟨_, _, _, rfl, ?_⟩ | (refine ⟨(Nat.le_of_ble_eq_true rfl : List.length _ ≤ 16777216), ?_⟩) | with_reducible refine Lf.v_enum ?_ | fail))
local macro_rules | `(tactic| bv_omega) => `(tactic| repeat (first | with_reducible refine Lf.kS_nx ?_ | with_reducible refine Lf.kS_rt ?_ | with_reducible refine Lf.kS_bk ?_ | with_reducible refine Lf.kS_ct ?_ | with_reducible refine Lf.kD_rt ?_ | with_reducible refine Lf.kD_nx ?_ | with_reducible refine Lf.kF_nx ?_ | with_reducible refine Lf.kF_ct ?_ | with_reducible refine Lf.kF_bk ?_ | with_reducible refine Lf.kF_rt ?_ | with_reducible refine Lf.v_ifT ?_ | with_reducible refine Lf.v_ifF ?_ | with_reducible refine Lf.v_ifNT ?_ | with_reducible refine Lf.v_ifNF ?_ | with_reducible refine Lf.kP_int ?_ | with_reducible refine Lf.kP_bl ?_ | with_reducible refine Lf.kP_str ?_ | with_reducible refine Lf.kP_non ?_ | with_reducible refine Lf.v_iadd ?_ | with_reducible refine Lf.Wp.ok ?_ | with_reducible refine Lf.seq_wp ?_ | with_reducible refine Lf.v_bin ?_ | with_reducible refine Lf.v_cons ?_ | with_reducible refine Lf.v_call ?_ | with_reducible refine Lf.v_ret ?_ | with_reducible refine Lf.v_set ?_ | with_reducible refine Lf.v_asg ?_ | with_reducible refine Lf.v_if ?_ | with_reducible refine Lf.v_ifE ?_ | with_reducible refine Lf.v_bl ?_ | with_reducible refine Lf.v_tru ?_ | with_reducible refine Lf.v_and ?_ | with_reducible refine Lf.v_or ?_ | with_reducible refine Lf.v_not ?_ | with_reducible refine Lf.v_andV ?_ | with_reducible refine Lf.v_orV ?_ | with_reducible refine Lf.v_notV ?_ | with_reducible refine Lf.v_c ?_ | with_reducible refine Lf.v_nil ?_ | with_reducible refine Lf.v_skip ?_ | with_reducible refine Lf.v_drop ?_ | with_reducible refine Lf.v_retN ?_ | with_reducible refine Lf.v_brk ?_ | with_reducible refine Lf.v_cnt ?_ | with_reducible refine Lf.v_nm ?_ | with_reducible refine Lf.v_gnil ?_ | with_reducible refine Lf.v_gcons ?_ | with_reducible refine Lf.v_yes ?_ | with_reducible refine Lf.v_for ?_ | with_reducible refine Lf.v_lc ?_ | with_reducible refine Lf.v_rg ?_ | with_reducible refine Lf.v_iter ?_ | with_reducible refine Lf.v_iterT ?_ | with_reducible refine Lf.v_add ?_ | with_reducible refine Lf.v_sub ?_ | with_reducible refine Lf.v_neg ?_ | with_reducible refine Lf.v_lt ?_ | with_reducible refine Lf.v_le ?_ | with_reducible refine Lf.v_gt ?_ | with_reducible refine Lf.v_ge ?_ | with_reducible refine Lf.v_eqI ?_ | with_reducible refine Lf.v_neI ?_ | with_reducible refine Lf.v_abs ?_ | with_reducible refine Lf.v_intI ?_ | with_reducible refine Lf.v_intB ?_ | with_reducible refine Lf.v_max2 ?_ | with_reducible refine Lf.v_min2 ?_ | with_reducible refine Lf.v_lenT ?_ | with_reducible refine Lf.v_lenN ?_ | with_reducible refine Lf.v_nw ?_ | with_reducible refine Lf.v_un ?_ | with_reducible refine Lf.v_tup ?_ | with_reducible refine Lf.v_lst ?_ | with_reducible refine Lf.v_par2 ?_ | with_reducible refine Lf.v_par3 ?_ | with_reducible refine Lf.v_chain ?_ | with_reducible refine Lf.v_meth ?_ | with_reducible refine Lf.v_subT ?_ | with_reducible refine Lf.v_isiIB ?_ | with_reducible refine Lf.v_isiII ?_ | with_reducible refine Lf.v_sl ?_ | with_reducible refine Lf.v_noP ?_ | with_reducible refine Lf.v_pt ?_ | with_reducible refine Lf.v_cutT ?_ | ((with_reducible apply Lf.v_var); exact rfl) | ((with_reducible refine Lf.v_kw ?_ ?_); exact rfl) | ((with_reducible apply Lf.v_iterO); first | exact rfl | assumption) | ((with_reducible apply Lf.v_lenL); first | exact rfl | assumption) | ((with_reducible refine Lf.v_unp ?_ ?_); exact rfl) | ((with_reducible apply Lf.v_aug); exact rfl) | ((with_reducible refine Lf.v_mod ?_ ?_); first | decide | omega | assumption | fail) | ((with_reducible refine Lf.v_div ?_ ?_); first | exact ⟨by decide, by decide +kernel⟩ | assumption | exact Lf.log2d (by omega) ⟨by omega, by omega⟩ | fail) | ((with_reducible refine Lf.v_mul ?_ ?_); first | exact Lf.log2m ⟨by omega, by omega⟩ ⟨by omega, by omega⟩ | exact Lf.log2m (by assumption) ⟨by omega, by omega⟩ | exact Lf.log2m ⟨by omega, by omega⟩ (by assumption) | fail) | ((with_reducible refine Lf.v_pow ?_ ?_); exact ⟨by decide, by decide, by decide⟩) | ((with_reducible refine Lf.v_rg1 ?_ ?_); first | decide | fail) | ((with_reducible apply Lf.v_ixL); (first | exact rfl | assumption | fail); (first | exact rfl | assumption | fail)) | ((with_reducible apply Lf.v_ixT); (first | exact rfl | assumption | fail)) | ((with_reducible apply Lf.v_ixN); (first | exact rfl | assumption | fail)) | with_reducible refine ⟨_, rfl, ?_⟩ | (refine ⟨_, (rfl : Lf.tru _ (Lf.U.bl _) = some _), ?_⟩) | with_reducible refine ⟨_, _, rfl, ?_⟩ | with_reducible refine ⟨_, _, _, rfl, ?_⟩ | (refine ⟨(Nat.le_of_ble_eq_true rfl : List.length _ ≤ 16777216), ?_⟩) | with_reducible refine Lf.v_enum ?_ | with_reducible refine Lf.v_eqS0 ?_ | with_reducible refine Lf.v_neT ?_ | with_reducible refine Lf.v_ix0 ?_ | with_reducible refine Lf.v_tupleT ?_ | with_reducible refine Lf.v_listT ?_ | with_reducible refine Lf.v_revT ?_ | with_reducible refine Lf.v_dic0 ?_ | with_reducible refine Lf.v_dic1 ?_ | with_reducible refine Lf.v_mkE ?_ | with_reducible refine Lf.v_mkE0 ?_ | with_reducible refine Lf.v_fldS ?_ | with_reducible refine Lf.v_fldAug ?_ | with_reducible refine Lf.v_mkC ?_ | with_reducible refine Lf.v_mkW ?_ | with_reducible refine Lf.v_mth ?_ | with_reducible refine Lf.v_getK ?_ | with_reducible refine Lf.v_dic1K ?_ | with_reducible refine Lf.v_items ?_ | with_reducible refine Lf.v_subTD ?_ | with_reducible refine Lf.v_subTT ?_ | with_reducible refine Lf.v_enT ?_ | with_reducible refine Lf.v_enTT ?_ | ((with_reducible apply Lf.v_fld); (first | assumption | fail); (first | assumption | exact List.mem_cons_self .. | simp | fail); (first | rfl | decide +kernel | fail)) | ((with_reducible apply Lf.isl_and); (first | exact rfl | assumption | fail)) | ((with_reducible refine Lf.v_idiv ?_ ?_); exact ⟨by decide, by decide⟩) | ((with_reducible apply Lf.v_appZ); (first | exact rfl | assumption | fail); (first | omega | (simp only [List.length_append, List.length_map, List.length_cons, List.length_nil]; omega) | (simp; omega) | fail)) | ((with_reducible apply Lf.v_tupleL); (first | exact rfl | assumption | fail)) | ((with_reducible apply Lf.v_listL); (first | exact rfl | assumption | fail)) | ((with_reducible refine Lf.v_yesd ?_ ?_); (first | (with_reducible rfl) | assumption | (exact fun z => z rfl) | decide +kernel | omega | fail)) | ((with_reducible refine Lf.v_nod ?_ ?_); (first | (with_reducible rfl) | assumption | (exact fun z => z rfl) | decide +kernel | omega | fail)) | ((with_reducible refine Lf.v_yesn ?_ ?_); (first | (with_reducible rfl) | assumption | (exact fun z => z rfl) | decide +kernel | omega | fail)) | ((with_reducible refine Lf.v_non ?_ ?_); (first | (with_reducible rfl) | assumption | (exact fun z => z rfl) | decide +kernel | omega | fail)) | ((with_reducible refine Lf.kP_tup ?_ ?_); first | exact rfl | exact Lf.nrs_ints _ | assumption | fail) | ((with_reducible refine Lf.v_rg1 ?_ ?_); exact Lf.small62_of (by omega) (by omega)) | fail))
end Lf
set_option Elab.async false
set_option linter.all false
set_option maxRecDepth 100000
set_option maxHeartbeats 4000000
namespace Lf
open PySem PySem.Spec L2
end Lf
set_option Elab.async false
set_option linter.all false
set_option maxRecDepth 100000
set_option maxHeartbeats 4000000
namespace Lf
open PySem PySem.Spec L2
open PyProof.Rows
theorem meets_enum1 {v : Value} {o : Obj} {H : Heap → Prop} (B : Begins v o H) :
    Meets (Builtin.«enumerate.__new__» ⟨[.type "enumerate", v], []⟩) (fun _ R s => H s.heap ∧ R (.ok (.ret (.ref (s.heap.push o).objs.size))) { s with heap := (s.heap.push o).push { cls := .type "enumerate", data := .fields #[.none, .bool false, .ref s.heap.objs.size, rawInt 0, .none, .none] } }) :=
  .of_wp fun prog w A R s ⟨h1, h⟩ => by
    obtain ⟨hp, g, d, tk, os⟩ := s
    have hsub := sub_enumerate
    have q1 : ∀ {A' : Around} {E : Value → Shared → Prop} {Q : Value → Shared → Prop}, Q (.ref hp.objs.size) ⟨hp.push o, g, d, tk, os⟩ → wpAny (model prog w) A' (pyIter v) Q E ⟨hp, g, d, tk, os⟩ := fun q => B.iter prog w _ _ ⟨hp, g, d, tk, os⟩ _ h1 q
    wp_walk using q1
    refine wpAny_stack_any fun st => wpAny_pure ?_
    split
    · rename_i c _ _ _ _ _
      cases (c == Value.type "enumerate") <;> (wp_walk using q1; exact ⟨_, rfl, h⟩)
    · wp_walk using q1
      exact ⟨_, rfl, h⟩
section
variable {prog : Program} {w : World} {A : Around} {E : Value → Shared → Prop} {s : Shared}
theorem enum_begins1 {v : Value} {o : Obj} {H : Heap → Prop} {Q : Value → Shared → Prop} (B : Begins v o H) (h1 : H s.heap)
    (h : ∀ h', IsEnum h' (s.heap.objs.size + 1) s.heap.objs.size 0 .none → h'.get? s.heap.objs.size = some o → (∀ b o, s.heap.get? b = some o → h'.get? b = some o) → Q (.ref (s.heap.objs.size + 1)) { s with heap := h' }) :
    wpAny (model prog w) A (call (.type "enumerate") [v]) Q E s := by
  refine callType_new F.called_enumerate (by decide) (F.typeCall_enumerate_1 _) (F.newCall_enumerate_1 _) (fun obj => F.args_object_init_2 obj _) F.entry_enumerate_new (meets_enum1 B) ⟨h1, ?_⟩
  have hz : (s.heap.push o).objs.size = s.heap.objs.size + 1 := Heap.size_push ..
  show _ ∧ _
  rw [hz]
  have he : IsEnum ((s.heap.push o).push { cls := .type "enumerate", data := .fields #[.none, .bool false, .ref s.heap.objs.size, rawInt 0, .none, .none] }) (s.heap.objs.size + 1) s.heap.objs.size 0 .none := by
    have e2 := Heap.get?_push_size (s.heap.push o) (o := { cls := .type "enumerate", data := .fields #[.none, .bool false, .ref s.heap.objs.size, rawInt 0, .none, .none] }) rfl
    rw [hz] at e2
    exact e2
  exact ⟨⟨_, he, rfl⟩, h _ he (Heap.get?_push_of_some _ (Heap.get?_push_size _ B.free)) fun b o x => Heap.get?_push_of_some _ (Heap.get?_push_of_some _ x)⟩
end
/-- what enumerate of the list or tuple at l yields -/
def Itn (K : PySem.W.Frag) (b : Bool) (l : Addr) : It :=
  ⟨fun i H => ∃ (xs : List V) (x : V), SqB b K H l xs ∧ xs[i]? = some x, fun i H v H' => ∃ (T : Addr) (x : V), v = .ref T ∧ H T = none ∧ H' = upd H T (.tup [.int (i : Nat), x]) ∧ ∀ xs, SqB b K H l xs → xs[i]? = some x, fun i H => ∃ xs : List V, SqB b K H l xs ∧ i = xs.length⟩
theorem turnN {P : Program} {w : World} {K : PySem.W.Frag} {elts : List Expr} {kk : Nat} {tpos : Pos} {b : Bool} {e it l : Addr} (n1 : l ≠ it) (n2 : l ≠ e) (n3 : e ≠ it) :
    Turn P w K (.Tuple elts kk tpos) (Itn K b l) [e, it] e (fun i h => (∃ old, IsEnum h e it ((i : Nat) : Int) old) ∧ ItB b h it l i) where
  mem := by simp
  obj := fun i h st c hc => by
    obtain ⟨⟨old, he⟩, h1⟩ := st
    have e' : c = e ∨ c = it := by simpa using hc
    rcases e' with q | q
    · rw [q]; exact ⟨_, he, fun v q => nomatch q⟩
    · rw [q]; exact h1.obj
  keep := fun i h h' st k => by
    obtain ⟨⟨old, he⟩, h1⟩ := st
    exact ⟨⟨old, k e (by simp) _ he⟩, h1.at fun o q => k it (by simp) o q⟩
  item := by
    intro X hP hw hK hc i pins s σ H E I hf st hg
    subst hP hw hK
    obtain ⟨⟨old, he⟩, h1⟩ := st
    obtain ⟨xs, x, q1, e1⟩ := hg
    obtain ⟨its, rv, p1, _⟩ := sqB I q1
    obtain ⟨u1, hu1, ru1⟩ := rv.get e1
    have hl1 : i < its.toArray.size := by have := (List.getElem?_eq_some_iff.mp hu1).1; simpa using this
    have hel : e < s.heap.objs.size := Heap.lt_size he
    have D := drawsB (prog := X.prog) (w := X.w) (A := X.A.in1) b (I.ok.hd hc) it l n1 its.toArray
    refine wpAny_pyNext_enum_itemD D he ⟨h1, p1⟩ hl1 n3 (by simp; exact ⟨n3, Ne.symm n2⟩) fun w1 h' tk f1 ho g1 hT hsz hk => ?_
    have ew1 : w1 = u1 := by
      have : its.toArray[i]? = some w1 := f1
      rw [List.getElem?_toArray, hu1] at this
      exact (Option.some.inj this).symm
    subst ew1
    refine ⟨_, rfl, wpAny_letOwnedTupleGo_enum (s := { s with heap := h', toks := tk + 1 }) ho fun h'' he' sb => ?_⟩
    have hT2 : h''.get? s.heap.objs.size = some { cls := .type "tuple", data := .seq #[.int i tk, w1] } := (sb.2 _ (Nat.ne_of_gt hel)).trans hT
    have new : ObjOk X.prog X.w (upd H s.heap.objs.size (.tup [.int (i : Nat), x])) h'' s.heap.objs.size (.tup [.int (i : Nat), x]) :=
      ⟨by show 2 ≤ sizeLine; decide, [.int i tk, w1], .cons ⟨_, rfl⟩ (.cons ru1 .nil), ⟨_, hT2, rfl, _, rfl⟩⟩
    have I1 : L2.Inv X pins σ (upd H s.heap.objs.size (.tup [.int (i : Nat), x])) { s with heap := h'', toks := tk + 1 } :=
      I.turnedNew (t' := tk + 1) (ch := [e, it]) (fun c o hb q => (sb.2 c (fun q' => hb (by simp [q']))).trans (hk c o (fun q' => hb (by simp [q'])) (fun q' => hb (by simp [q'])) q)) hf (Nat.le_refl _) new
    refine ⟨.ref s.heap.objs.size, _, I1, rfl, ⟨_, x, rfl, I.hok.fresh (Nat.le_refl _), rfl, fun ys hy => by rw [sqB_inj I hy q1]; exact e1⟩, ⟨⟨w1, ?_⟩, g1.1.at fun o q => (sb.2 it (Ne.symm n3)).trans q⟩, fun c hcm => ?_⟩
    · rw [Int.natCast_succ]
      exact he'
    · have hlt : c < s.heap.objs.size := by
        have e' : c = e ∨ c = it := by simpa using hcm
        rcases e' with q | q
        · rw [q]; exact hel
        · rw [q]; obtain ⟨_, e1, _⟩ := h1.obj; exact Heap.lt_size e1
      rw [upd_ne (Nat.ne_of_lt hlt)]
      exact (hf c hcm).1
  done := by
    intro X hP hw hK hc i pins s σ H E I hf st hg
    subst hP hw hK
    obtain ⟨⟨old, he⟩, h1⟩ := st
    obtain ⟨xs, q1, hi⟩ := hg
    obtain ⟨its, rv, p1, _⟩ := sqB I q1
    have hl1 : i = its.toArray.size := by rw [List.size_toArray, hi]; exact rv.length
    have D := drawsB (prog := X.prog) (w := X.w) (A := X.A.in1) b (I.ok.hd hc) it l n1 its.toArray
    rw [hl1] at h1
    obtain ⟨f0, f1, f2, f3, f4, f5⟩ := hf it (by simp)
    exact wpAny_pyNext_enum_endD D he ⟨h1, p1⟩ fun h' eb => ⟨rfl, I.turned (t' := s.toks) (fun c o hb q => eb c o hb q) f0 f1 f3 f4 f5⟩
  self := fun A i s Q E st h => let ⟨⟨_, he⟩, _⟩ := st; wpAny_pyIter_enum he h
def iEn (K : PySem.W.Frag) (b : Bool) (ta : TA) : TI := fun σ H R => ta σ H fun vs H1 => ∃ a xs, vs = [.ref a] ∧ SqB b K H1 a xs ∧ R (Itn K b a) H1
theorem pi_en {X : Cx} (b : Bool) {e : Expr} {ta : TA} {p pos tpos : Pos} {elts : List Expr} {kk : Nat} (hg : Gl X "enumerate") (hm : X.mg "enumerate" = none) (ha : PA X [e] ta) (hs : starEach [e] X.env = [(false, eval e X.env)] := by rfl) :
    PI X (.Tuple elts kk tpos) (.Call (.Name "enumerate" p) [e] [] pos) (iEn X.K b ta) := by
  refine ⟨fun pins s σ H R I h => ?_⟩
  refine PyProof.Rows.Call_ (ld_blt I hg hm PyProof.Rows.boot_enumerate (PyProof.Rows.callWith_type1 (thn (ha.run pos pins s σ H _ I h) fun us s1 ⟨vs, H1, I1, r1, q1⟩ => ?_) hs rfl))
  obtain ⟨a, xs, ex, hq, q⟩ := q1
  subst ex
  obtain ⟨w1, us1, rfl, rw1, rr1⟩ := vals_cons r1
  obtain rfl : w1 = .ref a := rw1
  obtain rfl := vals_nil rr1
  obtain ⟨its, rv, p1, lt1⟩ := sqB I1 hq
  refine enum_begins1 (beginsB b a its.toArray) p1 fun h' he h1 hk => wpAny_pyIter_enum he ?_
  have I2 : L2.Inv X pins σ H1 { s1 with heap := h' } := I1.kept (t' := s1.toks) hk
  refine ⟨s1.heap.objs.size + 1, [s1.heap.objs.size + 1, s1.heap.objs.size], _, _, H1, rfl, I2, turnN (b := b) (Nat.ne_of_lt lt1) (Nat.ne_of_lt (Nat.lt_succ_of_lt lt1)) (Nat.succ_ne_self _), ⟨⟨.none, he⟩, .new b h1⟩, fun c hcm => ?_, q⟩
  have hle : s1.heap.objs.size ≤ c := by
    simp only [List.mem_cons, List.not_mem_nil, or_false] at hcm
    rcases hcm with z | z
    · rw [z]; exact Nat.le_add_right _ _
    · rw [z]; exact Nat.le_refl _
  exact I1.fpOk hle (I1.hok.fresh hle)
def enl (xs : List U) : List U := (List.range xs.length).map fun i => .tup [.int (i : Nat), xs.getD i .non]
/-- enumerate of a tuple -/
def gEnT : List U → M ItF := fun us T => match us with
  | [.tup xs] => .ok (constI (enl xs)) T
  | _ => .no
def fEnT (Fr : FxA) : FxI := fun η T => (Fr η T).bind fun us T1 => gEnT us T1
theorem enl_get {xs : List U} {i : Nat} {u : U} (h : (enl xs)[i]? = some u) : ∃ x, xs[i]? = some x ∧ u = .tup [.int (i : Nat), x] := by
  unfold enl at h
  rw [List.getElem?_map] at h
  obtain ⟨j, q, rfl⟩ := Option.map_eq_some_iff.mp h
  have hi := (List.getElem?_eq_some_iff.mp q).1
  obtain rfl := range_at q
  rw [List.length_range] at hi
  exact ⟨xs[j], List.getElem?_eq_getElem hi, by simp [hi]⟩
theorem itOk_en {K : PySem.W.Frag} {ρ : List Addr} {H : Hp} {xs : List U} {vs : List V} {a : Addr} (q : SqT K H a vs) (rs : RVs K ρ H xs vs) : ItOk K ρ H (constI (enl xs)) (Itn K false a) := by
  have hl : (enl xs).length = xs.length := by simp [enl]
  constructor
  · intro i f ρ' H' T' u ef g s h
    have ef : ((enl xs).map fun (x : U) (_ : Sto) => some x)[i]? = some f := ef
    rw [List.getElem?_map] at ef
    obtain ⟨y, q2, rfl⟩ := Option.map_eq_some_iff.mp ef
    obtain ⟨x, h1, _⟩ := enl_get q2
    obtain ⟨v, h2, _⟩ := rs.get h1
    exact ⟨vs, v, g.sq _ _ q, h2⟩
  · intro i f ρ' H' T' u x0 H'' ef g s h y
    have ef : ((enl xs).map fun (x : U) (_ : Sto) => some x)[i]? = some f := ef
    rw [List.getElem?_map] at ef
    obtain ⟨z, q2, rfl⟩ := Option.map_eq_some_iff.mp ef
    cases h
    obtain ⟨x, h1, rfl⟩ := enl_get q2
    obtain ⟨v, h2, h3⟩ := rs.get h1
    obtain ⟨D, x1, rfl, nD, rfl, hy⟩ := y
    have := hy vs (g.sq _ _ q)
    rw [h2] at this
    cases this
    have g2 : Gr K ρ' H' ρ' (upd H' D (.tup [.int (i : Nat), v])) := Gr.fill nD
    exact ⟨g2, s.fill nD, .tup (SqT.of upd_same) ((RVs.cons (.int _) (.cons (h3.gr g) .nil)).gr g2)⟩
  · intro ρ' H' T' g s h
    refine ⟨vs, g.sq _ _ q, ?_⟩
    show (List.map _ (enl xs)).length = _
    rw [List.length_map, hl, rs.length]
theorem fi_enT {X : Cx} {E : XK} {e : Expr} {Fr : FxA} {p pos tpos : Pos} {elts : List Expr} {kk : Nat} (hg : Gl X "enumerate") (hm : X.mg "enumerate" = none) (ha : FA X E [e] Fr) (hs : starEach [e] X.env = [(false, eval e X.env)] := by rfl) :
    FI X E (.Tuple elts kk tpos) (.Call (.Name "enumerate" p) [e] [] pos) (fEnT Fr) := by
  obtain ⟨t, k, q⟩ := ha
  refine ⟨_, pi_en false hg hm k hs, fun σ H ρ T η R s r h => ?_⟩
  refine q σ H ρ T η _ s r (OK.mono (OK.bind h) fun vs H1 ⟨ρ1, T1, us, g1, s1, r1, k1⟩ => ?_)
  unfold gEnT at k1
  split at k1
  · rename_i xs
    match r1 with
    | .cons (.tup sq rs) .nil => exact ⟨_, _, rfl, sq, k1 _ _ _ Gr.refl s1 (itOk_en sq rs)⟩
  · exact False.elim k1
section
variable {T : Sto} {η : Lo} {Fr : FxA} {QI : ItF → Sto → Prop}
theorem v_enT (q : Wp (Fr η T) fun us T1 => Wp (gEnT us T1) QI) : Wp (fEnT Fr η T) QI := .bind q
theorem v_enTT {xs : List U} (q : QI (constI (enl xs)) T) : Wp (gEnT [.tup xs] T) QI := .ok q
end
end Lf
set_option Elab.async false
set_option linter.all false
set_option maxRecDepth 100000
set_option maxHeartbeats 4000000
namespace Lf
open PySem PySem.Spec L2
def fDic0 : FxE := fun _ T => nw (.dic []) T
def fDic1 (k : Str) (Fv : FxE) : FxE := fun η T => (Fv η T).bind fun u T1 => nw (.dic [(.str k, u)]) T1
def keyD : Key → PyData
  | .inl i => .int i
  | .inr x => .str x
def Dq0 (v : V) (d : PyData) : Prop := (v = .non ∧ d = .none) ∨ (∃ b, v = .bl b ∧ d = .bool b) ∨ (∃ i, v = .int i ∧ d = .int i) ∨ ∃ x, v = .str x ∧ d = .str x
def DqN (K : PySem.W.Frag) (H : Hp) : Nat → V → PyData → Prop
  | 0 => Dq0
  | n + 1 => fun v d => Dq0 v d ∨ (∃ a xs ds, v = .ref a ∧ d = .list ds ∧ SqL K H a xs ∧ Paired (DqN K H n) xs ds) ∨ (∃ a xs ds, v = .ref a ∧ d = .tuple ds ∧ SqT K H a xs ∧ Paired (DqN K H n) xs ds) ∨
      ∃ (a : Addr) (ks : List (Key × V)) (kvs : List (PyData × PyData)), v = .ref a ∧ d = .dict kvs ∧ (H a = some (.dK ks) ∨ (ks = [] ∧ H a = some (.dT []))) ∧ Paired (fun (p : Key × V) (q : PyData × PyData) => q.1 = keyD p.1 ∧ DqN K H n p.2 q.2) ks kvs
theorem dqS {K : PySem.W.Frag} {H : Hp} {n : Nat} {v : V} {d : PyData} : DqN K H (n + 1) v d ↔ (Dq0 v d ∨ (∃ a xs ds, v = .ref a ∧ d = .list ds ∧ SqL K H a xs ∧ Paired (DqN K H n) xs ds) ∨ (∃ a xs ds, v = .ref a ∧ d = .tuple ds ∧ SqT K H a xs ∧ Paired (DqN K H n) xs ds) ∨
      ∃ (a : Addr) (ks : List (Key × V)) (kvs : List (PyData × PyData)), v = .ref a ∧ d = .dict kvs ∧ (H a = some (.dK ks) ∨ (ks = [] ∧ H a = some (.dT []))) ∧ Paired (fun (p : Key × V) (q : PyData × PyData) => q.1 = keyD p.1 ∧ DqN K H n p.2 q.2) ks kvs) := Iff.rfl
theorem Dq0.up {K : PySem.W.Frag} {H : Hp} {n : Nat} {v : V} {d : PyData} (h : Dq0 v d) : DqN K H n v d := by
  cases n with
  | zero => exact h
  | succ n => exact dqS.mpr (.inl h)
theorem Dq0.reads {h : Heap} {v : V} {d : PyData} {u : Value} (q : Dq0 v d) (r : RelV v u) : ∃ as, Reads h u d as ∧ sysModules ∉ as := by
  rcases q with ⟨rfl, rfl⟩ | ⟨b, rfl, rfl⟩ | ⟨i, rfl, rfl⟩ | ⟨x, rfl, rfl⟩
  · cases r; exact ⟨_, .none, by simp⟩
  · cases r; exact ⟨_, .bool b, by simp⟩
  · obtain ⟨t, rfl⟩ := r; exact ⟨_, .int i t, by simp⟩
  · obtain ⟨t, rfl⟩ := r; exact ⟨_, .str x t, by simp⟩
def sysB (K : PySem.W.Frag) : Bool := match K.lookup sysModules with
  | some o => o.cls == .type "dict"
  | none => false
theorem sysB_ok {K : PySem.W.Frag} (h : sysB K = true) : ∃ o, K.lookup sysModules = some o ∧ o.cls = .type "dict" := by
  unfold sysB at h
  split at h
  · rename_i o e
    exact ⟨o, e, beq_iff_eq.mp h⟩
  · cases h
section
variable {X : Cx} {pins : List (Addr × Obj)} {σ : L2.St} {H : Hp} {s : Shared}
theorem allN {n : Nat} (ih : ∀ v d u, DqN X.K H n v d → RelV v u → ∃ as, Reads s.heap u d as ∧ sysModules ∉ as) {vs : List V} {ds : List PyData} (h : Paired (DqN X.K H n) vs ds) : ∀ {us : List Value}, Vals vs us → ∃ as, ReadsAll s.heap us ds as ∧ sysModules ∉ as := by
  induction h with
  | nil => intro us r; cases r; exact ⟨_, .nil, by simp⟩
  | cons h1 h2 ih2 =>
    intro us r
    cases r with
    | cons r1 r2 =>
      obtain ⟨as, q1, z1⟩ := ih _ _ _ h1 r1
      obtain ⟨bs, q2, z2⟩ := ih2 r2
      exact ⟨_, .cons q1 q2, by simp [z1, z2]⟩
theorem kvN {n : Nat} (ih : ∀ v d u, DqN X.K H n v d → RelV v u → ∃ as, Reads s.heap u d as ∧ sysModules ∉ as) {ks : List (Key × V)} {kvs : List (PyData × PyData)} (h : Paired (fun (p : Key × V) (q : PyData × PyData) => q.1 = keyD p.1 ∧ DqN X.K H n p.2 q.2) ks kvs) :
    ∀ {rs : List (Key × Value)} {es : List DictEntry}, KV ks rs → Pairs (mixKind X.prog X.w) es rs →
      ∃ as bs, ReadsAll s.heap (es.map (·.key)) (kvs.map (·.1)) as ∧ ReadsAll s.heap (es.map (·.val)) (kvs.map (·.2)) bs ∧ sysModules ∉ as ∧ sysModules ∉ bs := by
  induction h with
  | nil =>
    intro rs es r p
    cases r
    cases p
    exact ⟨_, _, .nil, .nil, by simp, by simp⟩
  | @cons a b as bs h1 h2 ih2 =>
    intro rs es r p
    cases r with
    | @cons _ c _ cs r1 r2 =>
      cases p with
      | @cons e _ es _ p1 p2 p3 =>
        obtain ⟨a1, a2⟩ := a
        obtain ⟨b1, b2⟩ := b
        obtain ⟨c1, c2⟩ := c
        obtain ⟨e1, rv⟩ := r1
        obtain ⟨f1, f2⟩ := h1
        dsimp only at e1 rv f1 f2 p2
        subst e1 f1
        obtain ⟨as', q1, z1⟩ := ih _ _ _ f2 rv
        obtain ⟨bs', cs', w1, w2, w3, w4⟩ := ih2 r2 p3
        have hk : Reads s.heap e.key (keyD a1) [] := by
          rcases keyIs_shape p1 with ⟨i, t, rfl, e2⟩ | ⟨x, t, rfl, e2⟩
          · rw [e2]; exact .int i t
          · rw [e2]; exact .str x t
        exact ⟨_, _, .cons hk w1, .cons (by show Reads s.heap e.val b2 as'; rw [p2]; exact q1) w2, by simpa using w3, by simp [z1, w4]⟩
theorem DqN.reads (I : L2.Inv X pins σ H s) (hs : sysB X.K = true) : ∀ (n : Nat) (v : V) (d : PyData) (u : Value), DqN X.K H n v d → RelV v u → ∃ as, Reads s.heap u d as ∧ sysModules ∉ as := by
  intro n
  induction n with
  | zero => exact fun v d u h r => Dq0.reads h r
  | succ n ih =>
    intro v d u h r
    rcases dqS.mp h with h | ⟨a, xs, ds, rfl, rfl, hq, hp⟩ | ⟨a, xs, ds, rfl, rfl, hq, hp⟩ | ⟨a, ks, kvs, rfl, rfl, hq, hp⟩
    · exact h.reads r
    · cases r
      obtain ⟨its, rv, ⟨o, m, ho, hc, _, hd⟩, _⟩ := I.list hq
      obtain ⟨as, q1, z1⟩ := allN ih hp rv
      refine ⟨_, .list ho hc hd q1, fun hm => ?_⟩
      rcases List.mem_cons.mp hm with e | hm
      · obtain ⟨o2, e2, c2⟩ := sysB_ok hs
        have e3 := I.kIn _ _ e2
        rw [e] at e3
        rw [ho] at e3
        cases e3
        rw [hc] at c2
        simp at c2
      · exact z1 hm
    · cases r
      obtain ⟨its, rv, ⟨o, ho, hc, m, hd⟩, _⟩ := I.tuple hq
      obtain ⟨as, q1, z1⟩ := allN ih hp rv
      exact ⟨_, .tuple ho hc hd q1, z1⟩
    · cases r
      rcases hq with hq | ⟨rfl, hq⟩
      rotate_left
      · obtain ⟨_, hne, xs, hp2, o, es, ep, ho, ⟨hc, _, _⟩, hd, he, _⟩ := (show ObjOk X.prog X.w H s.heap a (.dT []) from I.hok a _ hq)
        cases hp2
        cases hp
        rw [List.map_nil] at he
        exact ⟨_, .dict (as := []) (bs := []) ho hc hd (by rw [he]; exact .nil) (by rw [he]; exact .nil), fun hm => by
          rcases List.mem_cons.mp hm with e | hm
          · rw [← e] at hne
            simp at hne
          · cases hm⟩
      obtain ⟨_, hne, rs, rk, o, es, ep, ho, ⟨hc, _, _⟩, hd, _, hpr, _⟩ := (show ObjOk X.prog X.w H s.heap a (.dK ks) from I.hok a _ hq)
      obtain ⟨as, bs, q1, q2, z1, z2⟩ := kvN ih hp rk hpr
      refine ⟨_, .dict ho hc hd q1 q2, fun hm => ?_⟩
      rcases List.mem_append.mp hm with hm | hm
      · rcases List.mem_cons.mp hm with e | hm
        · rw [← e] at hne
          simp at hne
        · exact z1 hm
      · exact z2 hm
def rReprD (K : PySem.W.Frag) : List V → Hp → VK → Prop := fun xs H Q => ∃ (a : Addr) (n : Nat) (d : PyData), xs = [.ref a] ∧ DqN K H n (.ref a) d ∧ d.showable = true ∧ d.depth ≤ 64 ∧ d.shown.length ≤ sizeLine ∧ Q (.str d.shown) H
theorem call_reprD (hs : sysB X.K = true) (gd : X.A.guards = some []) (hu : X.A.units + 66 < cLine) : CallR X (.builtin "repr") (rReprD X.K) := by
  intro pins s σ H xs us Q I r h
  obtain ⟨a, n, d, rfl, hd, h1, h2, h3, q⟩ := h
  obtain ⟨u, rfl, rfl⟩ := vals1 r
  obtain ⟨as, rd, na⟩ := DqN.reads I hs n _ _ _ hd rfl
  exact PySem.repr_of_reads' rd h1 (fun _ => na) gd (by omega) (fun b o e => e) (fun h' u tk hk => ⟨.str _, H, I.kept hk, ⟨_, rfl⟩, q⟩) h3
end
def keysD : List (U × U) → Option (List PyData)
  | [] => some []
  | (.int i, _) :: r => (keysD r).map (PyData.int i :: ·)
  | (.str x, _) :: r => (keysD r).map (PyData.str x :: ·)
  | _ :: _ => none
def datD (T : Sto) : Nat → U → Option PyData
  | _, .non => some .none
  | _, .bl b => some (.bool b)
  | _, .int i => some (.int i)
  | _, .str x => some (.str x)
  | n + 1, .tup xs => (dats (datD T n) xs).map .tuple
  | n + 1, .ob i => match T[i]? with
    | some (.lst xs) => (dats (datD T n) xs).map .list
    | some (.dic kvs) => match keysD kvs, dats (datD T n) (kvs.map (·.2)) with
      | some ks, some vs => some (.dict (ks.zip vs))
      | _, _ => none
    | _ => none
  | _, _ => none
theorem datsD_ok {K : PySem.W.Frag} {ρ : List Addr} {H : Hp} {n : Nat} {f : U → Option PyData} (ih : ∀ u v d, RV K ρ H u v → f u = some d → DqN K H n v d) : ∀ {us : List U} {vs : List V} {ds : List PyData}, RVs K ρ H us vs → dats f us = some ds → Paired (DqN K H n) vs ds
  | [], _, ds, .nil, e => by cases e; exact .nil
  | u :: us, _, ds, .cons r rs, e => by
    unfold dats at e
    split at e
    · rename_i d ds' e1 e2
      cases e
      exact .cons (ih _ _ _ r e1) (datsD_ok ih rs e2)
    · cases e
theorem kvD_ok {K : PySem.W.Frag} {ρ : List Addr} {H : Hp} {n : Nat} {f : U → Option PyData} (ih : ∀ u v d, RV K ρ H u v → f u = some d → DqN K H n v d) {kvs : List (U × U)} {ks : List (Key × V)} (h : Paired (fun (p : U × U) (q : Key × V) => p.1 = kU q.1 ∧ RV K ρ H p.2 q.2) kvs ks) :
    ∀ {as bs : List PyData}, keysD kvs = some as → dats f (kvs.map (·.2)) = some bs → Paired (fun (p : Key × V) (q : PyData × PyData) => q.1 = keyD p.1 ∧ DqN K H n p.2 q.2) ks (as.zip bs) := by
  induction h with
  | nil => intro as bs e1 e2; cases e1; cases e2; exact .nil
  | @cons p q ps qs h1 h2 ih2 =>
    intro as bs e1 e2
    obtain ⟨p1, p2⟩ := p
    obtain ⟨q1, q2⟩ := q
    obtain ⟨f1, f2⟩ := h1
    dsimp only at f1 f2
    subst f1
    rw [List.map_cons] at e2
    unfold dats at e2
    split at e2
    · rename_i d ds e3 e4
      cases e2
      cases q1 with
      | inl i =>
        obtain ⟨as', e5, rfl⟩ := Option.map_eq_some_iff.mp (show (keysD ps).map (PyData.int i :: ·) = some as from e1)
        exact .cons ⟨rfl, ih _ _ _ f2 e3⟩ (ih2 e5 e4)
      | inr x =>
        obtain ⟨as', e5, rfl⟩ := Option.map_eq_some_iff.mp (show (keysD ps).map (PyData.str x :: ·) = some as from e1)
        exact .cons ⟨rfl, ih _ _ _ f2 e3⟩ (ih2 e5 e4)
    · cases e2
theorem datD_ok {K : PySem.W.Frag} {ρ : List Addr} {H : Hp} {T : Sto} (s : RS K ρ H T) : ∀ (n : Nat) (u : U) (v : V) (d : PyData), RV K ρ H u v → datD T n u = some d → DqN K H n v d := by
  intro n
  have base : ∀ (n : Nat) (u : U) (v : V) (d : PyData), RV K ρ H u v → (∀ xs, u ≠ .tup xs) → (∀ i, u ≠ .ob i) → datD T n u = some d → DqN K H n v d := fun n u v d r n1 n2 e => by
    cases r with
    | non => cases n <;> (cases e; exact Dq0.up (.inl ⟨rfl, rfl⟩))
    | bl b => cases n <;> (cases e; exact Dq0.up (.inr (.inl ⟨b, rfl, rfl⟩)))
    | int i => cases n <;> (cases e; exact Dq0.up (.inr (.inr (.inl ⟨i, rfl, rfl⟩))))
    | str x => cases n <;> (cases e; exact Dq0.up (.inr (.inr (.inr ⟨x, rfl, rfl⟩))))
    | tup _ _ => exact absurd rfl (n1 _)
    | ob _ => exact absurd rfl (n2 _)
    | scr _ => cases n <;> cases e
    | raw _ => cases n <;> cases e
  induction n with
  | zero =>
    intro u v d r e
    refine base 0 u v d r (fun xs z => ?_) (fun i z => ?_) e
    · subst z; cases e
    · subst z; cases e
  | succ n ih =>
    intro u v d r e
    cases id r with
    | @tup a vs us q rs =>
      obtain ⟨ds, e1, rfl⟩ := Option.map_eq_some_iff.mp (show (dats (datD T n) us).map PyData.tuple = some d from e)
      exact .inr (.inr (.inl ⟨_, _, ds, rfl, rfl, q, datsD_ok ih rs e1⟩))
    | ob ea =>
      rename_i i a
      have e : (match T[i]? with
        | some (.lst xs) => (dats (datD T n) xs).map PyData.list
        | some (.dic kvs) => match keysD kvs, dats (datD T n) (kvs.map (·.2)) with
          | some ks, some vs => some (.dict (ks.zip vs))
          | _, _ => none
        | _ => none) = some d := e
      split at e
      · rename_i xs ex
        obtain ⟨ds, e1, rfl⟩ := Option.map_eq_some_iff.mp e
        obtain ⟨b, p, vs, f1, rs⟩ := s.get ex
        rw [ea] at p
        cases p
        exact .inr (.inl ⟨_, _, ds, rfl, rfl, SqL.of f1, datsD_ok ih rs e1⟩)
      · rename_i kvs ex
        split at e
        · rename_i as bs e1 e2
          cases e
          obtain ⟨b, p, ro⟩ := s.get ex
          rw [ea] at p
          cases p
          rcases ro with ⟨ks, f1, hp⟩ | ⟨k0, ks, f1, hp⟩
          · exact .inr (.inr (.inr ⟨_, ks, _, rfl, rfl, .inl f1, kvD_ok ih hp e1 e2⟩))
          · cases hp with
            | @cons p _ ps _ h1 _ =>
              obtain ⟨p1, p2⟩ := p
              obtain ⟨h1, _⟩ := h1
              dsimp only at h1
              subst h1
              cases e1
        · cases e
      · cases e
    | non => exact base _ _ _ _ r (fun _ z => nomatch z) (fun _ z => nomatch z) e
    | bl b => exact base _ _ _ _ r (fun _ z => nomatch z) (fun _ z => nomatch z) e
    | int i => exact base _ _ _ _ r (fun _ z => nomatch z) (fun _ z => nomatch z) e
    | str x => exact base _ _ _ _ r (fun _ z => nomatch z) (fun _ z => nomatch z) e
    | scr _ => exact base _ _ _ _ r (fun _ z => nomatch z) (fun _ z => nomatch z) e
    | raw _ => exact base _ _ _ _ r (fun _ z => nomatch z) (fun _ z => nomatch z) e
/-- repr of what holds objects, dicts among them -/
def gReprD : List U → M U := fun us T => match us with
  | [.tup xs] => match datD T 66 (.tup xs) with
    | some d => if d.showable = true ∧ d.depth ≤ 64 ∧ d.shown.length ≤ 16777216 then .ok (.str d.shown) T else .no
    | none => .no
  | [.ob k] => match datD T 66 (.ob k) with
    | some d => if d.showable = true ∧ d.depth ≤ 64 ∧ d.shown.length ≤ 16777216 then .ok (.str d.shown) T else .no
    | none => .no
  | us => gRepr us T
section
variable {X : Cx} {E : XK}
theorem fcl_reprD (hs : sysB X.K = true) (gd : X.A.guards = some []) (hu : X.A.units + 66 < cLine) : FCall X E (.builtin "repr") gReprD := by
  obtain ⟨r, h1, h2⟩ := fcl_repr (X := X) (E := E) gd hu
  refine ⟨fun xs H Q => r xs H Q ∨ rReprD X.K xs H Q, fun pins s σ H xs us Q I rv h => ?_, fun ρ H T us xs Q s rv h => ?_⟩
  · rcases h with h | h
    · exact h1 pins s σ H xs us Q I rv h
    · exact call_reprD hs gd hu pins s σ H xs us Q I rv h
  · unfold gReprD at h
    split at h
    · rename_i ys
      split at h
      · rename_i d e
        split at h
        · rename_i hc
          match rv with
          | .cons rv1 .nil =>
            cases id rv1 with
            | tup q rs => exact .inr ⟨_, 66, d, rfl, datD_ok s _ _ _ _ rv1 e, hc.1, hc.2.1, by rw [sizeLine_eq]; exact hc.2.2, okV s h (.str _)⟩
        · exact False.elim h
      · exact False.elim h
    · rename_i k
      split at h
      · rename_i d e
        split at h
        · rename_i hc
          match rv with
          | .cons rv1 .nil =>
            cases id rv1 with
            | ob ea => exact .inr ⟨_, 66, d, rfl, datD_ok s _ _ _ _ rv1 e, hc.1, hc.2.1, by rw [sizeLine_eq]; exact hc.2.2, okV s h (.str _)⟩
        · exact False.elim h
      · exact False.elim h
    · exact .inl (h2 ρ H T us xs Q s rv h)
end
theorem v_reprO {T : Sto} {k : Nat} {d : PyData} {Q : U → Sto → Prop} (e : datD T 66 (.ob k) = some d) (h : d.showable = true ∧ d.depth ≤ 64 ∧ d.shown.length ≤ 16777216) (q : Q (.str d.shown) T) : Wp (gReprD [.ob k] T) Q := by
  unfold gReprD
  simp only [e]
  rw [if_pos h]
  exact .ok q
theorem v_reprT {T : Sto} {xs : List U} {d : PyData} {Q : U → Sto → Prop} (e : datD T 66 (.tup xs) = some d) (h : d.showable = true ∧ d.depth ≤ 64 ∧ d.shown.length ≤ 16777216) (q : Q (.str d.shown) T) : Wp (gReprD [.tup xs] T) Q := by
  unfold gReprD
  simp only [e]
  rw [if_pos h]
  exact .ok q
def obsS (n : Nat) (fa : List He.Fa) (fn : List He.DefD) (fx : PySem.W.Frag → Bool) (g : Addr → Option Obj) : Bool × He.AlD :=
  (fx (He.frG g (sysModules :: cStatics :: asB g n)), He.obsD fa fn (He.frG g (sysModules :: cStatics :: asB g n)))
def hookS (n : Nat) (fa : List He.Fa) (fn : List He.DefD) (fx : PySem.W.Frag → Bool) : PySem.W.Hook where
  α := Bool × He.AlD
  obs := fun s => obsS n fa fn fx s.heap.get?
  val := fun _ => (true, He.valD fn)
  says := fun _ h => ∃ K : PySem.W.Frag, K.In h ∧ SaysF fa fn fx K
  of := fun _ _ e => ⟨_, He.frG_in, congrArg (fun z : Bool × He.AlD => z.2) e, congrArg (fun z : Bool × He.AlD => z.1) e⟩
  keeps := fun _ _ _ ⟨K, hK, c⟩ k => ⟨K, PySem.W.Frag.In.keeps hK k, c⟩
theorem obsS_eq {n : Nat} {fa : List He.Fa} {fn : List He.DefD} {fx : PySem.W.Frag → Bool} {g : Addr → Option Obj} {s : Shared} (h : ∀ a, g a = s.heap.get? a) : obsS n fa fn fx g = (hookS n fa fn fx).obs s := by
  rw [funext h] <;> rfl
end Lf
set_option Elab.async false
set_option linter.all false
set_option maxRecDepth 100000
set_option maxHeartbeats 4000000
namespace Lf
open PySem PySem.Spec L2
mutual
def pu : U → Bool
  | .tup xs => pus xs
  | .ob _ => false
  | .scr _ => false
  | .raw _ => false
  | _ => true
def pus : List U → Bool
  | [] => true
  | x :: xs => pu x && pus xs
end
theorem v_isiG {u : U} {n m : String} {b : Bool} {T : Sto} {Q : U → Sto → Prop} (ht : tyU T u = some n) (hn : kitB n m = some b) (q : Q (.bl b) T) : Wp (gIsi [u, .raw (.ty m)] T) Q := by
  unfold gIsi
  simp only [ht, hn]
  exact .ok q
section
variable {T : Sto} {Q : U → Sto → Prop} {g : List U → M U} {lo hi : Int}
local macro_rules | `(tactic| rfl') => `(tactic| repeat (first | with_reducible refine Lf.kS_nx ?_ | with_reducible refine Lf.kS_rt ?_ | with_reducible refine Lf.kS_bk ?_ | with_reducible refine Lf.kS_ct ?_ | with_reducible refine Lf.kD_rt ?_ | with_reducible refine Lf.kD_nx ?_ | with_reducible refine Lf.kF_nx ?_ | with_reducible refine Lf.kF_ct ?_ | with_reducible refine Lf.kF_bk ?_ | with_reducible refine Lf.kF_rt ?_ | with_reducible refine Lf.v_ifT ?_ | with_reducible refine Lf.v_ifF ?_ | with_reducible refine Lf.v_ifNT ?_ | with_reducible refine Lf.v_ifNF ?_ | with_reducible refine Lf.kP_int ?_ | with_reducible refine Lf.kP_bl ?_ | with_reducible refine Lf.kP_str ?_ | with_reducible refine Lf.kP_non ?_ | with_reducible refine Lf.v_iadd ?_ | with_reducible refine Lf.Wp.ok ?_ | with_reducible refine Lf.seq_wp ?_ | with_reducible refine Lf.v_bin ?_ | with_reducible refine Lf.v_cons ?_ | with_reducible refine Lf.v_call ?_ | with_reducible refine Lf.v_ret ?_ | with_reducible refine Lf.v_set ?_ | with_reducible refine Lf.v_asg ?_ | with_reducible refine Lf.v_if ?_ | with_reducible refine Lf.v_ifE ?_ | with_reducible refine Lf.v_bl ?_ | with_reducible refine Lf.v_tru ?_ | with_reducible refine Lf.v_and ?_ | with_reducible refine Lf.v_or ?_ | with_reducible refine Lf.v_not ?_ | with_reducible refine Lf.v_andV ?_ | with_reducible refine Lf.v_orV ?_ | with_reducible refine Lf.v_notV ?_ | with_reducible refine Lf.v_c ?_ | with_reducible refine Lf.v_nil ?_ | with_reducible refine Lf.v_skip ?_ | with_reducible refine Lf.v_drop ?_ | with_reducible refine Lf.v_retN ?_ | with_reducible refine Lf.v_brk ?_ | with_reducible refine Lf.v_cnt ?_ | with_reducible refine Lf.v_nm ?_ | with_reducible refine Lf.v_gnil ?_ | with_reducible refine Lf.v_gcons ?_ | with_reducible refine Lf.v_yes ?_ | with_reducible refine Lf.v_for ?_ | with_reducible refine Lf.v_lc ?_ | with_reducible refine Lf.v_rg ?_ | with_reducible refine Lf.v_iter ?_ | with_reducible refine Lf.v_iterT ?_ | with_reducible refine Lf.v_add ?_ | with_reducible refine Lf.v_sub ?_ | with_reducible refine Lf.v_neg ?_ | with_reducible refine Lf.v_lt ?_ | with_reducible refine Lf.v_le ?_ | with_reducible refine Lf.v_gt ?_ | with_reducible refine Lf.v_ge ?_ | with_reducible refine Lf.v_eqI ?_ | with_reducible refine Lf.v_neI ?_ | with_reducible refine Lf.v_abs ?_ | with_reducible refine Lf.v_intI ?_ | with_reducible refine Lf.v_intB ?_ | with_reducible refine Lf.v_max2 ?_ | with_reducible refine Lf.v_min2 ?_ | with_reducible refine Lf.v_lenT ?_ | with_reducible refine Lf.v_lenN ?_ | with_reducible refine Lf.v_nw ?_ | with_reducible refine Lf.v_un ?_ | with_reducible refine Lf.v_tup ?_ | with_reducible refine Lf.v_lst ?_ | with_reducible refine Lf.v_par2 ?_ | with_reducible refine Lf.v_par3 ?_ | with_reducible refine Lf.v_chain ?_ | with_reducible refine Lf.v_meth ?_ | with_reducible refine Lf.v_subT ?_ | with_reducible refine Lf.v_isiIB ?_ | with_reducible refine Lf.v_isiII ?_ | with_reducible refine Lf.v_sl ?_ | with_reducible refine Lf.v_noP ?_ | with_reducible refine Lf.v_pt ?_ | with_reducible refine Lf.v_cutT ?_ | ((with_reducible apply Lf.v_var); exact rfl) | ((with_reducible refine Lf.v_kw ?_ ?_); exact rfl) | ((with_reducible apply Lf.v_iterO); first | exact rfl | assumption) | ((with_reducible apply Lf.v_lenL); first | exact rfl | assumption) | ((with_reducible refine Lf.v_unp ?_ ?_); exact rfl) | ((with_reducible apply Lf.v_aug); exact rfl) | ((with_reducible refine Lf.v_mod ?_ ?_); first | decide | omega | assumption | fail) | ((with_reducible refine Lf.v_div ?_ ?_); first | exact ⟨by decide, by decide +kernel⟩ | assumption | exact Lf.log2d (by omega) ⟨by omega, by omega⟩ | fail) | ((with_reducible refine Lf.v_mul ?_ ?_); first | exact Lf.log2m ⟨by omega, by omega⟩ ⟨by omega, by omega⟩ | exact Lf.log2m (by assumption) ⟨by omega, by omega⟩ | exact Lf.log2m ⟨by omega, by omega⟩ (by assumption) | fail) | ((with_reducible refine Lf.v_pow ?_ ?_); exact ⟨by decide, by decide, by decide⟩) | ((with_reducible refine Lf.v_rg1 ?_ ?_); first | decide | fail) | ((with_reducible apply Lf.v_ixL); (first | exact rfl | assumption | fail); (first | exact rfl | assumption | fail)) | ((with_reducible apply Lf.v_ixT); (first | exact rfl | assumption | fail)) | ((with_reducible apply Lf.v_ixN); (first | exact rfl | assumption | fail)) | with_reducible refine ⟨_, rfl, ?_⟩ | (refine ⟨_, (rfl : Lf.tru _ (Lf.U.bl _) = some _), ?_⟩) | with_reducible refine ⟨_, _, rfl, ?_⟩ | with_reducible refine ⟨_, _, _, rfl, ?_⟩ | (refine ⟨(Nat.le_of_ble_eq_true rfl : List.length _ ≤ 16777216), ?_⟩) | with_reducible refine Lf.v_enum ?_ | fail))
theorem iwL_ok (hg : g = gDef 3 iwA) {v : Int} (h1 : lo ≤ v) (h2 : v ≤ hi) (q : Q (.bl true) T) : Wp (kdG .len 3 g [.int v, .int lo, .int hi] T) Q := by
  subst hg
  refine len_wp rfl (gDef_wp ?_)
  unfold iwA
  rfl'
  refine v_yesd h1 ?_
  rfl'
  rw [decide_eq_true h2]
  exact q
theorem iwL_out (hg : g = gDef 3 iwA) {v : Int} (h : v < lo ∨ hi < v) (q : Q (.bl false) T) : Wp (kdG .len 3 g [.int v, .int lo, .int hi] T) Q := by
  subst hg
  refine len_wp rfl (gDef_wp ?_)
  unfold iwA
  rfl'
  refine v_ifd (fun h1 => ?_) (fun h1 => ?_)
  · rfl'
    rw [decide_eq_false (by omega)]
    exact q
  · rfl'
    exact q
theorem iwL_bl (hg : g = gDef 3 iwA) {b : Bool} (q : Q (.bl false) T) : Wp (kdG .len 3 g [.bl b, .int lo, .int hi] T) Q := by
  subst hg
  refine len_wp rfl (gDef_wp ?_)
  unfold iwA
  rfl'
  refine v_isiG (n := "bool") (b := true) rfl rfl ?_
  rfl'
  refine v_isiG (n := "bool") (b := true) rfl rfl ?_
  rfl'
  exact q
theorem iwL_no (hg : g = gDef 3 iwA) {u : U} {n : String} (ht : tyU T u = some n) (hn : kitB n "int" = some false) (q : Q (.bl false) T) : Wp (kdG .len 3 g [u, .int lo, .int hi] T) Q := by
  subst hg
  refine len_wp rfl (gDef_wp ?_)
  unfold iwA
  rfl'
  refine v_isiG ht hn ?_
  rfl'
  exact q
end
local macro_rules | `(tactic| rfl') => `(tactic| repeat (first | with_reducible refine Lf.kS_nx ?_ | with_reducible refine Lf.kS_rt ?_ | with_reducible refine Lf.kS_bk ?_ | with_reducible refine Lf.kS_ct ?_ | with_reducible refine Lf.kD_rt ?_ | with_reducible refine Lf.kD_nx ?_ | with_reducible refine Lf.kF_nx ?_ | with_reducible refine Lf.kF_ct ?_ | with_reducible refine Lf.kF_bk ?_ | with_reducible refine Lf.kF_rt ?_ | with_reducible refine Lf.v_ifT ?_ | with_reducible refine Lf.v_ifF ?_ | with_reducible refine Lf.v_ifNT ?_ | with_reducible refine Lf.v_ifNF ?_ | with_reducible refine Lf.kP_int ?_ | with_reducible refine Lf.kP_bl ?_ | with_reducible refine Lf.kP_str ?_ | with_reducible refine Lf.kP_non ?_ | with_reducible refine Lf.v_iadd ?_ | with_reducible refine Lf.Wp.ok ?_ | with_reducible refine Lf.seq_wp ?_ | with_reducible refine Lf.v_bin ?_ | with_reducible refine Lf.v_cons ?_ | with_reducible refine Lf.v_call ?_ | with_reducible refine Lf.v_ret ?_ | with_reducible refine Lf.v_set ?_ | with_reducible refine Lf.v_asg ?_ | with_reducible refine Lf.v_if ?_ | with_reducible refine Lf.v_ifE ?_ | with_reducible refine Lf.v_bl ?_ | with_reducible refine Lf.v_tru ?_ | with_reducible refine Lf.v_and ?_ | with_reducible refine Lf.v_or ?_ | with_reducible refine Lf.v_not ?_ | with_reducible refine Lf.v_andV ?_ | with_reducible refine Lf.v_orV ?_ | with_reducible refine Lf.v_notV ?_ | with_reducible refine Lf.v_c ?_ | with_reducible refine Lf.v_nil ?_ | with_reducible refine Lf.v_skip ?_ | with_reducible refine Lf.v_drop ?_ | with_reducible refine Lf.v_retN ?_ | with_reducible refine Lf.v_brk ?_ | with_reducible refine Lf.v_cnt ?_ | with_reducible refine Lf.v_nm ?_ | with_reducible refine Lf.v_gnil ?_ | with_reducible refine Lf.v_gcons ?_ | with_reducible refine Lf.v_yes ?_ | with_reducible refine Lf.v_for ?_ | with_reducible refine Lf.v_lc ?_ | with_reducible refine Lf.v_rg ?_ | with_reducible refine Lf.v_iter ?_ | with_reducible refine Lf.v_iterT ?_ | with_reducible refine Lf.v_add ?_ | with_reducible refine Lf.v_sub ?_ | with_reducible refine Lf.v_neg ?_ | with_reducible refine Lf.v_lt ?_ | with_reducible refine Lf.v_le ?_ | with_reducible refine Lf.v_gt ?_ | with_reducible refine Lf.v_ge ?_ | with_reducible refine Lf.v_eqI ?_ | with_reducible refine Lf.v_neI ?_ | with_reducible refine Lf.v_abs ?_ | with_reducible refine Lf.v_intI ?_ | with_reducible refine Lf.v_intB ?_ | with_reducible refine Lf.v_max2 ?_ | with_reducible refine Lf.v_min2 ?_ | with_reducible refine Lf.v_lenT ?_ | with_reducible refine Lf.v_lenN ?_ | with_reducible refine Lf.v_nw ?_ | with_reducible refine Lf.v_un ?_ | with_reducible refine Lf.v_tup ?_ | with_reducible refine Lf.v_lst ?_ | with_reducible refine Lf.v_par2 ?_ | with_reducible refine Lf.v_par3 ?_ | with_reducible refine Lf.v_chain ?_ | with_reducible refine Lf.v_meth ?_ | with_reducible refine Lf.v_subT ?_ | with_reducible refine Lf.v_isiIB ?_ | with_reducible refine Lf.v_isiII ?_ | with_reducible refine Lf.v_sl ?_ | with_reducible refine Lf.v_noP ?_ | with_reducible refine Lf.v_pt ?_ | with_reducible refine Lf.v_cutT ?_ | ((with_reducible apply Lf.v_var); exact rfl) | ((with_reducible refine Lf.v_kw ?_ ?_); exact rfl) | ((with_reducible apply Lf.v_iterO); first | exact rfl | assumption) | ((with_reducible apply Lf.v_lenL); first | exact rfl | assumption) | ((with_reducible refine Lf.v_unp ?_ ?_); exact rfl) | ((with_reducible apply Lf.v_aug); exact rfl) | ((with_reducible refine Lf.v_mod ?_ ?_); first | decide | omega | assumption | fail) | ((with_reducible refine Lf.v_div ?_ ?_); first | exact ⟨by decide, by decide +kernel⟩ | assumption | exact Lf.log2d (by omega) ⟨by omega, by omega⟩ | fail) | ((with_reducible refine Lf.v_mul ?_ ?_); first | exact Lf.log2m ⟨by omega, by omega⟩ ⟨by omega, by omega⟩ | exact Lf.log2m (by assumption) ⟨by omega, by omega⟩ | exact Lf.log2m ⟨by omega, by omega⟩ (by assumption) | fail) | ((with_reducible refine Lf.v_pow ?_ ?_); exact ⟨by decide, by decide, by decide⟩) | ((with_reducible refine Lf.v_rg1 ?_ ?_); first | decide | fail) | ((with_reducible apply Lf.v_ixL); (first | exact rfl | assumption | fail); (first | exact rfl | assumption | fail)) | ((with_reducible apply Lf.v_ixT); (first | exact rfl | assumption | fail)) | ((with_reducible apply Lf.v_ixN); (first | exact rfl | assumption | fail)) | with_reducible refine ⟨_, rfl, ?_⟩ | (refine ⟨_, (rfl : Lf.tru _ (Lf.U.bl _) = some _), ?_⟩) | with_reducible refine ⟨_, _, rfl, ?_⟩ | with_reducible refine ⟨_, _, _, rfl, ?_⟩ | (refine ⟨(Nat.le_of_ble_eq_true rfl : List.length _ ≤ 16777216), ?_⟩) | with_reducible refine Lf.v_enum ?_ | fail))
end Lf
set_option Elab.async false
set_option linter.all false
set_option maxRecDepth 100000
set_option maxHeartbeats 4000000
namespace Lf
open PySem PySem.Spec L2
abbrev Pw := List Int × U
def pU (w : Pw) : U := .tup [.tup (w.1.map .int), w.2]
def pt : Nat → List U → List Pw
  | 0, xs => xs.zipIdx.flatMap fun q => [([(q.2 : Int)], q.1)]
  | d + 1, xs => xs.zipIdx.flatMap fun q => match lpOf q.1 with
    | some (k, b) => (List.range k.toNat).flatMap fun t : Nat => (pt d b).map fun w => ((q.2 : Int) :: (t : Int) :: w.1, w.2)
    | none => [([(q.2 : Int)], q.1)]
/-- an instruction, or a loop of at most so many steps -/
abbrev Itm (N : Int) (d : Nat) (x : U) : Prop := Op x ∨ ∃ d' k b, d = d' + 1 ∧ x = lpU k b ∧ 0 ≤ k ∧ k ≤ 1000000 ∧ Ps N d' b
theorem pts_dat {T : Sto} {n : Nat} : ∀ l : List Pw, (∀ w ∈ l, Op w.2) → ∃ ds, dats (dat T (n + 3)) (l.map pU) = some ds ∧ PyData.canLayAll0 ds = true ∧ PyData.depthAll ds ≤ 4 ∧ ds.length = l.length
  | [], _ => ⟨[], rfl, rfl, by decide +kernel, rfl⟩
  | w :: l, h => by
    obtain ⟨ds, h1, h2, h3, h4⟩ := pts_dat l fun y hy => h y (List.mem_cons_of_mem _ hy)
    obtain ⟨os, o1, o2, o3, o4⟩ := ops_dat (T := T) (n := n) [w.2] fun y hy => by rw [List.mem_singleton.mp hy]; exact h w (List.mem_cons_self ..)
    obtain ⟨o, rfl⟩ : ∃ o, os = [o] := by
      match os, o4 with
      | [o], _ => exact ⟨o, rfl⟩
    have hi : ∀ ns : List Int, dats (dat T (n + 1)) (ns.map .int) = some (ns.map .int) ∧ PyData.canLayAll0 (ns.map .int) = true ∧ PyData.depthAll (ns.map .int) = 0 := by
      intro ns
      induction ns with
      | nil => exact ⟨rfl, rfl, by decide +kernel⟩
      | cons m ns ih =>
        rw [List.map_cons, List.map_cons]
        refine ⟨by unfold dats; rw [ih.1]; rfl, ?_, ?_⟩
        · simp [PyData.canLayAll0, PyData.canLay0, ih.2.1]
        · simp [PyData.depthAll, PyData.depth, ih.2.2]
    have e : dat T (n + 3) (pU w) = some (.tuple [.tuple (w.1.map .int), o]) := by
      show (dats (dat T (n + 2)) [.tup (w.1.map .int), w.2]).map PyData.tuple = _
      have e1 : dat T (n + 2) (.tup (w.1.map .int)) = some (.tuple (w.1.map .int)) := by
        show (dats (dat T (n + 1)) (w.1.map .int)).map PyData.tuple = _
        rw [(hi w.1).1]; rfl
      have e2 : dats (dat T (n + 2)) [w.2] = some [o] := o1
      unfold dats
      rw [e1, e2]; rfl
    refine ⟨.tuple [.tuple (w.1.map .int), o] :: ds, by rw [List.map_cons]; unfold dats; rw [e, h1], ?_, ?_, by simp [h4]⟩
    · have : o.canLay0 = true := by simpa [PyData.canLayAll0] using o2
      simp [PyData.canLayAll0, PyData.canLay0, h2, (hi w.1).2.1, this]
    · have : o.depth ≤ 2 := by simpa [PyData.depthAll] using o3
      simp [PyData.depthAll, PyData.depth, (hi w.1).2.2]; omega
local macro_rules | `(tactic| rfl') => `(tactic| repeat (first | with_reducible refine Lf.kS_nx ?_ | with_reducible refine Lf.kS_rt ?_ | with_reducible refine Lf.kS_bk ?_ | with_reducible refine Lf.kS_ct ?_ | with_reducible refine Lf.kD_rt ?_ | with_reducible refine Lf.kD_nx ?_ | with_reducible refine Lf.kF_nx ?_ | with_reducible refine Lf.kF_ct ?_ | with_reducible refine Lf.kF_bk ?_ | with_reducible refine Lf.kF_rt ?_ | with_reducible refine Lf.v_ifT ?_ | with_reducible refine Lf.v_ifF ?_ | with_reducible refine Lf.v_ifNT ?_ | with_reducible refine Lf.v_ifNF ?_ | with_reducible refine Lf.kP_int ?_ | with_reducible refine Lf.kP_bl ?_ | with_reducible refine Lf.kP_str ?_ | with_reducible refine Lf.kP_non ?_ | with_reducible refine Lf.v_iadd ?_ | with_reducible refine Lf.Wp.ok ?_ | with_reducible refine Lf.seq_wp ?_ | with_reducible refine Lf.v_bin ?_ | with_reducible refine Lf.v_cons ?_ | with_reducible refine Lf.v_call ?_ | with_reducible refine Lf.v_ret ?_ | with_reducible refine Lf.v_set ?_ | with_reducible refine Lf.v_asg ?_ | with_reducible refine Lf.v_if ?_ | with_reducible refine Lf.v_ifE ?_ | with_reducible refine Lf.v_bl ?_ | with_reducible refine Lf.v_tru ?_ | with_reducible refine Lf.v_and ?_ | with_reducible refine Lf.v_or ?_ | with_reducible refine Lf.v_not ?_ | with_reducible refine Lf.v_andV ?_ | with_reducible refine Lf.v_orV ?_ | with_reducible refine Lf.v_notV ?_ | with_reducible refine Lf.v_c ?_ | with_reducible refine Lf.v_nil ?_ | with_reducible refine Lf.v_skip ?_ | with_reducible refine Lf.v_drop ?_ | with_reducible refine Lf.v_retN ?_ | with_reducible refine Lf.v_brk ?_ | with_reducible refine Lf.v_cnt ?_ | with_reducible refine Lf.v_nm ?_ | with_reducible refine Lf.v_gnil ?_ | with_reducible refine Lf.v_gcons ?_ | with_reducible refine Lf.v_yes ?_ | with_reducible refine Lf.v_for ?_ | with_reducible refine Lf.v_lc ?_ | with_reducible refine Lf.v_rg ?_ | with_reducible refine Lf.v_iter ?_ | with_reducible refine Lf.v_iterT ?_ | with_reducible refine Lf.v_add ?_ | with_reducible refine Lf.v_sub ?_ | with_reducible refine Lf.v_neg ?_ | with_reducible refine Lf.v_lt ?_ | with_reducible refine Lf.v_le ?_ | with_reducible refine Lf.v_gt ?_ | with_reducible refine Lf.v_ge ?_ | with_reducible refine Lf.v_eqI ?_ | with_reducible refine Lf.v_neI ?_ | with_reducible refine Lf.v_abs ?_ | with_reducible refine Lf.v_intI ?_ | with_reducible refine Lf.v_intB ?_ | with_reducible refine Lf.v_max2 ?_ | with_reducible refine Lf.v_min2 ?_ | with_reducible refine Lf.v_lenT ?_ | with_reducible refine Lf.v_lenN ?_ | with_reducible refine Lf.v_nw ?_ | with_reducible refine Lf.v_un ?_ | with_reducible refine Lf.v_tup ?_ | with_reducible refine Lf.v_lst ?_ | with_reducible refine Lf.v_par2 ?_ | with_reducible refine Lf.v_par3 ?_ | with_reducible refine Lf.v_chain ?_ | with_reducible refine Lf.v_meth ?_ | with_reducible refine Lf.v_subT ?_ | with_reducible refine Lf.v_isiIB ?_ | with_reducible refine Lf.v_isiII ?_ | with_reducible refine Lf.v_sl ?_ | with_reducible refine Lf.v_noP ?_ | with_reducible refine Lf.v_pt ?_ | with_reducible refine Lf.v_cutT ?_ | ((with_reducible apply Lf.v_var); exact rfl) | ((with_reducible refine Lf.v_kw ?_ ?_); exact rfl) | ((with_reducible apply Lf.v_iterO); first | exact rfl | assumption) | ((with_reducible apply Lf.v_lenL); first | exact rfl | assumption) | ((with_reducible refine Lf.v_unp ?_ ?_); exact rfl) | ((with_reducible apply Lf.v_aug); exact rfl) | ((with_reducible refine Lf.v_mod ?_ ?_); first | decide | omega | assumption | fail) | ((with_reducible refine Lf.v_div ?_ ?_); first | exact ⟨by decide, by decide +kernel⟩ | assumption | exact Lf.log2d (by omega) ⟨by omega, by omega⟩ | fail) | ((with_reducible refine Lf.v_mul ?_ ?_); first | exact Lf.log2m ⟨by omega, by omega⟩ ⟨by omega, by omega⟩ | exact Lf.log2m (by assumption) ⟨by omega, by omega⟩ | exact Lf.log2m ⟨by omega, by omega⟩ (by assumption) | fail) | ((with_reducible refine Lf.v_pow ?_ ?_); exact ⟨by decide, by decide, by decide⟩) | ((with_reducible refine Lf.v_rg1 ?_ ?_); first | decide | fail) | ((with_reducible apply Lf.v_ixL); (first | exact rfl | assumption | fail); (first | exact rfl | assumption | fail)) | ((with_reducible apply Lf.v_ixT); (first | exact rfl | assumption | fail)) | ((with_reducible apply Lf.v_ixN); (first | exact rfl | assumption | fail)) | with_reducible refine ⟨_, rfl, ?_⟩ | (refine ⟨_, (rfl : Lf.tru _ (Lf.U.bl _) = some _), ?_⟩) | with_reducible refine ⟨_, _, rfl, ?_⟩ | with_reducible refine ⟨_, _, _, rfl, ?_⟩ | (refine ⟨(Nat.le_of_ble_eq_true rfl : List.length _ ≤ 16777216), ?_⟩) | with_reducible refine Lf.v_enum ?_ | fail))
end Lf
set_option Elab.async false
set_option linter.all false
set_option maxRecDepth 100000
set_option maxHeartbeats 4000000
namespace Lf
open PySem PySem.Spec L2
end Lf
set_option Elab.async false
set_option linter.all false
set_option maxRecDepth 100000
set_option maxHeartbeats 4000000
namespace Lf
open PySem PySem.Spec L2
/-- what lists and dicts T holds, T' holds too -/
def Kp (T T' : Sto) : Prop := (∀ (j : Nat) (xs : List U), T[j]? = some (O.lst xs) → T'[j]? = some (O.lst xs)) ∧ (∀ (j : Nat) (xs : List (U × U)), T[j]? = some (O.dic xs) → T'[j]? = some (O.dic xs))
theorem Kp.refl (T : Sto) : Kp T T := ⟨fun _ _ h => h, fun _ _ h => h⟩
theorem Kp.trans {T1 T2 T3 : Sto} (a : Kp T1 T2) (b : Kp T2 T3) : Kp T1 T3 := ⟨fun j xs h => b.1 j xs (a.1 j xs h), fun j xs h => b.2 j xs (a.2 j xs h)⟩
theorem Kp.app (T os : Sto) : Kp T (T ++ os) :=
  ⟨fun j xs h => by rw [List.getElem?_append_left (List.getElem?_eq_some_iff.mp h).1]; exact h, fun j xs h => by rw [List.getElem?_append_left (List.getElem?_eq_some_iff.mp h).1]; exact h⟩
theorem datD_kp {T T' : Sto} (k : Kp T T') : ∀ (n : Nat) (u : U) (d : PyData), datD T n u = some d → datD T' n u = some d := by
  intro n
  induction n with
  | zero =>
    intro u d e
    cases u <;> exact e
  | succ n ih =>
    have all : ∀ (xs : List U) (ds : List PyData), dats (datD T n) xs = some ds → dats (datD T' n) xs = some ds := by
      intro xs
      induction xs with
      | nil => intro ds e; exact e
      | cons x xs ihx =>
        intro ds e
        unfold dats at e
        split at e
        · rename_i d ds' e1 e2
          cases e
          exact dats_cons (ih x d e1) (ihx ds' e2)
        · cases e
    intro u d e
    cases u with
    | tup xs =>
      obtain ⟨ds, e1, rfl⟩ := Option.map_eq_some_iff.mp (show (dats (datD T n) xs).map PyData.tuple = some d from e)
      show (dats (datD T' n) xs).map PyData.tuple = _
      rw [all xs ds e1]; rfl
    | ob i =>
      have e : (match T[i]? with
        | some (.lst xs) => (dats (datD T n) xs).map PyData.list
        | some (.dic kvs) => match keysD kvs, dats (datD T n) (kvs.map fun p : U × U => p.2) with
          | some ks, some vs => some (.dict (ks.zip vs))
          | _, _ => none
        | _ => none) = some d := e
      show (match T'[i]? with
        | some (.lst xs) => (dats (datD T' n) xs).map PyData.list
        | some (.dic kvs) => match keysD kvs, dats (datD T' n) (kvs.map fun p : U × U => p.2) with
          | some ks, some vs => some (.dict (ks.zip vs))
          | _, _ => none
        | _ => none) = some d
      split at e
      · rename_i xs ex
        obtain ⟨ds, e1, rfl⟩ := Option.map_eq_some_iff.mp e
        rw [k.1 _ _ ex]
        show (dats (datD T' n) xs).map PyData.list = _
        rw [all xs ds e1]; rfl
      · rename_i kvs ex
        split at e
        · rename_i as bs e1 e2
          cases e
          rw [k.2 _ _ ex]
          simp only [e1, all _ _ e2]
        · cases e
      · cases e
    | _ => exact e
/-- a value whose text can be told, dicts among what it holds -/
def RpD (T : Sto) (u : U) (k b : Nat) : Prop := ∃ d, (∀ n, k ≤ n → datD T n u = some d) ∧ d.showable = true ∧ d.depth ≤ k ∧ d.leavesShort 1930 = true ∧ d.bulk ≤ b ∧ ∀ ns, u ≠ .scr ns
def shwD (T : Sto) (u : U) : Str := match datD T 66 u with
  | some d => d.shown
  | none => Str.empty
theorem RpD.kp {T T' : Sto} {u : U} {k b : Nat} (h : RpD T u k b) (e : Kp T T') : RpD T' u k b :=
  let ⟨d, h1, h2⟩ := h; ⟨d, fun n hn => datD_kp e n u d (h1 n hn), h2⟩
theorem RpD.mono {T : Sto} {u : U} {k b k' b' : Nat} (h : RpD T u k b) (hk : k ≤ k') (hb : b ≤ b') : RpD T u k' b' :=
  let ⟨d, h1, h2, h4, h5, h6, h7⟩ := h; ⟨d, fun n hn => h1 n (Nat.le_trans hk hn), h2, Nat.le_trans h4 hk, h5, Nat.le_trans h6 hb, h7⟩
section
variable {T : Sto}
theorem RpD.int {i : Int} (h : i.natAbs.log2 < 1920) : RpD T (.int i) 0 0 := by
  refine ⟨.int i, fun n _ => by cases n <;> rfl, by simp [PyData.showable, h], Nat.le_of_eq rfl, ?_, Nat.le_of_eq rfl, fun _ => U.noConfusion⟩
  simp only [PyData.leavesShort, decide_eq_true_eq]
  exact Nat.le_trans (PyProof.Rows.int_text_len_1921 h) (by decide)
theorem RpD.sm {i : Int} (h : Sm i) : RpD T (.int i) 0 0 := .int (by have := log2_small h; omega)
theorem RpD.non : RpD T .non 0 0 := ⟨.none, fun n _ => by cases n <;> rfl, rfl, Nat.le_of_eq rfl, rfl, Nat.le_of_eq rfl, fun _ => U.noConfusion⟩
theorem RpD.bl (b : Bool) : RpD T (.bl b) 0 0 := ⟨.bool b, fun n _ => by cases n <;> rfl, rfl, Nat.le_of_eq rfl, rfl, Nat.le_of_eq rfl, fun _ => U.noConfusion⟩
theorem short_str {x : Str} (h : PyData.strOk x = true) : PyData.leavesShort 1930 (.str x) = true := by
  unfold PyData.strOk at h
  simp only [PyData.leavesShort, List.all_eq_true, decide_eq_true_eq]
  intro c hc
  rw [Array.all_eq_true] at h
  obtain ⟨i, hi, rfl⟩ := List.mem_iff_getElem.mp hc
  have := h i (by simpa using hi)
  simp only [decide_eq_true_eq] at this
  rw [Array.getElem_toList]
  omega
theorem RpD.str {x : Str} (h : PyData.strOk x = true) : RpD T (.str x) 0 x.cps.size :=
  ⟨.str x, fun n _ => by cases n <;> rfl, rfl, Nat.le_of_eq rfl, short_str h, Nat.le_of_eq rfl, fun _ => U.noConfusion⟩
def RpDs (T : Sto) (us : List U) (k b : Nat) : Prop := ∃ ds, (∀ n, k ≤ n → dats (datD T n) us = some ds) ∧ PyData.showableAll ds = true ∧ PyData.depthAll ds ≤ k ∧ PyData.leavesShortAll 1930 ds = true ∧ PyData.bulkAll ds ≤ b
theorem RpDs.nil {k : Nat} : RpDs T [] k 0 := ⟨[], fun _ _ => rfl, rfl, Nat.zero_le _, rfl, Nat.le_of_eq rfl⟩
theorem RpDs.cons {u : U} {us : List U} {k b c : Nat} (h : RpD T u k b) (h2 : RpDs T us k c) : RpDs T (u :: us) k (b + 1 + c) := by
  obtain ⟨d, a1, a2, a4, a5, a6, _⟩ := h
  obtain ⟨ds, b1, b2, b4, b5, b6⟩ := h2
  refine ⟨d :: ds, fun n hn => dats_cons (a1 n hn) (b1 n hn), ?_, ?_, ?_, ?_⟩
  · simp only [PyData.showableAll, a2, b2, Bool.and_self]
  · simp only [PyData.depthAll]; omega
  · simp only [PyData.leavesShortAll, a5, b5, Bool.and_self]
  · simp only [PyData.bulkAll]; omega
theorem RpD.tup {us : List U} {k b : Nat} (h : RpDs T us k b) : RpD T (.tup us) (k + 1) b := by
  obtain ⟨ds, b1, b2, b4, b5, b6⟩ := h
  refine ⟨.tuple ds, fun n hn => ?_, ?_, ?_, ?_, ?_, fun _ => U.noConfusion⟩
  · obtain ⟨n, rfl⟩ : ∃ m, n = m + 1 := ⟨n - 1, by omega⟩
    show (dats (datD T n) us).map PyData.tuple = _
    rw [b1 n (by omega)]; rfl
  · simpa only [PyData.showable] using b2
  · simp only [PyData.depth]; omega
  · simpa only [PyData.leavesShort] using b5
  · simpa only [PyData.bulk] using b6
theorem RpD.ob {us : List U} {i k b : Nat} (e : T[i]? = some (.lst us)) (h : RpDs T us k b) : RpD T (.ob i) (k + 1) b := by
  obtain ⟨ds, b1, b2, b4, b5, b6⟩ := h
  refine ⟨.list ds, fun n hn => ?_, ?_, ?_, ?_, ?_, fun _ => U.noConfusion⟩
  · obtain ⟨n, rfl⟩ : ∃ m, n = m + 1 := ⟨n - 1, by omega⟩
    show (match T[i]? with
      | some (.lst xs) => (dats (datD T n) xs).map PyData.list
      | some (.dic kvs) => match keysD kvs, dats (datD T n) (kvs.map fun p : U × U => p.2) with
        | some ks, some vs => some (.dict (ks.zip vs))
        | _, _ => none
      | _ => none) = _
    rw [e]
    show (dats (datD T n) us).map PyData.list = _
    rw [b1 n (by omega)]; rfl
  · simpa only [PyData.showable] using b2
  · simp only [PyData.depth]; omega
  · simpa only [PyData.leavesShort] using b5
  · simpa only [PyData.bulk] using b6
/-- a dict whose keys are texts -/
def RpKs (T : Sto) (kvs : List (U × U)) (k b : Nat) : Prop := ∃ ks vs, keysD kvs = some ks ∧ (∀ n, k ≤ n → dats (datD T n) (kvs.map fun p : U × U => p.2) = some vs) ∧ PyData.showableKv (ks.zip vs) = true ∧ PyData.depthKv (ks.zip vs) ≤ k ∧ PyData.leavesShortKv 1930 (ks.zip vs) = true ∧ PyData.bulkKv (ks.zip vs) ≤ b
theorem RpKs.nil {k : Nat} : RpKs T [] k 0 := ⟨[], [], rfl, fun _ _ => rfl, rfl, Nat.zero_le _, rfl, Nat.le_of_eq rfl⟩
theorem RpKs.cons {x : Str} {v : U} {r : List (U × U)} {k b c : Nat} (hx : PyData.strOk x = true) (h : RpD T v k b) (h2 : RpKs T r k c) : RpKs T ((.str x, v) :: r) k (x.cps.size + b + 2 + c) := by
  obtain ⟨d, a1, a2, a4, a5, a6, _⟩ := h
  obtain ⟨ks, vs, c1, b1, b2, b4, b5, b6⟩ := h2
  refine ⟨.str x :: ks, d :: vs, ?_, fun n hn => dats_cons (a1 n hn) (b1 n hn), ?_, ?_, ?_, ?_⟩
  · show (keysD r).map (PyData.str x :: ·) = _
    rw [c1]; rfl
  · show (PyData.showable (.str x) && d.showable && PyData.showableKv (ks.zip vs)) = true
    rw [a2, b2]; rfl
  · show max (max (PyData.depth (.str x)) d.depth) (PyData.depthKv (ks.zip vs)) ≤ k
    have : PyData.depth (.str x) = 0 := rfl
    omega
  · show (PyData.leavesShort 1930 (.str x) && d.leavesShort 1930 && PyData.leavesShortKv 1930 (ks.zip vs)) = true
    rw [a5, b5, short_str hx]; rfl
  · show PyData.bulk (.str x) + d.bulk + 2 + PyData.bulkKv (ks.zip vs) ≤ _
    have : PyData.bulk (.str x) = x.cps.size := rfl
    omega
theorem RpD.dic {kvs : List (U × U)} {i k b : Nat} (e : T[i]? = some (.dic kvs)) (h : RpKs T kvs k b) : RpD T (.ob i) (k + 1) b := by
  obtain ⟨ks, vs, c1, b1, b2, b4, b5, b6⟩ := h
  refine ⟨.dict (ks.zip vs), fun n hn => ?_, ?_, ?_, ?_, ?_, fun _ => U.noConfusion⟩
  · obtain ⟨n, rfl⟩ : ∃ m, n = m + 1 := ⟨n - 1, by omega⟩
    show (match T[i]? with
      | some (.lst xs) => (dats (datD T n) xs).map PyData.list
      | some (.dic kvs) => match keysD kvs, dats (datD T n) (kvs.map fun p : U × U => p.2) with
        | some ks, some vs => some (.dict (ks.zip vs))
        | _, _ => none
      | _ => none) = _
    rw [e]
    simp only [c1, b1 n (by omega)]
  · simpa only [PyData.showable] using b2
  · simp only [PyData.depth]; omega
  · simpa only [PyData.leavesShort] using b5
  · simpa only [PyData.bulk] using b6
theorem v_reprRD {u : U} {k b : Nat} {Q : U → Sto → Prop} (h : RpD T u k b) (hk : k ≤ 64) (hb : b ≤ 8000) (q : Q (.str (shwD T u)) T) : Wp (gReprD [u] T) Q := by
  obtain ⟨d, h1, h2, h4, h5, h6, h7⟩ := h
  have e := h1 66 (by omega)
  have hl := PyData.shown_le_bulk 1930 (by decide) d h5
  have hl2 : (1930 + 2) * d.bulk ≤ (1930 + 2) * 8000 := Nat.mul_le_mul_left _ (by omega)
  have es : shwD T u = d.shown := by unfold shwD; rw [e]
  rw [es] at q
  cases u with
  | non => cases e; exact .ok q
  | bl b => cases e; exact .ok q
  | int i =>
    cases e
    show Wp (gRepr [.int i] T) Q
    unfold gRepr
    simp only [PyData.showable, decide_eq_true_eq] at h2
    simp only [h2, if_true]
    exact .ok q
  | str x =>
    cases e
    have hl : (reprText x).length ≤ (1930 + 2) * (PyData.str x).bulk + 1930 := hl
    show Wp (gRepr [.str x] T) Q
    unfold gRepr
    simp only []
    rw [if_pos (by omega)]
    exact .ok q
  | tup xs => exact v_reprT e ⟨h2, by omega, by omega⟩ q
  | ob j => exact v_reprO e ⟨h2, by omega, by omega⟩ q
  | scr ns => exact absurd rfl (h7 ns)
  | raw v => cases e
end
theorem v_dic0 {η : Lo} {T : Sto} {Q : U → Sto → Prop} (q : Q (.ob T.length) (T ++ [.dic []])) : Wp (fDic0 η T) Q := .ok q
theorem v_dic1 {k : Str} {Fv : FxE} {η : Lo} {T : Sto} {Q : U → Sto → Prop} (q : Wp (Fv η T) fun u T1 => Q (.ob T1.length) (T1 ++ [.dic [(.str k, u)]])) : Wp (fDic1 k Fv η T) Q := .bindE q fun _ _ q => .ok q
end Lf
set_option Elab.async false
set_option linter.all false
set_option maxRecDepth 100000
set_option maxHeartbeats 4000000
namespace Lf
open PySem PySem.Spec L2
def isD0 (T : Sto) : U → Bool
  | .ob k => match T[k]? with
    | some (.dic _) => true
    | _ => false
  | _ => false
def gEqT0 : U → U → M U := fun u w T => match u, w with
  | .tup xs, .tup [] => .ok (.bl xs.isEmpty) T
  | u, w => gEq false u w T
theorem op_eqT0 {X : Cx} (hu : X.A.units + 1 < cLine) : OpR X (compareOp .Eq) (fun x y H Q => ∃ a b xs, x = .ref a ∧ y = .ref b ∧ SqT X.K H a xs ∧ SqT X.K H b [] ∧ Q (.bl xs.isEmpty) H) := by
  intro pins s σ H x y v u Q I rx ry h
  obtain ⟨a, b, xs, rfl, rfl, ha, hb, q⟩ := h
  cases rx
  cases ry
  obtain ⟨us, r1, p1, _⟩ := I.tuple ha
  obtain ⟨ws, r2, p2, _⟩ := I.tuple hb
  cases r2
  refine PySem.SeqAt.eq_tupleAt (e := fun _ => true) p1 p2 (by omega) (fun j h1 h2 => absurd h2 (Nat.not_lt_zero _)) ?_
  refine ⟨.bl _, H, I, ?_, q⟩
  cases r1 with
  | nil => rfl
  | cons _ _ => rfl
theorem fop_eqT0 {X : Cx} {E : XK} (hu : X.A.units + 64 < cLine) : FOp X E (compareOp .Eq) gEqT0 := by
  obtain ⟨r, h1, h2⟩ := fop_eq (X := X) (E := E) hu
  refine ⟨_, OpR.or (op_eqT0 (by omega)) h1, fun ρ H T u w x y Q s ru rw h => ?_⟩
  unfold gEqT0 at h
  split at h
  · rename_i xs
    cases ru with
    | @tup a vs us q rs =>
      cases rw with
      | @tup b vs2 us2 q2 rs2 =>
        cases rs2
        refine .inl ⟨_, _, vs, rfl, rfl, q, q2, ?_⟩
        have e : vs.isEmpty = xs.isEmpty := by
          cases rs with
          | nil => rfl
          | cons _ _ => rfl
        rw [e]
        exact okV s h (.bl _)
  · exact .inr (h2 ρ H T _ _ x y Q s ru rw h)
theorem v_eqT0 {xs : List U} {T : Sto} {Q : U → Sto → Prop} (q : Q (.bl xs.isEmpty) T) : Wp (gEqT0 (.tup xs) (.tup []) T) Q := .ok q
def gCutS (lo hi : Option Int) : U → M U := fun o T => match o with
  | .str z => if z.length ≤ 16777216 then .ok (.str (cutS z lo hi)) T else .no
  | _ => .no
theorem gCutS_inv {K : PySem.W.Frag} {ρ : List Addr} {H : Hp} {E : XK} {Q : V → Hp → Prop} {u : U} {lo hi : Option Int} {T : Sto} (h : OK K ρ H E (rV K) (gCutS lo hi u T) Q) : ∃ z, u = .str z ∧ z.length ≤ 16777216 ∧ OK K ρ H E (rV K) (.ok (.str (cutS z lo hi)) T) Q := by
  unfold gCutS at h
  split at h
  · rename_i z
    split at h
    · rename_i hz
      exact ⟨z, rfl, hz, h⟩
    · exact False.elim h
  · exact False.elim h
def fSlS (Fe : FxE) (Fl Fh : FxO) : FxE := fun η T => (Fe η T).bind fun u T1 => (Fl η T1).bind fun lo T2 => (Fh η T2).bind fun hi T3 => gCutS lo hi u T3
theorem fe_sliceS {X : Cx} {E : XK} {pos : Pos} {e : Expr} {lo hi : Option Expr} {p2 : Pos} {Fe : FxE} {Fl Fh : FxO} (he : FE X E e Fe) (hl : FO X E lo Fl) (hh : FO X E hi Fh) : FE X E (.Subscript e (.Slice lo hi none p2) pos) (fSlS Fe Fl Fh) := by
  obtain ⟨t, k, q⟩ := he
  obtain ⟨tl, kl, ql⟩ := hl
  obtain ⟨th, kh, qh⟩ := hh
  refine ⟨_, pe_slice sl_str k kl kh, fun σ H ρ T η Q s re h => ?_⟩
  refine q σ H ρ T η _ s re (OK.mono (OK.bind h) fun x H1 ⟨ρ1, T1, u, g1, s1, r1, k1⟩ => ?_)
  refine ql σ H1 ρ1 T1 η _ s1 (re.gr g1) (OK.mono (OK.bind k1) fun l H2 ⟨ρ2, T2, l', g2, s2, r2, k2⟩ => ?_)
  refine qh σ H2 ρ2 T2 η _ s2 (re.gr (g1.trans g2)) (OK.mono (OK.bind k2) fun h' H3 ⟨ρ3, T3, h'', g3, s3, r3, k3⟩ => ?_)
  cases r2
  cases r3
  obtain ⟨z, rfl, hz, k3⟩ := gCutS_inv k3
  cases r1
  exact ⟨z, rfl, by rw [sizeLine_eq]; exact hz, okV s3 k3 (.str _)⟩
theorem v_slS {Fe : FxE} {Fl Fh : FxO} {η : Lo} {T : Sto} {Q : U → Sto → Prop} (q : Wp (Fe η T) fun u T1 => Wp (Fl η T1) fun lo T2 => Wp (Fh η T2) fun hi T3 => Wp (gCutS lo hi u T3) Q) : Wp (fSlS Fe Fl Fh η T) Q := .bindE q fun _ _ q => .bindE q fun _ _ q => .bindE q fun _ _ q => q
end Lf
set_option Elab.async false
set_option linter.all false
set_option maxRecDepth 100000
set_option maxHeartbeats 4000000
namespace Lf
open PySem PySem.Spec L2
abbrev StI (h : Heap) (i1 : Addr) (z : Str) (t : Tok) (i : Nat) : Prop := h.IsStrIter i1 (PySem.strIterType z) z t i
theorem StI.keep {h h' : Heap} {i1 : Addr} {z : Str} {t : Tok} {i : Nat} (x : StI h i1 z t i) (k : ∀ o, h.get? i1 = some o → h'.get? i1 = some o) : StI h' i1 z t i := by
  obtain ⟨o, e, r⟩ := x
  exact ⟨o, k o e, r⟩
theorem StI.obj {h : Heap} {i1 : Addr} {z : Str} {t : Tok} {i : Nat} (x : StI h i1 z t i) : ∃ o, h.get? i1 = some o ∧ ∀ v, o.data ≠ .cell v := by
  obtain ⟨o, e, _, d⟩ := x
  exact ⟨o, e, fun v q => by rw [d] at q; cases q⟩
end Lf
set_option Elab.async false
set_option linter.all false
set_option maxRecDepth 100000
set_option maxHeartbeats 4000000
namespace Lf
open PySem PySem.W PySem.HandSPX Builtin Builtin.ObjectAttr
end Lf
namespace Lf
open PySem PySem.Spec L2
open PyProof.Rows (envOfC)
def fMkE (x f : Str) (Fe : FxE) : FxE := fun η T => (Fe η T).bind fun u T1 => nw (.exc x [(f, u)]) T1
def fMkE0 (x : Str) : FxE := fun _ T => nw (.exc x []) T
theorem v_mkE {x f : Str} {Fe : FxE} {η : Lo} {T : Sto} {Q : U → Sto → Prop} (q : Wp (Fe η T) fun u T1 => Q (.ob T1.length) (T1 ++ [.exc x [(f, u)]])) : Wp (fMkE x f Fe η T) Q := .bindE q fun _ _ q => .ok q
theorem v_mkE0 {x : Str} {η : Lo} {T : Sto} {Q : U → Sto → Prop} (q : Q (.ob T.length) (T ++ [.exc x []])) : Wp (fMkE0 x η T) Q := .ok q
end Lf
set_option Elab.async false
set_option linter.all false
set_option maxRecDepth 100000
set_option maxHeartbeats 4000000
namespace Lf
open PySem PySem.Spec L2
def getA (fs : List (Str × U)) (f : Str) : Option U := (fs.find? fun p => decide (p.1 = f)).map (·.2)
def putA (f : Str) (v : U) : List (Str × U) → List (Str × U)
  | [] => [(f, v)]
  | (g, x) :: r => if g = f then (g, v) :: r else (g, x) :: putA f v r
abbrev PaA (K : PySem.W.Frag) (ρ : List Addr) (H : Hp) : List (Str × U) → List (Str × V) → Prop := Paired (fun (p : Str × U) (q : Str × V) => p.1 = q.1 ∧ RV K ρ H p.2 q.2)
theorem getA_ok {K : PySem.W.Frag} {ρ : List Addr} {H : Hp} {f : Str} {fs : List (Str × U)} {gs : List (Str × V)} (h : PaA K ρ H fs gs) :
    (∃ u v, getA fs f = some u ∧ gs.lookup f = some v ∧ RV K ρ H u v) ∨ (getA fs f = none ∧ gs.lookup f = none) := by
  induction h with
  | nil => exact .inr ⟨rfl, rfl⟩
  | @cons p q ps qs a _ ih =>
    obtain ⟨p1, p2⟩ := p
    obtain ⟨q1, q2⟩ := q
    obtain ⟨a1, a2⟩ := a
    dsimp only at a1 a2
    subst a1
    unfold getA at ih ⊢
    rw [List.find?_cons, List.lookup_cons]
    by_cases hf : p1 = f
    · subst hf
      simp only [decide_true, beq_self_eq_true]
      exact .inl ⟨p2, q2, rfl, rfl, a2⟩
    · simp only [decide_eq_false hf, beq_false_of_ne (fun e : f = p1 => hf e.symm)]
      exact ih
theorem putA_ok {K : PySem.W.Frag} {ρ : List Addr} {H : Hp} {f : Str} {u : U} {v : V} (r : RV K ρ H u v) {fs : List (Str × U)} {gs : List (Str × V)} (h : PaA K ρ H fs gs) : PaA K ρ H (putA f u fs) (putF f v gs) := by
  induction h with
  | nil => exact .cons ⟨rfl, r⟩ .nil
  | @cons p q ps qs a h2 ih =>
    obtain ⟨p1, p2⟩ := p
    obtain ⟨q1, q2⟩ := q
    obtain ⟨a1, a2⟩ := a
    dsimp only at a1 a2
    subst a1
    show PaA K ρ H (if p1 = f then (p1, u) :: ps else (p1, p2) :: putA f u ps) (if p1 = f then (p1, v) :: qs else (p1, q2) :: putF f v qs)
    split
    · exact .cons ⟨rfl, r⟩ h2
    · exact .cons ⟨rfl, a2⟩ ih
theorem PaA.gr {K : PySem.W.Frag} {ρ ρ' : List Addr} {H H' : Hp} {fs : List (Str × U)} {gs : List (Str × V)} (h : PaA K ρ H fs gs) (g : Gr K ρ H ρ' H') : PaA K ρ' H' fs gs := Paired.mapP h fun _ _ z => ⟨z.1, z.2.gr g⟩
/-- an own class, and names that it has not -/
structure ClA (K : PySem.W.Frag) (C : Str) (fs : List Str) : Prop where
  c : Cls K (He.ga K C)
  n : ∀ f ∈ fs, NoAttr K (He.ga K C) f
def clA (K : PySem.W.Frag) (C : Str) (fs : List Str) : Bool :=
  PySem.W.plainGet K (He.ga K C) Str.empty && (PySem.W.hasDictIn K (He.ga K C) && (PySem.W.plainOver K (He.ga K C) && (decide (PySem.W.findIn K (.ref (He.ga K C)) "__setattr__" = some (some (.builtin "object.__setattr__"))) && fs.all fun f => decide (PySem.W.findIn K (.ref (He.ga K C)) f = some none))))
theorem clA_ok {K : PySem.W.Frag} {C : Str} {fs : List Str} (h : clA K C fs = true) : ClA K C fs := by
  obtain ⟨h1, h⟩ := Bool.and_eq_true_iff.mp h
  obtain ⟨h2, h⟩ := Bool.and_eq_true_iff.mp h
  obtain ⟨h3, h⟩ := Bool.and_eq_true_iff.mp h
  obtain ⟨h4, h5⟩ := Bool.and_eq_true_iff.mp h
  exact ⟨⟨h1, h2, h3, of_decide_eq_true h4⟩, fun f hf => (of_decide_eq_true (List.all_eq_true.mp h5 f hf) : PySem.W.findIn K (.ref (He.ga K C)) f = some none)⟩
def gFld (L : List Str) (f : Str) : U → M U := fun u T => match u with
  | .ob k => match T[k]? with
    | some (.ins C fs) => if C ∈ L then match getA fs f with
      | some v => .ok v T
      | none => .no else .no
    | _ => .no
  | _ => .no
theorem gFld_inv {K : PySem.W.Frag} {ρ : List Addr} {H : Hp} {E : XK} {Q : V → Hp → Prop} {L : List Str} {f : Str} {u : U} {T : Sto} (h : OK K ρ H E (rV K) (gFld L f u T) Q) : ∃ k C fs v, u = .ob k ∧ T[k]? = some (.ins C fs) ∧ C ∈ L ∧ getA fs f = some v ∧ OK K ρ H E (rV K) (.ok v T) Q := by
  unfold gFld at h
  split at h
  · rename_i k
    split at h
    · rename_i C fs e
      split at h
      · rename_i hC
        split at h
        · rename_i v ev
          exact ⟨k, C, fs, v, rfl, e, hC, ev, h⟩
        · exact False.elim h
      · exact False.elim h
    · exact False.elim h
  · exact False.elim h
/-- where an attribute is set -/
def putO (L : List Str) (f : Str) (x y : U) (T : Sto) : Option Sto := match x with
  | .ob k => match T[k]? with
    | some (.ins C fs) => if C ∈ L ∧ fs.length < 1000 then some (T.set k (.ins C (putA f y fs))) else none
    | _ => none
  | _ => none
theorem putO_inv {L : List Str} {f : Str} {x y : U} {T T' : Sto} (h : putO L f x y T = some T') : ∃ k C fs, x = .ob k ∧ T[k]? = some (.ins C fs) ∧ C ∈ L ∧ fs.length < 1000 ∧ T' = T.set k (.ins C (putA f y fs)) := by
  unfold putO at h
  split at h
  · rename_i k
    split at h
    · rename_i C fs e
      split at h
      · rename_i hC
        cases h
        exact ⟨k, C, fs, rfl, e, hC.1, hC.2, rfl⟩
      · cases h
    · cases h
  · cases h
def fFldS (L : List Str) (f : Str) (Fo Fv : FxE) : FxS := fun η T => (Fv η T).bind fun y T1 => (Fo η T1).bind fun x T2 => match putO L f x y T2 with
  | some T3 => .ok (.nx, η) T3
  | none => .no
def clsO (x : U) (T : Sto) : Str := match x with
  | .ob k => match T[k]? with
    | some (.ins C _) => C
    | _ => ""
  | _ => ""
def fFldAug (L : List Str) (f : Str) (g : U → U → M U) (Fo Fv : FxE) : FxS := fun η T => (Fo η T).bind fun x T1 => (gFld L f x T1).bind fun v _ => (Fv η T1).bind fun y T2 => (g v y T2).bind fun z T3 => match putO [clsO x T1] f x z T3 with
  | some T4 => .ok (.nx, η) T4
  | none => .no
section
variable {X : Cx} {E : XK} {n : Str} {e o value : Expr} {Fe Fo Fv : FxE} {pos pos' tpos : Pos} {fs : List Str}
theorem fe_fld (L : List Str) (he : FE X E e Fe) (hL : ∀ C ∈ L, Cls X.K (He.ga X.K C) ∧ NoAttr X.K (He.ga X.K C) n) (hb : attributeBase e n X.env (eval e X.env) = eval e X.env := by rfl) : FE X E (.Attribute e n pos) (fUn (gFld L n) Fe) := by
  obtain ⟨t, k, q⟩ := he
  refine ⟨_, pe_fld k hb, fun σ H ρ T η Q s r h => ?_⟩
  refine q σ H ρ T η _ s r (OK.mono (OK.bind h) fun x H1 ⟨ρ1, T1, u, g1, s1, r1, k1⟩ => ?_)
  obtain ⟨j, C, fs, v, rfl, eT, hC, ev, k1⟩ := gFld_inv k1
  cases r1 with
  | @ob _ a ea =>
    obtain ⟨a', p1, dx, gs, f1, hp⟩ := s1.get eT
    rw [ea] at p1
    cases p1
    rcases getA_ok (f := n) hp with ⟨u, v', e1, e2, rv⟩ | ⟨e1, _⟩
    · rw [ev] at e1
      cases e1
      exact ⟨a, _, dx, gs, v', rfl, f1, (hL C hC).1, (hL C hC).2, e2, okV s1 k1 rv⟩
    · rw [ev] at e1
      cases e1
theorem fs_fld (L : List Str) (ho : FE X E o Fo) (hv : FE X E value Fv) (hL : ∀ C ∈ L, Cls X.K (He.ga X.K C) ∧ NoAttr X.K (He.ga X.K C) n) (hs : swapsWith value (some (.Attribute o n pos')) pos.line X.env = pure false := by rfl) : FS X E (.Assign [.Attribute o n pos'] value pos) (fFldS L n Fo Fv) := by
  obtain ⟨to, ko, qo⟩ := ho
  obtain ⟨tv, kv, qv⟩ := hv
  refine ⟨_, ps_fld ko kv hs, fun σ H ρ T η D s r h => ?_⟩
  refine qv σ H ρ T η _ s r (OK.mono (OKS.bind h) fun y H1 ⟨ρ1, T1, u, g1, s1, r1, k1⟩ => ?_)
  refine qo σ H1 ρ1 T1 η _ s1 (r.gr g1) (OK.mono (OKS.bind k1) fun x H2 ⟨ρ2, T2, w, g2, s2, r2, k2⟩ => ?_)
  have r1 := RV.gr r1 g2
  split at k2
  rotate_left
  · exact False.elim k2
  rename_i T3 e3
  obtain ⟨j, C, fs, rfl, eT, hC, hl, rfl⟩ := putO_inv e3
  cases r2 with
  | @ob _ a ea =>
    obtain ⟨a', p1, dx, gs, f1, hp⟩ := s2.get eT
    rw [ea] at p1
    cases p1
    refine ⟨a, _, dx, gs, rfl, f1, (hL C hC).1, (hL C hC).2, by rw [← Paired.length hp]; exact hl, ?_⟩
    have g3 : Gr X.K ρ2 H2 ρ2 (upd H2 a (.ins (He.ga X.K C) dx (putF n y gs))) := Gr.put s2 ea
    exact k2 ρ2 _ σ g3 (s2.put ea ⟨dx, _, upd_same, putA_ok (r1.gr g3) (PaA.gr hp g3)⟩) (((r.gr g1).gr g2).gr g3)
end
/-- a method of a class does what g tells -/
structure DokM (P : Program) (w : World) (K : PySem.W.Frag) (mg : Str → Option Value) (base : Heap) (CX : CXT) (C m : Str) (k : Nat) (ps : List Str) (g : List U → M U) : Prop where
  ex : ∃ fd, FnG P w K mg base CX k (He.ma K (He.ga K C) m) fd ps g ∧ Binds K fd ps []
structure MkA (K : PySem.W.Frag) (C : Str) : Prop where
  m : Mk K (He.ga K C) (He.ma K (He.ga K C) "__init__")
def mkA (K : PySem.W.Frag) (C : Str) : Bool :=
  PySem.W.makesIn K (He.ga K C) && (decide (PySem.W.findIn K (.ref (He.ga K C)) "__init__" = some (some (.ref (He.ma K (He.ga K C) "__init__")))) && (PySem.W.isFn K (.ref (He.ma K (He.ga K C) "__init__")) && PySem.W.keepIn K (.ref (He.ga K C))))
theorem mkA_ok' {K : PySem.W.Frag} {C : Str} (h : mkA K C = true) : MkA K C := by
  obtain ⟨h1, h⟩ := Bool.and_eq_true_iff.mp h
  obtain ⟨h2, h⟩ := Bool.and_eq_true_iff.mp h
  obtain ⟨h3, h4⟩ := Bool.and_eq_true_iff.mp h
  exact ⟨⟨h1, of_decide_eq_true h2, h3, h4⟩⟩
/-- D's method m is C's -/
structure MeA (K : PySem.W.Frag) (D C m : Str) : Prop where
  m : Meth K (He.ga K D) m (He.ma K (He.ga K C) m)
def meA (K : PySem.W.Frag) (D C m : Str) : Bool :=
  decide (PySem.W.findIn K (.ref (He.ga K D)) m = some (some (.ref (He.ma K (He.ga K C) m)))) && (PySem.W.isFn K (.ref (He.ma K (He.ga K C) m)) && PySem.W.keepIn K (.ref (He.ma K (He.ga K C) m)))
theorem meA_ok {K : PySem.W.Frag} {D C m : Str} (h : meA K D C m = true) : MeA K D C m := by
  obtain ⟨h1, h⟩ := Bool.and_eq_true_iff.mp h
  obtain ⟨h2, h3⟩ := Bool.and_eq_true_iff.mp h
  exact ⟨⟨of_decide_eq_true h1, h2, h3⟩⟩
def fMkC (C : Str) (n : Nat) (g : List U → M U) (Fr : FxA) : FxE := fun η T => (Fr η T).bind fun us T1 => if us.length + 1 = n then (g (.ob T1.length :: us) (T1 ++ [.ins C []])).bind fun v T2 => match v with
  | .non => .ok (.ob T1.length) T2
  | _ => .no else .no
/-- o.m(..): the classes that o may have, what m does there -/
def selM (m : Str) (tab : List (Str × (List U → M U))) (o : U) (T : Sto) : Option (List U → M U) := match o with
  | .ob k => match T[k]? with
    | some (.ins C fs) => if getA fs m = none then (tab.find? fun p => decide (p.1 = C)).map (·.2) else none
    | _ => none
  | _ => none
def fMth (m : Str) (n : Nat) (tab : List (Str × (List U → M U))) (Fo : FxE) (Fr : FxA) : FxE := fun η T => (Fo η T).bind fun o T1 => match selM m tab o T1 with
  | some g => (Fr η T1).bind fun us T2 => if us.length + 1 = n then g (o :: us) T2 else .no
  | none => .no
theorem selM_inv {m : Str} {tab : List (Str × (List U → M U))} {o : U} {T : Sto} {g : List U → M U} (h : selM m tab o T = some g) : ∃ k C fs p, o = .ob k ∧ T[k]? = some (.ins C fs) ∧ getA fs m = none ∧ p ∈ tab ∧ p.1 = C ∧ g = p.2 := by
  unfold selM at h
  split at h
  · rename_i k
    split at h
    · rename_i C fs e
      split at h
      · rename_i hn
        obtain ⟨p, hp, rfl⟩ := Option.map_eq_some_iff.mp h
        exact ⟨k, C, fs, p, rfl, e, hn, List.mem_of_find?_eq_some hp, by simpa using List.find?_some hp, rfl⟩
      · cases h
    · cases h
  · cases h
/-- what is asked of a class of a method call -/
structure MtOk (X : Cx) (CX : CXT) (m : Str) (ps : List Str) (p : Str × (List U → M U)) : Prop where
  c : Cls X.K (He.ga X.K p.1)
  ex : ∃ (f : Addr) (fd : FuncData) (k : Nat), Meth X.K (He.ga X.K p.1) m f ∧ FnG X.prog X.w X.K X.mg X.base CX k f fd ps p.2 ∧ Binds X.K fd ps [] ∧ Room k X.A
theorem MtOk.of {X : Cx} {CX : CXT} {D C m : Str} {ps fs : List Str} {j k : Nat} {g : List U → M U} (c : ClA X.K D fs) (M : MeA X.K D C m) (d : DokM X.prog X.w X.K X.mg X.base CX C m j ps g) (room : Room k X.A) (hjk : Nat.ble j k = true) : MtOk X CX m ps (D, g) :=
  ⟨c.c, let ⟨fd, F, hb⟩ := d.ex; ⟨_, fd, j, M.m, F, hb, room.mono (Nat.le_of_ble_eq_true hjk)⟩⟩
theorem DokM.of {P : Program} {w : World} {K : PySem.W.Frag} {mg : Str → Option Value} {base : Heap} {CX : CXT} {C m : Str} {k : Nat} {ps : List Str} {g : List U → M U} {fd : FuncData} {name qual : Str} {params : Arguments} {body : List Stmt} {scope : Scope}
    (G : FnG P w K mg base CX k (He.ma K (He.ga K C) m) fd ps g) (D : FunD K name qual params body scope [] [] (He.ma K (He.ga K C) m) fd)
    (hb : ∀ (kV doc pm : Value) (an : Option Addr) (cdv ct : Value) (us : List Value), us.length = ps.length → bindArgs (PySem.W.fnOf name qual params body scope .none kV doc pm an cdv ct) ⟨us, []⟩ = pure (ps.zip us)) : DokM P w K mg base CX C m k ps g :=
  ⟨fd, G, D.bindsN hb⟩
section
variable {X : Cx} {E : XK} {CX : CXT} {C m x : Str} {ps : List Str} {g : List U → M U} {o e : Expr} {es : List Expr} {Fo : FxE} {Fr : FxA} {p pos apos : Pos} {k j : Nat}
theorem run_mkG {pins : List (Addr × Obj)} {σ : L2.St} {H : Hp} {s : Shared} {Q : VK} {us : List Value} {vs : List V} {fd : FuncData} {fI : Addr} {ρ : List Addr} {T : Sto} {zs : List U} (M : Mk X.K (He.ga X.K C) fI) (F : FnG X.prog X.w X.K X.mg X.base CX k fI fd ps g) (hr : Room (k + 1) X.A) (gd : X.A.guards = some []) (hb : Binds X.K fd ps [])
    (hx : Passes CX X E) (I : L2.Inv X pins σ H s) (r : Vals vs us) (rs : RS X.K ρ H T) (ru : RVs X.K ρ H zs vs) (hl : zs.length + 1 = ps.length)
    (h : OK X.K ρ H E (rV X.K) ((g (.ob T.length :: zs) (T ++ [.ins C []])).bind fun v T2 => match v with
      | .non => .ok (.ob T.length) T2
      | _ => .no) Q) : wpAny (model X.prog X.w) X.A (call (.ref (He.ga X.K C)) us) (EP X pins σ Q) X.xe s := by
  have nx : H (s.heap.objs.size + 1) = none := I.hok.fresh (Nat.le_succ _)
  have nd : H s.heap.objs.size = none := I.hok.fresh (Nat.le_refl _)
  have ne : s.heap.objs.size ≠ s.heap.objs.size + 1 := Nat.ne_of_lt (Nat.lt_succ_self _)
  have I2 := Inv.made (C := He.ga X.K C) I
  have r2 : Vals (V.ref (s.heap.objs.size + 1) :: vs) (Value.ref (s.heap.objs.size + 1) :: us) := .cons rfl r
  have hlen : (Value.ref (s.heap.objs.size + 1) :: us).length = ps.length := by
    rw [← r2.length, List.length_cons, ← ru.length]
    exact hl
  have bd := hb _ (Value.ref (s.heap.objs.size + 1) :: us) I2.kIn (by rw [List.append_nil]; exact hlen)
  rw [List.append_nil] at bd
  have nx2 : upd H s.heap.objs.size (.own (s.heap.objs.size + 1)) (s.heap.objs.size + 1) = none := by rw [upd_ne (Ne.symm ne)]; exact nx
  have g1 : Gr X.K ρ H ρ (upd H s.heap.objs.size (.own (s.heap.objs.size + 1))) := Gr.fill nd
  have s1 := rs.fill nd (x := HO.own (s.heap.objs.size + 1))
  have g2 : Gr X.K ρ _ (ρ ++ [s.heap.objs.size + 1]) (upd (upd H s.heap.objs.size (.own (s.heap.objs.size + 1))) (s.heap.objs.size + 1) (.ins (He.ga X.K C) s.heap.objs.size [])) := Gr.new nx2
  have s2 : RS X.K (ρ ++ [s.heap.objs.size + 1]) _ (T ++ [.ins C []]) := s1.new nx2 (x := .ins (He.ga X.K C) s.heap.objs.size []) ⟨s.heap.objs.size, [], upd_same, .nil⟩
  have e0 : (ρ ++ [s.heap.objs.size + 1])[T.length]? = some (s.heap.objs.size + 1) := by rw [← rs.len, List.getElem?_append_right (Nat.le_refl _), Nat.sub_self]; rfl
  have hq := OK.mono (OK.bindG (rel := rV X.K) (h := h) (g1.trans g2)) (fun (v : V) (H2 : Hp) ⟨ρ2, T2, u, g3, s3, r3, k3⟩ => (show v = V.non ∧ Q (.ref (s.heap.objs.size + 1)) H2 from by
    split at k3
    · cases r3
      exact ⟨rfl, k3 ρ2 H2 _ ((g1.trans g2).trans g3) s3 (.ob (g3.pre _ _ e0))⟩
    · exact False.elim k3))
  refine wpAny_call (make_map (f := fI) I.kIn M.makes M.init (beq_iff_eq.mp M.fn) (codeAny_mono (F.run _ X.stack _ _ ⟨Value.ref (s.heap.objs.size + 1) :: us, []⟩ (Value.ref (s.heap.objs.size + 1) :: us) _ (.ob T.length :: zs) _ _ _ E (hr.make (He.ga X.K C) us [])
    gd (I2.env0.make (He.ga X.K C) us []) bd r2 s2 (.cons (.ob e0) ((ru.gr g1).gr g2)) hl hq) fun r s' hq' => ?_))
  match r, hq' with
  | .error er, hq' => exact hx pins σ _ _ er s' I2 hq'
  | .ok (.ret u), hq' =>
    obtain ⟨v, H', I3, rv, ev, q3⟩ := I2.after hq'
    subst ev
    exact ⟨rv, ⟨V.ref (s.heap.objs.size + 1), H', I3, rfl, q3⟩⟩
  | .ok .next, hq' => exact False.elim hq'
  | .ok .brk, hq' => exact False.elim hq'
  | .ok .cont, hq' => exact False.elim hq'
theorem fe_mkC {n : Nat} (M : MkA X.K C) (D : DokM X.prog X.w X.K X.mg X.base CX0 C "__init__" j ps g) (room : Room k X.A) (hjk : Nat.ble (j + 1) k = true) (gd : X.A.guards = some []) (hg : Gl X C) (hm : X.mg C = some (.ref (He.ga X.K C))) (ha : FA X E (e :: es) Fr) (hn : ps.length = n := by rfl)
    (hdb : (C == ("__debug__" : Str)) = false := by decide) (he : starEach (e :: es) X.env = (false, eval e X.env) :: starEach es X.env := by rfl) (hpl : (backTo pos (starEach es X.env)).any (·.1) = false := by rfl) :
    FE X E (.Call (.Name C p) (e :: es) [] pos) (fMkC C n g Fr) := by
  subst hn
  obtain ⟨fd, F, hb⟩ := D.ex
  obtain ⟨t, kk, q⟩ := ha
  refine ⟨fun σ H Q => t σ H fun vs H1 => ∃ ρ T zs, RS X.K ρ H1 T ∧ RVs X.K ρ H1 zs vs ∧ zs.length + 1 = ps.length ∧ OK X.K ρ H1 E (rV X.K) ((g (.ob T.length :: zs) (T ++ [.ins C []])).bind fun v T2 => match v with
      | .non => .ok (.ob T.length) T2
      | _ => .no) Q, ⟨fun pins s σ H Q I h => wpAny_Call_Name_kw (ld_glob I hg hm ?_ hdb)⟩, fun σ H ρ T η Q s re h => ?_⟩
  · refine PySem.W.callWith_K (h₀ := X.base) I.ok.mod.kin M.m.kp (thn (kk.run pos pins s σ H _ I h) fun us s1 ⟨vs, H1, I1, r, ρ, T, zs, rs, ru, hl, q⟩ => ⟨I1.kIn, ?_⟩) he hpl
    exact run_mkG M.m F (room.mono (Nat.le_of_ble_eq_true hjk)) gd hb (fun _ _ _ _ _ _ _ h => h.elim) I1 r rs ru hl q
  · refine q σ H ρ T η _ s re (OK.mono (OK.bind h) fun xs H1 ⟨ρ1, T1, us, g1, s1, r1, k1⟩ => ?_)
    split at k1
    · rename_i hl
      exact ⟨ρ1, T1, us, s1, r1, hl, k1⟩
    · exact False.elim k1
theorem fe_mth {n : Nat} {tab : List (Str × (List U → M U))} {pl : Sem Bool} (gd : X.A.guards = some []) (hx : Passes CX X E) (ht : ∀ p ∈ tab, MtOk X CX m ps p) (ho : FE X E o Fo) (ha : FA X E (e :: es) Fr) (hn : ps.length = n := by rfl)
    (hst : starEach (e :: es) X.env = (false, eval e X.env) :: starEach es X.env := by rfl) (hpl : (backTo pos (starEach es X.env)).any (·.1) = false := by rfl)
    (ht2 : eval (.Call (.Attribute o m apos) (e :: es) [] pos) X.env = (do
      let ov ← eval o X.env
      standAt apos.atName
      let (f, first) ← holding [ov] (getMethod ov m pl)
      callWith pos f first (backTo pos (starEach (e :: es) X.env)) (backToKw pos (keywordEach [] X.env))) := by rfl) :
    FE X E (.Call (.Attribute o m apos) (e :: es) [] pos) (fMth m n tab Fo Fr) := by
  subst hn
  obtain ⟨to, ko, qo⟩ := ho
  obtain ⟨t, kk, q⟩ := ha
  refine ⟨fun σ H Q => to σ H fun x H1 => ∃ (a C f dx : Addr) (fs : List (Str × V)) (fd : FuncData) (k : Nat) (g : List U → M U), x = .ref a ∧ H1 a = some (.ins C dx fs) ∧ Cls X.K C ∧ Meth X.K C m f ∧ FnG X.prog X.w X.K X.mg X.base CX k f fd ps g ∧ Binds X.K fd ps [] ∧ Room k X.A ∧ fs.lookup m = none ∧
    t σ H1 fun vs H2 => tG X.K ps g E (x :: vs) H2 Q, ⟨fun pins s σ H Q I h => ?_⟩, fun σ H ρ T η Q s re h => ?_⟩
  · refine PySem.W.methodCall_KW (pl := pl) (thn (ko.run pins s σ H _ I h) fun u s1 ⟨x, H1, I1, rx, a, C, f, dx, fs, fd, k, g, ex, ea, c, hm, F, hb, hr, l, q⟩ => ?_) ht2
    subst ex
    obtain rfl : u = Value.ref a := rx
    refine getmeth_ok I1 ea c hm l ?_
    refine PySem.W.callWith_K (first := [.ref a]) (h₀ := X.base) I.ok.mod.kin hm.kp (thn (kk.run pos pins s1 σ H1 _ I1 q) fun us s2 ⟨vs, H2, I2, r, ρ, T, zs, rs, ru, lu, q2⟩ => ⟨I2.kIn, ?_⟩) hst hpl
    have rr : Vals (V.ref a :: vs) (Value.ref a :: us) := .cons rfl r
    have bd := hb s2 (Value.ref a :: us) I2.kIn (by rw [List.append_nil, ← rr.length, ← ru.length]; exact lu)
    rw [List.append_nil] at bd
    refine wpAny_call (codeAny_mono (runG F hr gd hx I2 bd rr rs ru lu q2) fun r s' q => ?_)
    match r, q with
    | .error e, q => exact q
    | .ok (.ret u), q => exact q
    | .ok .next, q => exact False.elim q
    | .ok .brk, q => exact False.elim q
    | .ok .cont, q => exact False.elim q
  · refine qo σ H ρ T η _ s re (OK.mono (OK.bind h) fun x H1 ⟨ρ1, T1, u, g1, s1, r1, k1⟩ => ?_)
    split at k1
    rotate_left
    · exact False.elim k1
    rename_i g eg
    obtain ⟨j, C, fs, p, rfl, eT, hn, hp, rfl, rfl⟩ := selM_inv eg
    obtain ⟨c, f, fd, k, hm, F, hb, hr⟩ := ht p hp
    cases r1 with
    | @ob _ a ea =>
      obtain ⟨a', p1, dx, gs, f1, hpa⟩ := s1.get eT
      rw [ea] at p1
      cases p1
      have hl : gs.lookup m = none := by
        rcases getA_ok (f := m) hpa with ⟨u, v', e1, e2, rv⟩ | ⟨_, e2⟩
        · rw [hn] at e1
          cases e1
        · exact e2
      refine ⟨a, _, f, dx, gs, fd, k, p.2, rfl, f1, c, hm, F, hb, hr, hl, ?_⟩
      refine q σ H1 ρ1 T1 η _ s1 (re.gr g1) (OK.mono (OK.bind k1) fun vs H2 ⟨ρ2, T2, us, g2, s2, r2, k2⟩ => ?_)
      split at k2
      · rename_i hl
        exact ⟨ρ2, T2, .ob j :: us, s2, .cons (.ob (g2.pre j a ea)) r2, hl, k2⟩
      · exact False.elim k2
end
theorem v_fld {L : List Str} {f C : Str} {k : Nat} {fs : List (Str × U)} {v : U} {T : Sto} {Q : U → Sto → Prop} (e : T[k]? = some (.ins C fs)) (hC : C ∈ L) (ev : getA fs f = some v) (q : Q v T) : Wp (gFld L f (.ob k) T) Q := by
  unfold gFld
  simp only [e, hC, ev, if_true]
  exact .ok q
theorem v_fldS {L : List Str} {f : Str} {Fo Fv : FxE} {η : Lo} {T : Sto} {Q : Fl × Lo → Sto → Prop} (q : Wp (Fv η T) fun y T1 => Wp (Fo η T1) fun x T2 => ∃ T3, putO L f x y T2 = some T3 ∧ Q (.nx, η) T3) : Wp (fFldS L f Fo Fv η T) Q := .bindE q fun _ _ q => .bindE q fun _ _ ⟨T3, e, q⟩ => by
  rw [e]
  exact .ok q
theorem v_fldAug {L : List Str} {f : Str} {g : U → U → M U} {Fo Fv : FxE} {η : Lo} {T : Sto} {Q : Fl × Lo → Sto → Prop}
    (q : Wp (Fo η T) fun x T1 => Wp (gFld L f x T1) fun v _ => Wp (Fv η T1) fun y T2 => Wp (g v y T2) fun z T3 => ∃ T4, putO [clsO x T1] f x z T3 = some T4 ∧ Q (.nx, η) T4) : Wp (fFldAug L f g Fo Fv η T) Q :=
  .bindE q fun _ _ q => .bindE q fun _ _ q => .bindE q fun _ _ q => .bindE q fun _ _ ⟨T4, e, q⟩ => by
    rw [e]
    exact .ok q
theorem v_mkC {C : Str} {n : Nat} {g : List U → M U} {Fr : FxA} {η : Lo} {T : Sto} {Q : U → Sto → Prop} (q : Wp (Fr η T) fun us T1 => us.length + 1 = n ∧ Wp (g (.ob T1.length :: us) (T1 ++ [.ins C []])) fun v T2 => v = .non ∧ Q (.ob T1.length) T2) : Wp (fMkC C n g Fr η T) Q := .bindE q fun _ _ q => by
  rw [if_pos q.1]
  exact .bindE q.2 fun _ _ ⟨e, q⟩ => by
    subst e
    exact .ok q
theorem selM_of {m C : Str} {tab : List (Str × (List U → M U))} {k : Nat} {fs : List (Str × U)} {T : Sto} {g : List U → M U} (e : T[k]? = some (.ins C fs)) (hn : getA fs m = none) (hg : (tab.find? fun p => decide (p.1 = C)).map (·.2) = some g) : selM m tab (.ob k) T = some g := by
  unfold selM
  simp only [e, hn, if_true]
  exact hg
theorem v_mth {m : Str} {n : Nat} {tab : List (Str × (List U → M U))} {Fo : FxE} {Fr : FxA} {η : Lo} {T : Sto} {Q : U → Sto → Prop} (q : Wp (Fo η T) fun o T1 => ∃ g, selM m tab o T1 = some g ∧ Wp (Fr η T1) fun us T2 => us.length + 1 = n ∧ Wp (g (o :: us) T2) Q) : Wp (fMth m n tab Fo Fr η T) Q := .bindE q fun _ _ ⟨g, e, q⟩ => by
  rw [e]
  exact .bindE q fun _ _ q => by
    rw [if_pos q.1]
    exact q.2
end Lf
set_option Elab.async false
set_option linter.all false
set_option maxRecDepth 100000
set_option maxHeartbeats 4000000
namespace Lf
open PySem PySem.Spec L2
def keyOf : U → Option Key
  | .int i => some (.inl i)
  | .str x => some (.inr x)
  | _ => none
def isK : List (U × U) → Bool
  | [] => true
  | p :: _ => (keyOf p.1).isSome
def lkK (kvs : List (U × U)) (k : Key) : Option U := (kvs.find? fun p => decide (keyOf p.1 = some k)).map (·.2)
def putKU (kvs : List (U × U)) (k : Key) (u : U) : List (U × U) :=
  if (kvs.any fun p => decide (keyOf p.1 = some k)) = true then kvs.map (fun p => if keyOf p.1 = some k then (p.1, u) else p) else kvs ++ [(kU k, u)]
abbrev PaK (K : PySem.W.Frag) (ρ : List Addr) (H : Hp) : List (U × U) → List (Key × V) → Prop := Paired (fun (p : U × U) (q : Key × V) => p.1 = kU q.1 ∧ RV K ρ H p.2 q.2)
section
variable {K : PySem.W.Frag} {ρ ρ' : List Addr} {H H' : Hp} {kvs : List (U × U)} {ks : List (Key × V)} {k : Key}
theorem RV.key (k : Key) : RV K ρ H (kU k) (kV k) := by
  cases k with
  | inl i => exact .int i
  | inr x => exact .str x
theorem PaK.gr (h : PaK K ρ H kvs ks) (g : Gr K ρ H ρ' H') : PaK K ρ' H' kvs ks := Paired.mapP h fun _ _ z => ⟨z.1, z.2.gr g⟩
end
def gSetD (o i v : U) (T : Sto) : Option Sto := match o, keyOf i with
  | .ob j, some k => match T[j]? with
    | some (.dic kvs) => if isK kvs = true ∧ kvs.length < 16777216 then some (T.set j (.dic (putKU kvs k v))) else none
    | _ => none
  | _, _ => none
def gSubTD (Fo Fi : FxE) : U → Lo → M Lo := fun v η T => (Fo η T).bind fun o T1 => (Fi η T1).bind fun i T2 => match gSetD o i v T2 with
  | some T3 => .ok η T3
  | none => .no
def gGetK : U → U → U → M U := fun u w z T => match u, keyOf w with
  | .ob j, some k => match T[j]? with
    | some (.dic kvs) => if isK kvs = true then .ok ((lkK kvs k).getD z) T else .no
    | _ => .no
  | _, _ => .no
def fGetK (Fo Fe Fz : FxE) : FxE := fun η T => (Fo η T).bind fun o T1 => if isD0 T1 o = true then (Fe η T1).bind fun k T2 => (Fz η T2).bind fun z T3 => gGetK o k z T3 else .no
def fDic1K (Fk Fv : FxE) : FxE := fun η T => (Fk η T).bind fun k T1 => (Fv η T1).bind fun u T2 => match keyOf k with
  | some k => nw (.dic [(kU k, u)]) T2
  | none => .no
def itemsU (kvs : List (U × U)) : List U := kvs.map fun p => .tup [p.1, p.2]
def fItems (Fe : FxE) : FxI := fun η T => (Fe η T).bind fun u T1 => match u with
  | .ob k => match T1[k]? with
    | some (.lk kvs) => .ok (constI (itemsU kvs)) T1
    | _ => .no
  | _ => .no
theorem v_subTD {Fo Fi : FxE} {v : U} {η : Lo} {T : Sto} {Q : Lo → Sto → Prop} (q : Wp (Fo η T) fun o T1 => Wp (Fi η T1) fun i T2 => ∃ T3, gSetD o i v T2 = some T3 ∧ Q η T3) : Wp (gSubTD Fo Fi v η T) Q := .bindE q fun _ _ q => .bindE q fun _ _ ⟨T3, e, q⟩ => by
  rw [e]
  exact .ok q
theorem v_getK {Fo Fe Fz : FxE} {η : Lo} {T : Sto} {Q : U → Sto → Prop} (q : Wp (Fo η T) fun o T1 => isD0 T1 o = true ∧ Wp (Fe η T1) fun k T2 => Wp (Fz η T2) fun z T3 => Wp (gGetK o k z T3) Q) : Wp (fGetK Fo Fe Fz η T) Q := .bindE q fun _ _ q => by
  rw [if_pos q.1]
  exact .bindE q.2 fun _ _ q => .bind q
theorem v_dic1K {Fk Fv : FxE} {η : Lo} {T : Sto} {Q : U → Sto → Prop} (q : Wp (Fk η T) fun k T1 => Wp (Fv η T1) fun u T2 => ∃ key, keyOf k = some key ∧ Q (.ob T2.length) (T2 ++ [.dic [(kU key, u)]])) : Wp (fDic1K Fk Fv η T) Q := .bindE q fun _ _ q => .bindE q fun _ _ ⟨k, e, q⟩ => by
  rw [e]
  exact .ok q
theorem v_items {Fe : FxE} {η : Lo} {T : Sto} {Q : ItF → Sto → Prop} (q : Wp (Fe η T) fun u T1 => ∃ k kvs, u = .ob k ∧ T1[k]? = some (.lk kvs) ∧ Q (constI (itemsU kvs)) T1) : Wp (fItems Fe η T) Q := .bindE q fun _ _ ⟨k, kvs, e, e2, q⟩ => by
  subst e
  simp only [e2]
  exact .ok q
end Lf
set_option Elab.async false
set_option linter.all false
set_option maxRecDepth 100000
set_option maxHeartbeats 4000000
namespace Lf
open PySem PySem.Spec L2
end Lf
set_option Elab.async false
set_option linter.all false
set_option maxRecDepth 100000
set_option maxHeartbeats 4000000
namespace Lf
open PySem PySem.Spec L2
theorem wp_forXG {G : U → Lo → M Lo} {Fb : FxS} {fin : Sto → Bool} {its : List (Sto → Option U)} {ys : List U} (I : Nat → Lo → Sto → Prop) {Q : Fl × Lo → Sto → Prop} (hl : its.length = ys.length)
    (hv : ∀ i x η T f, ys[i]? = some x → its[i]? = some f → I i η T → f T = some x) (hf : ∀ η T, I ys.length η T → fin T = true)
    (step : ∀ i x η T, ys[i]? = some x → I i η T → Wp (G x η T) fun η1 T1 => Wp (Fb η1 T1) (kF (I (i + 1)) Q))
    (hend : ∀ η T, I ys.length η T → Q (.nx, η) T) : ∀ n i η T, i + n = ys.length → I i η T → Wp (forN G Fb fin (its.drop i) η T) Q
  | 0, i, η, T, e, h => by
    have e : i = ys.length := by omega
    subst e
    rw [← hl, List.drop_length]
    show Wp (if fin T = true then .ok (.nx, η) T else .no) Q
    rw [if_pos (hf η T h)]
    exact .ok (hend _ _ h)
  | n + 1, i, η, T, e, h => by
    have hi : i < ys.length := by omega
    have hi2 : i < its.length := by omega
    rw [List.drop_eq_getElem_cons hi2]
    unfold forN
    rw [hv i ys[i] η T its[i] (List.getElem?_eq_getElem hi) (List.getElem?_eq_getElem hi2) h]
    refine .bindE (step i ys[i] η T (List.getElem?_eq_getElem hi) h) fun η1 T1 h1 => .bindE h1 fun p T2 h2 => ?_
    obtain ⟨f, η2⟩ := p
    cases f with
    | nx => exact wp_forXG I hl hv hf step hend n (i + 1) η2 T2 (by omega) h2
    | ct => exact wp_forXG I hl hv hf step hend n (i + 1) η2 T2 (by omega) h2
    | bk => exact .ok h2
    | rt u => exact .ok h2
theorem wp_forX {G : U → Lo → M Lo} {Fb : FxS} {it : ItF} (ys : List U) (I : Nat → Lo → Sto → Prop) {Q : Fl × Lo → Sto → Prop} {η : Lo} {T : Sto} (hl : it.its.length = ys.length) (h0 : I 0 η T)
    (hv : ∀ i x η T f, ys[i]? = some x → it.its[i]? = some f → I i η T → f T = some x) (hf : ∀ η T, I ys.length η T → it.fin T = true)
    (step : ∀ i x η T, ys[i]? = some x → I i η T → Wp (G x η T) fun η1 T1 => Wp (Fb η1 T1) (kF (I (i + 1)) Q))
    (hend : ∀ η T, I ys.length η T → Q (.nx, η) T) : Wp (forN G Fb it.fin it.its η T) Q := by
  have := wp_forXG (Q := Q) I hl hv hf step hend ys.length 0 η T (Nat.zero_add _) h0
  rwa [List.drop_zero] at this
theorem wp_lcXG {G : U → Lo → M Lo} {Ft : FxT} {Fe : FxE} {η : Lo} {fin : Sto → Bool} {its : List (Sto → Option U)} {ys : List U} (I : Nat → List U → Sto → Prop) {Q : U → Sto → Prop} (hl : its.length = ys.length)
    (hv : ∀ i x acc T f, ys[i]? = some x → its[i]? = some f → I i acc T → f T = some x) (hf : ∀ acc T, I ys.length acc T → fin T = true)
    (step : ∀ i x acc T, ys[i]? = some x → I i acc T → Wp (G x η T) fun η1 T1 => Wp (Ft η1 T1) fun b T2 => (b = true → Wp (Fe η1 T2) fun y T3 => acc.length < 16777216 ∧ I (i + 1) (acc ++ [y]) T3) ∧ (b = false → I (i + 1) acc T2))
    (hend : ∀ acc T, I ys.length acc T → Q (.ob T.length) (T ++ [.lst acc])) : ∀ n i acc T, i + n = ys.length → I i acc T → Wp (lcN G Ft Fe fin η (its.drop i) acc T) Q
  | 0, i, acc, T, e, h => by
    have e : i = ys.length := by omega
    subst e
    rw [← hl, List.drop_length]
    show Wp (if fin T = true then nw (.lst acc) T else .no) Q
    rw [if_pos (hf acc T h)]
    exact .ok (hend _ _ h)
  | n + 1, i, acc, T, e, h => by
    have hi : i < ys.length := by omega
    have hi2 : i < its.length := by omega
    rw [List.drop_eq_getElem_cons hi2]
    unfold lcN
    rw [hv i ys[i] acc T its[i] (List.getElem?_eq_getElem hi) (List.getElem?_eq_getElem hi2) h]
    refine .bindE (step i ys[i] acc T (List.getElem?_eq_getElem hi) h) fun η1 T1 h1 => .bindE h1 fun b T2 h2 => ?_
    cases b with
    | true =>
      rw [if_pos rfl]
      refine .bindE (h2.1 rfl) fun y T3 h3 => ?_
      rw [if_pos h3.1]
      exact wp_lcXG I hl hv hf step hend n (i + 1) _ T3 (by omega) h3.2
    | false =>
      rw [if_neg (by decide)]
      exact wp_lcXG I hl hv hf step hend n (i + 1) acc T2 (by omega) (h2.2 rfl)
theorem wp_lcX {G : U → Lo → M Lo} {Ft : FxT} {Fe : FxE} {η : Lo} {it : ItF} (ys : List U) (I : Nat → List U → Sto → Prop) {Q : U → Sto → Prop} {T : Sto} (hl : it.its.length = ys.length) (h0 : I 0 [] T)
    (hv : ∀ i x acc T f, ys[i]? = some x → it.its[i]? = some f → I i acc T → f T = some x) (hf : ∀ acc T, I ys.length acc T → it.fin T = true)
    (step : ∀ i x acc T, ys[i]? = some x → I i acc T → Wp (G x η T) fun η1 T1 => Wp (Ft η1 T1) fun b T2 => (b = true → Wp (Fe η1 T2) fun y T3 => acc.length < 16777216 ∧ I (i + 1) (acc ++ [y]) T3) ∧ (b = false → I (i + 1) acc T2))
    (hend : ∀ acc T, I ys.length acc T → Q (.ob T.length) (T ++ [.lst acc])) : Wp (lcN G Ft Fe it.fin η it.its [] T) Q := by
  have := wp_lcXG (Q := Q) (G := G) (Ft := Ft) (Fe := Fe) (η := η) I hl hv hf step hend ys.length 0 [] T (Nat.zero_add _) h0
  rwa [List.drop_zero] at this
end Lf
set_option Elab.async false
set_option linter.all false
set_option maxRecDepth 100000
set_option maxHeartbeats 4000000
namespace Lf
open PySem PySem.Spec L2
section
variable {T : Sto} {Q : U → Sto → Prop}
/-- items that can be compared -/
def LaA (T : Sto) (us : List U) : Prop := ∃ ds : List PyData, dats (dat T 65) us = some ds ∧ PyData.canLayAll0 ds = true ∧ PyData.depthAll ds ≤ 63
theorem laA_of : ∀ {us : List U}, (∀ u ∈ us, ∃ d, dat T 65 u = some d ∧ d.canLay0 = true ∧ d.depth ≤ 63) → LaA T us
  | [], _ => ⟨[], rfl, rfl, Nat.zero_le _⟩
  | u :: us, h => by
    obtain ⟨d, h1, h2, h3⟩ := h u (List.mem_cons_self ..)
    obtain ⟨ds, a1, a2, a3⟩ := laA_of (us := us) fun v hv => h v (List.mem_cons_of_mem _ hv)
    refine ⟨d :: ds, dats_cons h1 a1, ?_, ?_⟩
    · simp only [PyData.canLayAll0, h2, a2, Bool.and_self]
    · simp only [PyData.depthAll]; omega
theorem dats_length {f : U → Option PyData} : ∀ {us : List U} {ds : List PyData}, dats f us = some ds → ds.length = us.length
  | [], ds, e => by cases e; rfl
  | u :: us, ds, e => by
    unfold dats at e
    split at e
    · rename_i d ds' h1 h2
      cases e
      simp [dats_length h2]
    · cases e
theorem v_neE {k j : Nat} {us : List U} (e : T[k]? = some (.lst us)) (e2 : T[j]? = some (.lst [])) (l : LaA T us) (q : Q (.bl (decide (us ≠ []))) T) : Wp (gEq true (.ob k) (.ob j) T) Q := by
  obtain ⟨ds, h1, h2, h3⟩ := l
  have d1 : dat T 66 (.ob k) = some (PyData.list ds) := by
    show (match T[k]? with
      | some (.lst xs) => (dats (dat T 65) xs).map PyData.list
      | _ => none) = _
    rw [e]
    show (dats (dat T 65) us).map PyData.list = _
    rw [h1]; rfl
  have d2 : dat T 66 (.ob j) = some (PyData.list []) := by
    show (match T[j]? with
      | some (.lst xs) => (dats (dat T 65) xs).map PyData.list
      | _ => none) = _
    rw [e2]; rfl
  refine v_neD d1 d2 ?_ rfl ?_
  · simp [SeqAt.shaped, PyData.canLay0, PyData.depth, h2]; omega
  · have hl := dats_length h1
    have : (!PyData.eqv (PyData.list ds) (PyData.list [])) = decide (us ≠ []) := by
      cases ds with
      | nil =>
        have : us = [] := List.length_eq_zero_iff.mp hl.symm
        subst this
        simp [PyData.eqv, PyData.eqvAll]
      | cons d ds =>
        have : us ≠ [] := fun z => by subst z; simp at hl
        simp [PyData.eqv, PyData.eqvAll, this]
    rw [this]
    exact q
end
theorem constI_at {ys : List U} {i : Nat} {x : U} {f : Sto → Option U} {T : Sto} (h : ys[i]? = some x) (e : (constI ys).its[i]? = some f) : f T = some x := by
  unfold constI at e
  dsimp only at e
  rw [List.getElem?_map, h] at e
  cases e
  rfl
theorem constI_len {ys : List U} : (constI ys).its.length = ys.length := by simp [constI]
/-- what a walk's items are, as long as the store keeps `K` -/
structure ItsOk (it : ItF) (ys : List U) (K : Sto → Prop) : Prop where
  l : it.its.length = ys.length
  at_ : ∀ (i : Nat) (x : U) (T : Sto) (f : Sto → Option U), ys[i]? = some x → it.its[i]? = some f → K T → f T = some x
  fin : ∀ T : Sto, K T → it.fin T = true
theorem itsOk_const {xs : List U} : ItsOk (constI xs) xs (fun _ => True) := ⟨constI_len, fun i x T f h1 h2 _ => constI_at h1 h2, fun _ _ => rfl⟩
theorem itsOk_obj {k : Nat} {xs : List U} : ItsOk (objI k xs.length) xs (fun T => T[k]? = some (.lst xs)) := by
  refine ⟨by simp [objI], fun i x T f h1 h2 h => ?_, fun T h => ?_⟩
  · unfold objI at h2
    dsimp only at h2
    rw [List.getElem?_map] at h2
    obtain ⟨j, hj, rfl⟩ := Option.map_eq_some_iff.mp h2
    obtain rfl := range_at hj
    simp [lstAt, h, h1]
  · simp [objI, lstAt, h]
theorem itsOk_enum {k : Nat} {xs : List U} : ItsOk (enumO k xs.length) (enl xs) (fun T => T[k]? = some (.lst xs)) := by
  refine ⟨by simp [enumO, enl], fun i x T f h1 h2 h => ?_, fun T h => ?_⟩
  · unfold enumO at h2
    dsimp only at h2
    rw [List.getElem?_map] at h2
    obtain ⟨j, hj, rfl⟩ := Option.map_eq_some_iff.mp h2
    obtain rfl := range_at hj
    obtain ⟨y, hy, rfl⟩ := enl_get h1
    simp [lstAt, h, hy]
  · simp [enumO, lstAt, h]
theorem wp_forI {G : U → Lo → M Lo} {Fb : FxS} {it : ItF} {ys : List U} {K : Sto → Prop} (o : ItsOk it ys K) (I : Nat → Lo → Sto → Prop) {Q : Fl × Lo → Sto → Prop} {η : Lo} {T : Sto} (h0 : I 0 η T)
    (hK : ∀ i η T, I i η T → K T)
    (step : ∀ i x η T, ys[i]? = some x → I i η T → Wp (G x η T) fun η1 T1 => Wp (Fb η1 T1) (kF (I (i + 1)) Q))
    (hend : ∀ η T, I ys.length η T → Q (.nx, η) T) : Wp (forN G Fb it.fin it.its η T) Q :=
  wp_forX ys I o.l h0 (fun i x η T f h1 h2 h => o.at_ i x T f h1 h2 (hK i η T h)) (fun η T h => o.fin T (hK _ η T h)) step hend
theorem wp_lcI2 {G : U → Lo → M Lo} {Ft : FxT} {Fe : FxE} {η : Lo} {it : ItF} {ys : List U} {K : Sto → Prop} (o : ItsOk it ys K) (I : Nat → List U → Sto → Prop) {Q : U → Sto → Prop} {T : Sto} (h0 : I 0 [] T)
    (hK : ∀ i acc T, I i acc T → K T)
    (step : ∀ i x acc T, ys[i]? = some x → I i acc T → Wp (G x η T) fun η1 T1 => Wp (Ft η1 T1) fun b T2 => (b = true → Wp (Fe η1 T2) fun y T3 => acc.length < 16777216 ∧ I (i + 1) (acc ++ [y]) T3) ∧ (b = false → I (i + 1) acc T2))
    (hend : ∀ acc T, I ys.length acc T → Q (.ob T.length) (T ++ [.lst acc])) : Wp (lcN G Ft Fe it.fin η it.its [] T) Q :=
  wp_lcX ys I o.l h0 (fun i x acc T f h1 h2 h => o.at_ i x T f h1 h2 (hK i acc T h)) (fun acc T h => o.fin T (hK _ acc T h)) step hend
end Lf
set_option Elab.async false
set_option linter.all false
set_option maxRecDepth 100000
set_option maxHeartbeats 4000000
namespace Lf
open PySem PySem.Spec L2
/-- C's __init__ does what g tells, called with n values and keywords ks -/
structure DokW (P : Program) (w : World) (K : PySem.W.Frag) (mg : Str → Option Value) (base : Heap) (CX : CXT) (C : Str) (k : Nat) (ps : List Str) (n : Nat) (ks : List Str) (gU : List U → List U → List U) (g : List U → M U) : Prop where
  ex : ∃ (fd : FuncData) (gW : List Value → List Value → List Value) (gV : List V → List V → List V), FnG P w K mg base CX k (He.ma K (He.ga K C) "__init__") fd ps g ∧ KBn K fd ps (n + 1) ks gW gV ∧
    (∀ {ρ : List Addr} {H : Hp} {us zs : List U} {vs ws : List V}, RVs K ρ H us vs → RVs K ρ H zs ws → RVs K ρ H (gU us zs) (gV vs ws)) ∧ ∀ us zs : List U, us.length = n + 1 → zs.length = ks.length → (gU us zs).length = ps.length
/-- some keyword-only parameters lack (their defaults are None), the others are given by name -/
theorem DokW.of {P : Program} {w : World} {K : PySem.W.Frag} {mg : Str → Option Value} {base : Heap} {CX : CXT} {C : Str} {k : Nat} {ps : List Str} {g : List U → M U} {fd : FuncData} {name qual : Str} {params : Arguments} {body : List Stmt} {scope : Scope} {kws : List (Str × V)}
    (G : FnG P w K mg base CX k (He.ma K (He.ga K C) "__init__") fd ps g) (D : FunD K name qual params body scope [] kws (He.ma K (He.ga K C) "__init__") fd) (n : Nat) (ks : List Str) (ms : List (Str × V)) (gg : {α : Type} → List α → List α → List α → List α) (hk : kws ≠ []) (hms : ∀ q ∈ ms, q ∈ kws)
    (hnon : ms.map (·.2) = ms.map fun _ => V.non)
    (hrel : ∀ {vs mz zs : List V} {us mv ws : List Value}, Vals vs us → Vals mz mv → Vals zs ws → Vals (gg vs mz zs) (gg us mv ws))
    (hrelU : ∀ {ρ : List Addr} {H : Hp} {us mz zs : List U} {vs mv ws : List V}, RVs K ρ H us vs → RVs K ρ H mz mv → RVs K ρ H zs ws → RVs K ρ H (gg us mz zs) (gg vs mv ws))
    (hlen : ∀ us mz zs : List U, us.length = n + 1 → mz.length = ms.length → zs.length = ks.length → (gg us mz zs).length = ps.length)
    (h : ∀ (D : Addr) (doc pm : Value) (an : Option Addr) (cdv ct : Value) (us mv ws : List Value), us.length = n + 1 → mv.length = ms.length → ws.length = ks.length →
      KwChain D ((ms.map (·.1)).zip mv) (bindArgs (PySem.W.fnOf name qual params body scope .none (.ref D) doc pm an cdv ct) ⟨us, ks.zip ws⟩) (ps.zip (gg us mv ws))) :
    DokW P w K mg base CX C k ps n ks (fun us zs => gg us (ms.map fun _ => U.non) zs) g := by
  obtain ⟨mv, hb⟩ := D.kbinds0 (n + 1) ks ms gg hk hms hrel h
  refine ⟨fd, _, _, G, hb, fun r1 r2 => ?_, fun us zs h1 h2 => hlen _ _ _ h1 (List.length_map ..) h2⟩
  rw [hnon]
  refine hrelU r1 ?_ r2
  generalize ms = l
  induction l with
  | nil => exact .nil
  | cons a l ih => exact .cons .non ih
def fMkW (C : Str) (n m : Nat) (gU : List U → List U → List U) (g : List U → M U) (Fr Fk : FxA) : FxE := fun η T => (Fr η T).bind fun us T1 => (Fk η T1).bind fun zs T2 => if us.length = n ∧ zs.length = m then (g (gU (.ob T2.length :: us) zs) (T2 ++ [.ins C []])).bind fun v T3 => match v with
  | .non => .ok (.ob T2.length) T3
  | _ => .no else .no
theorem v_mkW {C : Str} {n m : Nat} {gU : List U → List U → List U} {g : List U → M U} {Fr Fk : FxA} {η : Lo} {T : Sto} {Q : U → Sto → Prop} (q : Wp (Fr η T) fun us T1 => Wp (Fk η T1) fun zs T2 => (us.length = n ∧ zs.length = m) ∧ Wp (g (gU (.ob T2.length :: us) zs) (T2 ++ [.ins C []])) fun v T3 => v = .non ∧ Q (.ob T2.length) T3) : Wp (fMkW C n m gU g Fr Fk η T) Q := .bindE q fun _ _ q => .bindE q fun _ _ q => by
  rw [if_pos q.1]
  refine .bindE q.2 fun v T3 ⟨e, q⟩ => ?_
  subst e
  exact .ok q
end Lf
set_option Elab.async false
set_option linter.all false
set_option maxRecDepth 100000
set_option maxHeartbeats 4000000
namespace Lf
open PySem PySem.Spec L2
end Lf
set_option Elab.async false
set_option linter.all false
set_option maxRecDepth 100000
set_option maxHeartbeats 4000000
namespace Lf
open PySem PySem.Spec L2
def gIDiv : U → U → M U := fun u w T => match u, w with
  | .int i, .int j => if 0 < j ∧ j < 1073741824 then .ok (.int (i / j)) T else .no
  | _, _ => .no
theorem v_idiv {i j : Int} {T : Sto} {Q : U → Sto → Prop} (h : 0 < j ∧ j < 1073741824) (q : Q (.int (i / j)) T) : Wp (gIDiv (.int i) (.int j) T) Q := by
  unfold gIDiv
  simp only [h, and_self, if_true]
  exact .ok q
end Lf
set_option Elab.async false
set_option linter.all false
set_option maxRecDepth 100000
set_option maxHeartbeats 4000000
namespace Lf
open PySem PySem.Spec L2
theorem v_in3 {x a b c : Str} {T : Sto} {Q : U → Sto → Prop} (q : Q (.bl (inV (.str x) [.str a, .str b, .str c])) T) : Wp (gIn false (.str x) (.tup [.str a, .str b, .str c]) T) Q := .ok q
end Lf
set_option Elab.async false
set_option linter.all false
set_option maxRecDepth 100000
set_option maxHeartbeats 4000000
namespace Lf
open PySem PySem.Spec L2 PyProof.Rows HT
end Lf
set_option Elab.async false
set_option linter.all false
set_option maxRecDepth 100000
set_option maxHeartbeats 4000000
namespace Lf
open PySem PySem.Spec L2
end Lf
set_option Elab.async false
set_option linter.all false
set_option maxRecDepth 100000
set_option maxHeartbeats 4000000
namespace Lf
open PySem PySem.Spec L2
section
variable {K : PySem.W.Frag} {ρ : List Addr} {H H' : Hp} {T : Sto}
theorem Gr.ext (g : ∀ b o, H b = some o → H' b = some o) : Gr K ρ H ρ H' :=
  ⟨fun _ _ e => e, fun a vs q => by
    rcases q with (q | ⟨o, q⟩) | q
    · exact .inl (.inl (g _ _ q))
    · exact .inl (.inr ⟨o, g _ _ q⟩)
    · exact .inr q, fun a vs q => by
    rcases q with ⟨o, q⟩ | q
    · exact .inl ⟨o, g _ _ q⟩
    · exact .inr q, fun _ _ _ e => g _ _ e, fun _ h k => absurd h k, fun _ _ e => g _ _ e, fun _ _ _ e => g _ _ e⟩
theorem Gr.snoc {p : Addr} (n : H p = none) (g : ∀ b o, H b = some o → H' b = some o) : Gr K ρ H (ρ ++ [p]) H' :=
  ⟨fun i a e => by rw [List.getElem?_append_left (List.getElem?_eq_some_iff.mp e).1]; exact e, (Gr.ext (ρ := ρ) g).sq, (Gr.ext (ρ := ρ) g).rf, fun _ _ _ e => g _ _ e, fun a h k => by
    rcases List.mem_append.mp h with h | h
    · exact absurd h k
    · rw [List.mem_singleton.mp h]; exact n, fun _ _ e => g _ _ e, fun _ _ _ e => g _ _ e⟩
theorem RS.snoc (s : RS K ρ H T) {p : Addr} {o : O} (n : H p = none) (g : ∀ b o, H b = some o → H' b = some o) (r : RO K (ρ ++ [p]) H' o p) : RS K (ρ ++ [p]) H' (T ++ [o]) := by
  have np : p ∉ ρ := fun h => by
    obtain ⟨y, hy, _⟩ := s.live h
    rw [n] at hy
    cases hy
  refine ⟨by rw [List.length_append, List.length_append, s.len]; rfl, ?_, fun i u a e1 e2 => ?_⟩
  · rw [List.nodup_append]
    exact ⟨s.nd, by simp, fun a ha b hb => by rw [List.mem_singleton.mp hb]; rintro rfl; exact np ha⟩
  · by_cases hi : i < ρ.length
    · rw [List.getElem?_append_left hi] at e2
      rw [List.getElem?_append_left (by rw [← s.len]; exact hi)] at e1
      obtain ⟨y, hy, _⟩ := s.live (List.mem_of_getElem? e2)
      exact (s.at_ i u a e1 e2).gr (Gr.snoc n g) (by rw [hy, g _ _ hy])
    · have hl : i = ρ.length := by
        have := (List.getElem?_eq_some_iff.mp e2).1
        rw [List.length_append, List.length_singleton] at this
        omega
      subst hl
      rw [List.getElem?_append_right (Nat.le_refl _), Nat.sub_self] at e2
      rw [s.len, List.getElem?_append_right (Nat.le_refl _), Nat.sub_self] at e1
      cases e1
      cases e2
      exact r
end
end Lf
set_option Elab.async false
set_option linter.all false
set_option maxRecDepth 100000
set_option maxHeartbeats 4000000
namespace Lf
open PySem PySem.Spec L2
end Lf
set_option Elab.async false
set_option linter.all false
set_option maxRecDepth 100000
set_option maxHeartbeats 4000000
namespace Lf
open PySem PySem.Spec L2
end Lf
set_option Elab.async false
set_option linter.all false
set_option maxRecDepth 100000
set_option maxHeartbeats 4000000
namespace Lf
open PySem PySem.Spec L2
end Lf
set_option Elab.async false
set_option linter.all false
set_option maxRecDepth 100000
set_option maxHeartbeats 4000000
namespace Lf
open PySem PySem.Spec L2
def keysOf : List U → Option (List Key)
  | [] => some []
  | u :: us => match keyOf u, keysOf us with
    | some k, some ks => some (k :: ks)
    | _, _ => none
def keyT : U → Option (List Key)
  | .tup us => keysOf us
  | _ => none
def isT (kvs : List (U × U)) : Bool := kvs.all fun p => (keyT p.1).isSome
def putTU (kvs : List (U × U)) (k : List Key) (u : U) : List (U × U) :=
  if (kvs.any fun p => decide (keyT p.1 = some k)) = true then kvs.map (fun p => if keyT p.1 = some k then (p.1, u) else p) else kvs ++ [(.tup (k.map kU), u)]
abbrev PaT (K : PySem.W.Frag) (ρ : List Addr) (H : Hp) : List (U × U) → List (List Key × V) → Prop := Paired (fun (p : U × U) (q : List Key × V) => p.1 = .tup (q.1.map kU) ∧ RV K ρ H p.2 q.2)
section
variable {K : PySem.W.Frag} {ρ ρ' : List Addr} {H H' : Hp} {kvs : List (U × U)} {ks : List (List Key × V)} {k : List Key}
theorem PaT.gr (h : PaT K ρ H kvs ks) (g : Gr K ρ H ρ' H') : PaT K ρ' H' kvs ks := Paired.mapP h fun _ _ z => ⟨z.1, z.2.gr g⟩
end
def gSetT (o : U) (us : List U) (v : U) (T : Sto) : Option Sto := match o, keysOf us with
  | .ob j, some k => match T[j]? with
    | some (.dic kvs) => if isT kvs = true ∧ kvs.length < 16777216 then some (T.set j (.dic (putTU kvs k v))) else none
    | _ => none
  | _, _ => none
def gSubTT (Fo : FxE) (Fr : FxA) : U → Lo → M Lo := fun v η T => (Fo η T).bind fun o T1 => (Fr η T1).bind fun us T2 => if us.length ≤ 16777216 then match gSetT o us v T2 with
  | some T3 => .ok η T3
  | none => .no else .no
end Lf
set_option Elab.async false
set_option linter.all false
set_option maxRecDepth 100000
set_option maxHeartbeats 4000000
namespace Lf
open PySem PySem.Spec L2
open PyProof.Rows hiding St
theorem v_subTT {Fo : FxE} {Fr : FxA} {v : U} {η : Lo} {T : Sto} {Q : Lo → Sto → Prop} (q : Wp (Fo η T) fun o T1 => Wp (Fr η T1) fun us T2 => us.length ≤ 16777216 ∧ ∃ T3, gSetT o us v T2 = some T3 ∧ Q η T3) : Wp (gSubTT Fo Fr v η T) Q := .bindE q fun _ _ q => .bindE q fun us T2 ⟨hl, T3, e, q⟩ => by
  rw [if_pos hl]
  simp only [e]
  exact .ok q
end Lf
set_option Elab.async false
set_option linter.all false
set_option maxRecDepth 100000
set_option maxHeartbeats 4000000
namespace Lf
open PySem PySem.Spec L2
open PyProof.Rows hiding St
end Lf
set_option Elab.async false
set_option linter.all false
set_option maxRecDepth 100000
set_option maxHeartbeats 4000000
namespace Lf
open PySem PySem.Spec L2
open PyProof.Rows hiding St
end Lf
set_option Elab.async false
set_option linter.all false
set_option maxRecDepth 100000
set_option maxHeartbeats 4000000
namespace Lf
open PySem PySem.Spec L2
open PyProof.Rows hiding St
end Lf
set_option Elab.async false
set_option linter.all false
set_option maxRecDepth 100000
set_option maxHeartbeats 4000000
namespace Lf
open PySem PySem.Spec L2
open PyProof.Rows hiding St
end Lf
set_option Elab.async false
set_option linter.all false
set_option maxRecDepth 100000
set_option maxHeartbeats 4000000
namespace Lf
open PySem PySem.Spec L2
end Lf
set_option Elab.async false
set_option linter.all false
set_option maxRecDepth 100000
set_option maxHeartbeats 4000000
namespace Lf
open PySem PySem.Spec L2
end Lf
set_option Elab.async false
set_option linter.all false
set_option maxRecDepth 100000
set_option maxHeartbeats 4000000
namespace Lf
open PySem PySem.Spec L2
end Lf
set_option Elab.async false
set_option linter.all false
set_option maxRecDepth 100000
set_option maxHeartbeats 4000000
namespace Lf
open PySem PySem.Spec L2
end Lf
set_option Elab.async false
set_option linter.all false
set_option maxRecDepth 100000
set_option maxHeartbeats 4000000
namespace Lf
open PySem PySem.Spec L2
/-- v is the tuple k -/
def IsNk (K : PySem.W.Frag) (H : Hp) (k : NestedKey) (v : V) : Prop := ∃ u, keyN u = some k ∧ k.depth ≤ 8 ∧ RV K [] H u v
def valN (xs : List (NestedKey × Addr × V)) (k : NestedKey) : Option V := (xs.find? fun x => decide (x.1 = k)).map (·.2.2)
def putN (xs : List (NestedKey × Addr × V)) (k : NestedKey) (b : Addr) (v : V) : List (NestedKey × Addr × V) :=
  if (xs.find? fun x => decide (x.1 = k)).isSome = true then xs.map (fun x => if x.1 = k then (x.1, x.2.1, v) else x) else xs ++ [(k, b, v)]
/-- what the dict at a is: its entries, all keys at their places -/
def DnAt (K : PySem.W.Frag) (H : Hp) (a : Addr) (xs : List (NestedKey × Addr × V)) : Prop := (L2.Rd H a (DnO a xs) ∧ ∀ x ∈ xs, IsNk K H x.1 (.ref x.2.1)) ∨ (H a = some (.dK []) ∧ xs = [])
abbrev PaX (xs : List (NestedKey × Addr × V)) (ys : List (NestedKey × Addr × Value)) : Prop := Paired (fun (x : NestedKey × Addr × V) (y : NestedKey × Addr × Value) => x.1 = y.1 ∧ x.2.1 = y.2.1 ∧ RelV x.2.2 y.2.2) xs ys
section
variable {X : Cx} {pins : List (Addr × Obj)} {σ : St} {H : Hp} {s : Shared} {a : Addr} {ρ : List Addr}
mutual
theorem nk_at (I : Inv X pins σ H s) : ∀ {u : U} {v : V} {x : Value} {k : NestedKey}, RV X.K ρ H u v → RelV v x → keyN u = some k → NestedIs s.heap k x
  | .int i, v, x, k, r, rx, h => by
    cases r
    obtain ⟨t, rfl⟩ := rx
    cases h
    exact .int i t
  | .tup us, v, x, k, r, rx, h => by
    unfold keyN at h
    obtain ⟨ks, e, rfl⟩ := Option.map_eq_some_iff.mp h
    cases r with
    | tup sq rs =>
      cases rx
      obtain ⟨its, rv, ⟨o, h1, h2, n, h3⟩, _⟩ := I.tuple sq
      exact .tup h1 h2 h3 (nks_at I rs rv e)
  | .non, _, _, _, _, _, h => by cases h
  | .bl _, _, _, _, _, _, h => by cases h
  | .str _, _, _, _, _, _, h => by cases h
  | .ob _, _, _, _, _, _, h => by cases h
  | .scr _, _, _, _, _, _, h => by cases h
  | .raw _, _, _, _, _, _, h => by cases h
theorem nks_at (I : Inv X pins σ H s) : ∀ {us : List U} {vs : List V} {its : List Value} {ks : List NestedKey}, RVs X.K ρ H us vs → Vals vs its → keyNs us = some ks → NestedAll s.heap ks its
  | [], _, _, _, rs, rv, h => by
    cases rs
    cases rv
    cases h
    exact .nil
  | u :: us, _, _, ks, rs, rv, h => by
    cases rs with
    | cons r1 r2 =>
      cases rv with
      | cons q1 q2 =>
        unfold keyNs at h
        split at h
        · rename_i k1 k2 e1 e2
          cases h
          exact .cons (nk_at I r1 q1 e1) (nks_at I r2 q2 e2)
        · cases h
end
theorem IsNk.is (I : Inv X pins σ H s) {k : NestedKey} {b : Addr} (h : IsNk X.K H k (.ref b)) : (nestedKind X.prog X.w).is s.heap k b := by
  obtain ⟨u, e, d, r⟩ := h
  exact ⟨nk_at I r rfl e, d⟩
theorem entries_of {w : World} {P : Program} : ∀ {xs : List (NestedKey × Addr × V)} {es : List DictEntry}, Paired (fun (x : NestedKey × Addr × V) (e : DictEntry) => e.key = .ref x.2.1 ∧ RelV x.2.2 e.val ∧ ∀ w : World, e.hash = x.1.hash w) xs es → ∃ ys, PaX xs ys ∧ es = ys.map (entryOfKey (nestedKind P w)) ∧ ys.map (·.1) = xs.map (·.1)
  | _, _, .nil => ⟨[], .nil, rfl, rfl⟩
  | _, _, .cons (a := x) (b := e) h t => by
    obtain ⟨ys, p, e1, e2⟩ := entries_of (w := w) (P := P) t
    obtain ⟨h1, h2, h3⟩ := h
    refine ⟨(x.1, x.2.1, e.val) :: ys, .cons ⟨rfl, rfl, h2⟩ p, ?_, by simp [e2]⟩
    rw [List.map_cons, ← e1]
    congr 1
    obtain ⟨hh, hk, hv⟩ := e
    simp only at h1 h3
    subst h1
    have h4 := h3 w
    subst h4
    rfl
mutual
theorem hash_free (w w' : World) : ∀ {u : U} {k : NestedKey}, keyN u = some k → k.hash w = k.hash w'
  | .int i, k, h => by cases h; rfl
  | .tup us, k, h => by
    unfold keyN at h
    obtain ⟨ks, e, rfl⟩ := Option.map_eq_some_iff.mp h
    unfold NestedKey.hash
    rw [hashes_free w w' e]
  | .non, _, h => by cases h
  | .bl _, _, h => by cases h
  | .str _, _, h => by cases h
  | .ob _, _, h => by cases h
  | .scr _, _, h => by cases h
  | .raw _, _, h => by cases h
theorem hashes_free (w w' : World) : ∀ {us : List U} {ks : List NestedKey}, keyNs us = some ks → NestedKey.hashes w ks = NestedKey.hashes w' ks
  | [], _, h => by cases h; rfl
  | u :: us, ks, h => by
    unfold keyNs at h
    split at h
    · rename_i k1 k2 e1 e2
      cases h
      unfold NestedKey.hashes
      rw [hash_free w w' e1, hashes_free w w' e2]
    · cases h
end
theorem IsNk.free {K : PySem.W.Frag} {k : NestedKey} {v : V} (h : IsNk K H k v) (w w' : World) : k.hash w = k.hash w' := let ⟨_, e, _⟩ := h; hash_free w w' e
theorem IsNk.tup {K : PySem.W.Frag} {k : NestedKey} {b : Addr} (h : IsNk K H k (.ref b)) : ∃ us vs, keyN (.tup us) = some k ∧ SqT K H b vs ∧ RVs K [] H us vs := by
  obtain ⟨u, e, _, r⟩ := h
  cases r with
  | tup sq rs => exact ⟨_, _, e, sq, rs⟩
  | ob _ => cases e
  | scr _ => cases e
  | raw _ => cases e
/-- the dict as the library tells it -/
theorem dn_of (I : Inv X pins σ H s) {xs : List (NestedKey × Addr × V)} (h : DnAt X.K H a xs) : (a == sysModules) = false ∧ xs.length ≤ sizeLine ∧ (xs.map (·.1)).Nodup ∧ ∃ ys, PaX xs ys ∧ s.heap.DictOfH (nestedKind X.prog X.w) a ys := by
  rcases h with ⟨h, hk⟩ | ⟨h, rfl⟩
  · obtain ⟨⟨q1, q2, q3, o, es, ep, q4, q5, q6, q7⟩, _⟩ := (show ObjOk X.prog X.w H s.heap a (DnO a xs) from h.ok I.hok)
    obtain ⟨ys, p, e1, e2⟩ := entries_of (w := X.w) (P := X.prog) q7
    refine ⟨q1, q2, q3, ys, p, o, es, ep, q4, q5, q6, e1, ?_, by rw [e2]; exact q3⟩
    have all : ∀ {xs : List (NestedKey × Addr × V)} {ys : List (NestedKey × Addr × Value)}, PaX xs ys → (∀ x ∈ xs, IsNk X.K H x.1 (.ref x.2.1)) → ∀ y ∈ ys, (nestedKind X.prog X.w).is s.heap y.1 y.2.1 := by
      intro xs ys p
      induction p with
      | nil => exact fun _ _ hy => nomatch hy
      | @cons x y xs ys hxy _ ih =>
        intro hk z hz
        rcases List.mem_cons.mp hz with rfl | hz
        · have := hk x List.mem_cons_self
          rw [hxy.1, hxy.2.1] at this
          exact this.is I
        · exact ih (fun x hx => hk x (List.mem_cons_of_mem _ hx)) z hz
    exact all p hk
  · obtain ⟨z, hd, vs, rel, dd⟩ := dk_of I.hok h
    refine ⟨hd, by simp, by simp, [], .nil, ?_⟩
    cases rel
    obtain ⟨o, es, ep, h1, h2, h3, _, h5, _⟩ := dd
    have he : es.toList = [] := by
      generalize es.toList = l at h5
      cases h5
      rfl
    exact ⟨o, es, ep, h1, h2, h3, he, (fun _ hx => nomatch hx), .nil⟩
theorem PaX.val {xs : List (NestedKey × Addr × V)} {ys : List (NestedKey × Addr × Value)} (p : PaX xs ys) (k : NestedKey) : RelO (valN xs k) ((atKey ys k).map (·.2)) := by
  induction p with
  | nil => trivial
  | @cons x y xs ys hxy _ ih =>
    unfold valN atKey at ih ⊢
    rw [List.find?_cons, List.find?_cons]
    obtain ⟨x1, x2, x3⟩ := x
    obtain ⟨y1, y2, y3⟩ := y
    obtain ⟨h1, h2, h3⟩ := hxy
    dsimp only at h1 h2 h3
    subst h1
    by_cases hk : x1 = k
    · subst hk
      simp only [decide_true, Option.map_some]
      exact h3
    · simp only [decide_eq_false hk]
      exact ih
theorem PaX.has {xs : List (NestedKey × Addr × V)} {ys : List (NestedKey × Addr × Value)} (p : PaX xs ys) (k : NestedKey) : (xs.find? fun x => decide (x.1 = k)).isSome = (atKey ys k).isSome := by
  have := (p.val k).isSome_eq
  unfold valN at this
  rw [Option.isSome_map, Option.isSome_map] at this
  exact this
theorem PaX.put {xs : List (NestedKey × Addr × V)} {ys : List (NestedKey × Addr × Value)} {v : V} {u : Value} (p : PaX xs ys) (k : NestedKey) (b : Addr) (r : RelV v u) : PaX (putN xs k b v) (storedH ys k b u) := by
  unfold putN storedH
  rw [p.has k]
  split
  · rename_i h0
    clear h0
    induction p with
    | nil => exact .nil
    | @cons x y xs ys hxy _ ih =>
      rw [List.map_cons, List.map_cons]
      refine .cons ?_ ih
      obtain ⟨x1, x2, x3⟩ := x
      obtain ⟨y1, y2, y3⟩ := y
      obtain ⟨h1, h2, h3⟩ := hxy
      dsimp only at h1 h2 h3
      subst h1 h2
      unfold putAt
      dsimp only
      by_cases hk : x1 = k
      · rw [if_pos hk, if_pos hk]
        exact ⟨rfl, rfl, r⟩
      · rw [if_neg hk, if_neg hk]
        exact ⟨rfl, rfl, h3⟩
  · rename_i h0
    clear h0
    induction p with
    | nil => exact .cons ⟨rfl, rfl, r⟩ .nil
    | cons h _ ih => exact .cons h ih
end
end Lf
set_option Elab.async false
set_option linter.all false
set_option maxRecDepth 100000
set_option maxHeartbeats 4000000
namespace Lf
open PySem PySem.Spec L2
section
variable {K : PySem.W.Frag} {ρ ρ' : List Addr} {H H' : Hp} {kvs : List (U × U)} {xs : List (NestedKey × Addr × V)} {k : NestedKey}
theorem PaN.gr (h : PaN K ρ H kvs xs) (g : Gr K ρ H ρ' H') : PaN K ρ' H' kvs xs := Paired.mapP h fun _ _ z => ⟨⟨z.1.1, z.1.2.1, z.1.2.2.gr g⟩, z.2.gr g⟩
theorem DnAt.free {a : Addr} (h : DnAt K H a xs) (w : World) : ∀ x ∈ xs, ∀ w' : World, x.1.hash w = x.1.hash w' := by
  rcases h with ⟨_, h⟩ | ⟨_, rfl⟩
  · exact fun x hx w' => (h x hx).free w w'
  · exact fun _ hx => nomatch hx
end
theorem DnAt.dict {X : Cx} {pins : List (Addr × Obj)} {σ : St} {H : Hp} {s : Shared} {a : Addr} {xs : List (NestedKey × Addr × V)} (I : Inv X pins σ H s) (h : DnAt X.K H a xs) : s.TypeIs (.ref a) "dict" ∧ ∀ b, Value.ref a = .ref b → ∃ ob, s.heap.get? b = some ob ∧ ob.dict = none := by
  obtain ⟨_, _, _, ys, _, dd⟩ := dn_of I h
  refine ⟨dd.typeIs, fun b e => ?_⟩
  cases e
  obtain ⟨o, _, _, ho, hx, _⟩ := dd
  exact ⟨o, ho, hx.2.1⟩
end Lf
set_option Elab.async false
set_option linter.all false
set_option maxRecDepth 100000
set_option maxHeartbeats 4000000
namespace Lf
open PySem PySem.Spec L2
end Lf
set_option Elab.async false
set_option linter.all false
set_option maxRecDepth 100000
set_option maxHeartbeats 4000000
namespace Lf
open PySem PySem.Spec L2
open PyProof.Rows hiding St
end Lf
set_option Elab.async false
set_option linter.all false
set_option maxRecDepth 100000
set_option maxHeartbeats 4000000
namespace Lf
open PySem PySem.Spec L2
open PyProof.Rows hiding St
end Lf
set_option Elab.async false
set_option linter.all false
set_option maxRecDepth 100000
set_option maxHeartbeats 4000000
namespace Lf
open PySem PySem.Spec L2
section
open PyProof.Rows hiding St
open PySem.W
variable {prog : Program} {w : World} {A : Around} {E : Value → Shared → Prop} {s : Shared}
theorem star_list {l : Addr} {items : Array Value} {x : Value} {r : List Value} {Q : List Value → Shared → Prop} (hh : A.handled = none) (hl : s.heap.IsList l items) (hz : items.size ≤ sizeLine) (hi : items.toList = x :: r)
    (hQ : ∀ (h' : Heap) (tk : Nat), (∀ b o, s.heap.get? b = some o → h'.get? b = some o) → Q [x, .ref h'.objs.size] { s with heap := h'.push { cls := .type "list", data := .seq r.toArray }, toks := tk }) :
    wpAny (model prog w) A (unpackItems (.ref l) 2 (some 1)) Q E s := by
  have hlen : items.size = r.length + 1 := by rw [← Array.length_toList, hi]; rfl
  have hlt : l ≠ s.heap.objs.size := by obtain ⟨o, ho, _⟩ := hl; exact Nat.ne_of_lt (Heap.lt_size ho)
  unfold unpackItems
  refine wpAny_bind ?_
  unfold notIterableAtAll
  refine wpAny_bind (wpAny_specialOf hl.typeIs F.slot_list_iter.lookup ?_)
  refine wpAny_pure ?_
  simp only [Bool.false_eq_true, if_false]
  refine wpAny_bind (wpAny_holding (wpAny_pyIter_list hl ?_))
  refine wpAny_bind (wpAny_holding (kun_draw hlt 1 0 _ _ ⟨_, Heap.get?_push_size _ rfl, rfl, rfl⟩ (hl.push _) (by omega) fun h₁ hit₁ hs₁ => ?_))
  have hl₁ : h₁.IsList l items := (hl.push _).extBut hs₁.extBut hlt
  rw [Nat.zero_add] at hit₁
  have hit₁' := hit₁
  obtain ⟨oi, hoi, _⟩ := hit₁'
  have hl₁' := hl₁
  obtain ⟨ol, hol, _⟩ := hl₁'
  rw [List.drop_zero, hi]
  show wpAny _ _ (if ([x] : List Value).length < 1 then _ else _) _ _ _
  rw [if_neg (show ¬ (([x] : List Value).length < 1) from Nat.lt_irrefl 1)]
  refine wpAny_bind (wpAny_holding (kun_collect (s := { s with heap := h₁ }) (T := "list_iterator") (.inr (.inr (.inl rfl))) (Walks.list (A := A.in1) hh s.heap.objs.size l hlt items) (fun j u st => st.1.typeIs) (k := 1) (by omega) ⟨hit₁, hl₁⟩ (Heap.lt_size hoi) (Heap.lt_size hol) (fun h₂ tk hk => ?_) hz))
  rw [hi]
  show wpAny _ _ (if r.length < 0 then _ else _) _ _ _
  rw [if_neg (Nat.not_lt_zero _)]
  show wpAny _ _ (newList (r.take (r.length - 0)) >>= fun d => pure ([x] ++ [d] ++ r.drop (r.length - 0))) _ _ _
  rw [Nat.sub_zero, List.take_length, List.drop_length]
  have he : ∀ b o, s.heap.get? b = some o → h₂.get? b = some o := fun b o e => hk b o (Nat.ne_of_lt (Heap.lt_size e)) (hs₁.extBut b o (Nat.ne_of_lt (Heap.lt_size e)) (Heap.get?_push_of_some _ e))
  exact wpAny_bind (wpAny_newList (wpAny_pure (hQ h₂ tk he)) (by omega))
theorem star_tup {l : Addr} {items : Array Value} {x : Value} {r : List Value} {Q : List Value → Shared → Prop} (hh : A.handled = none) (hl : IsTup s.heap l items) (hz : items.size ≤ sizeLine) (hi : items.toList = x :: r)
    (hQ : ∀ (h' : Heap) (tk : Nat), (∀ b o, s.heap.get? b = some o → h'.get? b = some o) → Q [x, .ref h'.objs.size] { s with heap := h'.push { cls := .type "list", data := .seq r.toArray }, toks := tk }) :
    wpAny (model prog w) A (unpackItems (.ref l) 2 (some 1)) Q E s := by
  have hlen : items.size = r.length + 1 := by rw [← Array.length_toList, hi]; rfl
  have hlt : l ≠ s.heap.objs.size := by obtain ⟨o, ho, _⟩ := hl; exact Nat.ne_of_lt (Heap.lt_size ho)
  unfold unpackItems
  refine wpAny_bind ?_
  unfold notIterableAtAll
  refine wpAny_bind (wpAny_specialOf hl.typeIs F.slot_tuple_iter.lookup ?_)
  refine wpAny_pure ?_
  simp only [Bool.false_eq_true, if_false]
  refine wpAny_bind (wpAny_holding (iter_tuple hl ?_))
  refine wpAny_bind (wpAny_holding (draw_tuple hlt 1 0 _ _ ⟨_, Heap.get?_push_size _ rfl, rfl, rfl⟩ (hl.push _) (by omega) fun h₁ hit₁ hs₁ => ?_))
  have hl₁ : IsTup h₁ l items := (hl.push _).extBut hs₁.extBut hlt
  rw [Nat.zero_add] at hit₁
  have hit₁' := hit₁
  obtain ⟨oi, hoi, _⟩ := hit₁'
  have hl₁' := hl₁
  obtain ⟨ol, hol, _⟩ := hl₁'
  rw [List.drop_zero, hi]
  show wpAny _ _ (if ([x] : List Value).length < 1 then _ else _) _ _ _
  rw [if_neg (show ¬ (([x] : List Value).length < 1) from Nat.lt_irrefl 1)]
  refine wpAny_bind (wpAny_holding (kun_collect (s := { s with heap := h₁ }) (T := "tuple_iterator") (.inr (.inr (.inr rfl))) (Walks.tuple (A := A.in1) hh s.heap.objs.size l hlt items) (fun j u st => st.1.typeIs) (k := 1) (by omega) ⟨hit₁, hl₁⟩ (Heap.lt_size hoi) (Heap.lt_size hol) (fun h₂ tk hk => ?_) hz))
  rw [hi]
  show wpAny _ _ (if r.length < 0 then _ else _) _ _ _
  rw [if_neg (Nat.not_lt_zero _)]
  show wpAny _ _ (newList (r.take (r.length - 0)) >>= fun d => pure ([x] ++ [d] ++ r.drop (r.length - 0))) _ _ _
  rw [Nat.sub_zero, List.take_length, List.drop_length]
  have he : ∀ b o, s.heap.get? b = some o → h₂.get? b = some o := fun b o e => hk b o (Nat.ne_of_lt (Heap.lt_size e)) (hs₁.extBut b o (Nat.ne_of_lt (Heap.lt_size e)) (Heap.get?_push_of_some _ e))
  exact wpAny_bind (wpAny_newList (wpAny_pure (hQ h₂ tk he)) (by omega))
end
section
variable {X : Cx} {E : XK} {pos : Pos}
def gStarK (K : PySem.W.Frag) (t : TGs) : TG := fun v σ H Q => ∃ a x xs, v = .ref a ∧ (SqL K H a (x :: xs) ∨ SqT K H a (x :: xs)) ∧ ∀ p, H p = none → t [x, .ref p] σ (upd H p (.lst xs)) Q
theorem pg_star {es : List Expr} {k : Nat} {t : TGs} (hc : X.calm = true) (h : PGs X es t)
    (hn : (assignEach es X.env).length = 2 := by rfl) (hst : (assignEach es X.env).findIdx? (·.1) = some 1 := by rfl) : PG X (.Tuple es k pos) (gStarK X.K t) := by
  refine ⟨fun pins s σ H v u Q I r hw => ?_⟩
  obtain ⟨a, x, xs, e1, hq, hw⟩ := hw
  subst e1
  cases r
  rw [arm_assign_Tuple]
  refine wpAny_bind (wpAny_standAt ?_)
  unfold PySem.unpack
  rw [hn, hst]
  refine wpAny_bind (wpAny_holding ?_)
  have fin : ∀ (y : Value) (r : List Value) (h' : Heap) (tk : Nat), RelV x y → Vals xs r → r.length ≤ sizeLine → (∀ b o, s.heap.get? b = some o → h'.get? b = some o) →
      wpAny (model X.prog X.w) X.A (assignInOrder ((assignEach es X.env).map (·.2)) [y, .ref h'.objs.size]) (fun _ s' => ∃ σ' H', Inv X pins σ' H' s' ∧ Q σ' H') X.xe { s with heap := h'.push { cls := .type "list", data := .seq r.toArray }, toks := tk } := by
    intro y r h' tk ry rr hz he
    have I1 : Inv X pins σ H { s with heap := h', toks := tk } := I.kept (t' := tk) he
    have hp := I1.hok.fresh (Nat.le_refl _)
    have I2 : Inv X pins σ (upd H h'.objs.size (.lst xs)) { s with heap := h'.push { cls := .type "list", data := .seq r.toArray }, toks := tk } :=
      I1.laid (t' := tk) (fun b o q => Heap.get?_push_of_some _ q) (Nat.le_refl _) ⟨by rw [rr.length]; exact hz, r, _, rr, Heap.get?_push_size _ rfl⟩
    exact h.run pins _ σ _ [x, .ref h'.objs.size] _ Q I2 (.cons ry (.cons rfl .nil)) (hw _ hp)
  rcases hq with hq | hq
  · obtain ⟨its, rv, ht, hz⟩ := I.list hq
    cases its with
    | nil => cases rv
    | cons y r =>
      cases rv with
      | cons ry rr =>
        have hl : (y :: r).length ≤ sizeLine := by have e := rr.length; simp only [List.length_cons] at hz ⊢; omega
        exact star_list (I.ok.hd hc) ht.isList (by simpa using hl) rfl fun h' tk he => fin y r h' tk ry rr (Nat.le_of_succ_le hl) he
  · obtain ⟨its, rv, ht, hz⟩ := I.tuple hq
    cases its with
    | nil => cases rv
    | cons y r =>
      cases rv with
      | cons ry rr =>
        have hl : (y :: r).length ≤ sizeLine := by have e := rr.length; simp only [List.length_cons] at hz ⊢; omega
        exact star_tup (I.ok.hd hc) ht (by simpa using hl) rfl fun h' tk he => fin y r h' tk ry rr (Nat.le_of_succ_le hl) he
/-- a, *b = xs -/
def gStr (Gr : List U → Lo → M Lo) : U → Lo → M Lo := fun u η T => match u with
  | .tup (x :: xs) => Gr [x, .ob T.length] η (T ++ [.lst xs])
  | .ob k => match lstU T (.ob k) with
    | some (x :: xs) => Gr [x, .ob T.length] η (T ++ [.lst xs])
    | _ => .no
  | _ => .no
theorem fgs_starred {e : Expr} {es : List Expr} {p : Pos} {w1 w2 : List Nat} {G : U → Lo → M Lo} {Gr' : List U → Lo → M Lo} (h1 : FG X E e w1 G) (h2 : FGs X E es w2 Gr') (hs : (assignEach (.Starred e p :: es) X.env).map (·.2) = assign e X.env :: (assignEach es X.env).map (·.2) := by rfl) :
    FGs X E (.Starred e p :: es) (w1 ++ w2) (gCons G Gr') := by
  obtain ⟨t, k, q⟩ := h1
  obtain ⟨t2, k2, q2⟩ := h2
  have pk : PGs X (.Starred e p :: es) (L2.gCons t t2) := by
    refine ⟨fun pins s σ H vs us Q I r h => ?_⟩
    obtain ⟨v, vr, e1, h⟩ := h
    subst e1
    cases r with
    | cons r rr =>
      rw [hs]
      refine PyProof.Rows.assignInOrder_cons (thn (k.run pins s σ H _ _ _ I r h) fun _ s1 ⟨σ1, H1, I1, q1⟩ => ?_)
      exact k2.run pins s1 σ1 H1 _ _ Q I1 rr q1
  refine ⟨_, pk, fun σ H ρ T η us vs Q s r rv h => ?_⟩
  cases rv with
  | nil => exact False.elim h
  | @cons u v us vs ru rr =>
    refine ⟨v, vs, rfl, q σ H ρ T η u v _ s r ru (OK.mono (OK.bind h) fun σ1 H1 ⟨ρ1, T1, η1, g1, s1, ⟨r1, w1⟩, k1⟩ => ?_)⟩
    refine q2 σ1 H1 ρ1 T1 η1 us vs Q s1 r1 (rr.gr g1) ?_
    generalize hres : Gr' us η1 T1 = res at k1
    cases res with
    | no => exact k1
    | ok a T2 => exact fun ρ2 H2 σ2 g2 s2 ⟨r2, w2⟩ => k1 ρ2 H2 σ2 g2 s2 ⟨r2, w1.trans w2⟩
    | ex e T2 => exact k1
theorem fg_star {es : List Expr} {k : Nat} {ws : List Nat} {G : List U → Lo → M Lo} (hc : X.calm = true) (h : FGs X E es ws G) (hn : (assignEach es X.env).length = 2 := by rfl) (hst : (assignEach es X.env).findIdx? (·.1) = some 1 := by rfl) :
    FG X E (.Tuple es k pos) ws (gStr G) := by
  obtain ⟨t, kk, q⟩ := h
  refine ⟨_, pg_star hc kk hn hst, fun σ H ρ T η u v Q s r rv h => ?_⟩
  have go : ∀ {x : U} {xs : List U} {y : V} {ys : List V}, RV X.K ρ H x y → RVs X.K ρ H xs ys → OK X.K ρ H E (fun ρ' H' η' σ' => RE X.K ρ' H' η' σ' ∧ Wr ws σ σ') (G [x, .ob T.length] η (T ++ [.lst xs])) Q → ∀ p, H p = none → t [y, .ref p] σ (upd H p (.lst ys)) Q := by
    intro x xs y ys rx rxs h p n
    have g := Gr.new (K := X.K) (ρ := ρ) (x := HO.lst ys) n
    have s1 := s.new n (x := .lst ys) (o := .lst xs) ⟨ys, upd_same, rxs.gr g⟩
    refine q σ _ (ρ ++ [p]) _ η _ _ Q s1 (r.gr g) (.cons (RV.gr rx g) (.cons (.ob (i := T.length) (by rw [← s.len, List.getElem?_append_right (Nat.le_refl _), Nat.sub_self]; rfl)) .nil)) ?_
    exact OK.gr h g
  unfold gStr at h
  split at h
  · rename_i x xs
    cases rv with
    | @tup a vs us sq rs =>
      cases rs with
      | cons rx rxs => exact ⟨a, _, _, rfl, .inr sq, go rx rxs h⟩
  · split at h
    · rename_i x xs e
      obtain ⟨a, vs, rfl, hq, rs⟩ := lstU_ok s rv e
      cases rs with
      | cons rx rxs => exact ⟨a, _, _, rfl, .inl hq, go rx rxs h⟩
    · exact False.elim h
  · exact False.elim h
end
theorem v_starT {x : U} {xs : List U} {Gr : List U → Lo → M Lo} {η : Lo} {T : Sto} {QL : Lo → Sto → Prop} (q : Wp (Gr [x, .ob T.length] η (T ++ [.lst xs])) QL) : Wp (gStr Gr (.tup (x :: xs)) η T) QL := q
theorem v_starL {k : Nat} {x : U} {xs : List U} {Gr : List U → Lo → M Lo} {η : Lo} {T : Sto} {QL : Lo → Sto → Prop} (ek : T[k]? = some (.lst (x :: xs))) (q : Wp (Gr [x, .ob T.length] η (T ++ [.lst xs])) QL) : Wp (gStr Gr (.ob k) η T) QL := by
  unfold gStr
  have e1 : lstU T (.ob k) = some (x :: xs) := by simp only [lstU, ek]
  simp only [e1]
  exact q
def txsU : List U → Option (List Str)
  | [] => some []
  | .str y :: r => (txsU r).map (y :: ·)
  | _ => none
theorem txsU_map : ∀ ys : List Str, txsU (ys.map U.str) = some ys
  | [] => rfl
  | y :: ys => by rw [List.map_cons, txsU, txsU_map ys]; rfl
theorem txsU_ok {K : PySem.W.Frag} {ρ : List Addr} {H : Hp} : ∀ {us : List U} {vs : List V} {ys : List Str}, RVs K ρ H us vs → txsU us = some ys → vs = ys.map V.str
  | _, _, _, .nil, e => by cases e; rfl
  | _, _, _, .cons (u := u) r t, e => by
    cases r with
    | str y =>
      rw [txsU] at e
      obtain ⟨zs, e1, rfl⟩ := Option.map_eq_some_iff.mp e
      rw [txsU_ok t e1]
      rfl
    | _ => simp [txsU] at e
def gJoin : U → U → M U := fun o x T => match o, (lstU T x).bind txsU with
  | .str a, some ys => if (ys.map (·.length)).sum + ys.length * a.length ≤ 16777216 then .ok (.str (Txt.join a ys)) T else .no
  | _, _ => .no
def gSplit : U → U → M U := fun o x T => match o, x with
  | .str a, .str b => if (b.length == 0) = false ∧ a.length + 2 ≤ 16777216 then nw (.lst ((Txt.split a b).map .str)) T else .no
  | _, _ => .no
def fTx (g : U → U → M U) (Fo Fe : FxE) : FxE := fun η T => (Fo η T).bind fun o T1 => match o with
  | .str a => (Fe η T1).bind fun x T2 => g (.str a) x T2
  | _ => .no
section
variable {X : Cx} {E : XK} {o e : Expr} {apos pos : Pos} {Fo Fe : FxE}
theorem fe_join (ho : FE X E o Fo) (he : FE X E e Fe) (hs : starEach [e] X.env = [(false, eval e X.env)] := by rfl) (hbase : attributeBase o "join" X.env (eval o X.env) = eval o X.env := by rfl) (hline : (apos.endLine == pos.line) = true := by rfl) :
    FE X E (.Call (.Attribute o "join" apos) [e] [] pos) (fTx gJoin Fo Fe) := by
  obtain ⟨t, k, q⟩ := ho
  obtain ⟨ta, ka, qa⟩ := he
  refine ⟨_, pe_join k ka hs hbase hline, fun σ H ρ T η Q s re h => ?_⟩
  refine q σ H ρ T η _ s re (OK.mono (OK.bind h) fun x H1 ⟨ρ1, T1, u, g1, s1, r1, k1⟩ => ?_)
  split at k1
  · rename_i a
    cases r1
    refine ⟨⟨a, rfl⟩, qa σ H1 ρ1 T1 η _ s1 (re.gr g1) (OK.mono (OK.bind k1) fun y H2 ⟨ρ2, T2, w, g2, s2, r2, k2⟩ => ?_)⟩
    unfold gJoin at k2
    split at k2
    · rename_i b ys hb e2
      cases hb
      obtain ⟨xs, e3, e4⟩ := Option.bind_eq_some_iff.mp e2
      obtain ⟨p, vs, rfl, hq, rs⟩ := lstU_ok s2 r2 e3
      have := txsU_ok rs e4
      subst this
      split at k2
      · rename_i hl
        exact ⟨_, p, ys, rfl, rfl, .inl hq, hl, okV s2 k2 (.str _)⟩
      · exact False.elim k2
    · exact False.elim k2
  · exact False.elim k1
theorem fe_split (ho : FE X E o Fo) (he : FE X E e Fe) (hs : starEach [e] X.env = [(false, eval e X.env)] := by rfl) (hbase : attributeBase o "split" X.env (eval o X.env) = eval o X.env := by rfl) (hline : (apos.endLine == pos.line) = true := by rfl) :
    FE X E (.Call (.Attribute o "split" apos) [e] [] pos) (fTx gSplit Fo Fe) := by
  obtain ⟨t, k, q⟩ := ho
  obtain ⟨ta, ka, qa⟩ := he
  refine ⟨_, pe_split k ka hs hbase hline, fun σ H ρ T η Q s re h => ?_⟩
  refine q σ H ρ T η _ s re (OK.mono (OK.bind h) fun x H1 ⟨ρ1, T1, u, g1, s1, r1, k1⟩ => ?_)
  split at k1
  · rename_i a
    cases r1
    refine ⟨⟨a, rfl⟩, qa σ H1 ρ1 T1 η _ s1 (re.gr g1) (OK.mono (OK.bind k1) fun y H2 ⟨ρ2, T2, w, g2, s2, r2, k2⟩ => ?_)⟩
    unfold gSplit at k2
    split at k2
    · rename_i a' b hb
      cases hb
      cases r2
      split at k2
      · rename_i hl
        refine ⟨a, b, rfl, rfl, hl.1, by rw [sizeLine_eq]; exact hl.2, fun p n => okNew s2 k2 ?_ n⟩
        clear hl k2
        generalize Txt.split a b = zs
        induction zs with
        | nil => exact .nil
        | cons z zs ih => exact .cons (.str z) ih
      · exact False.elim k2
    · exact False.elim k2
  · exact False.elim k1
end
def gStrA : List U → M U := fun us T => match us with
  | [.int i] => if i.natAbs.log2 < 1920 then .ok (.str (toString i)) T else .no
  | [.str a] => .ok (.str a) T
  | _ => .no
def gFmt : U → M U := fun u T => match u with
  | .int i => if i.natAbs.log2 < 1920 then .ok (.str (toString i)) T else .no
  | .str a => if a.length ≤ 16777216 then .ok (.str a) T else .no
  | _ => .no
section
variable {X : Cx} {E : XK}
theorem call_strA : CallR X (.type "str") (fun xs H Q => (∃ i, xs = [.int i] ∧ i.natAbs.log2 < 1920 ∧ Q (.str (toString i)) H) ∨ (∃ a, xs = [.str a] ∧ Q (.str a) H)) := by
  intro pins s σ H xs us Q I r h
  rcases h with h | h
  · exact call_str_int pins s σ H xs us Q I r h
  · exact SkE.call_str_str pins s σ H xs us Q I r h
theorem fcl_strA : FCall X E (.type "str") gStrA := by
  refine ⟨_, call_strA, fun ρ H T us xs Q s r h => ?_⟩
  unfold gStrA at h
  split at h
  · split at h
    · rename_i hl
      match r with
      | .cons (.int _) .nil => exact .inl ⟨_, rfl, hl, okV s h (.str _)⟩
    · exact False.elim h
  · match r with
    | .cons (.str _) .nil => exact .inr ⟨_, rfl, okV s h (.str _)⟩
  · exact False.elim h
theorem fe_fmt {e : Expr} {Fe : FxE} {pos : Pos} (he : FE X E e Fe) : FE X E (.FormattedValue e (-1) none pos) (fUn gFmt Fe) := by
  obtain ⟨t, k, q⟩ := he
  refine ⟨_, pe_fmt k, fun σ H ρ T η Q s re h => ?_⟩
  refine q σ H ρ T η _ s re (OK.mono (OK.bind h) fun x H1 ⟨ρ1, T1, u, g1, s1, r1, k1⟩ => ?_)
  unfold gFmt at k1
  split at k1
  · cases r1
    split at k1
    · rename_i hl
      exact .inr ⟨_, rfl, hl, okV s1 k1 (.str _)⟩
    · exact False.elim k1
  · cases r1
    split at k1
    · rename_i hl
      exact .inl ⟨_, rfl, by rw [sizeLine_eq]; exact hl, okV s1 k1 (.str _)⟩
    · exact False.elim k1
  · exact False.elim k1
def fJs : List FxE → Str → FxE
  | [], acc => fun η T => .ok (.str acc) T
  | F :: r, acc => fun η T => (F η T).bind fun u T1 => match u with
    | .str y => if (acc ++ y).length ≤ 16777216 then fJs r (acc ++ y) η T1 else .no
    | _ => .no
structure FJ (X : Cx) (E : XK) (vs : List Expr) (Fs : List FxE) : Prop where
  ex : ∃ ts, PJ X vs ts ∧ ∀ (acc : Str) (σ : L2.St) (H : Hp) (ρ : List Addr) (T : Sto) (η : Lo) (Q : V → Hp → Prop), RS X.K ρ H T → RE X.K ρ H η σ → OK X.K ρ H E (rV X.K) (fJs Fs acc η T) Q → tJs ts acc σ H fun out H1 => Q (.str out) H1
theorem fj_nil : FJ X E [] [] := ⟨[], .nil, fun acc σ H ρ T η Q s re h => okV s h (.str acc)⟩
theorem fj_cons {e : Expr} {es : List Expr} {F : FxE} {Fs : List FxE} (h1 : FE X E e F) (h2 : FJ X E es Fs) : FJ X E (e :: es) (F :: Fs) := by
  obtain ⟨t, k, q⟩ := h1
  obtain ⟨ts, ks, qs⟩ := h2
  refine ⟨_, .cons k ks, fun acc σ H ρ T η Q s re h => ?_⟩
  refine q σ H ρ T η _ s re (OK.mono (OK.bind h) fun x H1 ⟨ρ1, T1, u, g1, s1, r1, k1⟩ => ?_)
  split at k1
  · cases r1
    split at k1
    · rename_i hl
      exact ⟨_, rfl, by rw [sizeLine_eq]; exact hl, qs _ σ H1 ρ1 T1 η Q s1 (re.gr g1) k1⟩
    · exact False.elim k1
  · exact False.elim k1
theorem fe_joined {v1 v2 : Expr} {rest : List Expr} {Fs : List FxE} {pos : Pos} (h : FJ X E (v1 :: v2 :: rest) Fs) : FE X E (.JoinedStr (v1 :: v2 :: rest) pos) (fJs Fs Str.empty) := by
  obtain ⟨ts, k, q⟩ := h
  exact ⟨_, pe_joined k, fun σ H ρ T η Q s re h => q Str.empty σ H ρ T η Q s re h⟩
end
section
variable {T : Sto} {Q : U → Sto → Prop} {η : Lo}
theorem v_tx {g : U → U → M U} {Fo Fe : FxE} (q : Wp (Fo η T) fun o T1 => ∃ a, o = .str a ∧ Wp (Fe η T1) fun x T2 => Wp (g (.str a) x T2) Q) : Wp (fTx g Fo Fe η T) Q := .bindE q fun _ _ ⟨a, e, q⟩ => by
  subst e
  exact .bind q
theorem v_join {a : Str} {k : Nat} {ys : List Str} (e : T[k]? = some (.lst (ys.map .str))) (h : (ys.map (·.length)).sum + ys.length * a.length ≤ 16777216) (q : Q (.str (Txt.join a ys)) T) : Wp (gJoin (.str a) (.ob k) T) Q := by
  unfold gJoin
  have e1 : lstU T (.ob k) = some (ys.map .str) := by simp only [lstU, e]
  simp only [e1, Option.bind_some, txsU_map]
  rw [if_pos h]
  exact .ok q
theorem v_split {a b : Str} (h : (b.length == 0) = false) (h2 : a.length + 2 ≤ 16777216) (q : Q (.ob T.length) (T ++ [.lst ((Txt.split a b).map .str)])) : Wp (gSplit (.str a) (.str b) T) Q := by
  unfold gSplit
  simp only
  rw [if_pos ⟨h, h2⟩]
  exact .ok q
theorem v_strAi {i : Int} (h : i.natAbs.log2 < 1920) (q : Q (.str (toString i)) T) : Wp (gStrA [.int i] T) Q := by
  unfold gStrA
  simp only
  rw [if_pos h]
  exact .ok q
theorem v_strAs {a : Str} (q : Q (.str a) T) : Wp (gStrA [.str a] T) Q := .ok q
theorem v_fmtI {i : Int} (h : i.natAbs.log2 < 1920) (q : Q (.str (toString i)) T) : Wp (gFmt (.int i) T) Q := by
  unfold gFmt
  simp only
  rw [if_pos h]
  exact .ok q
theorem v_jsN {acc : Str} (q : Q (.str acc) T) : Wp (fJs [] acc η T) Q := .ok q
theorem v_jsC {F : FxE} {r : List FxE} {acc : Str} (q : Wp (F η T) fun u T1 => ∃ y, u = .str y ∧ (acc ++ y).length ≤ 16777216 ∧ Wp (fJs r (acc ++ y) η T1) Q) : Wp (fJs (F :: r) acc η T) Q := .bindE q fun _ _ ⟨y, e, h, q⟩ => by
  subst e
  simp only
  rw [if_pos h]
  exact q
end
end Lf
set_option Elab.async false
set_option linter.all false
set_option maxRecDepth 100000
set_option maxHeartbeats 0
namespace Hd
open PySem PySem.Spec PyProof.Rows L2
def tp (i : Nat) : Stmt := PySem.Challenge.pw_leastjournal_k57_programs_written_and_re.main.body.getD i (.Pass ⟨0, 0, 0, 0⟩)
def d_BadText___init__ : He.DefD := ⟨("BadText", some "__init__"), "__init__", "BadText.__init__", defArgs (inClass (tp 2) 0), defBody (inClass (tp 2) 0), defScope (inClass (tp 2) 0), [], []⟩
def d_is_within : He.DefD := ⟨("is_within", none), "is_within", "is_within", defArgs (tp 4), defBody (tp 4), defScope (tp 4), [], []⟩
def d_are_two : He.DefD := ⟨("are_two", none), "are_two", "are_two", defArgs (tp 19), defBody (tp 19), defScope (tp 19), [], []⟩
def d_is_plain : He.DefD := ⟨("is_plain", none), "is_plain", "is_plain", defArgs (tp 20), defBody (tp 20), defScope (tp 20), [], []⟩
def d_is_instruction : He.DefD := ⟨("is_instruction", none), "is_instruction", "is_instruction", defArgs (tp 21), defBody (tp 21), defScope (tp 21), [], []⟩
def d_is_body : He.DefD := ⟨("is_body", none), "is_body", "is_body", defArgs (tp 22), defBody (tp 22), defScope (tp 22), [], []⟩
def d_is_program : He.DefD := ⟨("is_program", none), "is_program", "is_program", defArgs (tp 23), defBody (tp 23), defScope (tp 23), [], []⟩
def d_size : He.DefD := ⟨("size", none), "size", "size", defArgs (tp 24), defBody (tp 24), defScope (tp 24), [], []⟩
def d_times : He.DefD := ⟨("times", none), "times", "times", defArgs (tp 25), defBody (tp 25), defScope (tp 25), [], []⟩
def d_read_count : He.DefD := ⟨("read_count", none), "read_count", "read_count", defArgs (tp 26), defBody (tp 26), defScope (tp 26), [], []⟩
def d_write_count : He.DefD := ⟨("write_count", none), "write_count", "write_count", defArgs (tp 27), defBody (tp 27), defScope (tp 27), [], []⟩
def d_show_line : He.DefD := ⟨("show_line", none), "show_line", "show_line", defArgs (tp 30), defBody (tp 30), defScope (tp 30), [], []⟩
def d_lines_of : He.DefD := ⟨("lines_of", none), "lines_of", "lines_of", defArgs (tp 31), defBody (tp 31), defScope (tp 31), [], []⟩
def d_show_program : He.DefD := ⟨("show_program", none), "show_program", "show_program", defArgs (tp 32), defBody (tp 32), defScope (tp 32), [], []⟩
def d_number_of : He.DefD := ⟨("number_of", none), "number_of", "number_of", defArgs (tp 38), defBody (tp 38), defScope (tp 38), [], []⟩
def d_instruction_of : He.DefD := ⟨("instruction_of", none), "instruction_of", "instruction_of", defArgs (tp 39), defBody (tp 39), defScope (tp 39), [], []⟩
def d_loop_count : He.DefD := ⟨("loop_count", none), "loop_count", "loop_count", defArgs (tp 40), defBody (tp 40), defScope (tp 40), [], []⟩
def d_Reader___init__ : He.DefD := ⟨("Reader", some "__init__"), "__init__", "Reader.__init__", defArgs (inClass (tp 41) 0), defBody (inClass (tp 41) 0), defScope (inClass (tp 41) 0), [], []⟩
def d_Reader_take : He.DefD := ⟨("Reader", some "take"), "take", "Reader.take", defArgs (inClass (tp 41) 1), defBody (inClass (tp 41) 1), defScope (inClass (tp 41) 1), [], []⟩
def d_Reader_take_instruction : He.DefD := ⟨("Reader", some "take_instruction"), "take_instruction", "Reader.take_instruction", defArgs (inClass (tp 41) 2), defBody (inClass (tp 41) 2), defScope (inClass (tp 41) 2), [], []⟩
def d_read_program : He.DefD := ⟨("read_program", none), "read_program", "read_program", defArgs (tp 42), defBody (tp 42), defScope (tp 42), [], []⟩
def d__law_digits : He.DefD := ⟨("_law_digits", none), "_law_digits", "_law_digits", defArgs (tp 44), defBody (tp 44), defScope (tp 44), [], []⟩
def d__law_draw : He.DefD := ⟨("_law_draw", none), "_law_draw", "_law_draw", defArgs (tp 45), defBody (tp 45), defScope (tp 45), [], []⟩
def d__law_pick : He.DefD := ⟨("_law_pick", none), "_law_pick", "_law_pick", defArgs (tp 46), defBody (tp 46), defScope (tp 46), [], []⟩
def d__law_other : He.DefD := ⟨("_law_other", none), "_law_other", "_law_other", defArgs (tp 47), defBody (tp 47), defScope (tp 47), [], []⟩
def d__law_instruction : He.DefD := ⟨("_law_instruction", none), "_law_instruction", "_law_instruction", defArgs (tp 48), defBody (tp 48), defScope (tp 48), [], []⟩
def d__law_flat : He.DefD := ⟨("_law_flat", none), "_law_flat", "_law_flat", defArgs (tp 49), defBody (tp 49), defScope (tp 49), [], []⟩
def d__law_lines : He.DefD := ⟨("_law_lines", none), "_law_lines", "_law_lines", defArgs (tp 50), defBody (tp 50), defScope (tp 50), [], []⟩
def d__law_nested_program : He.DefD := ⟨("_law_nested_program", none), "_law_nested_program", "_law_nested_program", defArgs (tp 51), defBody (tp 51), defScope (tp 51), [], []⟩
def d__law_once : He.DefD := ⟨("_law_once", none), "_law_once", "_law_once", defArgs (tp 52), defBody (tp 52), defScope (tp 52), [], []⟩
def d_law : He.DefD := ⟨("law", none), "law", "law", defArgs (tp 53), defBody (tp 53), defScope (tp 53), [], []⟩
def fn : List He.DefD := [d_BadText___init__, d_is_within, d_are_two, d_is_plain, d_is_instruction, d_is_body, d_is_program, d_size, d_times, d_read_count, d_write_count, d_show_line, d_lines_of, d_show_program, d_number_of, d_instruction_of, d_loop_count, d_Reader___init__, d_Reader_take, d_Reader_take_instruction, d_read_program, d__law_digits, d__law_draw, d__law_pick, d__law_other, d__law_instruction, d__law_flat, d__law_lines, d__law_nested_program, d__law_once, d_law]
def fa : List He.Fa := [.glo "JournalError", .glo "BadText", .glo "is_within", .glo "are_two", .glo "is_plain", .glo "is_instruction", .glo "is_body", .glo "is_program", .glo "size", .glo "times", .glo "read_count", .glo "write_count", .glo "show_line", .glo "lines_of", .glo "show_program", .glo "number_of", .glo "instruction_of", .glo "loop_count", .glo "Reader", .glo "read_program", .glo "_law_digits", .glo "_law_draw", .glo "_law_pick", .glo "_law_other", .glo "_law_instruction", .glo "_law_flat", .glo "_law_lines", .glo "_law_nested_program", .glo "_law_once", .glo "law", .free "ValueError", .free "abs", .free "all", .free "bool", .free "enumerate", .free "int", .free "isinstance", .free "len", .free "max", .free "min", .free "range", .free "repr", .free "str", .free "sum", .free "tuple", .str "SET" "set", .str "COPY" "copy", .str "ADD" "add", .str "SCALE" "scale", .str "SWAP" "swap", .str "READ" "read", .str "WRITE" "write", .str "LOOP" "loop", .int "MOST_ROUNDS" (1000000000000000000), .int "MOST_DEPTH_programs" (4), .int "MOST_SIZE" (200), .int "MOST_READS" (2000), .int "MOST_WRITES" (2000), .str "INDENT" "  ", .str "DIGITS" "0123456789", .int "MOST_DIGITS" (19), .int "MOST_DEPTH_reading" (4), .int "LOOP_WORDS" (3)]
def loose0 : List PySem.Str := ["JournalError", "BadText", "is_within", "SET", "COPY", "ADD", "SCALE", "SWAP", "READ", "WRITE", "LOOP", "MOST_ROUNDS", "MOST_DEPTH_programs", "MOST_SIZE", "MOST_READS", "MOST_WRITES", "are_two", "is_plain", "is_instruction", "is_body", "is_program", "size", "times", "read_count", "write_count", "INDENT", "show_line", "lines_of", "show_program", "DIGITS"]
def loose1 : List PySem.Str := ["MOST_DIGITS", "MOST_DEPTH_reading", "LOOP_WORDS", "number_of", "instruction_of", "loop_count", "Reader", "read_program", "_law_digits", "_law_draw", "_law_pick", "_law_other", "_law_instruction", "_law_flat", "_law_lines", "_law_nested_program", "_law_once"]
def loose : List PySem.Str := loose0 ++ loose1
def steps : Nat := 20000
abbrev Rr : PySem.W.OpenRow := PySem.W.OpenLaw.row PySem.Challenge.rw_leastjournal_k57_programs_written_and_re
open Lf in
def fxs : List (PySem.W.Frag → Bool) := [fun K => sysB K, fun K => clA K "Reader" ["prime", "register_count", "counts", "bodies"], fun K => mkA K "Reader", fun K => meA K "Reader" "Reader" "take", fun K => meA K "Reader" "Reader" "take_instruction"]
def fx (K : PySem.W.Frag) : Bool := fxs.all fun f => f K
abbrev hk : PySem.W.Hook := Lf.hookS 5 fa fn fx
def ob (s : PySem.W.SharedT) : Bool × He.AlD := Lf.obsS 5 fa fn fx (HandSHeadRun.getT s)
theorem ob_eq (s : PySem.W.SharedT) : ob s = hk.obs s.abs := Lf.obsS_eq (HandSHeadRun.getT_eq s)
theorem run (w : World) : HandSHeadRun.RunEq Rr (PySem.W.view Rr.prog [53]) hk ob steps loose w := by
  intro os
  kernel_rfl
end Hd
set_option Elab.async false
set_option linter.all false
set_option maxRecDepth 100000
set_option maxHeartbeats 0
namespace Fn
open PySem PySem.Spec L2 Lf
/-- the names that the top leaves alone, and its constants -/
structure Mf (P : Program) (w : World) (K : PySem.W.Frag) (mg : Str → Option Value) (base : Heap) : Prop where
  m_Reader : mg "Reader" = some (.ref (He.ga K "Reader"))
  sysm : sysB K = true
  cl_Reader : ClA K "Reader" ["prime", "register_count", "counts", "bodies"]
  mk_Reader : MkA K "Reader"
  me_Reader_take : MeA K "Reader" "Reader" "take"
  me_Reader_take_instruction : MeA K "Reader" "Reader" "take_instruction"
  m_ValueError : mg "ValueError" = none
  m_abs : mg "abs" = none
  m_all : mg "all" = none
  m_bool : mg "bool" = none
  m_enumerate : mg "enumerate" = none
  m_int : mg "int" = none
  m_isinstance : mg "isinstance" = none
  m_len : mg "len" = none
  m_max : mg "max" = none
  m_min : mg "min" = none
  m_range : mg "range" = none
  m_repr : mg "repr" = none
  m_str : mg "str" = none
  m_sum : mg "sum" = none
  m_tuple : mg "tuple" = none
  c_SET : ∃ t, mg "SET" = some (.str "set" t)
  c_COPY : ∃ t, mg "COPY" = some (.str "copy" t)
  c_ADD : ∃ t, mg "ADD" = some (.str "add" t)
  c_SCALE : ∃ t, mg "SCALE" = some (.str "scale" t)
  c_SWAP : ∃ t, mg "SWAP" = some (.str "swap" t)
  c_READ : ∃ t, mg "READ" = some (.str "read" t)
  c_WRITE : ∃ t, mg "WRITE" = some (.str "write" t)
  c_LOOP : ∃ t, mg "LOOP" = some (.str "loop" t)
  c_MOST_ROUNDS : ∃ t, mg "MOST_ROUNDS" = some (.int 1000000000000000000 t)
  c_MOST_DEPTH_programs : ∃ t, mg "MOST_DEPTH_programs" = some (.int 4 t)
  c_MOST_SIZE : ∃ t, mg "MOST_SIZE" = some (.int 200 t)
  c_MOST_READS : ∃ t, mg "MOST_READS" = some (.int 2000 t)
  c_MOST_WRITES : ∃ t, mg "MOST_WRITES" = some (.int 2000 t)
  c_INDENT : ∃ t, mg "INDENT" = some (.str "  " t)
  c_DIGITS : ∃ t, mg "DIGITS" = some (.str "0123456789" t)
  c_MOST_DIGITS : ∃ t, mg "MOST_DIGITS" = some (.int 19 t)
  c_MOST_DEPTH_reading : ∃ t, mg "MOST_DEPTH_reading" = some (.int 4 t)
  c_LOOP_WORDS : ∃ t, mg "LOOP_WORDS" = some (.int 3 t)
namespace Bt
theorem abs : bootBuiltins "abs" = some (.builtin "abs") := by decide +kernel
theorem all : bootBuiltins "all" = some (.builtin "all") := by decide +kernel
theorem int : bootBuiltins "int" = some (.type "int") := by decide +kernel
theorem isinstance : bootBuiltins "isinstance" = some (.builtin "isinstance") := by decide +kernel
theorem len : bootBuiltins "len" = some (.builtin "len") := by decide +kernel
theorem max : bootBuiltins "max" = some (.builtin "max") := by decide +kernel
theorem min : bootBuiltins "min" = some (.builtin "min") := by decide +kernel
theorem repr : bootBuiltins "repr" = some (.builtin "repr") := by decide +kernel
theorem str : bootBuiltins "str" = some (.type "str") := by decide +kernel
theorem sum : bootBuiltins "sum" = some (.builtin "sum") := by decide +kernel
theorem tuple : bootBuiltins "tuple" = some (.type "tuple") := by decide +kernel
end Bt
def f_is_within : FxS :=
  fRet (fAndV (fCall gIsi (fCons (fVar 0) (fCons (fC (.raw (.ty "int"))) (fNil)))) (fAndV (fNotV (fCall gIsi (fCons (fVar 0) (fCons (fC (.raw (.ty "bool"))) (fNil))))) (fChain gLe gLe (fVar 1) (fVar 0) (fVar 2))))
def g_is_within : List U → M U := gDef 3 f_is_within
abbrev N_is_within : List Str := ["value", "low", "high"]
theorem sc_is_within : FnScope N_is_within ["value", "low", "high"] Hd.d_is_within.scope := ⟨rfl, rfl, rfl, by decide +kernel, rfl, by decide +kernel, by decide +kernel⟩
theorem b_is_within {P : Program} {w : World} {K : PySem.W.Frag} {mg : Str → Option Value} {base : Heap} (mf : Mf P w K mg base)  {f : Addr} {cv : Value} {A : Around} {fr : List Env} {s : Shared} {H : Hp} {E : XK} (hr0 : Room 1 (A.deeper (PyProof.Rows.envOfC "is_within" Hd.d_is_within.scope s.heap.objs.size f cv))) (gd : A.guards = some []) :
    FSs (cxOf CX0 P w K mg base N_is_within "is_within" Hd.d_is_within.scope f cv A fr s H E).nox E Hd.d_is_within.body f_is_within := by
  have sc := sc_is_within
  have hr : Room 1 (cxOf CX0 P w K mg base N_is_within "is_within" Hd.d_is_within.scope f cv A fr s H E).nox.A := hr0
  exact (fss_one (fs_ret (fe_and (fe_callB fcl_isi (by rfl) mf.m_isinstance Bt.isinstance (fa_cons (fe_var 0) (fa_cons (fe_ty (by rfl) mf.m_int PyProof.Rows.boot_int) fa_nil))) (fe_and (fe_not (fe_callB fcl_isi (by rfl) mf.m_isinstance Bt.isinstance (fa_cons (fe_var 0) (fa_cons (fe_ty (by rfl) mf.m_bool PyProof.Rows.boot_bool) fa_nil)))) (fe_one (fe_chain fop_le fop_le (fe_var 1) (fe_var 0) (fe_var 2)))))))
theorem ok_is_within {P : Program} {w : World} {K : PySem.W.Frag} {mg : Str → Option Value} {base : Heap} (mf : Mf P w K mg base)  {f : Addr} {fd : FuncData} (hm : mg "is_within" = some (.ref f)) (D : FunD K "is_within" "is_within" Hd.d_is_within.params Hd.d_is_within.body Hd.d_is_within.scope [] [] f fd) : Dok P w K mg base "is_within" 2 ["value", "low", "high"] [] g_is_within :=
  .of (fnG_of (N := N_is_within) (F := f_is_within) D sc_is_within fun cv A fr s H E hr gd => (b_is_within mf  hr gd).nox) hm D (fun _ _ _ _ _ _ us hl => match us, hl with | [_, _, _], _ => rfl) (fun q hq => nomatch hq)
def f_are_two : FxS :=
  fRet (fAndV (fCall (kdG .len 3 g_is_within) (fCons (fVar 1) (fCons (fC (.int 0)) (fCons (fBin gSub (fVar 0) (fC (.int 1))) (fNil))))) (fAndV (fCall (kdG .len 3 g_is_within) (fCons (fVar 2) (fCons (fC (.int 0)) (fCons (fBin gSub (fVar 0) (fC (.int 1))) (fNil))))) (fBin (gEq true) (fVar 1) (fVar 2))))
def g_are_two : List U → M U := gDef 3 f_are_two
abbrev N_are_two : List Str := ["n", "x", "y"]
theorem sc_are_two : FnScope N_are_two ["n", "x", "y"] Hd.d_are_two.scope := ⟨rfl, rfl, rfl, by decide +kernel, rfl, by decide +kernel, by decide +kernel⟩
theorem b_are_two {P : Program} {w : World} {K : PySem.W.Frag} {mg : Str → Option Value} {base : Heap} (mf : Mf P w K mg base) (D_is_within : Dok P w K mg base "is_within" 2 ["value", "low", "high"] [] g_is_within) {f : Addr} {cv : Value} {A : Around} {fr : List Env} {s : Shared} {H : Hp} {E : XK} (hr0 : Room 2 (A.deeper (PyProof.Rows.envOfC "are_two" Hd.d_are_two.scope s.heap.objs.size f cv))) (gd : A.guards = some []) :
    FSs (cxOf CX0 P w K mg base N_are_two "are_two" Hd.d_are_two.scope f cv A fr s H E).nox E Hd.d_are_two.body f_are_two := by
  have sc := sc_are_two
  have hr : Room 2 (cxOf CX0 P w K mg base N_are_two "are_two" Hd.d_are_two.scope f cv A fr s H E).nox.A := hr0
  exact (fss_one (fs_ret (fe_and (fe_def .len D_is_within (by exact hr) (by rfl) (by exact gd) (by rfl) (fa_cons (fe_var 1) (fa_cons fe_int (fa_cons (fe_op fop_sub (fe_var 0) fe_int) fa_nil)))) (fe_and (fe_def .len D_is_within (by exact hr) (by rfl) (by exact gd) (by rfl) (fa_cons (fe_var 2) (fa_cons fe_int (fa_cons (fe_op fop_sub (fe_var 0) fe_int) fa_nil)))) (fe_one (fe_cmp (fop_ne (by exact hr.units)) (fe_var 1) (fe_var 2)))))))
theorem ok_are_two {P : Program} {w : World} {K : PySem.W.Frag} {mg : Str → Option Value} {base : Heap} (mf : Mf P w K mg base) (D_is_within : Dok P w K mg base "is_within" 2 ["value", "low", "high"] [] g_is_within) {f : Addr} {fd : FuncData} (hm : mg "are_two" = some (.ref f)) (D : FunD K "are_two" "are_two" Hd.d_are_two.params Hd.d_are_two.body Hd.d_are_two.scope [] [] f fd) : Dok P w K mg base "are_two" 3 ["n", "x", "y"] [] g_are_two :=
  .of (fnG_of (N := N_are_two) (F := f_are_two) D sc_are_two fun cv A fr s H E hr gd => (b_are_two mf D_is_within hr gd).nox) hm D (fun _ _ _ _ _ _ us hl => match us, hl with | [_, _, _], _ => rfl) (fun q hq => nomatch hq)
def f_is_plain : FxS :=
  fSeq (fPar2 3 4 (fCons (fBin gIx (fVar 2) (fC (.int 0))) (fCons (fSl (fVar 2) (fPt (fC (.int 1))) fNoP) (fNil)))) (fSeq (fIf (fBl (fBin (gIn false) (fVar 3) (fTup (fCons (fC (.str "set")) (fCons (fC (.str "scale")) (fNil)))))) (fRet (fAndV (fBin (gEq false) (fCall gLen (fCons (fVar 4) (fNil))) (fC (.int 2))) (fAndV (fCall (kdG .len 3 g_is_within) (fCons (fBin gIx (fVar 4) (fC (.int 0))) (fCons (fC (.int 0)) (fCons (fBin gSub (fVar 1) (fC (.int 1))) (fNil))))) (fCall (kdG .len 3 g_is_within) (fCons (fBin gIx (fVar 4) (fC (.int 1))) (fCons (fC (.int 0)) (fCons (fBin gSub (fVar 0) (fC (.int 1))) (fNil)))))))) (fSkip)) (fSeq (fIf (fBl (fBin (gIn false) (fVar 3) (fTup (fCons (fC (.str "copy")) (fCons (fC (.str "swap")) (fNil)))))) (fRet (fAndV (fBin (gEq false) (fCall gLen (fCons (fVar 4) (fNil))) (fC (.int 2))) (fCall (kdG .len 3 g_are_two) (fCons (fVar 1) (fCons (fBin gIx (fVar 4) (fC (.int 0))) (fCons (fBin gIx (fVar 4) (fC (.int 1))) (fNil))))))) (fSkip)) (fSeq (fIf (fBl (fBin (gEq false) (fVar 3) (fC (.str "add")))) (fRet (fAndV (fBin (gEq false) (fCall gLen (fCons (fVar 4) (fNil))) (fC (.int 3))) (fAndV (fCall (kdG .len 3 g_are_two) (fCons (fVar 1) (fCons (fBin gIx (fVar 4) (fC (.int 0))) (fCons (fBin gIx (fVar 4) (fC (.int 1))) (fNil))))) (fCall (kdG .len 3 g_is_within) (fCons (fBin gIx (fVar 4) (fC (.int 2))) (fCons (fC (.int 1)) (fCons (fBin gSub (fVar 0) (fC (.int 1))) (fNil)))))))) (fSkip)) (fRet (fAndV (fBin (gIn false) (fVar 3) (fTup (fCons (fC (.str "read")) (fCons (fC (.str "write")) (fNil))))) (fAndV (fBin (gEq false) (fCall gLen (fCons (fVar 4) (fNil))) (fC (.int 1))) (fCall (kdG .len 3 g_is_within) (fCons (fBin gIx (fVar 4) (fC (.int 0))) (fCons (fC (.int 0)) (fCons (fBin gSub (fVar 1) (fC (.int 1))) (fNil)))))))))))
def g_is_plain : List U → M U := gDef 5 f_is_plain
abbrev N_is_plain : List Str := ["p", "n", "value", "word", "rest"]
theorem sc_is_plain : FnScope N_is_plain ["p", "n", "value"] Hd.d_is_plain.scope := ⟨rfl, rfl, rfl, by decide +kernel, rfl, by decide +kernel, by decide +kernel⟩
theorem b_is_plain {P : Program} {w : World} {K : PySem.W.Frag} {mg : Str → Option Value} {base : Heap} (mf : Mf P w K mg base) (D_is_within : Dok P w K mg base "is_within" 2 ["value", "low", "high"] [] g_is_within) (D_are_two : Dok P w K mg base "are_two" 3 ["n", "x", "y"] [] g_are_two) {f : Addr} {cv : Value} {A : Around} {fr : List Env} {s : Shared} {H : Hp} {E : XK} (hr0 : Room 3 (A.deeper (PyProof.Rows.envOfC "is_plain" Hd.d_is_plain.scope s.heap.objs.size f cv))) (gd : A.guards = some []) :
    FSs (cxOf CX0 P w K mg base N_is_plain "is_plain" Hd.d_is_plain.scope f cv A fr s H E).nox E Hd.d_is_plain.body f_is_plain := by
  have sc := sc_is_plain
  have hr : Room 3 (cxOf CX0 P w K mg base N_is_plain "is_plain" Hd.d_is_plain.scope f cv A fr s H E).nox.A := hr0
  exact (fss_cons (fs_par2 (i := 3) (j := 4) rfl sc.nd rfl rfl (by decide) rfl rfl (fa_cons (fe_ix (fe_var 2) fe_int) (fa_cons (fe_slice (fe_var 2) (fo_some fe_int) fo_none) fa_nil))) (fss_cons (fs_if (ft_cmp fop_in (fe_var 3) (fe_tup (fa_cons (fe_gstr (by rfl) mf.c_SET.choose_spec) (fa_cons (fe_gstr (by rfl) mf.c_SCALE.choose_spec) fa_nil)))) (fss_one (fs_ret (fe_and (fe_cmp (fop_eq (by exact hr.units)) (fe_callB fcl_len (by rfl) mf.m_len Bt.len (fa_cons (fe_var 4) fa_nil)) fe_int) (fe_and (fe_def .len D_is_within (by exact hr) (by rfl) (by exact gd) (by rfl) (fa_cons (fe_ix (fe_var 4) fe_int) (fa_cons fe_int (fa_cons (fe_op fop_sub (fe_var 1) fe_int) fa_nil)))) (fe_one (fe_def .len D_is_within (by exact hr) (by rfl) (by exact gd) (by rfl) (fa_cons (fe_ix (fe_var 4) fe_int) (fa_cons fe_int (fa_cons (fe_op fop_sub (fe_var 0) fe_int) fa_nil))))))))) fss_nil) (fss_cons (fs_if (ft_cmp fop_in (fe_var 3) (fe_tup (fa_cons (fe_gstr (by rfl) mf.c_COPY.choose_spec) (fa_cons (fe_gstr (by rfl) mf.c_SWAP.choose_spec) fa_nil)))) (fss_one (fs_ret (fe_and (fe_cmp (fop_eq (by exact hr.units)) (fe_callB fcl_len (by rfl) mf.m_len Bt.len (fa_cons (fe_var 4) fa_nil)) fe_int) (fe_one (fe_def .len D_are_two (by exact hr) (by rfl) (by exact gd) (by rfl) (fa_cons (fe_var 1) (fa_cons (fe_ix (fe_var 4) fe_int) (fa_cons (fe_ix (fe_var 4) fe_int) fa_nil)))))))) fss_nil) (fss_cons (fs_if (ft_cmp (fop_eq (by exact hr.units)) (fe_var 3) (fe_gstr (by rfl) mf.c_ADD.choose_spec)) (fss_one (fs_ret (fe_and (fe_cmp (fop_eq (by exact hr.units)) (fe_callB fcl_len (by rfl) mf.m_len Bt.len (fa_cons (fe_var 4) fa_nil)) fe_int) (fe_and (fe_def .len D_are_two (by exact hr) (by rfl) (by exact gd) (by rfl) (fa_cons (fe_var 1) (fa_cons (fe_ix (fe_var 4) fe_int) (fa_cons (fe_ix (fe_var 4) fe_int) fa_nil)))) (fe_one (fe_def .len D_is_within (by exact hr) (by rfl) (by exact gd) (by rfl) (fa_cons (fe_ix (fe_var 4) fe_int) (fa_cons fe_int (fa_cons (fe_op fop_sub (fe_var 0) fe_int) fa_nil))))))))) fss_nil) (fss_one (fs_ret (fe_and (fe_cmp fop_in (fe_var 3) (fe_tup (fa_cons (fe_gstr (by rfl) mf.c_READ.choose_spec) (fa_cons (fe_gstr (by rfl) mf.c_WRITE.choose_spec) fa_nil)))) (fe_and (fe_cmp (fop_eq (by exact hr.units)) (fe_callB fcl_len (by rfl) mf.m_len Bt.len (fa_cons (fe_var 4) fa_nil)) fe_int) (fe_one (fe_def .len D_is_within (by exact hr) (by rfl) (by exact gd) (by rfl) (fa_cons (fe_ix (fe_var 4) fe_int) (fa_cons fe_int (fa_cons (fe_op fop_sub (fe_var 1) fe_int) fa_nil)))))))))))))
theorem ok_is_plain {P : Program} {w : World} {K : PySem.W.Frag} {mg : Str → Option Value} {base : Heap} (mf : Mf P w K mg base) (D_is_within : Dok P w K mg base "is_within" 2 ["value", "low", "high"] [] g_is_within) (D_are_two : Dok P w K mg base "are_two" 3 ["n", "x", "y"] [] g_are_two) {f : Addr} {fd : FuncData} (hm : mg "is_plain" = some (.ref f)) (D : FunD K "is_plain" "is_plain" Hd.d_is_plain.params Hd.d_is_plain.body Hd.d_is_plain.scope [] [] f fd) : Dok P w K mg base "is_plain" 4 ["p", "n", "value"] [] g_is_plain :=
  .of (fnG_of (N := N_is_plain) (F := f_is_plain) D sc_is_plain fun cv A fr s H E hr gd => (b_is_plain mf D_is_within D_are_two hr gd).nox) hm D (fun _ _ _ _ _ _ us hl => match us, hl with | [_, _, _], _ => rfl) (fun q hq => nomatch hq)
def f_is_body (self_is_body : List U → M U) (self_is_instruction : List U → M U) : FxS :=
  fRet (fAndV (fCall gIsi (fCons (fVar 2) (fCons (fC (.raw (.ty "tuple"))) (fNil)))) (fCall gAll (fCons (fLc [4] (fIter (fVar 2)) (gNm 4) (fYes) (fCall (kdG .len 4 self_is_instruction) (fCons (fVar 0) (fCons (fVar 1) (fCons (fVar 4) (fCons (fVar 3) (fNil))))))) (fNil))))
def f_is_instruction (self_is_body : List U → M U) (self_is_instruction : List U → M U) : FxS :=
  fSeq (fIf (fOr (fNot (fTru (fCall gIsi (fCons (fVar 2) (fCons (fC (.raw (.ty "tuple"))) (fNil)))))) (fOr (fBl (fBin gEqT0 (fVar 2) (fTup (fNil)))) (fNot (fTru (fCall gIsi (fCons (fBin gIx (fVar 2) (fC (.int 0))) (fCons (fC (.raw (.ty "str"))) (fNil)))))))) (fRet (fC (.bl false))) (fSkip)) (fSeq (fIf (fBl (fBin (gEq true) (fBin gIx (fVar 2) (fC (.int 0))) (fC (.str "loop")))) (fRet (fCall (kdG .len 3 g_is_plain) (fCons (fVar 0) (fCons (fVar 1) (fCons (fVar 2) (fNil)))))) (fSkip)) (fSeq (fIf (fOr (fBl (fBin (gEq true) (fCall gLen (fCons (fVar 2) (fNil))) (fC (.int 3)))) (fOr (fBl (fBin (gEq false) (fVar 3) (fC (.int 0)))) (fNot (fTru (fCall (kdG .len 3 g_is_within) (fCons (fBin gIx (fVar 2) (fC (.int 1))) (fCons (fC (.int 0)) (fCons (fC (.int 1000000000000000000)) (fNil))))))))) (fRet (fC (.bl false))) (fSkip)) (fRet (fCall (kdG .len 4 self_is_body) (fCons (fVar 0) (fCons (fVar 1) (fCons (fBin gIx (fVar 2) (fC (.int 2))) (fCons (fBin gSub (fVar 3) (fC (.int 1))) (fNil)))))))))
def gg_is_body : Nat → (List U → M U) × (List U → M U)
  | 0 => (fun _ _ => .no, fun _ _ => .no)
  | n + 1 => (gDef 5 (f_is_body (gg_is_body n).1 (gg_is_body n).2), gDef 4 (f_is_instruction (gg_is_body n).1 (gg_is_body n).2))
def g_is_body (n : Nat) : List U → M U := (gg_is_body n).1
def g_is_instruction (n : Nat) : List U → M U := (gg_is_body n).2
abbrev N_is_body : List Str := ["p", "n", "value", "depth_left", "item"]
theorem sc_is_body : FnScope N_is_body ["p", "n", "value", "depth_left"] Hd.d_is_body.scope := ⟨rfl, rfl, rfl, by decide +kernel, rfl, by decide +kernel, by decide +kernel⟩
theorem b_is_body {P : Program} {w : World} {K : PySem.W.Frag} {mg : Str → Option Value} {base : Heap} (mf : Mf P w K mg base) (D_is_plain : Dok P w K mg base "is_plain" 4 ["p", "n", "value"] [] g_is_plain) (D_is_within : Dok P w K mg base "is_within" 2 ["value", "low", "high"] [] g_is_within) {m : Nat} (hs : Nat.ble (4 + m) (4 + m) = true) {self_is_body : List U → M U} (D_is_body : Dok P w K mg base "is_body" (4 + m) ["p", "n", "value", "depth_left"] [] self_is_body) {self_is_instruction : List U → M U} (D_is_instruction : Dok P w K mg base "is_instruction" (4 + m) ["p", "n", "value", "depth_left"] [] self_is_instruction) {f : Addr} {cv : Value} {A : Around} {fr : List Env} {s : Shared} {H : Hp} {E : XK} (hr0 : Room (4 + m) (A.deeper (PyProof.Rows.envOfC "is_body" Hd.d_is_body.scope s.heap.objs.size f cv))) (gd : A.guards = some []) :
    FSs (cxOf CX0 P w K mg base N_is_body "is_body" Hd.d_is_body.scope f cv A fr s H E).nox E Hd.d_is_body.body (f_is_body self_is_body self_is_instruction) := by
  have sc := sc_is_body
  have hr : Room (4 + m) (cxOf CX0 P w K mg base N_is_body "is_body" Hd.d_is_body.scope f cv A fr s H E).nox.A := hr0
  exact (fss_one (fs_ret (fe_and (fe_callB fcl_isi (by rfl) mf.m_isinstance Bt.isinstance (fa_cons (fe_var 2) (fa_cons (fe_ty (by rfl) mf.m_tuple PyProof.Rows.boot_tuple) fa_nil))) (fe_one (fe_callB (fcl_all rfl) (by rfl) mf.m_all Bt.all (fa_cons (fe_comp (own := [("item", 4)]) rfl sc.nd (blkOk_by (by kernel_rfl)) (fi_seq (fe_var 2)) (by decide) (fun _ => (fg_name (i := 4) sc.nd rfl (by first | exact .inl rfl | exact .inr rfl))) (fun _ => fts_nil) (fun _ => (fe_def .len D_is_instruction (by exact hr) hs (by exact gd) (by rfl) (fa_cons (fe_var 0) (fa_cons (fe_var 1) (fa_cons (fe_var 4) (fa_cons (fe_var 3) fa_nil))))))) fa_nil))))))
abbrev N_is_instruction : List Str := ["p", "n", "value", "depth_left"]
theorem sc_is_instruction : FnScope N_is_instruction ["p", "n", "value", "depth_left"] Hd.d_is_instruction.scope := ⟨rfl, rfl, rfl, by decide +kernel, rfl, by decide +kernel, by decide +kernel⟩
theorem b_is_instruction {P : Program} {w : World} {K : PySem.W.Frag} {mg : Str → Option Value} {base : Heap} (mf : Mf P w K mg base) (D_is_plain : Dok P w K mg base "is_plain" 4 ["p", "n", "value"] [] g_is_plain) (D_is_within : Dok P w K mg base "is_within" 2 ["value", "low", "high"] [] g_is_within) {m : Nat} (hs : Nat.ble (4 + m) (4 + m) = true) {self_is_body : List U → M U} (D_is_body : Dok P w K mg base "is_body" (4 + m) ["p", "n", "value", "depth_left"] [] self_is_body) {self_is_instruction : List U → M U} (D_is_instruction : Dok P w K mg base "is_instruction" (4 + m) ["p", "n", "value", "depth_left"] [] self_is_instruction) {f : Addr} {cv : Value} {A : Around} {fr : List Env} {s : Shared} {H : Hp} {E : XK} (hr0 : Room (4 + m) (A.deeper (PyProof.Rows.envOfC "is_instruction" Hd.d_is_instruction.scope s.heap.objs.size f cv))) (gd : A.guards = some []) :
    FSs (cxOf CX0 P w K mg base N_is_instruction "is_instruction" Hd.d_is_instruction.scope f cv A fr s H E).nox E Hd.d_is_instruction.body (f_is_instruction self_is_body self_is_instruction) := by
  have sc := sc_is_instruction
  have hr : Room (4 + m) (cxOf CX0 P w K mg base N_is_instruction "is_instruction" Hd.d_is_instruction.scope f cv A fr s H E).nox.A := hr0
  exact (fss_cons (fs_if (ft_w (fw_or (ft_not (ft_tru (fe_callB fcl_isi (by rfl) mf.m_isinstance Bt.isinstance (fa_cons (fe_var 2) (fa_cons (fe_ty (by rfl) mf.m_tuple PyProof.Rows.boot_tuple) fa_nil))))) (fw_or (ft_cmp (fop_eqT0 (by exact hr.units)) (fe_var 2) (fe_tup fa_nil)) (fw_or1 (ft_not (ft_tru (fe_callB fcl_isi (by rfl) mf.m_isinstance Bt.isinstance (fa_cons (fe_ix (fe_var 2) fe_int) (fa_cons (fe_ty (by rfl) mf.m_str PyProof.Rows.boot_str) fa_nil))))))))) (fss_one (fs_ret fe_bl)) fss_nil) (fss_cons (fs_if (ft_cmp (fop_ne (by exact hr.units)) (fe_ix (fe_var 2) fe_int) (fe_gstr (by rfl) mf.c_LOOP.choose_spec)) (fss_one (fs_ret (fe_def .len D_is_plain (by exact hr) (Nat.ble_eq_true_of_le (by omega)) (by exact gd) (by rfl) (fa_cons (fe_var 0) (fa_cons (fe_var 1) (fa_cons (fe_var 2) fa_nil)))))) fss_nil) (fss_cons (fs_if (ft_w (fw_or (ft_cmp (fop_ne (by exact hr.units)) (fe_callB fcl_len (by rfl) mf.m_len Bt.len (fa_cons (fe_var 2) fa_nil)) fe_int) (fw_or (ft_cmp (fop_eq (by exact hr.units)) (fe_var 3) fe_int) (fw_or1 (ft_not (ft_tru (fe_def .len D_is_within (by exact hr) (Nat.ble_eq_true_of_le (by omega)) (by exact gd) (by rfl) (fa_cons (fe_ix (fe_var 2) fe_int) (fa_cons fe_int (fa_cons (fe_gint (by rfl) mf.c_MOST_ROUNDS.choose_spec) fa_nil)))))))))) (fss_one (fs_ret fe_bl)) fss_nil) (fss_one (fs_ret (fe_def .len D_is_body (by exact hr) hs (by exact gd) (by rfl) (fa_cons (fe_var 0) (fa_cons (fe_var 1) (fa_cons (fe_ix (fe_var 2) fe_int) (fa_cons (fe_op fop_sub (fe_var 3) fe_int) fa_nil))))))))))
theorem oks_is_body {P : Program} {w : World} {K : PySem.W.Frag} {mg : Str → Option Value} {base : Heap} (mf : Mf P w K mg base) (D_is_plain : Dok P w K mg base "is_plain" 4 ["p", "n", "value"] [] g_is_plain) (D_is_within : Dok P w K mg base "is_within" 2 ["value", "low", "high"] [] g_is_within) {f_is_body : Addr} {fd_is_body : FuncData} (hm_is_body : mg "is_body" = some (.ref f_is_body)) (F_is_body : FunD K "is_body" "is_body" Hd.d_is_body.params Hd.d_is_body.body Hd.d_is_body.scope [] [] f_is_body fd_is_body) {f_is_instruction : Addr} {fd_is_instruction : FuncData} (hm_is_instruction : mg "is_instruction" = some (.ref f_is_instruction)) (F_is_instruction : FunD K "is_instruction" "is_instruction" Hd.d_is_instruction.params Hd.d_is_instruction.body Hd.d_is_instruction.scope [] [] f_is_instruction fd_is_instruction) : ∀ m, (Dok P w K mg base "is_body" (4 + m) ["p", "n", "value", "depth_left"] [] (g_is_body m)) ∧ (Dok P w K mg base "is_instruction" (4 + m) ["p", "n", "value", "depth_left"] [] (g_is_instruction m))
  | 0 => ⟨.of .zero hm_is_body F_is_body (fun _ _ _ _ _ _ us hl => match us, hl with | [_, _, _, _], _ => rfl) (fun q hq => nomatch hq), .of .zero hm_is_instruction F_is_instruction (fun _ _ _ _ _ _ us hl => match us, hl with | [_, _, _, _], _ => rfl) (fun q hq => nomatch hq)⟩
  | m + 1 => by
    have ih := oks_is_body mf D_is_plain D_is_within hm_is_body F_is_body hm_is_instruction F_is_instruction m
    obtain ⟨D_is_body, D_is_instruction⟩ := ih
    exact ⟨.of (fnG_of F_is_body sc_is_body fun cv A fr s H E hr gd => (b_is_body mf D_is_plain D_is_within (Nat.ble_eq_true_of_le (Nat.le_refl _)) D_is_body D_is_instruction hr gd).nox) hm_is_body F_is_body (fun _ _ _ _ _ _ us hl => match us, hl with | [_, _, _, _], _ => rfl) (fun q hq => nomatch hq), .of (fnG_of F_is_instruction sc_is_instruction fun cv A fr s H E hr gd => (b_is_instruction mf D_is_plain D_is_within (Nat.ble_eq_true_of_le (Nat.le_refl _)) D_is_body D_is_instruction hr gd).nox) hm_is_instruction F_is_instruction (fun _ _ _ _ _ _ us hl => match us, hl with | [_, _, _, _], _ => rfl) (fun q hq => nomatch hq)⟩
def f_size (self : List U → M U) : FxS :=
  fRet (fCall gSum (fCons (fLc [1] (fIter (fVar 0)) (gNm 1) (fYes) (fBin gAdd (fC (.int 1)) (fIfE (fBl (fBin (gEq false) (fBin gIx (fVar 1) (fC (.int 0))) (fC (.str "loop")))) (fCall (kdG .pur 1 self) (fCons (fBin gIx (fVar 1) (fC (.int 2))) (fNil))) (fC (.int 0))))) (fNil)))
def g_size : Nat → List U → M U
  | 0 => fun _ _ => .no
  | n + 1 => gDef 2 (f_size (g_size n))
abbrev N_size : List Str := ["program", "item"]
theorem sc_size : FnScope N_size ["program"] Hd.d_size.scope := ⟨rfl, rfl, rfl, by decide +kernel, rfl, by decide +kernel, by decide +kernel⟩
theorem b_size {P : Program} {w : World} {K : PySem.W.Frag} {mg : Str → Option Value} {base : Heap} (mf : Mf P w K mg base) {m : Nat} (hs : Nat.ble (1 + m) (1 + m) = true) {self : List U → M U} (D_size : Dok P w K mg base "size" (1 + m) ["program"] [] self) {f : Addr} {cv : Value} {A : Around} {fr : List Env} {s : Shared} {H : Hp} {E : XK} (hr0 : Room (1 + m) (A.deeper (PyProof.Rows.envOfC "size" Hd.d_size.scope s.heap.objs.size f cv))) (gd : A.guards = some []) :
    FSs (cxOf CX0 P w K mg base N_size "size" Hd.d_size.scope f cv A fr s H E).nox E Hd.d_size.body (f_size self) := by
  have sc := sc_size
  have hr : Room (1 + m) (cxOf CX0 P w K mg base N_size "size" Hd.d_size.scope f cv A fr s H E).nox.A := hr0
  exact (fss_one (fs_ret (fe_callB (fcl_sum rfl) (by rfl) mf.m_sum Bt.sum (fa_cons (fe_comp (own := [("item", 1)]) rfl sc.nd (blkOk_by (by kernel_rfl)) (fi_seq (fe_var 0)) (by decide) (fun _ => (fg_name (i := 1) sc.nd rfl (by first | exact .inl rfl | exact .inr rfl))) (fun _ => fts_nil) (fun _ => (fe_op fop_add fe_int (fe_if (ft_cmp (fop_eq (by exact hr.units)) (fe_ix (fe_var 1) fe_int) (fe_gstr (by rfl) mf.c_LOOP.choose_spec)) (fe_def .pur D_size (by exact hr) hs (by exact gd) (by rfl) (fa_cons (fe_ix (fe_var 1) fe_int) fa_nil)) fe_int)))) fa_nil))))
theorem ok_size {P : Program} {w : World} {K : PySem.W.Frag} {mg : Str → Option Value} {base : Heap} (mf : Mf P w K mg base)  {f : Addr} {fd : FuncData} (hm : mg "size" = some (.ref f)) (D : FunD K "size" "size" Hd.d_size.params Hd.d_size.body Hd.d_size.scope [] [] f fd) : ∀ m, Dok P w K mg base "size" (1 + m) ["program"] [] (g_size m)
  | 0 => .of .zero hm D (fun _ _ _ _ _ _ us hl => match us, hl with | [_], _ => rfl) (fun q hq => nomatch hq)
  | m + 1 => .of (fnG_of D sc_size fun cv A fr s H E hr gd => (b_size mf  (Nat.ble_eq_true_of_le (Nat.le_refl _)) (ok_size mf  hm D m) hr gd).nox) hm D (fun _ _ _ _ _ _ us hl => match us, hl with | [_], _ => rfl) (fun q hq => nomatch hq)
def f_times (self : List U → M U) : FxS :=
  fSeq (fSet 2 (fC (.int 0))) (fSeq (fFor (fIter (fVar 0)) (gNm 3) (fIf (fBl (fBin (gEq false) (fBin gIx (fVar 3) (fC (.int 0))) (fC (.str "loop")))) (fAug 2 gIAdd (fBin gMul (fBin gIx (fVar 3) (fC (.int 1))) (fCall (kdG .pur 2 self) (fCons (fBin gIx (fVar 3) (fC (.int 2))) (fCons (fVar 1) (fNil)))))) (fIf (fOr (fBl (fBin (gEq false) (fVar 1) (fTup (fNil)))) (fBl (fBin (gIn false) (fBin gIx (fVar 3) (fC (.int 0))) (fVar 1)))) (fAug 2 gIAdd (fC (.int 1))) (fSkip)))) (fRet (fVar 2)))
def g_times : Nat → List U → M U
  | 0 => fun _ _ => .no
  | n + 1 => gDef 4 (f_times (g_times n))
abbrev N_times : List Str := ["program", "words", "found", "item"]
theorem sc_times : FnScope N_times ["program", "words"] Hd.d_times.scope := ⟨rfl, rfl, rfl, by decide +kernel, rfl, by decide +kernel, by decide +kernel⟩
theorem b_times {P : Program} {w : World} {K : PySem.W.Frag} {mg : Str → Option Value} {base : Heap} (mf : Mf P w K mg base) {m : Nat} (hs : Nat.ble (1 + m) (1 + m) = true) {self : List U → M U} (D_times : Dok P w K mg base "times" (1 + m) ["program", "words"] [] self) {f : Addr} {cv : Value} {A : Around} {fr : List Env} {s : Shared} {H : Hp} {E : XK} (hr0 : Room (1 + m) (A.deeper (PyProof.Rows.envOfC "times" Hd.d_times.scope s.heap.objs.size f cv))) (gd : A.guards = some []) :
    FSs (cxOf CX0 P w K mg base N_times "times" Hd.d_times.scope f cv A fr s H E).nox E Hd.d_times.body (f_times self) := by
  have sc := sc_times
  have hr : Room (1 + m) (cxOf CX0 P w K mg base N_times "times" Hd.d_times.scope f cv A fr s H E).nox.A := hr0
  exact (fss_cons (fs_set (i := 2) sc.nd rfl (by first | exact .inl rfl | exact .inr rfl) fe_int) (fss_cons (fs_for .never rfl (fi_seq (fe_var 0)) (fg_name (i := 3) sc.nd rfl (by first | exact .inl rfl | exact .inr rfl)) (fss_one (fs_if (ft_cmp (fop_eq (by exact hr.units)) (fe_ix (fe_var 3) fe_int) (fe_gstr (by rfl) mf.c_LOOP.choose_spec)) (fss_one (fs_aug (i := 2) sc.nd rfl (by first | exact .inl rfl | exact .inr rfl) fop_iadd (fe_op fop_mul (fe_ix (fe_var 3) fe_int) (fe_def .pur D_times (by exact hr) hs (by exact gd) (by rfl) (fa_cons (fe_ix (fe_var 3) fe_int) (fa_cons (fe_var 1) fa_nil)))))) (fss_one (fs_if (ft_w (fw_or (ft_cmp (fop_eq (by exact hr.units)) (fe_var 1) (fe_tup fa_nil)) (fw_or1 (ft_cmp fop_in (fe_ix (fe_var 3) fe_int) (fe_var 1))))) (fss_one (fs_aug (i := 2) sc.nd rfl (by first | exact .inl rfl | exact .inr rfl) fop_iadd fe_int)) fss_nil))))) (fss_one (fs_ret (fe_var 2)))))
theorem ok_times {P : Program} {w : World} {K : PySem.W.Frag} {mg : Str → Option Value} {base : Heap} (mf : Mf P w K mg base)  {f : Addr} {fd : FuncData} (hm : mg "times" = some (.ref f)) (D : FunD K "times" "times" Hd.d_times.params Hd.d_times.body Hd.d_times.scope [] [] f fd) : ∀ m, Dok P w K mg base "times" (1 + m) ["program", "words"] [] (g_times m)
  | 0 => .of .zero hm D (fun _ _ _ _ _ _ us hl => match us, hl with | [_, _], _ => rfl) (fun q hq => nomatch hq)
  | m + 1 => .of (fnG_of D sc_times fun cv A fr s H E hr gd => (b_times mf  (Nat.ble_eq_true_of_le (Nat.le_refl _)) (ok_times mf  hm D m) hr gd).nox) hm D (fun _ _ _ _ _ _ us hl => match us, hl with | [_, _], _ => rfl) (fun q hq => nomatch hq)
def f_read_count : FxS :=
  fRet (fCall (kdG .pur 2 (g_times 30)) (fCons (fVar 0) (fCons (fTup (fCons (fC (.str "read")) (fNil))) (fNil))))
def g_read_count : List U → M U := gDef 1 f_read_count
abbrev N_read_count : List Str := ["program"]
theorem sc_read_count : FnScope N_read_count ["program"] Hd.d_read_count.scope := ⟨rfl, rfl, rfl, by decide +kernel, rfl, by decide +kernel, by decide +kernel⟩
theorem b_read_count {P : Program} {w : World} {K : PySem.W.Frag} {mg : Str → Option Value} {base : Heap} (mf : Mf P w K mg base) (D_times : Dok P w K mg base "times" 31 ["program", "words"] [] (g_times 30)) {f : Addr} {cv : Value} {A : Around} {fr : List Env} {s : Shared} {H : Hp} {E : XK} (hr0 : Room 31 (A.deeper (PyProof.Rows.envOfC "read_count" Hd.d_read_count.scope s.heap.objs.size f cv))) (gd : A.guards = some []) :
    FSs (cxOf CX0 P w K mg base N_read_count "read_count" Hd.d_read_count.scope f cv A fr s H E).nox E Hd.d_read_count.body f_read_count := by
  have sc := sc_read_count
  have hr : Room 31 (cxOf CX0 P w K mg base N_read_count "read_count" Hd.d_read_count.scope f cv A fr s H E).nox.A := hr0
  exact (fss_one (fs_ret (fe_def .pur D_times (by exact hr) (by rfl) (by exact gd) (by rfl) (fa_cons (fe_var 0) (fa_cons (fe_tup (fa_cons (fe_gstr (by rfl) mf.c_READ.choose_spec) fa_nil)) fa_nil)))))
theorem ok_read_count {P : Program} {w : World} {K : PySem.W.Frag} {mg : Str → Option Value} {base : Heap} (mf : Mf P w K mg base) (D_times : Dok P w K mg base "times" 31 ["program", "words"] [] (g_times 30)) {f : Addr} {fd : FuncData} (hm : mg "read_count" = some (.ref f)) (D : FunD K "read_count" "read_count" Hd.d_read_count.params Hd.d_read_count.body Hd.d_read_count.scope [] [] f fd) : Dok P w K mg base "read_count" 32 ["program"] [] g_read_count :=
  .of (fnG_of (N := N_read_count) (F := f_read_count) D sc_read_count fun cv A fr s H E hr gd => (b_read_count mf D_times hr gd).nox) hm D (fun _ _ _ _ _ _ us hl => match us, hl with | [_], _ => rfl) (fun q hq => nomatch hq)
def f_write_count : FxS :=
  fRet (fCall (kdG .pur 2 (g_times 30)) (fCons (fVar 0) (fCons (fTup (fCons (fC (.str "write")) (fNil))) (fNil))))
def g_write_count : List U → M U := gDef 1 f_write_count
abbrev N_write_count : List Str := ["program"]
theorem sc_write_count : FnScope N_write_count ["program"] Hd.d_write_count.scope := ⟨rfl, rfl, rfl, by decide +kernel, rfl, by decide +kernel, by decide +kernel⟩
theorem b_write_count {P : Program} {w : World} {K : PySem.W.Frag} {mg : Str → Option Value} {base : Heap} (mf : Mf P w K mg base) (D_times : Dok P w K mg base "times" 31 ["program", "words"] [] (g_times 30)) {f : Addr} {cv : Value} {A : Around} {fr : List Env} {s : Shared} {H : Hp} {E : XK} (hr0 : Room 31 (A.deeper (PyProof.Rows.envOfC "write_count" Hd.d_write_count.scope s.heap.objs.size f cv))) (gd : A.guards = some []) :
    FSs (cxOf CX0 P w K mg base N_write_count "write_count" Hd.d_write_count.scope f cv A fr s H E).nox E Hd.d_write_count.body f_write_count := by
  have sc := sc_write_count
  have hr : Room 31 (cxOf CX0 P w K mg base N_write_count "write_count" Hd.d_write_count.scope f cv A fr s H E).nox.A := hr0
  exact (fss_one (fs_ret (fe_def .pur D_times (by exact hr) (by rfl) (by exact gd) (by rfl) (fa_cons (fe_var 0) (fa_cons (fe_tup (fa_cons (fe_gstr (by rfl) mf.c_WRITE.choose_spec) fa_nil)) fa_nil)))))
theorem ok_write_count {P : Program} {w : World} {K : PySem.W.Frag} {mg : Str → Option Value} {base : Heap} (mf : Mf P w K mg base) (D_times : Dok P w K mg base "times" 31 ["program", "words"] [] (g_times 30)) {f : Addr} {fd : FuncData} (hm : mg "write_count" = some (.ref f)) (D : FunD K "write_count" "write_count" Hd.d_write_count.params Hd.d_write_count.body Hd.d_write_count.scope [] [] f fd) : Dok P w K mg base "write_count" 32 ["program"] [] g_write_count :=
  .of (fnG_of (N := N_write_count) (F := f_write_count) D sc_write_count fun cv A fr s H E hr gd => (b_write_count mf D_times hr gd).nox) hm D (fun _ _ _ _ _ _ us hl => match us, hl with | [_], _ => rfl) (fun q hq => nomatch hq)
def f_is_program : FxS :=
  fSeq (fIf (fOr (fNot (fTru (fCall (kdG .len 4 (g_is_body 30)) (fCons (fVar 0) (fCons (fVar 1) (fCons (fVar 2) (fCons (fC (.int 4)) (fNil)))))))) (fBl (fBin gGt (fCall (kdG .pur 1 (g_size 30)) (fCons (fVar 2) (fNil))) (fC (.int 200))))) (fRet (fC (.bl false))) (fSkip)) (fRet (fAndV (fBin gLe (fCall (kdG .pur 1 g_read_count) (fCons (fVar 2) (fNil))) (fC (.int 2000))) (fBin gLe (fCall (kdG .pur 1 g_write_count) (fCons (fVar 2) (fNil))) (fC (.int 2000)))))
def g_is_program : List U → M U := gDef 3 f_is_program
abbrev N_is_program : List Str := ["p", "n", "value"]
theorem sc_is_program : FnScope N_is_program ["p", "n", "value"] Hd.d_is_program.scope := ⟨rfl, rfl, rfl, by decide +kernel, rfl, by decide +kernel, by decide +kernel⟩
theorem b_is_program {P : Program} {w : World} {K : PySem.W.Frag} {mg : Str → Option Value} {base : Heap} (mf : Mf P w K mg base) (D_is_body : Dok P w K mg base "is_body" 34 ["p", "n", "value", "depth_left"] [] (g_is_body 30)) (D_size : Dok P w K mg base "size" 31 ["program"] [] (g_size 30)) (D_read_count : Dok P w K mg base "read_count" 32 ["program"] [] g_read_count) (D_write_count : Dok P w K mg base "write_count" 32 ["program"] [] g_write_count) {f : Addr} {cv : Value} {A : Around} {fr : List Env} {s : Shared} {H : Hp} {E : XK} (hr0 : Room 34 (A.deeper (PyProof.Rows.envOfC "is_program" Hd.d_is_program.scope s.heap.objs.size f cv))) (gd : A.guards = some []) :
    FSs (cxOf CX0 P w K mg base N_is_program "is_program" Hd.d_is_program.scope f cv A fr s H E).nox E Hd.d_is_program.body f_is_program := by
  have sc := sc_is_program
  have hr : Room 34 (cxOf CX0 P w K mg base N_is_program "is_program" Hd.d_is_program.scope f cv A fr s H E).nox.A := hr0
  exact (fss_cons (fs_if (ft_w (fw_or (ft_not (ft_tru (fe_def .len D_is_body (by exact hr) (by rfl) (by exact gd) (by rfl) (fa_cons (fe_var 0) (fa_cons (fe_var 1) (fa_cons (fe_var 2) (fa_cons (fe_gint (by rfl) mf.c_MOST_DEPTH_programs.choose_spec) fa_nil))))))) (fw_or1 (ft_cmp fop_gt (fe_def .pur D_size (by exact hr) (by rfl) (by exact gd) (by rfl) (fa_cons (fe_var 2) fa_nil)) (fe_gint (by rfl) mf.c_MOST_SIZE.choose_spec))))) (fss_one (fs_ret fe_bl)) fss_nil) (fss_one (fs_ret (fe_and (fe_cmp fop_le (fe_def .pur D_read_count (by exact hr) (by rfl) (by exact gd) (by rfl) (fa_cons (fe_var 2) fa_nil)) (fe_gint (by rfl) mf.c_MOST_READS.choose_spec)) (fe_one (fe_cmp fop_le (fe_def .pur D_write_count (by exact hr) (by rfl) (by exact gd) (by rfl) (fa_cons (fe_var 2) fa_nil)) (fe_gint (by rfl) mf.c_MOST_WRITES.choose_spec)))))))
theorem ok_is_program {P : Program} {w : World} {K : PySem.W.Frag} {mg : Str → Option Value} {base : Heap} (mf : Mf P w K mg base) (D_is_body : Dok P w K mg base "is_body" 34 ["p", "n", "value", "depth_left"] [] (g_is_body 30)) (D_size : Dok P w K mg base "size" 31 ["program"] [] (g_size 30)) (D_read_count : Dok P w K mg base "read_count" 32 ["program"] [] g_read_count) (D_write_count : Dok P w K mg base "write_count" 32 ["program"] [] g_write_count) {f : Addr} {fd : FuncData} (hm : mg "is_program" = some (.ref f)) (D : FunD K "is_program" "is_program" Hd.d_is_program.params Hd.d_is_program.body Hd.d_is_program.scope [] [] f fd) : Dok P w K mg base "is_program" 35 ["p", "n", "value"] [] g_is_program :=
  .of (fnG_of (N := N_is_program) (F := f_is_program) D sc_is_program fun cv A fr s H E hr gd => (b_is_program mf D_is_body D_size D_read_count D_write_count hr gd).nox) hm D (fun _ _ _ _ _ _ us hl => match us, hl with | [_, _, _], _ => rfl) (fun q hq => nomatch hq)
def f_show_line : FxS :=
  fSeq (fAsg (fVar 0) (gStr (gCons (gNm 1) (gCons (gNm 2) gNil)))) (fRet (fTx gJoin (fC (.str " ")) (fBin gAdd (fLst (fCons (fVar 1) (fNil))) (fLc [3] (fIter (fVar 2)) (gNm 3) (fYes) (fCall gStrA (fCons (fVar 3) (fNil)))))))
def g_show_line : List U → M U := gDef 4 f_show_line
abbrev N_show_line : List Str := ["instruction", "word", "numbers", "number"]
theorem sc_show_line : FnScope N_show_line ["instruction"] Hd.d_show_line.scope := ⟨rfl, rfl, rfl, by decide +kernel, rfl, by decide +kernel, by decide +kernel⟩
theorem b_show_line {P : Program} {w : World} {K : PySem.W.Frag} {mg : Str → Option Value} {base : Heap} (mf : Mf P w K mg base)  {f : Addr} {cv : Value} {A : Around} {fr : List Env} {s : Shared} {H : Hp} {E : XK} (hr0 : Room 1 (A.deeper (PyProof.Rows.envOfC "show_line" Hd.d_show_line.scope s.heap.objs.size f cv))) (gd : A.guards = some []) :
    FSs (cxOf CX0 P w K mg base N_show_line "show_line" Hd.d_show_line.scope f cv A fr s H E).nox E Hd.d_show_line.body f_show_line := by
  have sc := sc_show_line
  have hr : Room 1 (cxOf CX0 P w K mg base N_show_line "show_line" Hd.d_show_line.scope f cv A fr s H E).nox.A := hr0
  exact (fss_cons (fs_asg (fe_var 0) (fg_star rfl (fgs_cons (fg_name (i := 1) sc.nd rfl (by first | exact .inl rfl | exact .inr rfl)) (fgs_starred (fg_name (i := 2) sc.nd rfl (by first | exact .inl rfl | exact .inr rfl)) fgs_nil)))) (fss_one (fs_ret (fe_join fe_str (fe_op fop_add (fe_lst (fa_cons (fe_var 1) fa_nil)) (fe_comp (own := [("number", 3)]) rfl sc.nd (blkOk_by (by kernel_rfl)) (fi_seq (fe_var 2)) (by decide) (fun _ => (fg_name (i := 3) sc.nd rfl (by first | exact .inl rfl | exact .inr rfl))) (fun _ => fts_nil) (fun _ => (fe_callTy fcl_strA (by rfl) mf.m_str Bt.str (fa_cons (fe_var 3) fa_nil)))))))))
theorem ok_show_line {P : Program} {w : World} {K : PySem.W.Frag} {mg : Str → Option Value} {base : Heap} (mf : Mf P w K mg base)  {f : Addr} {fd : FuncData} (hm : mg "show_line" = some (.ref f)) (D : FunD K "show_line" "show_line" Hd.d_show_line.params Hd.d_show_line.body Hd.d_show_line.scope [] [] f fd) : Dok P w K mg base "show_line" 2 ["instruction"] [] g_show_line :=
  .of (fnG_of (N := N_show_line) (F := f_show_line) D sc_show_line fun cv A fr s H E hr gd => (b_show_line mf  hr gd).nox) hm D (fun _ _ _ _ _ _ us hl => match us, hl with | [_], _ => rfl) (fun q hq => nomatch hq)
def f_lines_of (self : List U → M U) : FxS :=
  fSeq (fSet 2 (fLst (fNil))) (fSeq (fFor (fIter (fVar 0)) (gNm 3) (fIf (fBl (fBin (gEq false) (fBin gIx (fVar 3) (fC (.int 0))) (fC (.str "loop")))) (fSeq (fDrop (fMeth isL gAppend (fVar 2) (fCons (fBin gAdd (fBin gMul (fC (.str "  ")) (fVar 1)) (fJs [fC (.str "loop "), fUn gFmt (fBin gIx (fVar 3) (fC (.int 1))), fC (.str " {")] Str.empty)) (fNil)))) (fSeq (fDrop (fMeth isL gExtend (fVar 2) (fCons (fCall (kdG .len 2 self) (fCons (fBin gIx (fVar 3) (fC (.int 2))) (fCons (fBin gAdd (fVar 1) (fC (.int 1))) (fNil)))) (fNil)))) (fDrop (fMeth isL gAppend (fVar 2) (fCons (fBin gAdd (fBin gMul (fC (.str "  ")) (fVar 1)) (fC (.str "}"))) (fNil)))))) (fDrop (fMeth isL gAppend (fVar 2) (fCons (fBin gAdd (fBin gMul (fC (.str "  ")) (fVar 1)) (fCall (kdG .pur 1 g_show_line) (fCons (fVar 3) (fNil)))) (fNil)))))) (fRet (fVar 2)))
def g_lines_of : Nat → List U → M U
  | 0 => fun _ _ => .no
  | n + 1 => gDef 4 (f_lines_of (g_lines_of n))
abbrev N_lines_of : List Str := ["program", "level", "found", "instruction"]
theorem sc_lines_of : FnScope N_lines_of ["program", "level"] Hd.d_lines_of.scope := ⟨rfl, rfl, rfl, by decide +kernel, rfl, by decide +kernel, by decide +kernel⟩
theorem b_lines_of {P : Program} {w : World} {K : PySem.W.Frag} {mg : Str → Option Value} {base : Heap} (mf : Mf P w K mg base) (D_show_line : Dok P w K mg base "show_line" 2 ["instruction"] [] g_show_line) {m : Nat} (hs : Nat.ble (2 + m) (2 + m) = true) {self : List U → M U} (D_lines_of : Dok P w K mg base "lines_of" (2 + m) ["program", "level"] [] self) {f : Addr} {cv : Value} {A : Around} {fr : List Env} {s : Shared} {H : Hp} {E : XK} (hr0 : Room (2 + m) (A.deeper (PyProof.Rows.envOfC "lines_of" Hd.d_lines_of.scope s.heap.objs.size f cv))) (gd : A.guards = some []) :
    FSs (cxOf CX0 P w K mg base N_lines_of "lines_of" Hd.d_lines_of.scope f cv A fr s H E).nox E Hd.d_lines_of.body (f_lines_of self) := by
  have sc := sc_lines_of
  have hr : Room (2 + m) (cxOf CX0 P w K mg base N_lines_of "lines_of" Hd.d_lines_of.scope f cv A fr s H E).nox.A := hr0
  exact (fss_cons (fs_set (i := 2) sc.nd rfl (by first | exact .inl rfl | exact .inr rfl) (fe_lst fa_nil)) (fss_cons (fs_for .never rfl (fi_seq (fe_var 0)) (fg_name (i := 3) sc.nd rfl (by first | exact .inl rfl | exact .inr rfl)) (fss_one (fs_if (ft_cmp (fop_eq (by exact hr.units)) (fe_ix (fe_var 3) fe_int) fe_str) (fss_cons (fs_expr (fe_lm PySem.F.slot_list_append PySem.F.type_list_append fmt_append (fe_var 2) (fa_cons (fe_op fop_add (fe_op fop_mul (fe_gstr (by rfl) mf.c_INDENT.choose_spec) (fe_var 1)) (fe_joined (fj_cons fe_str (fj_cons (fe_fmt (fe_ix (fe_var 3) fe_int)) (fj_cons fe_str fj_nil))))) fa_nil))) (fss_cons (fs_expr (fe_lm PySem.F.slot_list_extend PySem.F.type_list_extend fmt_extend (fe_var 2) (fa_cons (fe_def .len D_lines_of (by exact hr) hs (by exact gd) (by rfl) (fa_cons (fe_ix (fe_var 3) fe_int) (fa_cons (fe_op fop_add (fe_var 1) fe_int) fa_nil))) fa_nil))) (fss_one (fs_expr (fe_lm PySem.F.slot_list_append PySem.F.type_list_append fmt_append (fe_var 2) (fa_cons (fe_op fop_add (fe_op fop_mul (fe_gstr (by rfl) mf.c_INDENT.choose_spec) (fe_var 1)) fe_str) fa_nil)))))) (fss_one (fs_expr (fe_lm PySem.F.slot_list_append PySem.F.type_list_append fmt_append (fe_var 2) (fa_cons (fe_op fop_add (fe_op fop_mul (fe_gstr (by rfl) mf.c_INDENT.choose_spec) (fe_var 1)) (fe_def .pur D_show_line (by exact hr) (Nat.ble_eq_true_of_le (by omega)) (by exact gd) (by rfl) (fa_cons (fe_var 3) fa_nil))) fa_nil))))))) (fss_one (fs_ret (fe_var 2)))))
theorem ok_lines_of {P : Program} {w : World} {K : PySem.W.Frag} {mg : Str → Option Value} {base : Heap} (mf : Mf P w K mg base) (D_show_line : Dok P w K mg base "show_line" 2 ["instruction"] [] g_show_line) {f : Addr} {fd : FuncData} (hm : mg "lines_of" = some (.ref f)) (D : FunD K "lines_of" "lines_of" Hd.d_lines_of.params Hd.d_lines_of.body Hd.d_lines_of.scope [] [] f fd) : ∀ m, Dok P w K mg base "lines_of" (2 + m) ["program", "level"] [] (g_lines_of m)
  | 0 => .of .zero hm D (fun _ _ _ _ _ _ us hl => match us, hl with | [_, _], _ => rfl) (fun q hq => nomatch hq)
  | m + 1 => .of (fnG_of D sc_lines_of fun cv A fr s H E hr gd => (b_lines_of mf D_show_line (Nat.ble_eq_true_of_le (Nat.le_refl _)) (ok_lines_of mf D_show_line hm D m) hr gd).nox) hm D (fun _ _ _ _ _ _ us hl => match us, hl with | [_, _], _ => rfl) (fun q hq => nomatch hq)
def f_show_program : FxS :=
  fRet (fTx gJoin (fC (.str "\n")) (fCall (kdG .len 2 (g_lines_of 30)) (fCons (fVar 0) (fCons (fC (.int 0)) (fNil)))))
def g_show_program : List U → M U := gDef 1 f_show_program
abbrev N_show_program : List Str := ["program"]
theorem sc_show_program : FnScope N_show_program ["program"] Hd.d_show_program.scope := ⟨rfl, rfl, rfl, by decide +kernel, rfl, by decide +kernel, by decide +kernel⟩
theorem b_show_program {P : Program} {w : World} {K : PySem.W.Frag} {mg : Str → Option Value} {base : Heap} (mf : Mf P w K mg base) (D_lines_of : Dok P w K mg base "lines_of" 32 ["program", "level"] [] (g_lines_of 30)) {f : Addr} {cv : Value} {A : Around} {fr : List Env} {s : Shared} {H : Hp} {E : XK} (hr0 : Room 32 (A.deeper (PyProof.Rows.envOfC "show_program" Hd.d_show_program.scope s.heap.objs.size f cv))) (gd : A.guards = some []) :
    FSs (cxOf CX0 P w K mg base N_show_program "show_program" Hd.d_show_program.scope f cv A fr s H E).nox E Hd.d_show_program.body f_show_program := by
  have sc := sc_show_program
  have hr : Room 32 (cxOf CX0 P w K mg base N_show_program "show_program" Hd.d_show_program.scope f cv A fr s H E).nox.A := hr0
  exact (fss_one (fs_ret (fe_join fe_str (fe_def .len D_lines_of (by exact hr) (by rfl) (by exact gd) (by rfl) (fa_cons (fe_var 0) (fa_cons fe_int fa_nil))))))
theorem ok_show_program {P : Program} {w : World} {K : PySem.W.Frag} {mg : Str → Option Value} {base : Heap} (mf : Mf P w K mg base) (D_lines_of : Dok P w K mg base "lines_of" 32 ["program", "level"] [] (g_lines_of 30)) {f : Addr} {fd : FuncData} (hm : mg "show_program" = some (.ref f)) (D : FunD K "show_program" "show_program" Hd.d_show_program.params Hd.d_show_program.body Hd.d_show_program.scope [] [] f fd) : Dok P w K mg base "show_program" 33 ["program"] [] g_show_program :=
  .of (fnG_of (N := N_show_program) (F := f_show_program) D sc_show_program fun cv A fr s H E hr gd => (b_show_program mf D_lines_of hr gd).nox) hm D (fun _ _ _ _ _ _ us hl => match us, hl with | [_], _ => rfl) (fun q hq => nomatch hq)
def f_number_of : FxS :=
  fSeq (fIf (fOr (fBl (fBin (gEq false) (fVar 0) (fC (.str "")))) (fOr (fBl (fBin gGt (fCall gLen (fCons (fVar 0) (fNil))) (fC (.int 19)))) (fNot (fTru (fCall gAll (fCons (fLc [1] (fIterS (fVar 0)) (gNm 1) (fYes) (fBin (gInS false) (fVar 1) (fC (.str "0123456789")))) (fNil))))))) (fRet (fC .non)) (fSkip)) (fRet (fIfE (fAnd (fBl (fBin (gEq false) (fBin gIx (fVar 0) (fC (.int 0))) (fC (.str "0")))) (fBl (fBin gGt (fCall gLen (fCons (fVar 0) (fNil))) (fC (.int 1))))) (fC .non) (fCall gInt (fCons (fVar 0) (fNil)))))
def g_number_of : List U → M U := gDef 2 f_number_of
abbrev N_number_of : List Str := ["word", "sign"]
theorem sc_number_of : FnScope N_number_of ["word"] Hd.d_number_of.scope := ⟨rfl, rfl, rfl, by decide +kernel, rfl, by decide +kernel, by decide +kernel⟩
theorem b_number_of {P : Program} {w : World} {K : PySem.W.Frag} {mg : Str → Option Value} {base : Heap} (mf : Mf P w K mg base)  {f : Addr} {cv : Value} {A : Around} {fr : List Env} {s : Shared} {H : Hp} {E : XK} (hr0 : Room 1 (A.deeper (PyProof.Rows.envOfC "number_of" Hd.d_number_of.scope s.heap.objs.size f cv))) (gd : A.guards = some []) :
    FSs (cxOf CX0 P w K mg base N_number_of "number_of" Hd.d_number_of.scope f cv A fr s H E).nox E Hd.d_number_of.body f_number_of := by
  have sc := sc_number_of
  have hr : Room 1 (cxOf CX0 P w K mg base N_number_of "number_of" Hd.d_number_of.scope f cv A fr s H E).nox.A := hr0
  exact (fss_cons (fs_if (ft_w (fw_or (ft_cmp (fop_eq (by exact hr.units)) (fe_var 0) fe_str) (fw_or (ft_cmp fop_gt (fe_callB fcl_len (by rfl) mf.m_len Bt.len (fa_cons (fe_var 0) fa_nil)) (fe_gint (by rfl) mf.c_MOST_DIGITS.choose_spec)) (fw_or1 (ft_not (ft_tru (fe_callB (fcl_all rfl) (by rfl) mf.m_all Bt.all (fa_cons (fe_comp (own := [("sign", 1)]) rfl sc.nd (blkOk_by (by kernel_rfl)) (fi_str (fe_var 0)) (by decide) (fun _ => (fg_name (i := 1) sc.nd rfl (by first | exact .inl rfl | exact .inr rfl))) (fun _ => fts_nil) (fun _ => (fe_cmp fop_inS (fe_var 1) (fe_gstr (by rfl) mf.c_DIGITS.choose_spec)))) fa_nil)))))))) (fss_one (fs_ret fe_non)) fss_nil) (fss_one (fs_ret (fe_if (ft_w (fw_and (ft_cmp (fop_eq (by exact hr.units)) (fe_ix (fe_var 0) fe_int) fe_str) (fw_and1 (ft_cmp fop_gt (fe_callB fcl_len (by rfl) mf.m_len Bt.len (fa_cons (fe_var 0) fa_nil)) fe_int)))) fe_non (fe_callTy fcl_int (by rfl) mf.m_int Bt.int (fa_cons (fe_var 0) fa_nil))))))
theorem ok_number_of {P : Program} {w : World} {K : PySem.W.Frag} {mg : Str → Option Value} {base : Heap} (mf : Mf P w K mg base)  {f : Addr} {fd : FuncData} (hm : mg "number_of" = some (.ref f)) (D : FunD K "number_of" "number_of" Hd.d_number_of.params Hd.d_number_of.body Hd.d_number_of.scope [] [] f fd) : Dok P w K mg base "number_of" 2 ["word"] [] g_number_of :=
  .of (fnG_of (N := N_number_of) (F := f_number_of) D sc_number_of fun cv A fr s H E hr gd => (b_number_of mf  hr gd).nox) hm D (fun _ _ _ _ _ _ us hl => match us, hl with | [_], _ => rfl) (fun q hq => nomatch hq)
def f_instruction_of : FxS :=
  fSeq (fAsg (fTx gSplit (fVar 2) (fC (.str " "))) (gStr (gCons (gNm 3) (gCons (gNm 4) gNil)))) (fSeq (fSet 5 (fBin gAdd (fTup (fCons (fVar 3) (fNil))) (fCall gTuple (fCons (fLc [6] (fIter (fVar 4)) (gNm 6) (fYes) (fCall (kdG .pur 1 g_number_of) (fCons (fVar 6) (fNil)))) (fNil))))) (fRet (fIfE (fAnd (fBl (fBin (gEq true) (fVar 3) (fC (.str "loop")))) (fTru (fCall (kdG .len 3 g_is_program) (fCons (fVar 0) (fCons (fVar 1) (fCons (fTup (fCons (fVar 5) (fNil))) (fNil))))))) (fVar 5) (fC .non))))
def g_instruction_of : List U → M U := gDef 7 f_instruction_of
abbrev N_instruction_of : List Str := ["p", "n", "line", "word", "others", "found", "one"]
theorem sc_instruction_of : FnScope N_instruction_of ["p", "n", "line"] Hd.d_instruction_of.scope := ⟨rfl, rfl, rfl, by decide +kernel, rfl, by decide +kernel, by decide +kernel⟩
theorem b_instruction_of {P : Program} {w : World} {K : PySem.W.Frag} {mg : Str → Option Value} {base : Heap} (mf : Mf P w K mg base) (D_is_program : Dok P w K mg base "is_program" 35 ["p", "n", "value"] [] g_is_program) (D_number_of : Dok P w K mg base "number_of" 2 ["word"] [] g_number_of) {f : Addr} {cv : Value} {A : Around} {fr : List Env} {s : Shared} {H : Hp} {E : XK} (hr0 : Room 35 (A.deeper (PyProof.Rows.envOfC "instruction_of" Hd.d_instruction_of.scope s.heap.objs.size f cv))) (gd : A.guards = some []) :
    FSs (cxOf CX0 P w K mg base N_instruction_of "instruction_of" Hd.d_instruction_of.scope f cv A fr s H E).nox E Hd.d_instruction_of.body f_instruction_of := by
  have sc := sc_instruction_of
  have hr : Room 35 (cxOf CX0 P w K mg base N_instruction_of "instruction_of" Hd.d_instruction_of.scope f cv A fr s H E).nox.A := hr0
  exact (fss_cons (fs_asg (fe_split (fe_var 2) fe_str) (fg_star rfl (fgs_cons (fg_name (i := 3) sc.nd rfl (by first | exact .inl rfl | exact .inr rfl)) (fgs_starred (fg_name (i := 4) sc.nd rfl (by first | exact .inl rfl | exact .inr rfl)) fgs_nil)))) (fss_cons (fs_set (i := 5) sc.nd rfl (by first | exact .inl rfl | exact .inr rfl) (fe_op fop_add (fe_tup (fa_cons (fe_var 3) fa_nil)) (fe_callTy fcl_tuple (by rfl) mf.m_tuple Bt.tuple (fa_cons (fe_comp (own := [("one", 6)]) rfl sc.nd (blkOk_by (by kernel_rfl)) (fi_seq (fe_var 4)) (by decide) (fun _ => (fg_name (i := 6) sc.nd rfl (by first | exact .inl rfl | exact .inr rfl))) (fun _ => fts_nil) (fun _ => (fe_def .pur D_number_of (by exact hr) (by rfl) (by exact gd) (by rfl) (fa_cons (fe_var 6) fa_nil)))) fa_nil)))) (fss_one (fs_ret (fe_if (ft_w (fw_and (ft_cmp (fop_ne (by exact hr.units)) (fe_var 3) fe_str) (fw_and1 (ft_tru (fe_def .len D_is_program (by exact hr) (by rfl) (by exact gd) (by rfl) (fa_cons (fe_var 0) (fa_cons (fe_var 1) (fa_cons (fe_tup (fa_cons (fe_var 5) fa_nil)) fa_nil)))))))) (fe_var 5) fe_non)))))
theorem ok_instruction_of {P : Program} {w : World} {K : PySem.W.Frag} {mg : Str → Option Value} {base : Heap} (mf : Mf P w K mg base) (D_is_program : Dok P w K mg base "is_program" 35 ["p", "n", "value"] [] g_is_program) (D_number_of : Dok P w K mg base "number_of" 2 ["word"] [] g_number_of) {f : Addr} {fd : FuncData} (hm : mg "instruction_of" = some (.ref f)) (D : FunD K "instruction_of" "instruction_of" Hd.d_instruction_of.params Hd.d_instruction_of.body Hd.d_instruction_of.scope [] [] f fd) : Dok P w K mg base "instruction_of" 36 ["p", "n", "line"] [] g_instruction_of :=
  .of (fnG_of (N := N_instruction_of) (F := f_instruction_of) D sc_instruction_of fun cv A fr s H E hr gd => (b_instruction_of mf D_is_program D_number_of hr gd).nox) hm D (fun _ _ _ _ _ _ us hl => match us, hl with | [_, _, _], _ => rfl) (fun q hq => nomatch hq)
def f_loop_count : FxS :=
  fSeq (fSet 1 (fTx gSplit (fVar 0) (fC (.str " ")))) (fSeq (fIf (fOr (fBl (fBin (gEq true) (fCall gLen (fCons (fVar 1) (fNil))) (fC (.int 3)))) (fOr (fBl (fBin (gEq true) (fBin gIx (fVar 1) (fC (.int 0))) (fC (.str "loop")))) (fBl (fBin (gEq true) (fBin gIx (fVar 1) (fC (.int 2))) (fC (.str "{")))))) (fRet (fC .non)) (fSkip)) (fSeq (fSet 2 (fCall (kdG .pur 1 g_number_of) (fCons (fBin gIx (fVar 1) (fC (.int 1))) (fNil)))) (fRet (fIfE (fAnd (fBl (fBin (gIs true) (fVar 2) (fC .non))) (fBl (fBin gLe (fVar 2) (fBin gPow (fC (.int 10)) (fC (.int 18)))))) (fVar 2) (fC .non)))))
def g_loop_count : List U → M U := gDef 3 f_loop_count
abbrev N_loop_count : List Str := ["line", "words", "count"]
theorem sc_loop_count : FnScope N_loop_count ["line"] Hd.d_loop_count.scope := ⟨rfl, rfl, rfl, by decide +kernel, rfl, by decide +kernel, by decide +kernel⟩
theorem b_loop_count {P : Program} {w : World} {K : PySem.W.Frag} {mg : Str → Option Value} {base : Heap} (mf : Mf P w K mg base) (D_number_of : Dok P w K mg base "number_of" 2 ["word"] [] g_number_of) {f : Addr} {cv : Value} {A : Around} {fr : List Env} {s : Shared} {H : Hp} {E : XK} (hr0 : Room 2 (A.deeper (PyProof.Rows.envOfC "loop_count" Hd.d_loop_count.scope s.heap.objs.size f cv))) (gd : A.guards = some []) :
    FSs (cxOf CX0 P w K mg base N_loop_count "loop_count" Hd.d_loop_count.scope f cv A fr s H E).nox E Hd.d_loop_count.body f_loop_count := by
  have sc := sc_loop_count
  have hr : Room 2 (cxOf CX0 P w K mg base N_loop_count "loop_count" Hd.d_loop_count.scope f cv A fr s H E).nox.A := hr0
  exact (fss_cons (fs_set (i := 1) sc.nd rfl (by first | exact .inl rfl | exact .inr rfl) (fe_split (fe_var 0) fe_str)) (fss_cons (fs_if (ft_w (fw_or (ft_cmp (fop_ne (by exact hr.units)) (fe_callB fcl_len (by rfl) mf.m_len Bt.len (fa_cons (fe_var 1) fa_nil)) (fe_gint (by rfl) mf.c_LOOP_WORDS.choose_spec)) (fw_or (ft_cmp (fop_ne (by exact hr.units)) (fe_ix (fe_var 1) fe_int) fe_str) (fw_or1 (ft_cmp (fop_ne (by exact hr.units)) (fe_ix (fe_var 1) fe_int) fe_str))))) (fss_one (fs_ret fe_non)) fss_nil) (fss_cons (fs_set (i := 2) sc.nd rfl (by first | exact .inl rfl | exact .inr rfl) (fe_def .pur D_number_of (by exact hr) (by rfl) (by exact gd) (by rfl) (fa_cons (fe_ix (fe_var 1) fe_int) fa_nil))) (fss_one (fs_ret (fe_if (ft_w (fw_and (ft_cmp fop_isnot (fe_var 2) fe_non) (fw_and1 (ft_cmp fop_le (fe_var 2) (fe_op fop_pow fe_int fe_int))))) (fe_var 2) fe_non))))))
theorem ok_loop_count {P : Program} {w : World} {K : PySem.W.Frag} {mg : Str → Option Value} {base : Heap} (mf : Mf P w K mg base) (D_number_of : Dok P w K mg base "number_of" 2 ["word"] [] g_number_of) {f : Addr} {fd : FuncData} (hm : mg "loop_count" = some (.ref f)) (D : FunD K "loop_count" "loop_count" Hd.d_loop_count.params Hd.d_loop_count.body Hd.d_loop_count.scope [] [] f fd) : Dok P w K mg base "loop_count" 3 ["line"] [] g_loop_count :=
  .of (fnG_of (N := N_loop_count) (F := f_loop_count) D sc_loop_count fun cv A fr s H E hr gd => (b_loop_count mf D_number_of hr gd).nox) hm D (fun _ _ _ _ _ _ us hl => match us, hl with | [_], _ => rfl) (fun q hq => nomatch hq)
def f_Reader___init__ : FxS :=
  fSeq (fFldS ["Reader"] "prime" (fVar 0) (fVar 1)) (fSeq (fFldS ["Reader"] "register_count" (fVar 0) (fVar 2)) (fSeq (fFldS ["Reader"] "counts" (fVar 0) (fLst (fNil))) (fFldS ["Reader"] "bodies" (fVar 0) (fLst (fCons (fLst (fNil)) (fNil))))))
def g_Reader___init__ : List U → M U := gDef 3 f_Reader___init__
abbrev N_Reader___init__ : List Str := ["self", "p", "n"]
theorem sc_Reader___init__ : FnScope N_Reader___init__ ["self", "p", "n"] Hd.d_Reader___init__.scope := ⟨rfl, rfl, rfl, by decide +kernel, rfl, by decide +kernel, by decide +kernel⟩
theorem b_Reader___init__ {P : Program} {w : World} {K : PySem.W.Frag} {mg : Str → Option Value} {base : Heap} (mf : Mf P w K mg base)  {f : Addr} {cv : Value} {A : Around} {fr : List Env} {s : Shared} {H : Hp} {E : XK} (hr0 : Room 1 (A.deeper (PyProof.Rows.envOfC "Reader.__init__" Hd.d_Reader___init__.scope s.heap.objs.size f cv))) (gd : A.guards = some []) :
    FSs (cxOf CX0 P w K mg base N_Reader___init__ "Reader.__init__" Hd.d_Reader___init__.scope f cv A fr s H E).nox E Hd.d_Reader___init__.body f_Reader___init__ := by
  have sc := sc_Reader___init__
  have hr : Room 1 (cxOf CX0 P w K mg base N_Reader___init__ "Reader.__init__" Hd.d_Reader___init__.scope f cv A fr s H E).nox.A := hr0
  exact (fss_cons (fs_fld ["Reader"] (fe_var 0) (fe_var 1) (by intro z hz; simp only [List.mem_cons, List.not_mem_nil, or_false] at hz; rcases hz with rfl; all_goals first | exact ⟨mf.cl_Reader.c, mf.cl_Reader.n _ (List.mem_of_getElem? (i := 0) rfl)⟩)) (fss_cons (fs_fld ["Reader"] (fe_var 0) (fe_var 2) (by intro z hz; simp only [List.mem_cons, List.not_mem_nil, or_false] at hz; rcases hz with rfl; all_goals first | exact ⟨mf.cl_Reader.c, mf.cl_Reader.n _ (List.mem_of_getElem? (i := 1) rfl)⟩)) (fss_cons (fs_fld ["Reader"] (fe_var 0) (fe_lst fa_nil) (by intro z hz; simp only [List.mem_cons, List.not_mem_nil, or_false] at hz; rcases hz with rfl; all_goals first | exact ⟨mf.cl_Reader.c, mf.cl_Reader.n _ (List.mem_of_getElem? (i := 2) rfl)⟩)) (fss_one (fs_fld ["Reader"] (fe_var 0) (fe_lst (fa_cons (fe_lst fa_nil) fa_nil)) (by intro z hz; simp only [List.mem_cons, List.not_mem_nil, or_false] at hz; rcases hz with rfl; all_goals first | exact ⟨mf.cl_Reader.c, mf.cl_Reader.n _ (List.mem_of_getElem? (i := 3) rfl)⟩))))))
theorem ok_Reader___init__ {P : Program} {w : World} {K : PySem.W.Frag} {mg : Str → Option Value} {base : Heap} (mf : Mf P w K mg base)  {fd : FuncData} (D : FunD K "__init__" "Reader.__init__" Hd.d_Reader___init__.params Hd.d_Reader___init__.body Hd.d_Reader___init__.scope [] [] (He.ma K (He.ga K "Reader") "__init__") fd) : DokM P w K mg base CX0 "Reader" "__init__" 2 ["self", "p", "n"] g_Reader___init__ :=
  .of (fnG_of (N := N_Reader___init__) (F := f_Reader___init__) D sc_Reader___init__ fun cv A fr s H E hr gd => (b_Reader___init__ mf  hr gd).nox) D (fun _ _ _ _ _ _ us hl => match us, hl with | [_, _, _], _ => rfl)
def f_Reader_take_instruction : FxS :=
  fSeq (fSet 3 (fCall (kdG .pur 1 g_loop_count) (fCons (fVar 1) (fNil)))) (fSeq (fIf (fBl (fBin (gIs true) (fVar 3) (fC .non))) (fSeq (fIf (fBl (fBin (gEq false) (fVar 2) (fC (.int 4)))) (fRet (fC (.bl false))) (fSkip)) (fSeq (fDrop (fMeth isL gAppend (fUn (gFld ["Reader"] "counts") (fVar 0)) (fCons (fVar 3) (fNil)))) (fSeq (fDrop (fMeth isL gAppend (fUn (gFld ["Reader"] "bodies") (fVar 0)) (fCons (fLst (fNil)) (fNil)))) (fRet (fC (.bl true)))))) (fSkip)) (fSeq (fSet 4 (fCall (kdG .pur 3 g_instruction_of) (fCons (fUn (gFld ["Reader"] "prime") (fVar 0)) (fCons (fUn (gFld ["Reader"] "register_count") (fVar 0)) (fCons (fVar 1) (fNil)))))) (fSeq (fIf (fBl (fBin (gIs false) (fVar 4) (fC .non))) (fRet (fC (.bl false))) (fSkip)) (fSeq (fDrop (fMeth isL gAppend (fBin gIx (fUn (gFld ["Reader"] "bodies") (fVar 0)) (fUn gNeg (fC (.int 1)))) (fCons (fVar 4) (fNil)))) (fRet (fC (.bl true)))))))
def g_Reader_take_instruction : List U → M U := gDef 5 f_Reader_take_instruction
abbrev N_Reader_take_instruction : List Str := ["self", "line", "level", "count", "found"]
theorem sc_Reader_take_instruction : FnScope N_Reader_take_instruction ["self", "line", "level"] Hd.d_Reader_take_instruction.scope := ⟨rfl, rfl, rfl, by decide +kernel, rfl, by decide +kernel, by decide +kernel⟩
theorem b_Reader_take_instruction {P : Program} {w : World} {K : PySem.W.Frag} {mg : Str → Option Value} {base : Heap} (mf : Mf P w K mg base) (D_loop_count : Dok P w K mg base "loop_count" 3 ["line"] [] g_loop_count) (D_instruction_of : Dok P w K mg base "instruction_of" 36 ["p", "n", "line"] [] g_instruction_of) {f : Addr} {cv : Value} {A : Around} {fr : List Env} {s : Shared} {H : Hp} {E : XK} (hr0 : Room 36 (A.deeper (PyProof.Rows.envOfC "Reader.take_instruction" Hd.d_Reader_take_instruction.scope s.heap.objs.size f cv))) (gd : A.guards = some []) :
    FSs (cxOf CX0 P w K mg base N_Reader_take_instruction "Reader.take_instruction" Hd.d_Reader_take_instruction.scope f cv A fr s H E).nox E Hd.d_Reader_take_instruction.body f_Reader_take_instruction := by
  have sc := sc_Reader_take_instruction
  have hr : Room 36 (cxOf CX0 P w K mg base N_Reader_take_instruction "Reader.take_instruction" Hd.d_Reader_take_instruction.scope f cv A fr s H E).nox.A := hr0
  exact (fss_cons (fs_set (i := 3) sc.nd rfl (by first | exact .inl rfl | exact .inr rfl) (fe_def .pur D_loop_count (by exact hr) (by rfl) (by exact gd) (by rfl) (fa_cons (fe_var 1) fa_nil))) (fss_cons (fs_if (ft_cmp fop_isnot (fe_var 3) fe_non) (fss_cons (fs_if (ft_cmp (fop_eq (by exact hr.units)) (fe_var 2) (fe_gint (by rfl) mf.c_MOST_DEPTH_reading.choose_spec)) (fss_one (fs_ret fe_bl)) fss_nil) (fss_cons (fs_expr (fe_lm PySem.F.slot_list_append PySem.F.type_list_append fmt_append (fe_fld ["Reader"] (fe_var 0) (by intro z hz; simp only [List.mem_cons, List.not_mem_nil, or_false] at hz; rcases hz with rfl; all_goals first | exact ⟨mf.cl_Reader.c, mf.cl_Reader.n _ (List.mem_of_getElem? (i := 2) rfl)⟩)) (fa_cons (fe_var 3) fa_nil))) (fss_cons (fs_expr (fe_lm PySem.F.slot_list_append PySem.F.type_list_append fmt_append (fe_fld ["Reader"] (fe_var 0) (by intro z hz; simp only [List.mem_cons, List.not_mem_nil, or_false] at hz; rcases hz with rfl; all_goals first | exact ⟨mf.cl_Reader.c, mf.cl_Reader.n _ (List.mem_of_getElem? (i := 3) rfl)⟩)) (fa_cons (fe_lst fa_nil) fa_nil))) (fss_one (fs_ret fe_bl))))) fss_nil) (fss_cons (fs_set (i := 4) sc.nd rfl (by first | exact .inl rfl | exact .inr rfl) (fe_def .pur D_instruction_of (by exact hr) (by rfl) (by exact gd) (by rfl) (fa_cons (fe_fld ["Reader"] (fe_var 0) (by intro z hz; simp only [List.mem_cons, List.not_mem_nil, or_false] at hz; rcases hz with rfl; all_goals first | exact ⟨mf.cl_Reader.c, mf.cl_Reader.n _ (List.mem_of_getElem? (i := 0) rfl)⟩)) (fa_cons (fe_fld ["Reader"] (fe_var 0) (by intro z hz; simp only [List.mem_cons, List.not_mem_nil, or_false] at hz; rcases hz with rfl; all_goals first | exact ⟨mf.cl_Reader.c, mf.cl_Reader.n _ (List.mem_of_getElem? (i := 1) rfl)⟩)) (fa_cons (fe_var 1) fa_nil))))) (fss_cons (fs_if (ft_cmp fop_is (fe_var 4) fe_non) (fss_one (fs_ret fe_bl)) fss_nil) (fss_cons (fs_expr (fe_lm PySem.F.slot_list_append PySem.F.type_list_append fmt_append (fe_ix (fe_fld ["Reader"] (fe_var 0) (by intro z hz; simp only [List.mem_cons, List.not_mem_nil, or_false] at hz; rcases hz with rfl; all_goals first | exact ⟨mf.cl_Reader.c, mf.cl_Reader.n _ (List.mem_of_getElem? (i := 3) rfl)⟩)) (fe_un fun_neg fe_int)) (fa_cons (fe_var 4) fa_nil))) (fss_one (fs_ret fe_bl)))))))
theorem ok_Reader_take_instruction {P : Program} {w : World} {K : PySem.W.Frag} {mg : Str → Option Value} {base : Heap} (mf : Mf P w K mg base) (D_loop_count : Dok P w K mg base "loop_count" 3 ["line"] [] g_loop_count) (D_instruction_of : Dok P w K mg base "instruction_of" 36 ["p", "n", "line"] [] g_instruction_of) {fd : FuncData} (D : FunD K "take_instruction" "Reader.take_instruction" Hd.d_Reader_take_instruction.params Hd.d_Reader_take_instruction.body Hd.d_Reader_take_instruction.scope [] [] (He.ma K (He.ga K "Reader") "take_instruction") fd) : DokM P w K mg base CX0 "Reader" "take_instruction" 37 ["self", "line", "level"] g_Reader_take_instruction :=
  .of (fnG_of (N := N_Reader_take_instruction) (F := f_Reader_take_instruction) D sc_Reader_take_instruction fun cv A fr s H E hr gd => (b_Reader_take_instruction mf D_loop_count D_instruction_of hr gd).nox) D (fun _ _ _ _ _ _ us hl => match us, hl with | [_, _, _], _ => rfl)
def f_Reader_take : FxS :=
  fSeq (fSet 2 (fCall gLen (fCons (fUn (gFld ["Reader"] "counts") (fVar 0)) (fNil)))) (fSeq (fIf (fAnd (fBl (fBin gGt (fVar 2) (fC (.int 0)))) (fBl (fBin (gEq false) (fVar 1) (fBin gAdd (fBin gMul (fC (.str "  ")) (fBin gSub (fVar 2) (fC (.int 1)))) (fC (.str "}")))))) (fSeq (fSet 3 (fCall gTuple (fCons (fMeth isL gPop (fUn (gFld ["Reader"] "bodies") (fVar 0)) fNil) (fNil)))) (fSeq (fDrop (fMeth isL gAppend (fBin gIx (fUn (gFld ["Reader"] "bodies") (fVar 0)) (fUn gNeg (fC (.int 1)))) (fCons (fTup (fCons (fC (.str "loop")) (fCons (fMeth isL gPop (fUn (gFld ["Reader"] "counts") (fVar 0)) fNil) (fCons (fVar 3) (fNil))))) (fNil)))) (fRet (fC (.bl true))))) (fSkip)) (fSeq (fIf (fBl (fBin (gEq true) (fSlS (fVar 1) fNoP (fPt (fBin gMul (fCall gLen (fCons (fC (.str "  ")) (fNil))) (fVar 2)))) (fBin gMul (fC (.str "  ")) (fVar 2)))) (fRet (fC (.bl false))) (fSkip)) (fRet (fMth "take_instruction" 3 [("Reader", g_Reader_take_instruction)] (fVar 0) (fCons (fSlS (fVar 1) (fPt (fBin gMul (fCall gLen (fCons (fC (.str "  ")) (fNil))) (fVar 2))) fNoP) (fCons (fVar 2) (fNil)))))))
def g_Reader_take : List U → M U := gDef 4 f_Reader_take
abbrev N_Reader_take : List Str := ["self", "line", "level", "body"]
theorem sc_Reader_take : FnScope N_Reader_take ["self", "line"] Hd.d_Reader_take.scope := ⟨rfl, rfl, rfl, by decide +kernel, rfl, by decide +kernel, by decide +kernel⟩
theorem b_Reader_take {P : Program} {w : World} {K : PySem.W.Frag} {mg : Str → Option Value} {base : Heap} (mf : Mf P w K mg base) (D_Reader_take_instruction : DokM P w K mg base CX0 "Reader" "take_instruction" 37 ["self", "line", "level"] g_Reader_take_instruction) {f : Addr} {cv : Value} {A : Around} {fr : List Env} {s : Shared} {H : Hp} {E : XK} (hr0 : Room 37 (A.deeper (PyProof.Rows.envOfC "Reader.take" Hd.d_Reader_take.scope s.heap.objs.size f cv))) (gd : A.guards = some []) :
    FSs (cxOf CX0 P w K mg base N_Reader_take "Reader.take" Hd.d_Reader_take.scope f cv A fr s H E).nox E Hd.d_Reader_take.body f_Reader_take := by
  have sc := sc_Reader_take
  have hr : Room 37 (cxOf CX0 P w K mg base N_Reader_take "Reader.take" Hd.d_Reader_take.scope f cv A fr s H E).nox.A := hr0
  exact (fss_cons (fs_set (i := 2) sc.nd rfl (by first | exact .inl rfl | exact .inr rfl) (fe_callB fcl_len (by rfl) mf.m_len Bt.len (fa_cons (fe_fld ["Reader"] (fe_var 0) (by intro z hz; simp only [List.mem_cons, List.not_mem_nil, or_false] at hz; rcases hz with rfl; all_goals first | exact ⟨mf.cl_Reader.c, mf.cl_Reader.n _ (List.mem_of_getElem? (i := 2) rfl)⟩)) fa_nil))) (fss_cons (fs_if (ft_w (fw_and (ft_cmp fop_gt (fe_var 2) fe_int) (fw_and1 (ft_cmp (fop_eq (by exact hr.units)) (fe_var 1) (fe_op fop_add (fe_op fop_mul (fe_gstr (by rfl) mf.c_INDENT.choose_spec) (fe_op fop_sub (fe_var 2) fe_int)) fe_str))))) (fss_cons (fs_set (i := 3) sc.nd rfl (by first | exact .inl rfl | exact .inr rfl) (fe_callTy fcl_tuple (by rfl) mf.m_tuple Bt.tuple (fa_cons (fe_lm0 PySem.F.slot_list_pop PySem.F.type_list_pop fmt_pop (fe_fld ["Reader"] (fe_var 0) (by intro z hz; simp only [List.mem_cons, List.not_mem_nil, or_false] at hz; rcases hz with rfl; all_goals first | exact ⟨mf.cl_Reader.c, mf.cl_Reader.n _ (List.mem_of_getElem? (i := 3) rfl)⟩))) fa_nil))) (fss_cons (fs_expr (fe_lm PySem.F.slot_list_append PySem.F.type_list_append fmt_append (fe_ix (fe_fld ["Reader"] (fe_var 0) (by intro z hz; simp only [List.mem_cons, List.not_mem_nil, or_false] at hz; rcases hz with rfl; all_goals first | exact ⟨mf.cl_Reader.c, mf.cl_Reader.n _ (List.mem_of_getElem? (i := 3) rfl)⟩)) (fe_un fun_neg fe_int)) (fa_cons (fe_tup (fa_cons fe_str (fa_cons (fe_lm0 PySem.F.slot_list_pop PySem.F.type_list_pop fmt_pop (fe_fld ["Reader"] (fe_var 0) (by intro z hz; simp only [List.mem_cons, List.not_mem_nil, or_false] at hz; rcases hz with rfl; all_goals first | exact ⟨mf.cl_Reader.c, mf.cl_Reader.n _ (List.mem_of_getElem? (i := 2) rfl)⟩))) (fa_cons (fe_var 3) fa_nil)))) fa_nil))) (fss_one (fs_ret fe_bl)))) fss_nil) (fss_cons (fs_if (ft_cmp (fop_ne (by exact hr.units)) (fe_sliceS (fe_var 1) fo_none (fo_some (fe_op fop_mul (fe_callB fcl_len (by rfl) mf.m_len Bt.len (fa_cons (fe_gstr (by rfl) mf.c_INDENT.choose_spec) fa_nil)) (fe_var 2)))) (fe_op fop_mul (fe_gstr (by rfl) mf.c_INDENT.choose_spec) (fe_var 2))) (fss_one (fs_ret fe_bl)) fss_nil) (fss_one (fs_ret (fe_mth (CX := CX0) (by exact gd) (fun _ _ _ _ _ _ _ h => h.elim) (by intro z hz; simp only [List.mem_cons, List.not_mem_nil, or_false] at hz; rcases hz with rfl; all_goals first | exact MtOk.of mf.cl_Reader mf.me_Reader_take_instruction D_Reader_take_instruction (by exact hr) (by rfl)) (fe_var 0) (fa_cons (fe_sliceS (fe_var 1) (fo_some (fe_op fop_mul (fe_callB fcl_len (by rfl) mf.m_len Bt.len (fa_cons (fe_gstr (by rfl) mf.c_INDENT.choose_spec) fa_nil)) (fe_var 2))) fo_none) (fa_cons (fe_var 2) fa_nil))))))))
theorem ok_Reader_take {P : Program} {w : World} {K : PySem.W.Frag} {mg : Str → Option Value} {base : Heap} (mf : Mf P w K mg base) (D_Reader_take_instruction : DokM P w K mg base CX0 "Reader" "take_instruction" 37 ["self", "line", "level"] g_Reader_take_instruction) {fd : FuncData} (D : FunD K "take" "Reader.take" Hd.d_Reader_take.params Hd.d_Reader_take.body Hd.d_Reader_take.scope [] [] (He.ma K (He.ga K "Reader") "take") fd) : DokM P w K mg base CX0 "Reader" "take" 38 ["self", "line"] g_Reader_take :=
  .of (fnG_of (N := N_Reader_take) (F := f_Reader_take) D sc_Reader_take fun cv A fr s H E hr gd => (b_Reader_take mf D_Reader_take_instruction hr gd).nox) D (fun _ _ _ _ _ _ us hl => match us, hl with | [_, _], _ => rfl)
def f_read_program : FxS :=
  fSeq (fIf (fNot (fTru (fCall gIsi (fCons (fVar 2) (fCons (fC (.raw (.ty "str"))) (fNil)))))) (fNo) (fSkip)) (fSeq (fPar2 3 4 (fCons (fMkC "Reader" 3 g_Reader___init__ (fCons (fVar 0) (fCons (fVar 1) (fNil)))) (fCons (fIfE (fBl (fBin (gEq true) (fVar 2) (fC (.str "")))) (fTx gSplit (fVar 2) (fC (.str "\n"))) (fLst (fNil))) (fNil)))) (fSeq (fFor (fEnumerate (fCons (fVar 4) (fNil))) (gUnp 2 (gCons (gNm 5) (gCons (gNm 6) (gNil)))) (fIf (fNot (fTru (fMth "take" 2 [("Reader", g_Reader_take)] (fVar 3) (fCons (fVar 6) (fNil))))) (fNo) (fSkip))) (fSeq (fIf (fBl (fBin (gEq true) (fUn (gFld ["Reader"] "counts") (fVar 3)) (fLst (fNil)))) (fNo) (fSkip)) (fSeq (fSet 7 (fCall gTuple (fCons (fBin gIx (fUn (gFld ["Reader"] "bodies") (fVar 3)) (fC (.int 0))) (fNil)))) (fSeq (fIf (fNot (fTru (fCall (kdG .len 3 g_is_program) (fCons (fVar 0) (fCons (fVar 1) (fCons (fVar 7) (fNil))))))) (fNo) (fSkip)) (fRet (fVar 7)))))))
def g_read_program : List U → M U := gDef 8 f_read_program
abbrev N_read_program : List Str := ["p", "n", "text", "reader", "lines", "at", "line", "program"]
theorem sc_read_program : FnScope N_read_program ["p", "n", "text"] Hd.d_read_program.scope := ⟨rfl, rfl, rfl, by decide +kernel, rfl, by decide +kernel, by decide +kernel⟩
theorem b_read_program {P : Program} {w : World} {K : PySem.W.Frag} {mg : Str → Option Value} {base : Heap} (mf : Mf P w K mg base) (D_Reader___init__ : DokM P w K mg base CX0 "Reader" "__init__" 2 ["self", "p", "n"] g_Reader___init__) (D_is_program : Dok P w K mg base "is_program" 35 ["p", "n", "value"] [] g_is_program) (D_Reader_take : DokM P w K mg base CX0 "Reader" "take" 38 ["self", "line"] g_Reader_take) {f : Addr} {cv : Value} {A : Around} {fr : List Env} {s : Shared} {H : Hp} {E : XK} (hr0 : Room 38 (A.deeper (PyProof.Rows.envOfC "read_program" Hd.d_read_program.scope s.heap.objs.size f cv))) (gd : A.guards = some []) :
    FSs (cxOf CX0 P w K mg base N_read_program "read_program" Hd.d_read_program.scope f cv A fr s H E).nox E Hd.d_read_program.body f_read_program := by
  have sc := sc_read_program
  have hr : Room 38 (cxOf CX0 P w K mg base N_read_program "read_program" Hd.d_read_program.scope f cv A fr s H E).nox.A := hr0
  exact (fss_cons (fs_if (ft_not (ft_tru (fe_callB fcl_isi (by rfl) mf.m_isinstance Bt.isinstance (fa_cons (fe_var 2) (fa_cons (fe_ty (by rfl) mf.m_str PyProof.Rows.boot_str) fa_nil))))) (fss_one fs_no) fss_nil) (fss_cons (fs_par2 (i := 3) (j := 4) rfl sc.nd rfl rfl (by decide) rfl rfl (fa_cons (fe_mkC mf.mk_Reader D_Reader___init__ (by exact hr) (by rfl) (by exact gd) (by rfl) mf.m_Reader (fa_cons (fe_var 0) (fa_cons (fe_var 1) fa_nil))) (fa_cons (fe_if (ft_cmp (fop_ne (by exact hr.units)) (fe_var 2) fe_str) (fe_split (fe_var 2) fe_str) (fe_lst fa_nil)) fa_nil))) (fss_cons (fs_for .never rfl (fi_enumerate (by rfl) mf.m_enumerate (fa_cons (fe_var 4) fa_nil)) (fg_tup rfl (fgs_cons (fg_name (i := 5) sc.nd rfl (by first | exact .inl rfl | exact .inr rfl)) (fgs_cons (fg_name (i := 6) sc.nd rfl (by first | exact .inl rfl | exact .inr rfl)) fgs_nil))) (fss_one (fs_if (ft_not (ft_tru (fe_mth (CX := CX0) (by exact gd) (fun _ _ _ _ _ _ _ h => h.elim) (by intro z hz; simp only [List.mem_cons, List.not_mem_nil, or_false] at hz; rcases hz with rfl; all_goals first | exact MtOk.of mf.cl_Reader mf.me_Reader_take D_Reader_take (by exact hr) (by rfl)) (fe_var 3) (fa_cons (fe_var 6) fa_nil)))) (fss_one fs_no) fss_nil))) (fss_cons (fs_if (ft_cmp (fop_ne (by exact hr.units)) (fe_fld ["Reader"] (fe_var 3) (by intro z hz; simp only [List.mem_cons, List.not_mem_nil, or_false] at hz; rcases hz with rfl; all_goals first | exact ⟨mf.cl_Reader.c, mf.cl_Reader.n _ (List.mem_of_getElem? (i := 2) rfl)⟩)) (fe_lst fa_nil)) (fss_one fs_no) fss_nil) (fss_cons (fs_set (i := 7) sc.nd rfl (by first | exact .inl rfl | exact .inr rfl) (fe_callTy fcl_tuple (by rfl) mf.m_tuple Bt.tuple (fa_cons (fe_ix (fe_fld ["Reader"] (fe_var 3) (by intro z hz; simp only [List.mem_cons, List.not_mem_nil, or_false] at hz; rcases hz with rfl; all_goals first | exact ⟨mf.cl_Reader.c, mf.cl_Reader.n _ (List.mem_of_getElem? (i := 3) rfl)⟩)) fe_int) fa_nil))) (fss_cons (fs_if (ft_not (ft_tru (fe_def .len D_is_program (by exact hr) (by rfl) (by exact gd) (by rfl) (fa_cons (fe_var 0) (fa_cons (fe_var 1) (fa_cons (fe_var 7) fa_nil)))))) (fss_one fs_no) fss_nil) (fss_one (fs_ret (fe_var 7)))))))))
theorem ok_read_program {P : Program} {w : World} {K : PySem.W.Frag} {mg : Str → Option Value} {base : Heap} (mf : Mf P w K mg base) (D_Reader___init__ : DokM P w K mg base CX0 "Reader" "__init__" 2 ["self", "p", "n"] g_Reader___init__) (D_is_program : Dok P w K mg base "is_program" 35 ["p", "n", "value"] [] g_is_program) (D_Reader_take : DokM P w K mg base CX0 "Reader" "take" 38 ["self", "line"] g_Reader_take) {f : Addr} {fd : FuncData} (hm : mg "read_program" = some (.ref f)) (D : FunD K "read_program" "read_program" Hd.d_read_program.params Hd.d_read_program.body Hd.d_read_program.scope [] [] f fd) : Dok P w K mg base "read_program" 39 ["p", "n", "text"] [] g_read_program :=
  .of (fnG_of (N := N_read_program) (F := f_read_program) D sc_read_program fun cv A fr s H E hr gd => (b_read_program mf D_Reader___init__ D_is_program D_Reader_take hr gd).nox) hm D (fun _ _ _ _ _ _ us hl => match us, hl with | [_, _, _], _ => rfl) (fun q hq => nomatch hq)
def f_law_digits : FxS :=
  fSeq (fSet 2 (fIfE (fBl (fBin gLt (fVar 1) (fCall gLen (fCons (fVar 0) (fNil))))) (fBin gIx (fVar 0) (fVar 1)) (fBin gAdd (fBin gMul (fC (.int 7)) (fVar 1)) (fC (.int 2))))) (fSeq (fSet 3 (fBin gMul (fBin gMod (fCall gAbs (fCons (fVar 2) (fNil))) (fBin gMul (fBin gMul (fBin gMul (fBin gPow (fC (.int 10)) (fC (.int 60))) (fBin gPow (fC (.int 10)) (fC (.int 60)))) (fBin gPow (fC (.int 10)) (fC (.int 60)))) (fBin gPow (fC (.int 10)) (fC (.int 60))))) (fCall gInt (fCons (fBin gGe (fCall gAbs (fCons (fVar 2) (fNil))) (fBin gPow (fC (.int 10)) (fC (.int 18)))) (fNil))))) (fRet (fLst (fCons (fVar 3) (fCons (fBin gMod (fBin gMul (fBin gAdd (fBin gAdd (fBin gMod (fVar 2) (fC (.int 2305843009213693951))) (fBin gMul (fBin gMul (fC (.int 104729)) (fVar 1)) (fVar 1))) (fC (.int 3))) (fC (.int 48271))) (fC (.int 2305843009213693921))) (fCons (fC (.int 0)) (fNil)))))))
def g_law_digits : List U → M U := gDef 4 f_law_digits
abbrev N_law_digits : List Str := ["_law_script", "_law_k", "_law_cell", "_law_large"]
theorem sc_law_digits : FnScope N_law_digits ["_law_script", "_law_k"] Hd.d__law_digits.scope := ⟨rfl, rfl, rfl, by decide +kernel, rfl, by decide +kernel, by decide +kernel⟩
theorem b_law_digits {P : Program} {w : World} {K : PySem.W.Frag} {mg : Str → Option Value} {base : Heap} (mf : Mf P w K mg base)  {f : Addr} {cv : Value} {A : Around} {fr : List Env} {s : Shared} {H : Hp} {E : XK} (hr0 : Room 1 (A.deeper (PyProof.Rows.envOfC "_law_digits" Hd.d__law_digits.scope s.heap.objs.size f cv))) (gd : A.guards = some []) :
    FSs (cxOf CX0 P w K mg base N_law_digits "_law_digits" Hd.d__law_digits.scope f cv A fr s H E).nox E Hd.d__law_digits.body f_law_digits := by
  have sc := sc_law_digits
  have hr : Room 1 (cxOf CX0 P w K mg base N_law_digits "_law_digits" Hd.d__law_digits.scope f cv A fr s H E).nox.A := hr0
  exact (fss_cons (fs_set (i := 2) sc.nd rfl (by first | exact .inl rfl | exact .inr rfl) (fe_if (ft_cmp fop_lt (fe_var 1) (fe_callB fcl_len (by rfl) mf.m_len Bt.len (fa_cons (fe_var 0) fa_nil))) (fe_ix (fe_var 0) (fe_var 1)) (fe_op fop_add (fe_op fop_mul fe_int (fe_var 1)) fe_int))) (fss_cons (fs_set (i := 3) sc.nd rfl (by first | exact .inl rfl | exact .inr rfl) (fe_op fop_mul (fe_op fop_mod (fe_callB fcl_abs (by rfl) mf.m_abs Bt.abs (fa_cons (fe_var 2) fa_nil)) (fe_op fop_mul (fe_op fop_mul (fe_op fop_mul (fe_op fop_pow fe_int fe_int) (fe_op fop_pow fe_int fe_int)) (fe_op fop_pow fe_int fe_int)) (fe_op fop_pow fe_int fe_int))) (fe_callTy fcl_int (by rfl) mf.m_int Bt.int (fa_cons (fe_cmp fop_ge (fe_callB fcl_abs (by rfl) mf.m_abs Bt.abs (fa_cons (fe_var 2) fa_nil)) (fe_op fop_pow fe_int fe_int)) fa_nil)))) (fss_one (fs_ret (fe_lst (fa_cons (fe_var 3) (fa_cons (fe_op fop_mod (fe_op fop_mul (fe_op fop_add (fe_op fop_add (fe_op fop_mod (fe_var 2) fe_int) (fe_op fop_mul (fe_op fop_mul fe_int (fe_var 1)) (fe_var 1))) fe_int) fe_int) fe_int) (fa_cons fe_int fa_nil))))))))
theorem ok_law_digits {P : Program} {w : World} {K : PySem.W.Frag} {mg : Str → Option Value} {base : Heap} (mf : Mf P w K mg base)  {f : Addr} {fd : FuncData} (hm : mg "_law_digits" = some (.ref f)) (D : FunD K "_law_digits" "_law_digits" Hd.d__law_digits.params Hd.d__law_digits.body Hd.d__law_digits.scope [] [] f fd) : Dok P w K mg base "_law_digits" 2 ["_law_script", "_law_k"] [] g_law_digits :=
  .of (fnG_of (N := N_law_digits) (F := f_law_digits) D sc_law_digits fun cv A fr s H E hr gd => (b_law_digits mf  hr gd).nox) hm D (fun _ _ _ _ _ _ us hl => match us, hl with | [_, _], _ => rfl) (fun q hq => nomatch hq)
def f_law_draw : FxS :=
  fSeq (fIf (fBl (fBin gGt (fBin gIx (fVar 0) (fC (.int 0))) (fC (.int 0)))) (fSeq (fSet 2 (fBin gMod (fBin gIx (fVar 0) (fC (.int 0))) (fVar 1))) (fSeq (fAsg (fBin gDiv (fBin gIx (fVar 0) (fC (.int 0))) (fVar 1)) (gSubT (fVar 0) (fC (.int 0)))) (fRet (fVar 2)))) (fSkip)) (fSeq (fAsg (fBin gAdd (fBin gIx (fVar 0) (fC (.int 2))) (fC (.int 1))) (gSubT (fVar 0) (fC (.int 2)))) (fSeq (fSet 3 (fBin gIx (fVar 0) (fC (.int 2)))) (fSeq (fSet 4 (fBin gMod (fBin gMul (fBin gAdd (fBin gAdd (fBin gIx (fVar 0) (fC (.int 1))) (fBin gMul (fBin gMul (fC (.int 86243)) (fVar 3)) (fVar 3))) (fC (.int 17))) (fC (.int 48271))) (fC (.int 2305843009213693921)))) (fSeq (fSet 4 (fBin gMod (fBin gMul (fVar 4) (fBin gAdd (fBin gMod (fVar 4) (fC (.int 1000003))) (fBin gMul (fC (.int 99989)) (fVar 3)))) (fC (.int 2305843009213693907)))) (fRet (fBin gMod (fBin gAdd (fBin gDiv (fVar 4) (fC (.int 101))) (fBin gDiv (fVar 4) (fC (.int 1000033)))) (fVar 1)))))))
def g_law_draw : List U → M U := gDef 5 f_law_draw
abbrev N_law_draw : List Str := ["_law_pot", "_law_upto", "_law_digit", "_law_turn", "_law_mixed"]
theorem sc_law_draw : FnScope N_law_draw ["_law_pot", "_law_upto"] Hd.d__law_draw.scope := ⟨rfl, rfl, rfl, by decide +kernel, rfl, by decide +kernel, by decide +kernel⟩
theorem b_law_draw {P : Program} {w : World} {K : PySem.W.Frag} {mg : Str → Option Value} {base : Heap} (mf : Mf P w K mg base)  {f : Addr} {cv : Value} {A : Around} {fr : List Env} {s : Shared} {H : Hp} {E : XK} (hr0 : Room 1 (A.deeper (PyProof.Rows.envOfC "_law_draw" Hd.d__law_draw.scope s.heap.objs.size f cv))) (gd : A.guards = some []) :
    FSs (cxOf CX0 P w K mg base N_law_draw "_law_draw" Hd.d__law_draw.scope f cv A fr s H E).nox E Hd.d__law_draw.body f_law_draw := by
  have sc := sc_law_draw
  have hr : Room 1 (cxOf CX0 P w K mg base N_law_draw "_law_draw" Hd.d__law_draw.scope f cv A fr s H E).nox.A := hr0
  exact (fss_cons (fs_if (ft_cmp fop_gt (fe_ix (fe_var 0) fe_int) fe_int) (fss_cons (fs_set (i := 2) sc.nd rfl (by first | exact .inl rfl | exact .inr rfl) (fe_op fop_mod (fe_ix (fe_var 0) fe_int) (fe_var 1))) (fss_cons (fs_asg (fe_op fop_div (fe_ix (fe_var 0) fe_int) (fe_var 1)) (fg_sub (fe_var 0) fe_int)) (fss_one (fs_ret (fe_var 2))))) fss_nil) (fss_cons (fs_asg (fe_op fop_add (fe_ix (fe_var 0) fe_int) fe_int) (fg_sub (fe_var 0) fe_int)) (fss_cons (fs_set (i := 3) sc.nd rfl (by first | exact .inl rfl | exact .inr rfl) (fe_ix (fe_var 0) fe_int)) (fss_cons (fs_set (i := 4) sc.nd rfl (by first | exact .inl rfl | exact .inr rfl) (fe_op fop_mod (fe_op fop_mul (fe_op fop_add (fe_op fop_add (fe_ix (fe_var 0) fe_int) (fe_op fop_mul (fe_op fop_mul fe_int (fe_var 3)) (fe_var 3))) fe_int) fe_int) fe_int)) (fss_cons (fs_set (i := 4) sc.nd rfl (by first | exact .inl rfl | exact .inr rfl) (fe_op fop_mod (fe_op fop_mul (fe_var 4) (fe_op fop_add (fe_op fop_mod (fe_var 4) fe_int) (fe_op fop_mul fe_int (fe_var 3)))) fe_int)) (fss_one (fs_ret (fe_op fop_mod (fe_op fop_add (fe_op fop_div (fe_var 4) fe_int) (fe_op fop_div (fe_var 4) fe_int)) (fe_var 1)))))))))
theorem ok_law_draw {P : Program} {w : World} {K : PySem.W.Frag} {mg : Str → Option Value} {base : Heap} (mf : Mf P w K mg base)  {f : Addr} {fd : FuncData} (hm : mg "_law_draw" = some (.ref f)) (D : FunD K "_law_draw" "_law_draw" Hd.d__law_draw.params Hd.d__law_draw.body Hd.d__law_draw.scope [] [] f fd) : Dok P w K mg base "_law_draw" 2 ["_law_pot", "_law_upto"] [] g_law_draw :=
  .of (fnG_of (N := N_law_draw) (F := f_law_draw) D sc_law_draw fun cv A fr s H E hr gd => (b_law_draw mf  hr gd).nox) hm D (fun _ _ _ _ _ _ us hl => match us, hl with | [_, _], _ => rfl) (fun q hq => nomatch hq)
def f_law_pick : FxS :=
  fRet (fBin gIx (fVar 1) (fCall (kdG .urn 2 g_law_draw) (fCons (fVar 0) (fCons (fCall gLen (fCons (fVar 1) (fNil))) (fNil)))))
def g_law_pick : List U → M U := gDef 2 f_law_pick
abbrev N_law_pick : List Str := ["_law_pot", "_law_items"]
theorem sc_law_pick : FnScope N_law_pick ["_law_pot", "_law_items"] Hd.d__law_pick.scope := ⟨rfl, rfl, rfl, by decide +kernel, rfl, by decide +kernel, by decide +kernel⟩
theorem b_law_pick {P : Program} {w : World} {K : PySem.W.Frag} {mg : Str → Option Value} {base : Heap} (mf : Mf P w K mg base) (D_law_draw : Dok P w K mg base "_law_draw" 2 ["_law_pot", "_law_upto"] [] g_law_draw) {f : Addr} {cv : Value} {A : Around} {fr : List Env} {s : Shared} {H : Hp} {E : XK} (hr0 : Room 2 (A.deeper (PyProof.Rows.envOfC "_law_pick" Hd.d__law_pick.scope s.heap.objs.size f cv))) (gd : A.guards = some []) :
    FSs (cxOf CX0 P w K mg base N_law_pick "_law_pick" Hd.d__law_pick.scope f cv A fr s H E).nox E Hd.d__law_pick.body f_law_pick := by
  have sc := sc_law_pick
  have hr : Room 2 (cxOf CX0 P w K mg base N_law_pick "_law_pick" Hd.d__law_pick.scope f cv A fr s H E).nox.A := hr0
  exact (fss_one (fs_ret (fe_ix (fe_var 1) (fe_def .urn D_law_draw (by exact hr) (by rfl) (by exact gd) (by rfl) (fa_cons (fe_var 0) (fa_cons (fe_callB fcl_len (by rfl) mf.m_len Bt.len (fa_cons (fe_var 1) fa_nil)) fa_nil))))))
theorem ok_law_pick {P : Program} {w : World} {K : PySem.W.Frag} {mg : Str → Option Value} {base : Heap} (mf : Mf P w K mg base) (D_law_draw : Dok P w K mg base "_law_draw" 2 ["_law_pot", "_law_upto"] [] g_law_draw) {f : Addr} {fd : FuncData} (hm : mg "_law_pick" = some (.ref f)) (D : FunD K "_law_pick" "_law_pick" Hd.d__law_pick.params Hd.d__law_pick.body Hd.d__law_pick.scope [] [] f fd) : Dok P w K mg base "_law_pick" 3 ["_law_pot", "_law_items"] [] g_law_pick :=
  .of (fnG_of (N := N_law_pick) (F := f_law_pick) D sc_law_pick fun cv A fr s H E hr gd => (b_law_pick mf D_law_draw hr gd).nox) hm D (fun _ _ _ _ _ _ us hl => match us, hl with | [_, _], _ => rfl) (fun q hq => nomatch hq)
def f_law_other : FxS :=
  fRet (fBin gMod (fBin gAdd (fBin gAdd (fVar 2) (fC (.int 1))) (fCall (kdG .urn 2 g_law_draw) (fCons (fVar 0) (fCons (fBin gSub (fVar 1) (fC (.int 1))) (fNil))))) (fVar 1))
def g_law_other : List U → M U := gDef 3 f_law_other
abbrev N_law_other : List Str := ["_law_pot", "_law_n", "_law_x"]
theorem sc_law_other : FnScope N_law_other ["_law_pot", "_law_n", "_law_x"] Hd.d__law_other.scope := ⟨rfl, rfl, rfl, by decide +kernel, rfl, by decide +kernel, by decide +kernel⟩
theorem b_law_other {P : Program} {w : World} {K : PySem.W.Frag} {mg : Str → Option Value} {base : Heap} (mf : Mf P w K mg base) (D_law_draw : Dok P w K mg base "_law_draw" 2 ["_law_pot", "_law_upto"] [] g_law_draw) {f : Addr} {cv : Value} {A : Around} {fr : List Env} {s : Shared} {H : Hp} {E : XK} (hr0 : Room 2 (A.deeper (PyProof.Rows.envOfC "_law_other" Hd.d__law_other.scope s.heap.objs.size f cv))) (gd : A.guards = some []) :
    FSs (cxOf CX0 P w K mg base N_law_other "_law_other" Hd.d__law_other.scope f cv A fr s H E).nox E Hd.d__law_other.body f_law_other := by
  have sc := sc_law_other
  have hr : Room 2 (cxOf CX0 P w K mg base N_law_other "_law_other" Hd.d__law_other.scope f cv A fr s H E).nox.A := hr0
  exact (fss_one (fs_ret (fe_op fop_mod (fe_op fop_add (fe_op fop_add (fe_var 2) fe_int) (fe_def .urn D_law_draw (by exact hr) (by rfl) (by exact gd) (by rfl) (fa_cons (fe_var 0) (fa_cons (fe_op fop_sub (fe_var 1) fe_int) fa_nil)))) (fe_var 1))))
theorem ok_law_other {P : Program} {w : World} {K : PySem.W.Frag} {mg : Str → Option Value} {base : Heap} (mf : Mf P w K mg base) (D_law_draw : Dok P w K mg base "_law_draw" 2 ["_law_pot", "_law_upto"] [] g_law_draw) {f : Addr} {fd : FuncData} (hm : mg "_law_other" = some (.ref f)) (D : FunD K "_law_other" "_law_other" Hd.d__law_other.params Hd.d__law_other.body Hd.d__law_other.scope [] [] f fd) : Dok P w K mg base "_law_other" 3 ["_law_pot", "_law_n", "_law_x"] [] g_law_other :=
  .of (fnG_of (N := N_law_other) (F := f_law_other) D sc_law_other fun cv A fr s H E hr gd => (b_law_other mf D_law_draw hr gd).nox) hm D (fun _ _ _ _ _ _ us hl => match us, hl with | [_, _, _], _ => rfl) (fun q hq => nomatch hq)
def f_law_instruction : FxS :=
  fSeq (fPar2 3 4 (fCons (fCall (kdG .urn 2 g_law_draw) (fCons (fVar 0) (fCons (fVar 2) (fNil)))) (fCons (fCall (kdG .len 2 g_law_pick) (fCons (fVar 0) (fCons (fLst (fCons (fC (.str "copy")) (fCons (fC (.str "set")) (fCons (fC (.str "add")) (fCons (fC (.str "read")) (fCons (fC (.str "scale")) (fCons (fC (.str "copy")) (fCons (fC (.str "swap")) (fCons (fC (.str "write")) (fNil)))))))))) (fNil)))) (fNil)))) (fSeq (fIf (fAnd (fBl (fBin (gEq false) (fVar 2) (fC (.int 1)))) (fBl (fBin (gIn false) (fVar 4) (fTup (fCons (fC (.str "copy")) (fCons (fC (.str "add")) (fCons (fC (.str "swap")) (fNil)))))))) (fSet 4 (fC (.str "set"))) (fSkip)) (fSeq (fIf (fBl (fBin (gEq false) (fVar 4) (fC (.str "set")))) (fRet (fTup (fCons (fC (.str "set")) (fCons (fVar 3) (fCons (fCall (kdG .urn 2 g_law_draw) (fCons (fVar 0) (fCons (fVar 1) (fNil)))) (fNil)))))) (fSkip)) (fSeq (fIf (fBl (fBin (gEq false) (fVar 4) (fC (.str "copy")))) (fRet (fTup (fCons (fC (.str "copy")) (fCons (fVar 3) (fCons (fCall (kdG .urn 3 g_law_other) (fCons (fVar 0) (fCons (fVar 2) (fCons (fVar 3) (fNil))))) (fNil)))))) (fSkip)) (fSeq (fIf (fBl (fBin (gEq false) (fVar 4) (fC (.str "add")))) (fRet (fTup (fCons (fC (.str "add")) (fCons (fVar 3) (fCons (fCall (kdG .urn 3 g_law_other) (fCons (fVar 0) (fCons (fVar 2) (fCons (fVar 3) (fNil))))) (fCons (fBin gAdd (fC (.int 1)) (fCall (kdG .urn 2 g_law_draw) (fCons (fVar 0) (fCons (fBin gSub (fVar 1) (fC (.int 1))) (fNil))))) (fNil))))))) (fSkip)) (fSeq (fIf (fBl (fBin (gEq false) (fVar 4) (fC (.str "scale")))) (fRet (fTup (fCons (fC (.str "scale")) (fCons (fVar 3) (fCons (fCall (kdG .len 2 g_law_pick) (fCons (fVar 0) (fCons (fLst (fCons (fC (.int 0)) (fCons (fC (.int 1)) (fCons (fBin gSub (fVar 1) (fC (.int 1))) (fCons (fCall (kdG .urn 2 g_law_draw) (fCons (fVar 0) (fCons (fVar 1) (fNil)))) (fNil)))))) (fNil)))) (fNil)))))) (fSkip)) (fSeq (fIf (fBl (fBin (gEq false) (fVar 4) (fC (.str "swap")))) (fRet (fTup (fCons (fC (.str "swap")) (fCons (fVar 3) (fCons (fCall (kdG .urn 3 g_law_other) (fCons (fVar 0) (fCons (fVar 2) (fCons (fVar 3) (fNil))))) (fNil)))))) (fSkip)) (fRet (fTup (fCons (fVar 4) (fCons (fVar 3) (fNil)))))))))))
def g_law_instruction : List U → M U := gDef 5 f_law_instruction
abbrev N_law_instruction : List Str := ["_law_pot", "_law_p", "_law_n", "_law_x", "_law_word"]
theorem sc_law_instruction : FnScope N_law_instruction ["_law_pot", "_law_p", "_law_n"] Hd.d__law_instruction.scope := ⟨rfl, rfl, rfl, by decide +kernel, rfl, by decide +kernel, by decide +kernel⟩
theorem b_law_instruction {P : Program} {w : World} {K : PySem.W.Frag} {mg : Str → Option Value} {base : Heap} (mf : Mf P w K mg base) (D_law_draw : Dok P w K mg base "_law_draw" 2 ["_law_pot", "_law_upto"] [] g_law_draw) (D_law_pick : Dok P w K mg base "_law_pick" 3 ["_law_pot", "_law_items"] [] g_law_pick) (D_law_other : Dok P w K mg base "_law_other" 3 ["_law_pot", "_law_n", "_law_x"] [] g_law_other) {f : Addr} {cv : Value} {A : Around} {fr : List Env} {s : Shared} {H : Hp} {E : XK} (hr0 : Room 3 (A.deeper (PyProof.Rows.envOfC "_law_instruction" Hd.d__law_instruction.scope s.heap.objs.size f cv))) (gd : A.guards = some []) :
    FSs (cxOf CX0 P w K mg base N_law_instruction "_law_instruction" Hd.d__law_instruction.scope f cv A fr s H E).nox E Hd.d__law_instruction.body f_law_instruction := by
  have sc := sc_law_instruction
  have hr : Room 3 (cxOf CX0 P w K mg base N_law_instruction "_law_instruction" Hd.d__law_instruction.scope f cv A fr s H E).nox.A := hr0
  exact (fss_cons (fs_par2 (i := 3) (j := 4) rfl sc.nd rfl rfl (by decide) rfl rfl (fa_cons (fe_def .urn D_law_draw (by exact hr) (by rfl) (by exact gd) (by rfl) (fa_cons (fe_var 0) (fa_cons (fe_var 2) fa_nil))) (fa_cons (fe_def .len D_law_pick (by exact hr) (by rfl) (by exact gd) (by rfl) (fa_cons (fe_var 0) (fa_cons (fe_lst (fa_cons fe_str (fa_cons fe_str (fa_cons fe_str (fa_cons fe_str (fa_cons fe_str (fa_cons fe_str (fa_cons fe_str (fa_cons fe_str fa_nil))))))))) fa_nil))) fa_nil))) (fss_cons (fs_if (ft_w (fw_and (ft_cmp (fop_eq (by exact hr.units)) (fe_var 2) fe_int) (fw_and1 (ft_cmp fop_in (fe_var 4) (fe_tup (fa_cons fe_str (fa_cons fe_str (fa_cons fe_str fa_nil)))))))) (fss_one (fs_set (i := 4) sc.nd rfl (by first | exact .inl rfl | exact .inr rfl) fe_str)) fss_nil) (fss_cons (fs_if (ft_cmp (fop_eq (by exact hr.units)) (fe_var 4) fe_str) (fss_one (fs_ret (fe_tup (fa_cons fe_str (fa_cons (fe_var 3) (fa_cons (fe_def .urn D_law_draw (by exact hr) (by rfl) (by exact gd) (by rfl) (fa_cons (fe_var 0) (fa_cons (fe_var 1) fa_nil))) fa_nil)))))) fss_nil) (fss_cons (fs_if (ft_cmp (fop_eq (by exact hr.units)) (fe_var 4) fe_str) (fss_one (fs_ret (fe_tup (fa_cons fe_str (fa_cons (fe_var 3) (fa_cons (fe_def .urn D_law_other (by exact hr) (by rfl) (by exact gd) (by rfl) (fa_cons (fe_var 0) (fa_cons (fe_var 2) (fa_cons (fe_var 3) fa_nil)))) fa_nil)))))) fss_nil) (fss_cons (fs_if (ft_cmp (fop_eq (by exact hr.units)) (fe_var 4) fe_str) (fss_one (fs_ret (fe_tup (fa_cons fe_str (fa_cons (fe_var 3) (fa_cons (fe_def .urn D_law_other (by exact hr) (by rfl) (by exact gd) (by rfl) (fa_cons (fe_var 0) (fa_cons (fe_var 2) (fa_cons (fe_var 3) fa_nil)))) (fa_cons (fe_op fop_add fe_int (fe_def .urn D_law_draw (by exact hr) (by rfl) (by exact gd) (by rfl) (fa_cons (fe_var 0) (fa_cons (fe_op fop_sub (fe_var 1) fe_int) fa_nil)))) fa_nil))))))) fss_nil) (fss_cons (fs_if (ft_cmp (fop_eq (by exact hr.units)) (fe_var 4) fe_str) (fss_one (fs_ret (fe_tup (fa_cons fe_str (fa_cons (fe_var 3) (fa_cons (fe_def .len D_law_pick (by exact hr) (by rfl) (by exact gd) (by rfl) (fa_cons (fe_var 0) (fa_cons (fe_lst (fa_cons fe_int (fa_cons fe_int (fa_cons (fe_op fop_sub (fe_var 1) fe_int) (fa_cons (fe_def .urn D_law_draw (by exact hr) (by rfl) (by exact gd) (by rfl) (fa_cons (fe_var 0) (fa_cons (fe_var 1) fa_nil))) fa_nil))))) fa_nil))) fa_nil)))))) fss_nil) (fss_cons (fs_if (ft_cmp (fop_eq (by exact hr.units)) (fe_var 4) fe_str) (fss_one (fs_ret (fe_tup (fa_cons fe_str (fa_cons (fe_var 3) (fa_cons (fe_def .urn D_law_other (by exact hr) (by rfl) (by exact gd) (by rfl) (fa_cons (fe_var 0) (fa_cons (fe_var 2) (fa_cons (fe_var 3) fa_nil)))) fa_nil)))))) fss_nil) (fss_one (fs_ret (fe_tup (fa_cons (fe_var 4) (fa_cons (fe_var 3) fa_nil))))))))))))
theorem ok_law_instruction {P : Program} {w : World} {K : PySem.W.Frag} {mg : Str → Option Value} {base : Heap} (mf : Mf P w K mg base) (D_law_draw : Dok P w K mg base "_law_draw" 2 ["_law_pot", "_law_upto"] [] g_law_draw) (D_law_pick : Dok P w K mg base "_law_pick" 3 ["_law_pot", "_law_items"] [] g_law_pick) (D_law_other : Dok P w K mg base "_law_other" 3 ["_law_pot", "_law_n", "_law_x"] [] g_law_other) {f : Addr} {fd : FuncData} (hm : mg "_law_instruction" = some (.ref f)) (D : FunD K "_law_instruction" "_law_instruction" Hd.d__law_instruction.params Hd.d__law_instruction.body Hd.d__law_instruction.scope [] [] f fd) : Dok P w K mg base "_law_instruction" 4 ["_law_pot", "_law_p", "_law_n"] [] g_law_instruction :=
  .of (fnG_of (N := N_law_instruction) (F := f_law_instruction) D sc_law_instruction fun cv A fr s H E hr gd => (b_law_instruction mf D_law_draw D_law_pick D_law_other hr gd).nox) hm D (fun _ _ _ _ _ _ us hl => match us, hl with | [_, _, _], _ => rfl) (fun q hq => nomatch hq)
def f_law_flat (self : List U → M U) : FxS :=
  fSeq (fSet 1 (fLst (fNil))) (fSeq (fFor (fEnT (fCons (fVar 0) (fNil))) (gUnp 2 (gCons (gNm 2) (gCons (gNm 3) (gNil)))) (fIf (fBl (fBin (gEq true) (fBin gIx (fVar 3) (fC (.int 0))) (fC (.str "loop")))) (fDrop (fMeth isL gAppend (fVar 1) (fCons (fTup (fCons (fTup (fCons (fVar 2) (fNil))) (fCons (fVar 3) (fNil)))) (fNil)))) (fSeq (fSet 4 (fCall (kdG .len 1 self) (fCons (fBin gIx (fVar 3) (fC (.int 2))) (fNil)))) (fFor (fRg gRg1 (fCons (fBin gMul (fBin gIx (fVar 3) (fC (.int 1))) (fCall gInt (fCons (fBin (gEq true) (fVar 4) (fLst (fNil))) (fNil)))) (fNil))) (gNm 5) (fDrop (fMeth isL gExtend (fVar 1) (fCons (fLc [6, 7] (fIter (fVar 4)) (gUnp 2 (gCons (gNm 6) (gCons (gNm 7) (gNil)))) (fYes) (fTup (fCons (fBin gAdd (fTup (fCons (fVar 2) (fCons (fVar 5) (fNil)))) (fVar 6)) (fCons (fVar 7) (fNil))))) (fNil)))))))) (fRet (fVar 1)))
def g_law_flat : Nat → List U → M U
  | 0 => fun _ _ => .no
  | n + 1 => gDef 8 (f_law_flat (g_law_flat n))
abbrev N_law_flat : List Str := ["_law_program", "_law_found", "_law_at", "_law_op", "_law_inner", "_law_turn", "_law_path", "_law_one"]
theorem sc_law_flat : FnScope N_law_flat ["_law_program"] Hd.d__law_flat.scope := ⟨rfl, rfl, rfl, by decide +kernel, rfl, by decide +kernel, by decide +kernel⟩
theorem b_law_flat {P : Program} {w : World} {K : PySem.W.Frag} {mg : Str → Option Value} {base : Heap} (mf : Mf P w K mg base) {m : Nat} (hs : Nat.ble (1 + m) (1 + m) = true) {self : List U → M U} (D_law_flat : Dok P w K mg base "_law_flat" (1 + m) ["_law_program"] [] self) {f : Addr} {cv : Value} {A : Around} {fr : List Env} {s : Shared} {H : Hp} {E : XK} (hr0 : Room (1 + m) (A.deeper (PyProof.Rows.envOfC "_law_flat" Hd.d__law_flat.scope s.heap.objs.size f cv))) (gd : A.guards = some []) :
    FSs (cxOf CX0 P w K mg base N_law_flat "_law_flat" Hd.d__law_flat.scope f cv A fr s H E).nox E Hd.d__law_flat.body (f_law_flat self) := by
  have sc := sc_law_flat
  have hr : Room (1 + m) (cxOf CX0 P w K mg base N_law_flat "_law_flat" Hd.d__law_flat.scope f cv A fr s H E).nox.A := hr0
  exact (fss_cons (fs_set (i := 1) sc.nd rfl (by first | exact .inl rfl | exact .inr rfl) (fe_lst fa_nil)) (fss_cons (fs_for .never rfl (fi_enT (by rfl) mf.m_enumerate (fa_cons (fe_var 0) fa_nil)) (fg_tup rfl (fgs_cons (fg_name (i := 2) sc.nd rfl (by first | exact .inl rfl | exact .inr rfl)) (fgs_cons (fg_name (i := 3) sc.nd rfl (by first | exact .inl rfl | exact .inr rfl)) fgs_nil))) (fss_one (fs_if (ft_cmp (fop_ne (by exact hr.units)) (fe_ix (fe_var 3) fe_int) fe_str) (fss_one (fs_expr (fe_lm PySem.F.slot_list_append PySem.F.type_list_append fmt_append (fe_var 1) (fa_cons (fe_tup (fa_cons (fe_tup (fa_cons (fe_var 2) fa_nil)) (fa_cons (fe_var 3) fa_nil))) fa_nil)))) (fss_cons (fs_set (i := 4) sc.nd rfl (by first | exact .inl rfl | exact .inr rfl) (fe_def .len D_law_flat (by exact hr) hs (by exact gd) (by rfl) (fa_cons (fe_ix (fe_var 3) fe_int) fa_nil))) (fss_one (fs_for .never rfl (fi_range1 (by rfl) mf.m_range (fa_cons (fe_op fop_mul (fe_ix (fe_var 3) fe_int) (fe_callTy fcl_int (by rfl) mf.m_int Bt.int (fa_cons (fe_cmp (fop_ne (by exact hr.units)) (fe_var 4) (fe_lst fa_nil)) fa_nil))) fa_nil)) (fg_name (i := 5) sc.nd rfl (by first | exact .inl rfl | exact .inr rfl)) (fss_one (fs_expr (fe_lm PySem.F.slot_list_extend PySem.F.type_list_extend fmt_extend (fe_var 1) (fa_cons (fe_comp (own := [("_law_path", 6), ("_law_one", 7)]) rfl sc.nd (blkOk_by (by kernel_rfl)) (fi_seq (fe_var 4)) (by decide) (fun _ => (fg_tup rfl (fgs_cons (fg_name (i := 6) sc.nd rfl (by first | exact .inl rfl | exact .inr rfl)) (fgs_cons (fg_name (i := 7) sc.nd rfl (by first | exact .inl rfl | exact .inr rfl)) fgs_nil)))) (fun _ => fts_nil) (fun _ => (fe_tup (fa_cons (fe_op fop_add (fe_tup (fa_cons (fe_var 2) (fa_cons (fe_var 5) fa_nil))) (fe_var 6)) (fa_cons (fe_var 7) fa_nil))))) fa_nil)))))))))) (fss_one (fs_ret (fe_var 1)))))
theorem ok_law_flat {P : Program} {w : World} {K : PySem.W.Frag} {mg : Str → Option Value} {base : Heap} (mf : Mf P w K mg base)  {f : Addr} {fd : FuncData} (hm : mg "_law_flat" = some (.ref f)) (D : FunD K "_law_flat" "_law_flat" Hd.d__law_flat.params Hd.d__law_flat.body Hd.d__law_flat.scope [] [] f fd) : ∀ m, Dok P w K mg base "_law_flat" (1 + m) ["_law_program"] [] (g_law_flat m)
  | 0 => .of .zero hm D (fun _ _ _ _ _ _ us hl => match us, hl with | [_], _ => rfl) (fun q hq => nomatch hq)
  | m + 1 => .of (fnG_of D sc_law_flat fun cv A fr s H E hr gd => (b_law_flat mf  (Nat.ble_eq_true_of_le (Nat.le_refl _)) (ok_law_flat mf  hm D m) hr gd).nox) hm D (fun _ _ _ _ _ _ us hl => match us, hl with | [_], _ => rfl) (fun q hq => nomatch hq)
def f_law_lines (self : List U → M U) : FxS :=
  fSeq (fSet 2 (fLst (fNil))) (fSeq (fFor (fIter (fVar 0)) (gNm 3) (fIf (fBl (fBin (gEq false) (fBin gIx (fVar 3) (fC (.int 0))) (fC (.str "loop")))) (fSeq (fDrop (fMeth isL gAppend (fVar 2) (fCons (fBin gAdd (fBin gAdd (fBin gAdd (fBin gMul (fC (.str "  ")) (fVar 1)) (fC (.str "loop "))) (fCall gStrA (fCons (fBin gIx (fVar 3) (fC (.int 1))) (fNil)))) (fC (.str " {"))) (fNil)))) (fSeq (fDrop (fMeth isL gExtend (fVar 2) (fCons (fCall (kdG .len 2 self) (fCons (fBin gIx (fVar 3) (fC (.int 2))) (fCons (fBin gAdd (fVar 1) (fC (.int 1))) (fNil)))) (fNil)))) (fDrop (fMeth isL gAppend (fVar 2) (fCons (fBin gAdd (fBin gMul (fC (.str "  ")) (fVar 1)) (fC (.str "}"))) (fNil)))))) (fDrop (fMeth isL gAppend (fVar 2) (fCons (fBin gAdd (fBin gMul (fC (.str "  ")) (fVar 1)) (fTx gJoin (fC (.str " ")) (fLc [4] (fIter (fVar 3)) (gNm 4) (fYes) (fCall gStrA (fCons (fVar 4) (fNil)))))) (fNil)))))) (fRet (fVar 2)))
def g_law_lines : Nat → List U → M U
  | 0 => fun _ _ => .no
  | n + 1 => gDef 5 (f_law_lines (g_law_lines n))
abbrev N_law_lines : List Str := ["_law_program", "_law_level", "_law_found", "_law_op", "_law_part"]
theorem sc_law_lines : FnScope N_law_lines ["_law_program", "_law_level"] Hd.d__law_lines.scope := ⟨rfl, rfl, rfl, by decide +kernel, rfl, by decide +kernel, by decide +kernel⟩
theorem b_law_lines {P : Program} {w : World} {K : PySem.W.Frag} {mg : Str → Option Value} {base : Heap} (mf : Mf P w K mg base) {m : Nat} (hs : Nat.ble (1 + m) (1 + m) = true) {self : List U → M U} (D_law_lines : Dok P w K mg base "_law_lines" (1 + m) ["_law_program", "_law_level"] [] self) {f : Addr} {cv : Value} {A : Around} {fr : List Env} {s : Shared} {H : Hp} {E : XK} (hr0 : Room (1 + m) (A.deeper (PyProof.Rows.envOfC "_law_lines" Hd.d__law_lines.scope s.heap.objs.size f cv))) (gd : A.guards = some []) :
    FSs (cxOf CX0 P w K mg base N_law_lines "_law_lines" Hd.d__law_lines.scope f cv A fr s H E).nox E Hd.d__law_lines.body (f_law_lines self) := by
  have sc := sc_law_lines
  have hr : Room (1 + m) (cxOf CX0 P w K mg base N_law_lines "_law_lines" Hd.d__law_lines.scope f cv A fr s H E).nox.A := hr0
  exact (fss_cons (fs_set (i := 2) sc.nd rfl (by first | exact .inl rfl | exact .inr rfl) (fe_lst fa_nil)) (fss_cons (fs_for .never rfl (fi_seq (fe_var 0)) (fg_name (i := 3) sc.nd rfl (by first | exact .inl rfl | exact .inr rfl)) (fss_one (fs_if (ft_cmp (fop_eq (by exact hr.units)) (fe_ix (fe_var 3) fe_int) fe_str) (fss_cons (fs_expr (fe_lm PySem.F.slot_list_append PySem.F.type_list_append fmt_append (fe_var 2) (fa_cons (fe_op fop_add (fe_op fop_add (fe_op fop_add (fe_op fop_mul fe_str (fe_var 1)) fe_str) (fe_callTy fcl_strA (by rfl) mf.m_str Bt.str (fa_cons (fe_ix (fe_var 3) fe_int) fa_nil))) fe_str) fa_nil))) (fss_cons (fs_expr (fe_lm PySem.F.slot_list_extend PySem.F.type_list_extend fmt_extend (fe_var 2) (fa_cons (fe_def .len D_law_lines (by exact hr) hs (by exact gd) (by rfl) (fa_cons (fe_ix (fe_var 3) fe_int) (fa_cons (fe_op fop_add (fe_var 1) fe_int) fa_nil))) fa_nil))) (fss_one (fs_expr (fe_lm PySem.F.slot_list_append PySem.F.type_list_append fmt_append (fe_var 2) (fa_cons (fe_op fop_add (fe_op fop_mul fe_str (fe_var 1)) fe_str) fa_nil)))))) (fss_one (fs_expr (fe_lm PySem.F.slot_list_append PySem.F.type_list_append fmt_append (fe_var 2) (fa_cons (fe_op fop_add (fe_op fop_mul fe_str (fe_var 1)) (fe_join fe_str (fe_comp (own := [("_law_part", 4)]) rfl sc.nd (blkOk_by (by kernel_rfl)) (fi_seq (fe_var 3)) (by decide) (fun _ => (fg_name (i := 4) sc.nd rfl (by first | exact .inl rfl | exact .inr rfl))) (fun _ => fts_nil) (fun _ => (fe_callTy fcl_strA (by rfl) mf.m_str Bt.str (fa_cons (fe_var 4) fa_nil)))))) fa_nil))))))) (fss_one (fs_ret (fe_var 2)))))
theorem ok_law_lines {P : Program} {w : World} {K : PySem.W.Frag} {mg : Str → Option Value} {base : Heap} (mf : Mf P w K mg base)  {f : Addr} {fd : FuncData} (hm : mg "_law_lines" = some (.ref f)) (D : FunD K "_law_lines" "_law_lines" Hd.d__law_lines.params Hd.d__law_lines.body Hd.d__law_lines.scope [] [] f fd) : ∀ m, Dok P w K mg base "_law_lines" (1 + m) ["_law_program", "_law_level"] [] (g_law_lines m)
  | 0 => .of .zero hm D (fun _ _ _ _ _ _ us hl => match us, hl with | [_, _], _ => rfl) (fun q hq => nomatch hq)
  | m + 1 => .of (fnG_of D sc_law_lines fun cv A fr s H E hr gd => (b_law_lines mf  (Nat.ble_eq_true_of_le (Nat.le_refl _)) (ok_law_lines mf  hm D m) hr gd).nox) hm D (fun _ _ _ _ _ _ us hl => match us, hl with | [_, _], _ => rfl) (fun q hq => nomatch hq)
def f_law_once (self : List U → M U) : FxS :=
  fRet (fCall gTuple (fCons (fLc [1] (fIter (fVar 0)) (gNm 1) (fYes) (fIfE (fBl (fBin (gEq false) (fBin gIx (fVar 1) (fC (.int 0))) (fC (.str "loop")))) (fTup (fCons (fC (.str "loop")) (fCons (fC (.int 1)) (fCons (fCall (kdG .pur 1 self) (fCons (fBin gIx (fVar 1) (fC (.int 2))) (fNil))) (fNil))))) (fVar 1))) (fNil)))
def g_law_once : Nat → List U → M U
  | 0 => fun _ _ => .no
  | n + 1 => gDef 2 (f_law_once (g_law_once n))
abbrev N_law_once : List Str := ["_law_program", "_law_op"]
theorem sc_law_once : FnScope N_law_once ["_law_program"] Hd.d__law_once.scope := ⟨rfl, rfl, rfl, by decide +kernel, rfl, by decide +kernel, by decide +kernel⟩
theorem b_law_once {P : Program} {w : World} {K : PySem.W.Frag} {mg : Str → Option Value} {base : Heap} (mf : Mf P w K mg base) {m : Nat} (hs : Nat.ble (1 + m) (1 + m) = true) {self : List U → M U} (D_law_once : Dok P w K mg base "_law_once" (1 + m) ["_law_program"] [] self) {f : Addr} {cv : Value} {A : Around} {fr : List Env} {s : Shared} {H : Hp} {E : XK} (hr0 : Room (1 + m) (A.deeper (PyProof.Rows.envOfC "_law_once" Hd.d__law_once.scope s.heap.objs.size f cv))) (gd : A.guards = some []) :
    FSs (cxOf CX0 P w K mg base N_law_once "_law_once" Hd.d__law_once.scope f cv A fr s H E).nox E Hd.d__law_once.body (f_law_once self) := by
  have sc := sc_law_once
  have hr : Room (1 + m) (cxOf CX0 P w K mg base N_law_once "_law_once" Hd.d__law_once.scope f cv A fr s H E).nox.A := hr0
  exact (fss_one (fs_ret (fe_callTy fcl_tuple (by rfl) mf.m_tuple Bt.tuple (fa_cons (fe_comp (own := [("_law_op", 1)]) rfl sc.nd (blkOk_by (by kernel_rfl)) (fi_seq (fe_var 0)) (by decide) (fun _ => (fg_name (i := 1) sc.nd rfl (by first | exact .inl rfl | exact .inr rfl))) (fun _ => fts_nil) (fun _ => (fe_if (ft_cmp (fop_eq (by exact hr.units)) (fe_ix (fe_var 1) fe_int) fe_str) (fe_tup (fa_cons fe_str (fa_cons fe_int (fa_cons (fe_def .pur D_law_once (by exact hr) hs (by exact gd) (by rfl) (fa_cons (fe_ix (fe_var 1) fe_int) fa_nil)) fa_nil)))) (fe_var 1)))) fa_nil))))
theorem ok_law_once {P : Program} {w : World} {K : PySem.W.Frag} {mg : Str → Option Value} {base : Heap} (mf : Mf P w K mg base)  {f : Addr} {fd : FuncData} (hm : mg "_law_once" = some (.ref f)) (D : FunD K "_law_once" "_law_once" Hd.d__law_once.params Hd.d__law_once.body Hd.d__law_once.scope [] [] f fd) : ∀ m, Dok P w K mg base "_law_once" (1 + m) ["_law_program"] [] (g_law_once m)
  | 0 => .of .zero hm D (fun _ _ _ _ _ _ us hl => match us, hl with | [_], _ => rfl) (fun q hq => nomatch hq)
  | m + 1 => .of (fnG_of D sc_law_once fun cv A fr s H E hr gd => (b_law_once mf  (Nat.ble_eq_true_of_le (Nat.le_refl _)) (ok_law_once mf  hm D m) hr gd).nox) hm D (fun _ _ _ _ _ _ us hl => match us, hl with | [_], _ => rfl) (fun q hq => nomatch hq)
def f_law_nested_program (self : List U → M U) : FxS :=
  fSeq (fSet 5 (fLst (fNil))) (fSeq (fFor (fRg gRg1 (fCons (fCall (kdG .urn 2 g_law_draw) (fCons (fVar 0) (fCons (fBin gAdd (fVar 3) (fC (.int 1))) (fNil)))) (fNil))) (gNm 6) (fIf (fAnd (fBl (fBin gGt (fVar 4) (fC (.int 0)))) (fBl (fBin (gEq false) (fCall (kdG .urn 2 g_law_draw) (fCons (fVar 0) (fCons (fC (.int 3)) (fNil)))) (fC (.int 0))))) (fSeq (fSet 7 (fCall (kdG .len 5 self) (fCons (fVar 0) (fCons (fVar 1) (fCons (fVar 2) (fCons (fC (.int 2)) (fCons (fBin gSub (fVar 4) (fC (.int 1))) (fNil)))))))) (fSeq (fSet 8 (fCall (kdG .len 2 g_law_pick) (fCons (fVar 0) (fCons (fLst (fCons (fC (.int 0)) (fCons (fC (.int 1)) (fCons (fC (.int 2)) (fCons (fC (.int 5)) (fCons (fBin gPow (fC (.int 10)) (fC (.int 18))) (fCons (fCall (kdG .urn 2 g_law_draw) (fCons (fVar 0) (fCons (fBin gPow (fC (.int 10)) (fC (.int 18))) (fNil)))) (fNil)))))))) (fNil))))) (fSeq (fSet 9 (fLc [10, 11] (fIter (fCall (kdG .len 1 (g_law_flat 30)) (fCons (fCall (kdG .pur 1 (g_law_once 30)) (fCons (fVar 7) (fNil))) (fNil)))) (gUnp 2 (gCons (gNm 10) (gCons (gNm 11) (gNil)))) (fBl (fBin (gIn false) (fBin gIx (fVar 11) (fC (.int 0))) (fTup (fCons (fC (.str "read")) (fCons (fC (.str "write")) (fNil)))))) (fVar 11))) (fDrop (fMeth isL gAppend (fVar 5) (fCons (fTup (fCons (fC (.str "loop")) (fCons (fIfE (fBl (fBin (gEq false) (fVar 9) (fLst (fNil)))) (fVar 8) (fBin gMod (fVar 8) (fC (.int 3)))) (fCons (fVar 7) (fNil))))) (fNil))))))) (fDrop (fMeth isL gAppend (fVar 5) (fCons (fCall (kdG .urn 3 g_law_instruction) (fCons (fVar 0) (fCons (fVar 1) (fCons (fVar 2) (fNil))))) (fNil)))))) (fRet (fCall gTuple (fCons (fVar 5) (fNil)))))
def g_law_nested_program : Nat → List U → M U
  | 0 => fun _ _ => .no
  | n + 1 => gDef 12 (f_law_nested_program (g_law_nested_program n))
abbrev N_law_nested_program : List Str := ["_law_pot", "_law_p", "_law_n", "_law_length", "_law_level", "_law_found", "_law_at", "_law_body", "_law_many", "_law_touches", "_law_path", "_law_op"]
theorem sc_law_nested_program : FnScope N_law_nested_program ["_law_pot", "_law_p", "_law_n", "_law_length", "_law_level"] Hd.d__law_nested_program.scope := ⟨rfl, rfl, rfl, by decide +kernel, rfl, by decide +kernel, by decide +kernel⟩
theorem b_law_nested_program {P : Program} {w : World} {K : PySem.W.Frag} {mg : Str → Option Value} {base : Heap} (mf : Mf P w K mg base) (D_law_draw : Dok P w K mg base "_law_draw" 2 ["_law_pot", "_law_upto"] [] g_law_draw) (D_law_pick : Dok P w K mg base "_law_pick" 3 ["_law_pot", "_law_items"] [] g_law_pick) (D_law_instruction : Dok P w K mg base "_law_instruction" 4 ["_law_pot", "_law_p", "_law_n"] [] g_law_instruction) (D_law_flat : Dok P w K mg base "_law_flat" 31 ["_law_program"] [] (g_law_flat 30)) (D_law_once : Dok P w K mg base "_law_once" 31 ["_law_program"] [] (g_law_once 30)) {m : Nat} (hs : Nat.ble (31 + m) (31 + m) = true) {self : List U → M U} (D_law_nested_program : Dok P w K mg base "_law_nested_program" (31 + m) ["_law_pot", "_law_p", "_law_n", "_law_length", "_law_level"] [] self) {f : Addr} {cv : Value} {A : Around} {fr : List Env} {s : Shared} {H : Hp} {E : XK} (hr0 : Room (31 + m) (A.deeper (PyProof.Rows.envOfC "_law_nested_program" Hd.d__law_nested_program.scope s.heap.objs.size f cv))) (gd : A.guards = some []) :
    FSs (cxOf CX0 P w K mg base N_law_nested_program "_law_nested_program" Hd.d__law_nested_program.scope f cv A fr s H E).nox E Hd.d__law_nested_program.body (f_law_nested_program self) := by
  have sc := sc_law_nested_program
  have hr : Room (31 + m) (cxOf CX0 P w K mg base N_law_nested_program "_law_nested_program" Hd.d__law_nested_program.scope f cv A fr s H E).nox.A := hr0
  exact (fss_cons (fs_set (i := 5) sc.nd rfl (by first | exact .inl rfl | exact .inr rfl) (fe_lst fa_nil)) (fss_cons (fs_for .never rfl (fi_range1 (by rfl) mf.m_range (fa_cons (fe_def .urn D_law_draw (by exact hr) (Nat.ble_eq_true_of_le (by omega)) (by exact gd) (by rfl) (fa_cons (fe_var 0) (fa_cons (fe_op fop_add (fe_var 3) fe_int) fa_nil))) fa_nil)) (fg_name (i := 6) sc.nd rfl (by first | exact .inl rfl | exact .inr rfl)) (fss_one (fs_if (ft_w (fw_and (ft_cmp fop_gt (fe_var 4) fe_int) (fw_and1 (ft_cmp (fop_eq (by exact hr.units)) (fe_def .urn D_law_draw (by exact hr) (Nat.ble_eq_true_of_le (by omega)) (by exact gd) (by rfl) (fa_cons (fe_var 0) (fa_cons fe_int fa_nil))) fe_int)))) (fss_cons (fs_set (i := 7) sc.nd rfl (by first | exact .inl rfl | exact .inr rfl) (fe_def .len D_law_nested_program (by exact hr) hs (by exact gd) (by rfl) (fa_cons (fe_var 0) (fa_cons (fe_var 1) (fa_cons (fe_var 2) (fa_cons fe_int (fa_cons (fe_op fop_sub (fe_var 4) fe_int) fa_nil))))))) (fss_cons (fs_set (i := 8) sc.nd rfl (by first | exact .inl rfl | exact .inr rfl) (fe_def .len D_law_pick (by exact hr) (Nat.ble_eq_true_of_le (by omega)) (by exact gd) (by rfl) (fa_cons (fe_var 0) (fa_cons (fe_lst (fa_cons fe_int (fa_cons fe_int (fa_cons fe_int (fa_cons fe_int (fa_cons (fe_op fop_pow fe_int fe_int) (fa_cons (fe_def .urn D_law_draw (by exact hr) (Nat.ble_eq_true_of_le (by omega)) (by exact gd) (by rfl) (fa_cons (fe_var 0) (fa_cons (fe_op fop_pow fe_int fe_int) fa_nil))) fa_nil))))))) fa_nil)))) (fss_cons (fs_setLc (i := 9) (own := [("_law_path", 10), ("_law_op", 11)]) rfl sc.nd rfl rfl (sw_true rfl rfl rfl (by kernel_rfl)) (blkOk_by (by kernel_rfl)) (fi_seq (fe_def .len D_law_flat (by exact hr) (Nat.ble_eq_true_of_le (by omega)) (by exact gd) (by rfl) (fa_cons (fe_def .pur D_law_once (by exact hr) (Nat.ble_eq_true_of_le (by omega)) (by exact gd) (by rfl) (fa_cons (fe_var 7) fa_nil)) fa_nil))) (by decide) (fun _ => (fg_tup rfl (fgs_cons (fg_name (i := 10) sc.nd rfl (by first | exact .inl rfl | exact .inr rfl)) (fgs_cons (fg_name (i := 11) sc.nd rfl (by first | exact .inl rfl | exact .inr rfl)) fgs_nil)))) (fun _ => (fts_one (ft_cmp fop_in (fe_ix (fe_var 11) fe_int) (fe_tup (fa_cons fe_str (fa_cons fe_str fa_nil)))))) (fun _ => (fe_var 11))) (fss_one (fs_expr (fe_lm PySem.F.slot_list_append PySem.F.type_list_append fmt_append (fe_var 5) (fa_cons (fe_tup (fa_cons fe_str (fa_cons (fe_if (ft_cmp (fop_eq (by exact hr.units)) (fe_var 9) (fe_lst fa_nil)) (fe_var 8) (fe_op fop_mod (fe_var 8) fe_int)) (fa_cons (fe_var 7) fa_nil)))) fa_nil))))))) (fss_one (fs_expr (fe_lm PySem.F.slot_list_append PySem.F.type_list_append fmt_append (fe_var 5) (fa_cons (fe_def .urn D_law_instruction (by exact hr) (Nat.ble_eq_true_of_le (by omega)) (by exact gd) (by rfl) (fa_cons (fe_var 0) (fa_cons (fe_var 1) (fa_cons (fe_var 2) fa_nil)))) fa_nil))))))) (fss_one (fs_ret (fe_callTy fcl_tuple (by rfl) mf.m_tuple Bt.tuple (fa_cons (fe_var 5) fa_nil))))))
theorem ok_law_nested_program {P : Program} {w : World} {K : PySem.W.Frag} {mg : Str → Option Value} {base : Heap} (mf : Mf P w K mg base) (D_law_draw : Dok P w K mg base "_law_draw" 2 ["_law_pot", "_law_upto"] [] g_law_draw) (D_law_pick : Dok P w K mg base "_law_pick" 3 ["_law_pot", "_law_items"] [] g_law_pick) (D_law_instruction : Dok P w K mg base "_law_instruction" 4 ["_law_pot", "_law_p", "_law_n"] [] g_law_instruction) (D_law_flat : Dok P w K mg base "_law_flat" 31 ["_law_program"] [] (g_law_flat 30)) (D_law_once : Dok P w K mg base "_law_once" 31 ["_law_program"] [] (g_law_once 30)) {f : Addr} {fd : FuncData} (hm : mg "_law_nested_program" = some (.ref f)) (D : FunD K "_law_nested_program" "_law_nested_program" Hd.d__law_nested_program.params Hd.d__law_nested_program.body Hd.d__law_nested_program.scope [] [] f fd) : ∀ m, Dok P w K mg base "_law_nested_program" (31 + m) ["_law_pot", "_law_p", "_law_n", "_law_length", "_law_level"] [] (g_law_nested_program m)
  | 0 => .of .zero hm D (fun _ _ _ _ _ _ us hl => match us, hl with | [_, _, _, _, _], _ => rfl) (fun q hq => nomatch hq)
  | m + 1 => .of (fnG_of D sc_law_nested_program fun cv A fr s H E hr gd => (b_law_nested_program mf D_law_draw D_law_pick D_law_instruction D_law_flat D_law_once (Nat.ble_eq_true_of_le (Nat.le_refl _)) (ok_law_nested_program mf D_law_draw D_law_pick D_law_instruction D_law_flat D_law_once hm D m) hr gd).nox) hm D (fun _ _ _ _ _ _ us hl => match us, hl with | [_, _, _, _, _], _ => rfl) (fun q hq => nomatch hq)
def f_law : FxS :=
  fSeq (fFor (fRg gRg1 (fCons (fCall gMax2 (fCons (fC (.int 1)) (fCons (fCall gMin2 (fCons (fC (.int 2)) (fCons (fCall gLen (fCons (fVar 0) (fNil))) (fNil)))) (fNil)))) (fNil))) (gNm 1) (fSeq (fSet 2 (fCall (kdG .pur 2 g_law_digits) (fCons (fVar 0) (fCons (fVar 1) (fNil))))) (fSeq (fIf (fOr (fBl (fBin (gEq true) (fCall (kdG .pur 1 g_show_program) (fCons (fTup (fNil)) (fNil))) (fC (.str "")))) (fBl (fBin (gEq true) (fCall gReprD (fCons (fCall (kdG .pur 3 g_read_program) (fCons (fC (.int 5)) (fCons (fC (.int 1)) (fCons (fC (.str "")) (fNil))))) (fNil))) (fC (.str "()"))))) (fRet (fC (.bl false))) (fSkip)) (fFor (fRg gRg1 (fCons (fC (.int 8)) (fNil))) (gNm 3) (fSeq (fPar2 4 5 (fCons (fCall (kdG .len 2 g_law_pick) (fCons (fVar 2) (fCons (fLst (fCons (fC (.int 2)) (fCons (fC (.int 3)) (fCons (fC (.int 97)) (fCons (fC (.int 10007)) (fNil)))))) (fNil)))) (fCons (fBin gAdd (fC (.int 1)) (fCall (kdG .urn 2 g_law_draw) (fCons (fVar 2) (fCons (fC (.int 8)) (fNil))))) (fNil)))) (fSeq (fSet 6 (fCall (kdG .len 5 (g_law_nested_program 30)) (fCons (fVar 2) (fCons (fVar 4) (fCons (fVar 5) (fCons (fC (.int 4)) (fCons (fCall (kdG .urn 2 g_law_draw) (fCons (fVar 2) (fCons (fC (.int 5)) (fNil)))) (fNil)))))))) (fSeq (fSet 7 (fTx gJoin (fC (.str "\n")) (fCall (kdG .len 2 (g_law_lines 30)) (fCons (fVar 6) (fCons (fC (.int 0)) (fNil)))))) (fSeq (fIf (fOr (fBl (fBin (gIs true) (fCall (kdG .len 3 g_is_program) (fCons (fVar 4) (fCons (fVar 5) (fCons (fVar 6) (fNil))))) (fC (.bl true)))) (fBl (fBin (gEq true) (fCall (kdG .pur 1 g_show_program) (fCons (fVar 6) (fNil))) (fVar 7)))) (fRet (fC (.bl false))) (fSkip)) (fIf (fBl (fBin (gEq true) (fCall gReprD (fCons (fCall (kdG .pur 3 g_read_program) (fCons (fVar 4) (fCons (fVar 5) (fCons (fVar 7) (fNil))))) (fNil))) (fCall gReprD (fCons (fVar 6) (fNil))))) (fRet (fC (.bl false))) (fSkip)))))))))) (fRet (fC (.bl true)))
def g_law : List U → M U := gDef 8 f_law
abbrev N_law : List Str := ["_law_script", "_law_k", "_law_pot", "_law_turn", "_law_p", "_law_n", "_law_made", "_law_due"]
theorem sc_law : FnScope N_law ["_law_script"] Hd.d_law.scope := ⟨rfl, rfl, rfl, by decide +kernel, rfl, by decide +kernel, by decide +kernel⟩
theorem b_law {P : Program} {w : World} {K : PySem.W.Frag} {mg : Str → Option Value} {base : Heap} (mf : Mf P w K mg base) (D_law_digits : Dok P w K mg base "_law_digits" 2 ["_law_script", "_law_k"] [] g_law_digits) (D_law_nested_program : Dok P w K mg base "_law_nested_program" 61 ["_law_pot", "_law_p", "_law_n", "_law_length", "_law_level"] [] (g_law_nested_program 30)) (D_show_program : Dok P w K mg base "show_program" 33 ["program"] [] g_show_program) (D_law_pick : Dok P w K mg base "_law_pick" 3 ["_law_pot", "_law_items"] [] g_law_pick) (D_law_draw : Dok P w K mg base "_law_draw" 2 ["_law_pot", "_law_upto"] [] g_law_draw) (D_law_lines : Dok P w K mg base "_law_lines" 31 ["_law_program", "_law_level"] [] (g_law_lines 30)) (D_read_program : Dok P w K mg base "read_program" 39 ["p", "n", "text"] [] g_read_program) (D_is_program : Dok P w K mg base "is_program" 35 ["p", "n", "value"] [] g_is_program) {f : Addr} {cv : Value} {A : Around} {fr : List Env} {s : Shared} {H : Hp} {E : XK} (hr0 : Room 61 (A.deeper (PyProof.Rows.envOfC "law" Hd.d_law.scope s.heap.objs.size f cv))) (gd : A.guards = some []) :
    FSs (cxOf CX0 P w K mg base N_law "law" Hd.d_law.scope f cv A fr s H E).nox E Hd.d_law.body f_law := by
  have sc := sc_law
  have hr : Room 61 (cxOf CX0 P w K mg base N_law "law" Hd.d_law.scope f cv A fr s H E).nox.A := hr0
  exact (fss_cons (fs_for .never rfl (fi_range1 (by rfl) mf.m_range (fa_cons (fe_callB (fcl_max2 rfl) (by rfl) mf.m_max Bt.max (fa_cons fe_int (fa_cons (fe_callB (fcl_min2 rfl) (by rfl) mf.m_min Bt.min (fa_cons fe_int (fa_cons (fe_callB fcl_len (by rfl) mf.m_len Bt.len (fa_cons (fe_var 0) fa_nil)) fa_nil))) fa_nil))) fa_nil)) (fg_name (i := 1) sc.nd rfl (by first | exact .inl rfl | exact .inr rfl)) (fss_cons (fs_set (i := 2) sc.nd rfl (by first | exact .inl rfl | exact .inr rfl) (fe_def .pur D_law_digits (by exact hr) (by rfl) (by exact gd) (by rfl) (fa_cons (fe_var 0) (fa_cons (fe_var 1) fa_nil)))) (fss_cons (fs_if (ft_w (fw_or (ft_cmp (fop_ne (by exact hr.units)) (fe_def .pur D_show_program (by exact hr) (by rfl) (by exact gd) (by rfl) (fa_cons (fe_tup fa_nil) fa_nil)) fe_str) (fw_or1 (ft_cmp (fop_ne (by exact hr.units)) (fe_callB (fcl_reprD mf.sysm (by exact gd) (by exact u66 hr)) (by rfl) mf.m_repr Bt.repr (fa_cons (fe_def .pur D_read_program (by exact hr) (by rfl) (by exact gd) (by rfl) (fa_cons fe_int (fa_cons fe_int (fa_cons fe_str fa_nil)))) fa_nil)) fe_str)))) (fss_one (fs_ret fe_bl)) fss_nil) (fss_one (fs_for .never rfl (fi_range1 (by rfl) mf.m_range (fa_cons fe_int fa_nil)) (fg_name (i := 3) sc.nd rfl (by first | exact .inl rfl | exact .inr rfl)) (fss_cons (fs_par2 (i := 4) (j := 5) rfl sc.nd rfl rfl (by decide) rfl rfl (fa_cons (fe_def .len D_law_pick (by exact hr) (by rfl) (by exact gd) (by rfl) (fa_cons (fe_var 2) (fa_cons (fe_lst (fa_cons fe_int (fa_cons fe_int (fa_cons fe_int (fa_cons fe_int fa_nil))))) fa_nil))) (fa_cons (fe_op fop_add fe_int (fe_def .urn D_law_draw (by exact hr) (by rfl) (by exact gd) (by rfl) (fa_cons (fe_var 2) (fa_cons fe_int fa_nil)))) fa_nil))) (fss_cons (fs_set (i := 6) sc.nd rfl (by first | exact .inl rfl | exact .inr rfl) (fe_def .len D_law_nested_program (by exact hr) (by rfl) (by exact gd) (by rfl) (fa_cons (fe_var 2) (fa_cons (fe_var 4) (fa_cons (fe_var 5) (fa_cons fe_int (fa_cons (fe_def .urn D_law_draw (by exact hr) (by rfl) (by exact gd) (by rfl) (fa_cons (fe_var 2) (fa_cons fe_int fa_nil))) fa_nil))))))) (fss_cons (fs_set (i := 7) sc.nd rfl (by first | exact .inl rfl | exact .inr rfl) (fe_join fe_str (fe_def .len D_law_lines (by exact hr) (by rfl) (by exact gd) (by rfl) (fa_cons (fe_var 6) (fa_cons fe_int fa_nil))))) (fss_cons (fs_if (ft_w (fw_or (ft_cmp fop_isnot (fe_def .len D_is_program (by exact hr) (by rfl) (by exact gd) (by rfl) (fa_cons (fe_var 4) (fa_cons (fe_var 5) (fa_cons (fe_var 6) fa_nil)))) fe_bl) (fw_or1 (ft_cmp (fop_ne (by exact hr.units)) (fe_def .pur D_show_program (by exact hr) (by rfl) (by exact gd) (by rfl) (fa_cons (fe_var 6) fa_nil)) (fe_var 7))))) (fss_one (fs_ret fe_bl)) fss_nil) (fss_one (fs_if (ft_cmp (fop_ne (by exact hr.units)) (fe_callB (fcl_reprD mf.sysm (by exact gd) (by exact u66 hr)) (by rfl) mf.m_repr Bt.repr (fa_cons (fe_def .pur D_read_program (by exact hr) (by rfl) (by exact gd) (by rfl) (fa_cons (fe_var 4) (fa_cons (fe_var 5) (fa_cons (fe_var 7) fa_nil)))) fa_nil)) (fe_callB (fcl_reprD mf.sysm (by exact gd) (by exact u66 hr)) (by rfl) mf.m_repr Bt.repr (fa_cons (fe_var 6) fa_nil))) (fss_one (fs_ret fe_bl)) fss_nil))))))))))) (fss_one (fs_ret fe_bl)))
theorem facts {P : Program} {w : World} {K : PySem.W.Frag} {h : Heap} {mg : Str → Option Value} {f : Addr} (X : K.In h) (G : h.Ns mainGlobals mg) (hfa : mg ("law" : Str) = some (.ref f)) (c0 : SaysF Hd.fa Hd.fn Hd.fx K) :
    ∃ fd : FuncData, (∀ (s : Shared) (v : Value), BindsTo s fd ⟨[v], []⟩ [("_law_script", v)]) ∧ ∀ base : Heap, K.In base → base.Ns mainGlobals mg → FnG P w K mg base CX0 62 f fd ["_law_script"] g_law := by
  have c := c0.d
  obtain ⟨fd_is_within, F_is_within⟩ := c.def_ 1 (d := Hd.d_is_within) rfl
  have m_is_within := He.glo_ok X G (c.fact 2 (f := .glo "is_within") rfl)
  obtain ⟨fd_are_two, F_are_two⟩ := c.def_ 2 (d := Hd.d_are_two) rfl
  have m_are_two := He.glo_ok X G (c.fact 3 (f := .glo "are_two") rfl)
  obtain ⟨fd_is_plain, F_is_plain⟩ := c.def_ 3 (d := Hd.d_is_plain) rfl
  have m_is_plain := He.glo_ok X G (c.fact 4 (f := .glo "is_plain") rfl)
  obtain ⟨fd_is_body, F_is_body⟩ := c.def_ 5 (d := Hd.d_is_body) rfl
  have m_is_body := He.glo_ok X G (c.fact 6 (f := .glo "is_body") rfl)
  obtain ⟨fd_is_instruction, F_is_instruction⟩ := c.def_ 4 (d := Hd.d_is_instruction) rfl
  have m_is_instruction := He.glo_ok X G (c.fact 5 (f := .glo "is_instruction") rfl)
  obtain ⟨fd_size, F_size⟩ := c.def_ 7 (d := Hd.d_size) rfl
  have m_size := He.glo_ok X G (c.fact 8 (f := .glo "size") rfl)
  obtain ⟨fd_times, F_times⟩ := c.def_ 8 (d := Hd.d_times) rfl
  have m_times := He.glo_ok X G (c.fact 9 (f := .glo "times") rfl)
  obtain ⟨fd_read_count, F_read_count⟩ := c.def_ 9 (d := Hd.d_read_count) rfl
  have m_read_count := He.glo_ok X G (c.fact 10 (f := .glo "read_count") rfl)
  obtain ⟨fd_write_count, F_write_count⟩ := c.def_ 10 (d := Hd.d_write_count) rfl
  have m_write_count := He.glo_ok X G (c.fact 11 (f := .glo "write_count") rfl)
  obtain ⟨fd_is_program, F_is_program⟩ := c.def_ 6 (d := Hd.d_is_program) rfl
  have m_is_program := He.glo_ok X G (c.fact 7 (f := .glo "is_program") rfl)
  obtain ⟨fd_show_line, F_show_line⟩ := c.def_ 11 (d := Hd.d_show_line) rfl
  have m_show_line := He.glo_ok X G (c.fact 12 (f := .glo "show_line") rfl)
  obtain ⟨fd_lines_of, F_lines_of⟩ := c.def_ 12 (d := Hd.d_lines_of) rfl
  have m_lines_of := He.glo_ok X G (c.fact 13 (f := .glo "lines_of") rfl)
  obtain ⟨fd_show_program, F_show_program⟩ := c.def_ 13 (d := Hd.d_show_program) rfl
  have m_show_program := He.glo_ok X G (c.fact 14 (f := .glo "show_program") rfl)
  obtain ⟨fd_number_of, F_number_of⟩ := c.def_ 14 (d := Hd.d_number_of) rfl
  have m_number_of := He.glo_ok X G (c.fact 15 (f := .glo "number_of") rfl)
  obtain ⟨fd_instruction_of, F_instruction_of⟩ := c.def_ 15 (d := Hd.d_instruction_of) rfl
  have m_instruction_of := He.glo_ok X G (c.fact 16 (f := .glo "instruction_of") rfl)
  obtain ⟨fd_loop_count, F_loop_count⟩ := c.def_ 16 (d := Hd.d_loop_count) rfl
  have m_loop_count := He.glo_ok X G (c.fact 17 (f := .glo "loop_count") rfl)
  obtain ⟨fd_Reader___init__, F_Reader___init__⟩ := c.def_ 17 (d := Hd.d_Reader___init__) rfl
  obtain ⟨fd_Reader_take_instruction, F_Reader_take_instruction⟩ := c.def_ 19 (d := Hd.d_Reader_take_instruction) rfl
  obtain ⟨fd_Reader_take, F_Reader_take⟩ := c.def_ 18 (d := Hd.d_Reader_take) rfl
  obtain ⟨fd_read_program, F_read_program⟩ := c.def_ 20 (d := Hd.d_read_program) rfl
  have m_read_program := He.glo_ok X G (c.fact 19 (f := .glo "read_program") rfl)
  obtain ⟨fd_law_digits, F_law_digits⟩ := c.def_ 21 (d := Hd.d__law_digits) rfl
  have m_law_digits := He.glo_ok X G (c.fact 20 (f := .glo "_law_digits") rfl)
  obtain ⟨fd_law_draw, F_law_draw⟩ := c.def_ 22 (d := Hd.d__law_draw) rfl
  have m_law_draw := He.glo_ok X G (c.fact 21 (f := .glo "_law_draw") rfl)
  obtain ⟨fd_law_pick, F_law_pick⟩ := c.def_ 23 (d := Hd.d__law_pick) rfl
  have m_law_pick := He.glo_ok X G (c.fact 22 (f := .glo "_law_pick") rfl)
  obtain ⟨fd_law_other, F_law_other⟩ := c.def_ 24 (d := Hd.d__law_other) rfl
  have m_law_other := He.glo_ok X G (c.fact 23 (f := .glo "_law_other") rfl)
  obtain ⟨fd_law_instruction, F_law_instruction⟩ := c.def_ 25 (d := Hd.d__law_instruction) rfl
  have m_law_instruction := He.glo_ok X G (c.fact 24 (f := .glo "_law_instruction") rfl)
  obtain ⟨fd_law_flat, F_law_flat⟩ := c.def_ 26 (d := Hd.d__law_flat) rfl
  have m_law_flat := He.glo_ok X G (c.fact 25 (f := .glo "_law_flat") rfl)
  obtain ⟨fd_law_lines, F_law_lines⟩ := c.def_ 27 (d := Hd.d__law_lines) rfl
  have m_law_lines := He.glo_ok X G (c.fact 26 (f := .glo "_law_lines") rfl)
  obtain ⟨fd_law_once, F_law_once⟩ := c.def_ 29 (d := Hd.d__law_once) rfl
  have m_law_once := He.glo_ok X G (c.fact 28 (f := .glo "_law_once") rfl)
  obtain ⟨fd_law_nested_program, F_law_nested_program⟩ := c.def_ 28 (d := Hd.d__law_nested_program) rfl
  have m_law_nested_program := He.glo_ok X G (c.fact 27 (f := .glo "_law_nested_program") rfl)
  obtain ⟨fd_law, F_law⟩ := c.def_ 30 (d := Hd.d_law) rfl
  have m_law := He.glo_ok X G (c.fact 29 (f := .glo "law") rfl)
  have e := hfa.symm.trans m_law
  cases e
  have b := FunD.bindsA (ps := ["_law_script"]) F_law fun _ _ _ _ _ _ us hl => match us, hl with | [_], _ => rfl
  refine ⟨fd_law, fun s v => b s [v] rfl, fun base _ _ => ?_⟩
  have mc_Reader := He.glo_ok X G (c.fact 18 (f := .glo "Reader") rfl)
  have hx := List.all_eq_true.mp (show (Hd.fxs.all fun f => f K) = true from c0.x)
  have sysm : sysB K = true := id (hx _ (List.mem_of_getElem? (i := 0) rfl))
  have cl_Reader : ClA K "Reader" ["prime", "register_count", "counts", "bodies"] := clA_ok (hx _ (List.mem_of_getElem? (i := 1) rfl))
  have mk_Reader : MkA K "Reader" := mkA_ok' (hx _ (List.mem_of_getElem? (i := 2) rfl))
  have me_Reader_take : MeA K "Reader" "Reader" "take" := meA_ok (hx _ (List.mem_of_getElem? (i := 3) rfl))
  have me_Reader_take_instruction : MeA K "Reader" "Reader" "take_instruction" := meA_ok (hx _ (List.mem_of_getElem? (i := 4) rfl))
  have mf : Mf P w K mg base := ⟨mc_Reader, sysm, cl_Reader, mk_Reader, me_Reader_take, me_Reader_take_instruction, He.free_ok X G (c.fact 30 (f := .free "ValueError") rfl), He.free_ok X G (c.fact 31 (f := .free "abs") rfl), He.free_ok X G (c.fact 32 (f := .free "all") rfl), He.free_ok X G (c.fact 33 (f := .free "bool") rfl), He.free_ok X G (c.fact 34 (f := .free "enumerate") rfl), He.free_ok X G (c.fact 35 (f := .free "int") rfl), He.free_ok X G (c.fact 36 (f := .free "isinstance") rfl), He.free_ok X G (c.fact 37 (f := .free "len") rfl), He.free_ok X G (c.fact 38 (f := .free "max") rfl), He.free_ok X G (c.fact 39 (f := .free "min") rfl), He.free_ok X G (c.fact 40 (f := .free "range") rfl), He.free_ok X G (c.fact 41 (f := .free "repr") rfl), He.free_ok X G (c.fact 42 (f := .free "str") rfl), He.free_ok X G (c.fact 43 (f := .free "sum") rfl), He.free_ok X G (c.fact 44 (f := .free "tuple") rfl), He.str_ok X G (c.fact 45 rfl), He.str_ok X G (c.fact 46 rfl), He.str_ok X G (c.fact 47 rfl), He.str_ok X G (c.fact 48 rfl), He.str_ok X G (c.fact 49 rfl), He.str_ok X G (c.fact 50 rfl), He.str_ok X G (c.fact 51 rfl), He.str_ok X G (c.fact 52 rfl), He.int_ok X G (c.fact 53 rfl), He.int_ok X G (c.fact 54 rfl), He.int_ok X G (c.fact 55 rfl), He.int_ok X G (c.fact 56 rfl), He.int_ok X G (c.fact 57 rfl), He.str_ok X G (c.fact 58 rfl), He.str_ok X G (c.fact 59 rfl), He.int_ok X G (c.fact 60 rfl), He.int_ok X G (c.fact 61 rfl), He.int_ok X G (c.fact 62 rfl)⟩
  have D_is_within := ok_is_within (P := P) (w := w) (base := base) mf  m_is_within F_is_within
  have D_are_two := ok_are_two (P := P) (w := w) (base := base) mf D_is_within m_are_two F_are_two
  have D_is_plain := ok_is_plain (P := P) (w := w) (base := base) mf D_is_within D_are_two m_is_plain F_is_plain
  obtain ⟨D_is_body, D_is_instruction⟩ := oks_is_body (P := P) (w := w) (base := base) mf D_is_plain D_is_within m_is_body F_is_body m_is_instruction F_is_instruction 30
  have D_size := ok_size (P := P) (w := w) (base := base) mf  m_size F_size 30
  have D_times := ok_times (P := P) (w := w) (base := base) mf  m_times F_times 30
  have D_read_count := ok_read_count (P := P) (w := w) (base := base) mf D_times m_read_count F_read_count
  have D_write_count := ok_write_count (P := P) (w := w) (base := base) mf D_times m_write_count F_write_count
  have D_is_program := ok_is_program (P := P) (w := w) (base := base) mf D_is_body D_size D_read_count D_write_count m_is_program F_is_program
  have D_show_line := ok_show_line (P := P) (w := w) (base := base) mf  m_show_line F_show_line
  have D_lines_of := ok_lines_of (P := P) (w := w) (base := base) mf D_show_line m_lines_of F_lines_of 30
  have D_show_program := ok_show_program (P := P) (w := w) (base := base) mf D_lines_of m_show_program F_show_program
  have D_number_of := ok_number_of (P := P) (w := w) (base := base) mf  m_number_of F_number_of
  have D_instruction_of := ok_instruction_of (P := P) (w := w) (base := base) mf D_is_program D_number_of m_instruction_of F_instruction_of
  have D_loop_count := ok_loop_count (P := P) (w := w) (base := base) mf D_number_of m_loop_count F_loop_count
  have D_Reader___init__ := ok_Reader___init__ (P := P) (w := w) (base := base) mf  F_Reader___init__
  have D_Reader_take_instruction := ok_Reader_take_instruction (P := P) (w := w) (base := base) mf D_loop_count D_instruction_of F_Reader_take_instruction
  have D_Reader_take := ok_Reader_take (P := P) (w := w) (base := base) mf D_Reader_take_instruction F_Reader_take
  have D_read_program := ok_read_program (P := P) (w := w) (base := base) mf D_Reader___init__ D_is_program D_Reader_take m_read_program F_read_program
  have D_law_digits := ok_law_digits (P := P) (w := w) (base := base) mf  m_law_digits F_law_digits
  have D_law_draw := ok_law_draw (P := P) (w := w) (base := base) mf  m_law_draw F_law_draw
  have D_law_pick := ok_law_pick (P := P) (w := w) (base := base) mf D_law_draw m_law_pick F_law_pick
  have D_law_other := ok_law_other (P := P) (w := w) (base := base) mf D_law_draw m_law_other F_law_other
  have D_law_instruction := ok_law_instruction (P := P) (w := w) (base := base) mf D_law_draw D_law_pick D_law_other m_law_instruction F_law_instruction
  have D_law_flat := ok_law_flat (P := P) (w := w) (base := base) mf  m_law_flat F_law_flat 30
  have D_law_lines := ok_law_lines (P := P) (w := w) (base := base) mf  m_law_lines F_law_lines 30
  have D_law_once := ok_law_once (P := P) (w := w) (base := base) mf  m_law_once F_law_once 30
  have D_law_nested_program := ok_law_nested_program (P := P) (w := w) (base := base) mf D_law_draw D_law_pick D_law_instruction D_law_flat D_law_once m_law_nested_program F_law_nested_program 30
  exact fnG_of (N := N_law) (F := f_law) F_law sc_law fun cv A fr s H E hr gd => (b_law mf D_law_digits D_law_nested_program D_show_program D_law_pick D_law_draw D_law_lines D_read_program D_is_program hr gd).nox
end Fn
set_option Elab.async false
set_option linter.all false
set_option maxRecDepth 100000
set_option maxHeartbeats 0
open PySem PySem.W PySem.Calls PyProof.Rows in
set_option maxRecDepth 100000 in
set_option maxHeartbeats 0 in
theorem Fm.fin (law_true : ∀ ns : List Int, ∃ T, Fn.g_law [Lf.U.scr ns] [] = Lf.R.ok (Lf.U.bl true) T) : PySem.Challenge.rw_leastjournal_k57_programs_written_and_re.Holds := by
  w_on; o_law
  refine HandSHeadRun.head_any (r := OpenLaw.row PySem.Challenge.rw_leastjournal_k57_programs_written_and_re) (q := view (OpenLaw.row PySem.Challenge.rw_leastjournal_k57_programs_written_and_re).prog [53]) (H := Hd.hk) (ob := Hd.ob) (M := Hd.steps) (loose := Hd.loose) (d := HandSHeadRun.topDef (OpenLaw.row PySem.Challenge.rw_leastjournal_k57_programs_written_and_re).prog 53) (kwd := []) Hd.ob_eq
    (by kernel_rfl) (fun s => by kernel_rfl) Hd.run (by kernel_rfl) (by kernel_rfl) (by kernel_rfl) (by rfl) (by first | assumption | decide +kernel) (by decide +kernel) ⟨rfl, rfl, rfl, rfl, rfl, by decide +kernel⟩ ?hw ?hc
  case hw => w_witness2
  case hc =>
    refine Lf.walk_end (l := PySem.Challenge.rw_leastjournal_k57_programs_written_and_re) (n := 63) (k := 62) (x := "_law_script") rfl (by decide) (by kernel_rfl) ⟨rfl, by decide, by decide⟩ ?F
    intro w mg fa h Y G hmg0
    obtain ⟨K, KX, c⟩ := Y
    have hmg : mg ("law" : PySem.Str) = some (.ref fa) := by
      have e : (HandSHeadRun.topDef (OpenLaw.row PySem.Challenge.rw_leastjournal_k57_programs_written_and_re).prog 53).name = ("law" : PySem.Str) := by kernel_rfl
      rw [← e]
      exact hmg0
    obtain ⟨fd, hb, hF⟩ := Fn.facts (P := (PySem.Challenge.rw_leastjournal_k57_programs_written_and_re).prog) (w := w) KX G hmg c
    exact ⟨K, fd, Fn.g_law, KX, hb, fun ns _ => law_true ns, hF⟩
set_option Elab.async false
set_option linter.all false
set_option maxRecDepth 100000
set_option maxHeartbeats 4000000
namespace Aff
open PySem PySem.Spec L2 Lf
structure Row (q : Int) (n : Nat) (xs : List Int) : Prop where
  l : xs.length = n
  b : ∀ x ∈ xs, 0 ≤ x ∧ x < q
def vec (xs : List Int) : Nat → Int := fun i => xs.getD i 0
theorem vec_at {xs : List Int} {i : Nat} {x : Int} (h : xs[i]? = some x) : vec xs i = x := by unfold vec; rw [List.getD_eq_getElem?_getD, h]; rfl
theorem vec_out {xs : List Int} {i : Nat} (h : xs.length ≤ i) : vec xs i = 0 := by unfold vec; rw [List.getD_eq_getElem?_getD, List.getElem?_eq_none h]; rfl
theorem Row.at_ {q : Int} {n : Nat} {xs : List Int} (h : Row q n xs) (hq : 0 < q) (i : Nat) : 0 ≤ vec xs i ∧ vec xs i < q := by
  by_cases hi : i < xs.length
  · rw [vec_at (List.getElem?_eq_getElem hi)]; exact h.b _ (List.getElem_mem hi)
  · rw [vec_out (by omega)]; exact ⟨Int.le_refl _, hq⟩
def addm (q f : Int) (xs ys : List Int) : List Int := List.zipWith (fun a b => (a + f * b) % q) xs ys
def scm (q f : Int) (xs : List Int) : List Int := xs.map fun a => f * a % q
def cst (c : Int) (w : Nat) : List Int := c :: List.replicate (w - 1) 0
structure Rws (q : Int) (n w : Nat) (R : List (List Int)) : Prop where
  l : R.length = n
  r : ∀ x ∈ R, Row q w x
theorem Rws.at_ {q : Int} {n w : Nat} {R : List (List Int)} (h : Rws q n w R) {i : Nat} (hi : i < n) : ∃ x, R[i]? = some x ∧ R.getD i [] = x ∧ Row q w x := by
  have h1 : i < R.length := by rw [h.l]; exact hi
  exact ⟨R[i], List.getElem?_eq_getElem h1, by rw [List.getD_eq_getElem?_getD, List.getElem?_eq_getElem h1]; rfl, h.r _ (List.getElem_mem h1)⟩
theorem Rws.set {q : Int} {n w : Nat} {R : List (List Int)} (h : Rws q n w R) {i : Nat} {x : List Int} (hx : Row q w x) : Rws q n w (R.set i x) := ⟨by rw [List.length_set]; exact h.l, fun y hy => by
  rcases List.mem_or_eq_of_mem_set hy with hy | rfl
  · exact h.r y hy
  · exact hx⟩
def unitR (n : Nat) : List (List Int) := (List.range n).map fun x => 0 :: (List.range n).map fun y => if x = y then 1 else 0
def cv (ps : List (Int × List Int)) (j : Nat) : Int := (ps.map fun p => p.1 * vec p.2 j).sum
def wid (R : List (List Int)) : Nat := (R.headD []).length
def stR (q : Int) (R : List (List Int)) (x : U) : List (List Int) := match x with
  | .tup [.str w, .int a, .int c] =>
    if w = "set" then R.set a.toNat (cst c (wid R))
    else if w = "scale" then R.set a.toNat (scm q c (R.getD a.toNat []))
    else if w = "copy" then R.set a.toNat (R.getD c.toNat [])
    else if w = "swap" then (R.set a.toNat (R.getD c.toNat [])).set c.toNat (R.getD a.toNat [])
    else R
  | .tup [.str _, .int a, .int b, .int c] => R.set a.toNat (addm q c (R.getD a.toNat []) (R.getD b.toNat []))
  | .tup [.str w, .int a] => if w = "read" then ((List.range R.length).map fun y => (if y = a.toNat then cst 0 (wid R) else R.getD y []) ++ [if y = a.toNat then 1 else 0]) else R
  | _ => R
/-- an instruction that is no loop -/
inductive Ins (p : Int) (n : Nat) : U → Prop
  | set {a : Nat} {c : Int} : a < n → 0 ≤ c → c < p → Ins p n (.tup [.str "set", .int a, .int c])
  | scale {a : Nat} {c : Int} : a < n → 0 ≤ c → c < p → Ins p n (.tup [.str "scale", .int a, .int c])
  | copy {a b : Nat} : a < n → b < n → a ≠ b → Ins p n (.tup [.str "copy", .int a, .int b])
  | swap {a b : Nat} : a < n → b < n → a ≠ b → Ins p n (.tup [.str "swap", .int a, .int b])
  | add {a b : Nat} {c : Int} : a < n → b < n → a ≠ b → 1 ≤ c → c < p → Ins p n (.tup [.str "add", .int a, .int b, .int c])
  | read {a : Nat} : a < n → Ins p n (.tup [.str "read", .int a])
  | write {a : Nat} : a < n → Ins p n (.tup [.str "write", .int a])
def isRd (x : U) : Bool := match x with
  | .tup [.str w, .int _] => decide (w = "read")
  | _ => false
def wk (q : Int) (R : List (List Int)) (xs : List U) : List (List Int) := xs.foldl (stR q) R
/-- so many rounds -/
def rnd (k : Nat) (xs : List U) : List U := (List.replicate k xs).flatten
def pw (q : Int) (n : Nat) (xs : List U) (k : Nat) : List (List Int) := wk q (unitR n) (rnd k xs)
end Aff
set_option Elab.async false
set_option linter.all false
set_option maxRecDepth 100000
set_option maxHeartbeats 4000000
namespace Mx
open PySem PySem.Spec L2 Lf Aff
/-- more objects, the old ones as they were -/
structure Kf (T T' : Sto) : Prop where
  le : T.length ≤ T'.length
  kp : ∀ j, j < T.length → T'[j]? = T[j]?
theorem Kf.refl (T : Sto) : Kf T T := ⟨Nat.le_refl _, fun _ _ => rfl⟩
theorem Kf.trans {T T1 T2 : Sto} (a : Kf T T1) (b : Kf T1 T2) : Kf T T2 := ⟨Nat.le_trans a.le b.le, fun j h => (b.kp j (Nat.lt_of_lt_of_le h a.le)).trans (a.kp j h)⟩
theorem Kf.add (T l : Sto) : Kf T (T ++ l) := ⟨by rw [List.length_append]; exact Nat.le_add_right _ _, fun j h => List.getElem?_append_left h⟩
theorem Kf.set {T T1 : Sto} (a : Kf T T1) {k : Nat} {o : O} (h : T.length ≤ k) : Kf T (T1.set k o) := ⟨by rw [List.length_set]; exact a.le, fun j hj => by rw [List.getElem?_set_ne (by omega)]; exact a.kp j hj⟩
theorem Kf.at_ {T T' : Sto} (a : Kf T T') {j : Nat} {o : O} (h : T[j]? = some o) : T'[j]? = some o := (a.kp j (lt_at h)).trans h
theorem ap {T l : Sto} {k : Nat} {o : O} (h : T[k]? = some o) : (T ++ l)[k]? = some o := by rw [List.getElem?_append_left (lt_at h)]; exact h
theorem ap0 {T : Sto} {o : O} : (T ++ [o])[T.length]? = some o := by rw [List.getElem?_append_right (Nat.le_refl _), Nat.sub_self]; rfl
theorem take_snoc {α : Type} {l : List α} {i : Nat} {x : α} (h : l[i]? = some x) : l.take (i + 1) = l.take i ++ [x] := by rw [List.take_add_one, h]; rfl
theorem rgU_at {n i : Nat} {x : U} (h : (rgU 0 n)[i]? = some x) : i < n ∧ x = .int (i : Nat) := by
  have h1 := (List.getElem?_eq_some_iff.mp h).1
  rw [rgU_len] at h1
  refine ⟨h1, ?_⟩
  unfold rgU at h
  rw [List.getElem?_map] at h
  obtain ⟨j, hj, rfl⟩ := Option.map_eq_some_iff.mp h
  rw [range_at hj, Int.zero_add]
def rowU (xs : List Int) : U := .tup (xs.map .int)
def rwsU (R : List (List Int)) : List U := R.map rowU
theorem atI_nat {xs : List U} {i : Nat} {u : U} (h : xs[i]? = some u) : atI xs (i : Int) = some u := by
  have hi := (List.getElem?_eq_some_iff.mp h).1
  unfold atI ixN
  rw [if_pos (Int.natCast_nonneg i), if_pos (by omega)]
  simpa using h
end Mx
set_option Elab.async false
set_option linter.all false
set_option maxRecDepth 100000
set_option maxHeartbeats 4000000
set_option Elab.async false
set_option linter.all false
set_option maxRecDepth 100000
set_option maxHeartbeats 4000000
namespace Mx
open PySem PySem.Spec L2 Lf Aff
inductive Lab
  | fre
  | blk (prog : List U) (d ki kp : Nat)
  | itm (us : List U)
  | pow (body : List U)
  | mat (R : List (List Int))
def nRd (xs : List U) : Nat := (xs.filter isRd).length
def isWr (x : U) : Bool := match x with
  | .tup [.str w, .int _] => decide (w = "write")
  | _ => false
def nWr (xs : List U) : Nat := (xs.filter isWr).length
/-- programs, d loops deep at most -/
def Pg (q : Int) (n : Nat) : Nat → List U → Prop
  | 0, xs => xs.length ≤ 100000 ∧ ∀ x ∈ xs, Ins q n x
  | d + 1, xs => xs.length ≤ 100000 ∧ ∀ x ∈ xs, Ins q n x ∨ ∃ (k : Nat) (b : List U), x = lpU k b ∧ k ≤ 1000000000000000000 ∧ Pg q n d b
theorem Pg.len {q : Int} {n : Nat} : ∀ {d : Nat} {xs : List U}, Pg q n d xs → xs.length ≤ 100000
  | 0, _, h => h.1
  | _ + 1, _, h => h.1
theorem Pg.item {q : Int} {n d : Nat} {xs : List U} (h : Pg q n d xs) {x : U} (hx : x ∈ xs) : Ins q n x ∨ ∃ (d' k : Nat) (b : List U), d = d' + 1 ∧ x = lpU k b ∧ k ≤ 1000000000000000000 ∧ Pg q n d' b := by
  cases d with
  | zero => exact .inl (h.2 x hx)
  | succ d =>
    rcases h.2 x hx with h | ⟨k, b, e, h1, h2⟩
    · exact .inl h
    · exact .inr ⟨d, k, b, rfl, e, h1, h2⟩
theorem ins_lp {q : Int} {n : Nat} {x : U} (h : Ins q n x) : lpOf x = none := by
  cases h <;> rfl
theorem ins_flt {q : Int} {n d : Nat} {x : U} (h : Ins q n x) : Lf.flt d [x] = [x] := by
  cases d with
  | zero => rfl
  | succ d =>
    show List.flatMap _ [x] = _
    rw [List.flatMap_cons, ins_lp h]
    rfl
theorem flt_all {q : Int} {n : Nat} : ∀ {d : Nat} {xs : List U}, Pg q n d xs → ∀ x ∈ Lf.flt d xs, Ins q n x
  | 0, xs, h, x, hx => h.2 x hx
  | d + 1, xs, h, x, hx => by
    obtain ⟨y, hy, hx⟩ := List.mem_flatMap.mp (show x ∈ xs.flatMap _ from hx)
    rcases h.2 y hy with h1 | ⟨k, b, rfl, _, h2⟩
    · rw [ins_lp h1] at hx
      rw [List.mem_singleton.mp hx]; exact h1
    · rw [lpOf_lpU] at hx
      obtain ⟨l, hl, hx⟩ := List.mem_flatten.mp hx
      rw [(List.mem_replicate.mp hl).2] at hx
      exact flt_all h2 x hx
def blkF (d : Nat) (prog : List U) (ki kp : Nat) (mp : U) : List (Str × U) :=
  [("block_items", .ob ki), ("block_steps", .int ((flt d prog).length : Nat)), ("block_reads", .int (nRd (flt d prog) : Nat)), ("block_writes", .int (nWr (flt d prog) : Nat)), ("block_map", mp), ("block_powers", .ob kp)]
/-- the items of a block: instructions, each with its body's block -/
def Itm (q : Int) (n : Nat) (lab : Nat → Lab) (d : Nat) (prog us : List U) : Prop :=
  us.length = prog.length ∧ ∀ (i : Nat) (x : U), prog[i]? = some x → (Ins q n x ∧ us[i]? = some (.tup [x, .non])) ∨
    ∃ (d' k : Nat) (b : List U) (kb ki kp : Nat), d = d' + 1 ∧ x = lpU k b ∧ k ≤ 1000000000000000000 ∧ Pg q n d' b ∧ us[i]? = some (.tup [x, .ob kb]) ∧ lab kb = .blk b d' ki kp
def LabOk (q : Int) (n N : Nat) (lab : Nat → Lab) (T : Sto) (k : Nat) : Prop := match lab k with
  | .fre => True
  | .blk prog d ki kp => Pg q n d prog ∧ ∃ mp us, T[k]? = some (.ins "Block" (blkF d prog ki kp mp)) ∧ lab ki = .itm us ∧ Itm q n lab d prog us ∧ lab kp = .pow (flt d prog) ∧ (mp = .non ∨ ∃ km, mp = .ob km ∧ lab km = .mat (pw q n (flt d prog) 1))
  | .itm us => T[k]? = some (.lst us)
  | .pow body => ∃ kvs, T[k]? = some (.dic kvs) ∧ isK kvs = true ∧ kvs.length ≤ N ∧ ∀ (r : Int) (u : U), lkK kvs (.inl r) = some u → 0 ≤ r ∧ ∃ kr, u = .ob kr ∧ lab kr = .mat (pw q n body r.toNat)
  | .mat R => T[k]? = some (.lst (rwsU R))
structure GI (q : Int) (n N : Nat) (lab : Nat → Lab) (T : Sto) : Prop where
  ok : ∀ k, LabOk q n N lab T k
  lt : ∀ k, lab k ≠ .fre → k < T.length
/-- the objects with labels are as they were -/
theorem GI.of {q : Int} {n N M : Nat} {lab : Nat → Lab} {T T' : Sto} (h : GI q n N lab T) (hl : T.length ≤ T'.length) (hM : N ≤ M) (hk : ∀ j, lab j ≠ .fre → T'[j]? = T[j]?) : GI q n M lab T' := by
  refine ⟨fun k => ?_, fun k hk => Nat.lt_of_lt_of_le (h.lt k hk) hl⟩
  have := h.ok k
  have hkk := hk k
  unfold LabOk at this ⊢
  cases e : lab k with
  | fre => trivial
  | blk prog d ki kp =>
    rw [e] at this hkk
    obtain ⟨h0, mp, us, h1, h2⟩ := this
    exact ⟨h0, mp, us, by rw [hkk (fun z => nomatch z)]; exact h1, h2⟩
  | itm us =>
    rw [e] at this hkk
    show T'[k]? = _
    rw [hkk (fun z => nomatch z)]; exact this
  | pow body =>
    rw [e] at this hkk
    obtain ⟨kvs, h1, h2, h3, h4⟩ := this
    exact ⟨kvs, by rw [hkk (fun z => nomatch z)]; exact h1, h2, Nat.le_trans h3 hM, h4⟩
  | mat R =>
    rw [e] at this hkk
    show T'[k]? = _
    rw [hkk (fun z => nomatch z)]; exact this
theorem GI.app {q : Int} {n N : Nat} {lab : Nat → Lab} {T l : Sto} (h : GI q n N lab T) : GI q n N lab (T ++ l) :=
  h.of (by rw [List.length_append]; exact Nat.le_add_right _ _) (Nat.le_refl _) fun j hj => List.getElem?_append_left (h.lt j hj)
theorem GI.set {q : Int} {n N : Nat} {lab : Nat → Lab} {T : Sto} (h : GI q n N lab T) {k : Nat} {o : O} (hk : lab k = .fre) : GI q n N lab (T.set k o) :=
  h.of (by rw [List.length_set]; exact Nat.le_refl _) (Nat.le_refl _) fun j hj => List.getElem?_set_ne fun z => hj (by rw [← z]; exact hk)
theorem GI.kf {q : Int} {n N : Nat} {lab : Nat → Lab} {T T' : Sto} (h : GI q n N lab T) (K : Kf T T') : GI q n N lab T' :=
  h.of K.le (Nat.le_refl _) fun j hj => K.kp j (h.lt j hj)
/-- a run of things: labels are kept, new ones stand on new objects (or on those of W); what has none stays, but for W -/
structure Gx (W : Nat → Prop) (lab : Nat → Lab) (T : Sto) (lab' : Nat → Lab) (T' : Sto) : Prop where
  ext : ∀ k, lab k ≠ .fre → lab' k = lab k
  new : ∀ k, k < T.length → lab k = .fre → ¬ W k → lab' k = .fre
  le : T.length ≤ T'.length
  kp : ∀ k, k < T.length → lab k = .fre → ¬ W k → T'[k]? = T[k]?
theorem Gx.refl {W : Nat → Prop} {lab : Nat → Lab} {T : Sto} : Gx W lab T lab T := ⟨fun _ _ => rfl, fun _ _ h _ => h, Nat.le_refl _, fun _ _ _ _ => rfl⟩
theorem Gx.trans {W : Nat → Prop} {lab lab1 lab2 : Nat → Lab} {T T1 T2 : Sto} (a : Gx W lab T lab1 T1) (b : Gx W lab1 T1 lab2 T2) : Gx W lab T lab2 T2 :=
  ⟨fun k h => (b.ext k (by rw [a.ext k h]; exact h)).trans (a.ext k h), fun k h1 h2 h3 => b.new k (Nat.lt_of_lt_of_le h1 a.le) (a.new k h1 h2 h3) h3, Nat.le_trans a.le b.le,
    fun k h1 h2 h3 => (b.kp k (Nat.lt_of_lt_of_le h1 a.le) (a.new k h1 h2 h3) h3).trans (a.kp k h1 h2 h3)⟩
theorem Gx.mono {W W' : Nat → Prop} {lab lab' : Nat → Lab} {T T' : Sto} (a : Gx W lab T lab' T') (h : ∀ k, k < T.length → W k → W' k) : Gx W' lab T lab' T' := ⟨a.ext, fun k h1 h2 h3 => a.new k h1 h2 fun z => h3 (h k h1 z), a.le, fun k h1 h2 h3 => a.kp k h1 h2 fun z => h3 (h k h1 z)⟩
theorem Gx.ofKf {W : Nat → Prop} {lab : Nat → Lab} {T T' : Sto} (K : Kf T T') : Gx W lab T lab T' := ⟨fun _ _ => rfl, fun _ _ h _ => h, K.le, fun k h _ _ => K.kp k h⟩
theorem Gx.set {W : Nat → Prop} {lab lab' : Nat → Lab} {T T' : Sto} (a : Gx W lab T lab' T') {k : Nat} {o : O} (h : k < T.length → W k) : Gx W lab T lab' (T'.set k o) :=
  ⟨a.ext, a.new, by rw [List.length_set]; exact a.le, fun j h1 h2 h3 => by
    rw [List.getElem?_set_ne fun z => h3 (by rw [← z]; exact h (by rw [z]; exact h1))]; exact a.kp j h1 h2 h3⟩
theorem Gx.app {W : Nat → Prop} {lab lab' : Nat → Lab} {T T' l : Sto} (a : Gx W lab T lab' T') : Gx W lab T lab' (T' ++ l) := a.trans (.ofKf (.add _ _))
theorem Gx.at_ {W : Nat → Prop} {lab lab' : Nat → Lab} {T T' : Sto} (a : Gx W lab T lab' T') {k : Nat} {o : O} (h : T[k]? = some o) (h2 : lab k = .fre) (h3 : ¬ W k) : T'[k]? = some o := (a.kp k (lt_at h) h2 h3).trans h
theorem Gx.fr {W : Nat → Prop} {lab lab' : Nat → Lab} {T T' : Sto} (a : Gx W lab T lab' T') {k : Nat} {o : O} (h : T[k]? = some o) (h2 : lab k = .fre) (h3 : ¬ W k) : lab' k = .fre := a.new k (lt_at h) h2 h3
theorem Itm.ext {q : Int} {n d : Nat} {lab lab' : Nat → Lab} {prog us : List U} (h : Itm q n lab d prog us) (e : ∀ k, lab k ≠ .fre → lab' k = lab k) : Itm q n lab' d prog us := by
  refine ⟨h.1, fun i x hx => ?_⟩
  rcases h.2 i x hx with h1 | ⟨d', k, b, kb, ki, kp, h1, h2, h3, h4, h5, h6⟩
  · exact .inl h1
  · exact .inr ⟨d', k, b, kb, ki, kp, h1, h2, h3, h4, h5, by rw [e kb (by rw [h6]; exact fun z => nomatch z)]; exact h6⟩
end Mx
set_option Elab.async false
set_option linter.all false
set_option maxRecDepth 100000
set_option maxHeartbeats 4000000
namespace Mx
open PySem PySem.Spec L2 Lf Aff TL
def ind (l : Nat) : Str := ⟨(List.replicate (2 * l) 32).toArray⟩
theorem tl_ind (l : Nat) : tl (ind l) = List.replicate (2 * l) 32 := rfl
theorem tl_sp2 : tl ("  " : Str) = [32, 32] := by decide +kernel
theorem tl_sp : tl (" " : Str) = [32] := by decide +kernel
theorem tl_nl : tl ("\n" : Str) = [10] := by decide +kernel
theorem tl_cl : tl ("}" : Str) = [125] := by decide +kernel
theorem rep_fold (a : Array Nat) : ∀ (n : Nat) (acc : Array Nat), ((List.replicate n a).foldl (· ++ ·) acc).toList = acc.toList ++ (List.replicate n a.toList).flatten
  | 0, acc => by simp
  | n + 1, acc => by rw [List.replicate_succ, List.foldl_cons, rep_fold a n, Array.toList_append, List.replicate_succ, List.flatten_cons, List.append_assoc]
theorem rep2 : ∀ n : Nat, (List.replicate n [32, 32]).flatten = List.replicate (2 * n) 32
  | 0 => rfl
  | n + 1 => by rw [List.replicate_succ, List.flatten_cons, rep2 n, show 2 * (n + 1) = 2 * n + 1 + 1 by omega, List.replicate_succ, List.replicate_succ]; rfl
theorem strRep_sp (l : Nat) : strRep "  " (l : Int) = ind l := by
  apply ext_tl
  show ((List.replicate (l : Int).toNat ("  " : Str).cps).foldl (· ++ ·) #[]).toList = _
  rw [rep_fold, Int.toNat_natCast, show ("  " : Str).cps.toList = [32, 32] from tl_sp2, rep2, tl_ind]
  rfl
theorem ind_len (l : Nat) : (ind l).length = 2 * l := by rw [len_tl, tl_ind, List.length_replicate]
theorem v_ind {l : Nat} (hl : l ≤ 1000) {T : Sto} {Q : U → Sto → Prop} (q : Q (.str (ind l)) T) : Wp (gMul (.str "  ") (.int (l : Nat)) T) Q := by
  have h2 : ("  " : Str).length = 2 := by decide +kernel
  have e : (if (l : Int) < 1 then Str.empty else if ((l : Int) == 1 || ("  " : Str).length == 0) = true then ("  " : Str) else strRep "  " (l : Int)) = ind l := by
    rw [h2]
    split
    · have : l = 0 := by omega
      subst this; rfl
    · split
      · rename_i h
        have : l = 1 := by
          rw [show ((2 : Nat) == 0) = false from rfl, Bool.or_false, beq_iff_eq] at h
          omega
        subst this
        exact ext_tl (by rw [tl_sp2]; rfl)
      · exact strRep_sp l
  unfold gMul
  simp only
  rw [if_pos ⟨by omega, by omega, by rw [h2]; decide, by rw [strRep_sp, ind_len]; omega, by rw [h2, Int.toNat_natCast]; omega⟩, e]
  exact .ok q
theorem cut_lo (l : Nat) (s : Str) : cutS (ind l ++ s) none (some (2 * (l : Int))) = ind l := by
  apply ext_tl
  rw [show 2 * (l : Int) = ((2 * l : Nat) : Int) by omega]
  show ((tl (ind l ++ s)).drop 0).take (HT.sIx (ind l ++ s).length (ind l ++ s).length (some ((2 * l : Nat) : Int)) - 0) = _
  rw [HT.sIx_nat, len_tl, tl_append, tl_ind, List.drop_zero, Nat.sub_zero, List.length_append, List.length_replicate, Nat.min_eq_left (Nat.le_add_right ..)]
  exact List.take_left' (List.length_replicate ..)
theorem cut_hi (l : Nat) (s : Str) : cutS (ind l ++ s) (some (2 * (l : Int))) none = s := by
  apply ext_tl
  rw [show 2 * (l : Int) = ((2 * l : Nat) : Int) by omega]
  show ((tl (ind l ++ s)).drop (HT.sIx (ind l ++ s).length 0 (some ((2 * l : Nat) : Int)))).take ((ind l ++ s).length - HT.sIx (ind l ++ s).length 0 (some ((2 * l : Nat) : Int))) = _
  rw [HT.sIx_nat, len_tl, tl_append, tl_ind, List.length_append, List.length_replicate, Nat.min_eq_left (Nat.le_add_right ..), List.drop_left' (List.length_replicate ..), Nat.add_sub_cancel_left, List.take_length]
theorem not_close (l : Nat) (s : Str) : ind (l + 1) ++ s ≠ ind l ++ "}" := fun h => by
  have h := congrArg tl h
  rw [tl_append, tl_append, tl_ind, tl_ind, tl_cl, show 2 * (l + 1) = 2 * l + 2 by omega, ← List.replicate_append_replicate, List.append_assoc] at h
  have h := List.append_cancel_left h
  cases h
def num (k : Nat) : Str := Str.ofString (toString ((k : Nat) : Int))
theorem tl_num' (k : Nat) : tl (num k) = numL k := tl_num k
theorem num_len {k : Nat} (h : k ≤ 1000000000000000000) : (num k).length ≤ 19 := by
  rw [len_tl, tl_num']
  exact numL_len (by decide) (Nat.lt_of_le_of_lt h (by decide))
theorem num_ne (k : Nat) : num k ≠ "" := fun h => numL_ne k (by rw [← tl_num', h]; rfl)
theorem num_free {k s : Nat} (h : s < 48 ∨ 57 < s) : s ∉ tl (num k) := by rw [tl_num']; exact numL_free h
theorem numL_zero (k : Nat) : (numL k).head? = some 48 → (numL k).length ≤ 1 := by
    induction k using Nat.strongRecOn with
    | _ k ih =>
      intro h
      by_cases hk : k < 10
      · rw [numL_lt hk]; exact Nat.le_refl _
      · rw [numL_step (by omega)] at h
        have h1 : (numL (k / 10)).head? = some 48 := by
          cases e : numL (k / 10) with
          | nil => exact absurd e (numL_ne _)
          | cons a r => rw [e] at h; exact h
        have h2 := ih (k / 10) (by omega) h1
        have h3 : numL (k / 10) = [48] := by
          cases e : numL (k / 10) with
          | nil => exact absurd e (numL_ne _)
          | cons a r =>
            rw [e] at h1 h2
            cases h1
            cases r with
            | nil => rfl
            | cons b r => simp at h2
        have h4 := numL_inj (h3.trans (numL_lt (n := 0) (by decide)).symm)
        omega
theorem num_head (k : Nat) : ∃ c r, tl (num k) = c :: r ∧ (c = 48 → r = []) ∧ ∀ z ∈ c :: r, 48 ≤ z ∧ z ≤ 57 := by
  rw [tl_num']
  cases e : numL k with
  | nil => exact absurd e (numL_ne k)
  | cons c r =>
    refine ⟨c, r, rfl, fun h => ?_, fun z hz => ?_⟩
    · have := numL_zero k (by rw [e, h]; rfl)
      rw [e] at this
      cases r with
      | nil => rfl
      | cons b r => simp at this
    · have := numL_digits k z (by rw [e]; exact hz)
      omega
theorem num_lg {k : Nat} (h : k ≤ 1000000000000000000) : ((k : Nat) : Int).natAbs.log2 < 1920 := by
  rw [Int.natAbs_natCast]
  by_cases h0 : k = 0
  · rw [h0]; decide
  · exact (Nat.log2_lt h0).mpr (Nat.lt_of_le_of_lt h (by decide +kernel))
theorem dig_in {z : Nat} (h1 : 48 ≤ z) (h2 : z ≤ 57) : strIn ⟨#[z]⟩ "0123456789" = true := by
  unfold strIn
  rw [StrLaws.found_one]
  have : ∀ z : Nat, 48 ≤ z → z ≤ 57 → z ∈ ([48, 49, 50, 51, 52, 53, 54, 55, 56, 57] : List Nat) := fun z _ _ => by simp; omega
  rw [show ("0123456789" : Str).cps.toList = [48, 49, 50, 51, 52, 53, 54, 55, 56, 57] by decide +kernel]
  exact decide_eq_true (this z h1 h2)
def prt : U → Str
  | .str w => w
  | .int i => Str.ofString (toString i)
  | _ => Str.empty
def opS : U → Str
  | .tup us => Txt.join " " (us.map prt)
  | _ => Str.empty
def lpS (k : Nat) : Str := Txt.join " " ["loop", num k, "{"]
theorem lp_eq (k : Nat) : ("loop " : Str) ++ num k ++ " {" = lpS k := by
  apply ext_tl
  unfold lpS
  rw [join_eq, tl_join, tl_append, tl_append]
  show _ = tl ("loop" : Str) ++ (tl (" " : Str) ++ (tl (num k) ++ (tl (" " : Str) ++ tl ("{" : Str))))
  rw [show tl ("loop " : Str) = tl ("loop" : Str) ++ tl (" " : Str) by decide +kernel, show tl (" {" : Str) = tl (" " : Str) ++ tl ("{" : Str) by decide +kernel]
  simp only [List.append_assoc]
/-- what an instruction is -/
theorem ins_shape {q : Int} (hq : q ≤ 10007) {n : Nat} (hn : n ≤ 900) {x : U} (h : Ins q n x) : ∃ (w : Str) (is : List Nat), x = .tup (.str w :: is.map fun i : Nat => U.int i) ∧ w ∈ words7 ∧ 1 ≤ is.length ∧ is.length ≤ 3 ∧ ∀ i ∈ is, i ≤ 100000 := by
  have two : ∀ {a b : Nat}, a ≤ 100000 → b ≤ 100000 → ∀ i ∈ [a, b], i ≤ 100000 := fun {a b} h1 h2 i hi => by simp only [List.mem_cons, List.not_mem_nil, or_false] at hi; rcases hi with rfl | rfl <;> assumption
  cases h with
  | @set a c h1 h2 h3 => obtain ⟨c, rfl⟩ := Int.eq_ofNat_of_zero_le h2; exact ⟨"set", [a, c], rfl, by decide +kernel, by simp, by simp, two (by omega) (by omega)⟩
  | @scale a c h1 h2 h3 => obtain ⟨c, rfl⟩ := Int.eq_ofNat_of_zero_le h2; exact ⟨"scale", [a, c], rfl, by decide +kernel, by simp, by simp, two (by omega) (by omega)⟩
  | @copy a b h1 h2 h3 => exact ⟨"copy", [a, b], rfl, by decide +kernel, by simp, by simp, two (by omega) (by omega)⟩
  | @swap a b h1 h2 h3 => exact ⟨"swap", [a, b], rfl, by decide +kernel, by simp, by simp, two (by omega) (by omega)⟩
  | @add a b c h1 h2 h3 h4 h5 =>
    obtain ⟨c, rfl⟩ := Int.eq_ofNat_of_zero_le (show 0 ≤ c by omega)
    exact ⟨"add", [a, b, c], rfl, by decide +kernel, by simp, by simp, fun i hi => by simp only [List.mem_cons, List.not_mem_nil, or_false] at hi; rcases hi with rfl | rfl | rfl <;> omega⟩
  | @read a h1 => exact ⟨"read", [a], rfl, by decide +kernel, by simp, by simp, fun i hi => by simp only [List.mem_cons, List.not_mem_nil, or_false] at hi; omega⟩
  | @write a h1 => exact ⟨"write", [a], rfl, by decide +kernel, by simp, by simp, fun i hi => by simp only [List.mem_cons, List.not_mem_nil, or_false] at hi; omega⟩
theorem opS_of (w : Str) (is : List Nat) : opS (.tup (.str w :: is.map fun i : Nat => U.int i)) = Txt.join " " (w :: is.map num) := by
  show Txt.join " " ((U.str w :: is.map fun i : Nat => U.int i).map prt) = _
  rw [List.map_cons, List.map_map]
  rfl
theorem w7_free : ∀ w ∈ words7, 32 ∉ tl w ∧ 10 ∉ tl w ∧ w.length ≤ 5 ∧ w ≠ "loop" ∧ tl w ≠ [] := by decide +kernel
theorem sp_all : (" " : Str).cps.all (· < 256) = true := by decide +kernel
theorem nl_all : ("\n" : Str).cps.all (· < 256) = true := by decide +kernel
theorem split_op {w : Str} (hw : w ∈ words7) (is : List Nat) : Txt.split (Txt.join " " (w :: is.map num)) " " = w :: is.map num := by
  refine split_join (S := []) tl_sp sp_all (by simp) fun p hp => ?_
  rcases List.mem_cons.mp hp with rfl | hp
  · exact (w7_free _ hw).1
  · obtain ⟨i, _, rfl⟩ := List.mem_map.mp hp
    exact num_free (.inl (by decide))
theorem split_lp (k : Nat) : Txt.split (lpS k) " " = [("loop" : Str), num k, "{"] := by
  refine split_join (S := []) tl_sp sp_all (by simp) fun p hp => ?_
  simp only [List.mem_cons, List.not_mem_nil, or_false] at hp
  rcases hp with rfl | rfl | rfl
  · decide +kernel
  · exact num_free (.inl (by decide))
  · decide +kernel
/-- a line: no end of line in it, not long -/
structure LnOk (s : Str) : Prop where
  f : 10 ∉ tl s
  l : s.length ≤ 100
  n : tl s ≠ []
theorem lpS_len {k : Nat} (h : k ≤ 1000000000000000000) : (lpS k).length ≤ 30 := by
  have := num_len h
  unfold lpS
  rw [len_tl, join_eq, tl_join]
  show (tl ("loop" : Str) ++ (tl (" " : Str) ++ (tl (num k) ++ (tl (" " : Str) ++ tl ("{" : Str))))).length ≤ 30
  simp only [List.length_append, ← len_tl]
  have h1 : ("loop" : Str).length = 4 := by decide +kernel
  have h2 : (" " : Str).length = 1 := by decide +kernel
  have h3 : ("{" : Str).length = 1 := by decide +kernel
  omega
theorem lpS_free (k : Nat) : 10 ∉ tl (lpS k) := by
  unfold lpS
  rw [join_eq, tl_join]
  show 10 ∉ tl ("loop" : Str) ++ (tl (" " : Str) ++ (tl (num k) ++ (tl (" " : Str) ++ tl ("{" : Str))))
  have h1 : 10 ∉ tl ("loop" : Str) := by decide +kernel
  have h2 : 10 ∉ tl (" " : Str) := by decide +kernel
  have h3 : 10 ∉ tl ("{" : Str) := by decide +kernel
  have h4 : 10 ∉ tl (num k) := num_free (.inl (by decide))
  simp only [List.mem_append, not_or]
  exact ⟨h1, h2, h4, h2, h3⟩
theorem joinL_free {s : Nat} {S : List Nat} (hS : s ∉ S) : ∀ {ps : List (List Nat)}, (∀ p ∈ ps, s ∉ p) → s ∉ joinL S ps
  | [], _ => List.not_mem_nil
  | [p], h => h p (List.mem_cons_self ..)
  | p :: q :: r, h => by
    show s ∉ p ++ (S ++ joinL S (q :: r))
    rw [List.mem_append, List.mem_append, not_or, not_or]
    exact ⟨h p (List.mem_cons_self ..), hS, joinL_free hS fun z hz => h z (List.mem_cons_of_mem _ hz)⟩
theorem joinL_len {S : List Nat} {M : Nat} : ∀ {ps : List (List Nat)}, (∀ p ∈ ps, p.length ≤ M) → (joinL S ps).length ≤ ps.length * (M + S.length)
  | [], _ => Nat.zero_le _
  | [p], h => by
    have := h p (List.mem_cons_self ..)
    show p.length ≤ 1 * (M + S.length)
    omega
  | p :: q :: r, h => by
    have h1 := h p (List.mem_cons_self ..)
    have h2 := joinL_len (S := S) (ps := q :: r) fun z hz => h z (List.mem_cons_of_mem _ hz)
    show (p ++ (S ++ joinL S (q :: r))).length ≤ ((q :: r).length + 1) * (M + S.length)
    rw [List.length_append, List.length_append, Nat.succ_mul]
    omega
theorem opS_ok {w : Str} (hw : w ∈ words7) {is : List Nat} (hl : is.length ≤ 3) (hi : ∀ i ∈ is, i ≤ 100000) : 10 ∉ tl (Txt.join " " (w :: is.map num)) ∧ (Txt.join " " (w :: is.map num)).length ≤ 80 := by
  obtain ⟨_, h2, h3, _⟩ := w7_free w hw
  rw [len_tl, join_eq, tl_join, tl_sp]
  refine ⟨joinL_free (by decide) fun p hp => ?_, ?_⟩
  · obtain ⟨z, hz, rfl⟩ := List.mem_map.mp hp
    rcases List.mem_cons.mp hz with rfl | hz
    · exact h2
    · obtain ⟨i, _, rfl⟩ := List.mem_map.mp hz
      exact num_free (.inl (by decide))
  · refine Nat.le_trans (joinL_len (M := 19) fun p hp => ?_) ?_
    · obtain ⟨z, hz, rfl⟩ := List.mem_map.mp hp
      rw [← len_tl]
      rcases List.mem_cons.mp hz with rfl | hz
      · omega
      · obtain ⟨i, hi2, rfl⟩ := List.mem_map.mp hz
        have := hi i hi2
        exact num_len (by omega)
    · rw [List.length_map, List.length_cons, List.length_map]
      show (is.length + 1) * (19 + 1) ≤ 80
      omega
theorem LnOk.of {l : Nat} (hl : l ≤ 5) {s : Str} (h1 : 10 ∉ tl s) (h2 : s.length ≤ 80) (h3 : tl s ≠ []) : LnOk (ind l ++ s) := by
  refine ⟨?_, ?_, ?_⟩
  · rw [tl_append, tl_ind, List.mem_append, not_or]
    exact ⟨fun h => by have := (List.mem_replicate.mp h).2; omega, h1⟩
  · have := ind_len l
    rw [len_tl, tl_append, List.length_append, ← len_tl, ← len_tl]
    omega
  · rw [tl_append]
    exact fun h => h3 (List.append_eq_nil_iff.mp h).2
theorem lpS_ne (k : Nat) : tl (lpS k) ≠ [] := by
  unfold lpS
  rw [join_eq, tl_join]
  show tl ("loop" : Str) ++ _ ≠ []
  exact fun h => absurd (List.append_eq_nil_iff.mp h).1 (by decide +kernel)
theorem op_ne {w : Str} (hw : w ∈ words7) (is : List Nat) : tl (Txt.join " " (w :: is.map num)) ≠ [] := by
  rw [join_eq, tl_join, List.map_cons]
  have := (w7_free w hw).2.2.2.2
  cases e : (is.map num).map tl with
  | nil => exact this
  | cons a r => exact fun h => this (List.append_eq_nil_iff.mp h).1
def lns : Nat → Nat → List U → List Str
  | 0, l, xs => xs.map fun x => ind l ++ opS x
  | d + 1, l, xs => xs.flatMap fun x => match lpOf x with
    | some (k, b) => (ind l ++ lpS k.toNat) :: (lns d (l + 1) b ++ [ind l ++ "}"])
    | none => [ind l ++ opS x]
theorem lns_nil (d l : Nat) : lns d l [] = [] := by cases d <;> rfl
theorem lns_app (d l : Nat) (xs ys : List U) : lns d l (xs ++ ys) = lns d l xs ++ lns d l ys := by
  cases d with
  | zero => exact List.map_append
  | succ d => exact List.flatMap_append
theorem lns_ins {q : Int} {n : Nat} {d l : Nat} {x : U} (h : Ins q n x) : lns d l [x] = [ind l ++ opS x] := by
  cases d with
  | zero => rfl
  | succ d =>
    show List.flatMap _ [x] = _
    rw [List.flatMap_cons, ins_lp h]
    rfl
theorem lns_lp {d l k : Nat} {b : List U} : lns (d + 1) l [lpU k b] = (ind l ++ lpS k) :: (lns d (l + 1) b ++ [ind l ++ "}"]) := by
  show List.flatMap _ [lpU k b] = _
  rw [List.flatMap_cons, lpOf_lpU]
  show ((ind l ++ lpS (k : Int).toNat) :: (lns d (l + 1) b ++ [ind l ++ "}"])) ++ [] = _
  rw [List.append_nil, Int.toNat_natCast]
end Mx
local macro_rules | `(tactic| infer_instance) => `(tactic| ((with_reducible refine Lf.v_rg1 ?_ ?_); exact Lf.small62_of (by omega) (by omega)))
local macro_rules | `(tactic| infer_instance) => `(tactic| ((with_reducible refine Lf.kP_tup ?_ ?_); first | exact rfl | exact Lf.nrs_ints _ | assumption | fail))
local macro_rules | `(tactic| infer_instance) => `(tactic| ((with_reducible refine Lf.v_non ?_ ?_); (first | (with_reducible rfl) | assumption | (exact fun z => z rfl) | decide +kernel | omega | fail)))
local macro_rules | `(tactic| infer_instance) => `(tactic| ((with_reducible refine Lf.v_yesn ?_ ?_); (first | (with_reducible rfl) | assumption | (exact fun z => z rfl) | decide +kernel | omega | fail)))
local macro_rules | `(tactic| infer_instance) => `(tactic| ((with_reducible refine Lf.v_nod ?_ ?_); (first | (with_reducible rfl) | assumption | (exact fun z => z rfl) | decide +kernel | omega | fail)))
local macro_rules | `(tactic| infer_instance) => `(tactic| ((with_reducible refine Lf.v_yesd ?_ ?_); (first | (with_reducible rfl) | assumption | (exact fun z => z rfl) | decide +kernel | omega | fail)))
local macro_rules | `(tactic| infer_instance) => `(tactic| ((with_reducible apply Lf.v_listL); (first | exact rfl | assumption | fail)))
local macro_rules | `(tactic| infer_instance) => `(tactic| ((with_reducible apply Lf.v_tupleL); (first | exact rfl | assumption | fail)))
local macro_rules | `(tactic| infer_instance) => `(tactic| ((with_reducible apply Lf.v_appZ); (first | exact rfl | assumption | fail); (first | omega | (simp only [List.length_append, List.length_map, List.length_cons, List.length_nil]; omega) | (simp; omega) | fail)))
local macro_rules | `(tactic| infer_instance) => `(tactic| ((with_reducible refine Lf.v_idiv ?_ ?_); exact ⟨by decide, by decide⟩))
local macro_rules | `(tactic| infer_instance) => `(tactic| ((with_reducible apply Lf.isl_and); (first | exact rfl | assumption | fail)))
local macro_rules | `(tactic| infer_instance) => `(tactic| ((with_reducible apply Lf.v_fld); (first | assumption | fail); (first | assumption | exact List.mem_cons_self .. | simp | fail); (first | rfl | decide +kernel | fail)))
local macro_rules | `(tactic| infer_instance) => `(tactic| with_reducible refine Lf.v_enTT ?_)
local macro_rules | `(tactic| infer_instance) => `(tactic| with_reducible refine Lf.v_enT ?_)
local macro_rules | `(tactic| infer_instance) => `(tactic| with_reducible refine Lf.v_subTT ?_)
local macro_rules | `(tactic| infer_instance) => `(tactic| with_reducible refine Lf.v_subTD ?_)
local macro_rules | `(tactic| infer_instance) => `(tactic| with_reducible refine Lf.v_items ?_)
local macro_rules | `(tactic| infer_instance) => `(tactic| with_reducible refine Lf.v_dic1K ?_)
local macro_rules | `(tactic| infer_instance) => `(tactic| with_reducible refine Lf.v_getK ?_)
local macro_rules | `(tactic| infer_instance) => `(tactic| with_reducible refine Lf.v_mth ?_)
local macro_rules | `(tactic| infer_instance) => `(tactic| with_reducible refine Lf.v_mkW ?_)
local macro_rules | `(tactic| infer_instance) => `(tactic| with_reducible refine Lf.v_mkC ?_)
local macro_rules | `(tactic| infer_instance) => `(tactic| with_reducible refine Lf.v_fldAug ?_)
local macro_rules | `(tactic| infer_instance) => `(tactic| with_reducible refine Lf.v_fldS ?_)
local macro_rules | `(tactic| infer_instance) => `(tactic| with_reducible refine Lf.v_mkE0 ?_)
local macro_rules | `(tactic| infer_instance) => `(tactic| with_reducible refine Lf.v_mkE ?_)
local macro_rules | `(tactic| infer_instance) => `(tactic| with_reducible refine Lf.v_dic1 ?_)
local macro_rules | `(tactic| infer_instance) => `(tactic| with_reducible refine Lf.v_dic0 ?_)
local macro_rules | `(tactic| infer_instance) => `(tactic| with_reducible refine Lf.v_revT ?_)
local macro_rules | `(tactic| infer_instance) => `(tactic| with_reducible refine Lf.v_listT ?_)
local macro_rules | `(tactic| infer_instance) => `(tactic| with_reducible refine Lf.v_tupleT ?_)
local macro_rules | `(tactic| infer_instance) => `(tactic| with_reducible refine Lf.v_ix0 ?_)
local macro_rules | `(tactic| infer_instance) => `(tactic| with_reducible refine Lf.v_neT ?_)
local macro_rules | `(tactic| infer_instance) => `(tactic| with_reducible refine Lf.v_eqS0 ?_)
local macro_rules | `(tactic| infer_instance) => `(tactic| with_reducible refine Lf.v_enum ?_)
local macro_rules | `(tactic| infer_instance) => `(tactic| (refine ⟨(Nat.le_of_ble_eq_true rfl : List.length _ ≤ 16777216), ?_⟩))
local macro_rules | `(tactic| infer_instance) => `(tactic| with_reducible refine ⟨_, _, _, rfl, ?_⟩)
local macro_rules | `(tactic| infer_instance) => `(tactic| with_reducible refine ⟨_, _, rfl, ?_⟩)
local macro_rules | `(tactic| infer_instance) => `(tactic| (refine ⟨_, (rfl : Lf.tru _ (Lf.U.bl _) = some _), ?_⟩))
local macro_rules | `(tactic| infer_instance) => `(tactic| with_reducible refine ⟨_, rfl, ?_⟩)
local macro_rules | `(tactic| infer_instance) => `(tactic| ((with_reducible apply Lf.v_ixN); (first | exact rfl | assumption | fail)))
local macro_rules | `(tactic| infer_instance) => `(tactic| ((with_reducible apply Lf.v_ixT); (first | exact rfl | assumption | fail)))
local macro_rules | `(tactic| infer_instance) => `(tactic| ((with_reducible apply Lf.v_ixL); (first | exact rfl | assumption | fail); (first | exact rfl | assumption | fail)))
local macro_rules | `(tactic| infer_instance) => `(tactic| ((with_reducible refine Lf.v_rg1 ?_ ?_); first | decide | fail))
local macro_rules | `(tactic| infer_instance) => `(tactic| ((with_reducible refine Lf.v_pow ?_ ?_); exact ⟨by decide, by decide, by decide⟩))
local macro_rules | `(tactic| infer_instance) => `(tactic| ((with_reducible refine Lf.v_mul ?_ ?_); first | exact Lf.log2m ⟨by omega, by omega⟩ ⟨by omega, by omega⟩ | exact Lf.log2m (by assumption) ⟨by omega, by omega⟩ | exact Lf.log2m ⟨by omega, by omega⟩ (by assumption) | fail))
local macro_rules | `(tactic| infer_instance) => `(tactic| ((with_reducible refine Lf.v_div ?_ ?_); first | exact ⟨by decide, by decide +kernel⟩ | assumption | exact Lf.log2d (by omega) ⟨by omega, by omega⟩ | fail))
local macro_rules | `(tactic| infer_instance) => `(tactic| ((with_reducible refine Lf.v_mod ?_ ?_); first | decide | omega | assumption | fail))
local macro_rules | `(tactic| infer_instance) => `(tactic| ((with_reducible apply Lf.v_aug); exact rfl))
local macro_rules | `(tactic| infer_instance) => `(tactic| ((with_reducible refine Lf.v_unp ?_ ?_); exact rfl))
local macro_rules | `(tactic| infer_instance) => `(tactic| ((with_reducible apply Lf.v_lenL); first | exact rfl | assumption))
local macro_rules | `(tactic| infer_instance) => `(tactic| ((with_reducible apply Lf.v_iterO); first | exact rfl | assumption))
local macro_rules | `(tactic| infer_instance) => `(tactic| ((with_reducible refine Lf.v_kw ?_ ?_); exact rfl))
local macro_rules | `(tactic| infer_instance) => `(tactic| ((with_reducible apply Lf.v_var); exact rfl))
local macro_rules | `(tactic| infer_instance) => `(tactic| with_reducible refine Lf.v_cutT ?_)
local macro_rules | `(tactic| infer_instance) => `(tactic| with_reducible refine Lf.v_pt ?_)
local macro_rules | `(tactic| infer_instance) => `(tactic| with_reducible refine Lf.v_noP ?_)
local macro_rules | `(tactic| infer_instance) => `(tactic| with_reducible refine Lf.v_sl ?_)
local macro_rules | `(tactic| infer_instance) => `(tactic| with_reducible refine Lf.v_isiII ?_)
local macro_rules | `(tactic| infer_instance) => `(tactic| with_reducible refine Lf.v_isiIB ?_)
local macro_rules | `(tactic| infer_instance) => `(tactic| with_reducible refine Lf.v_subT ?_)
local macro_rules | `(tactic| infer_instance) => `(tactic| with_reducible refine Lf.v_meth ?_)
local macro_rules | `(tactic| infer_instance) => `(tactic| with_reducible refine Lf.v_chain ?_)
local macro_rules | `(tactic| infer_instance) => `(tactic| with_reducible refine Lf.v_par3 ?_)
local macro_rules | `(tactic| infer_instance) => `(tactic| with_reducible refine Lf.v_par2 ?_)
local macro_rules | `(tactic| infer_instance) => `(tactic| with_reducible refine Lf.v_lst ?_)
local macro_rules | `(tactic| infer_instance) => `(tactic| with_reducible refine Lf.v_tup ?_)
local macro_rules | `(tactic| infer_instance) => `(tactic| with_reducible refine Lf.v_un ?_)
local macro_rules | `(tactic| infer_instance) => `(tactic| with_reducible refine Lf.v_nw ?_)
local macro_rules | `(tactic| infer_instance) => `(tactic| with_reducible refine Lf.v_lenN ?_)
local macro_rules | `(tactic| infer_instance) => `(tactic| with_reducible refine Lf.v_lenT ?_)
local macro_rules | `(tactic| infer_instance) => `(tactic| with_reducible refine Lf.v_min2 ?_)
local macro_rules | `(tactic| infer_instance) => `(tactic| with_reducible refine Lf.v_max2 ?_)
local macro_rules | `(tactic| infer_instance) => `(tactic| with_reducible refine Lf.v_intB ?_)
local macro_rules | `(tactic| infer_instance) => `(tactic| with_reducible refine Lf.v_intI ?_)
local macro_rules | `(tactic| infer_instance) => `(tactic| with_reducible refine Lf.v_abs ?_)
local macro_rules | `(tactic| infer_instance) => `(tactic| with_reducible refine Lf.v_neI ?_)
local macro_rules | `(tactic| infer_instance) => `(tactic| with_reducible refine Lf.v_eqI ?_)
local macro_rules | `(tactic| infer_instance) => `(tactic| with_reducible refine Lf.v_ge ?_)
local macro_rules | `(tactic| infer_instance) => `(tactic| with_reducible refine Lf.v_gt ?_)
local macro_rules | `(tactic| infer_instance) => `(tactic| with_reducible refine Lf.v_le ?_)
local macro_rules | `(tactic| infer_instance) => `(tactic| with_reducible refine Lf.v_lt ?_)
local macro_rules | `(tactic| infer_instance) => `(tactic| with_reducible refine Lf.v_neg ?_)
local macro_rules | `(tactic| infer_instance) => `(tactic| with_reducible refine Lf.v_sub ?_)
local macro_rules | `(tactic| infer_instance) => `(tactic| with_reducible refine Lf.v_add ?_)
local macro_rules | `(tactic| infer_instance) => `(tactic| with_reducible refine Lf.v_iterT ?_)
local macro_rules | `(tactic| infer_instance) => `(tactic| with_reducible refine Lf.v_iter ?_)
local macro_rules | `(tactic| infer_instance) => `(tactic| with_reducible refine Lf.v_rg ?_)
local macro_rules | `(tactic| infer_instance) => `(tactic| with_reducible refine Lf.v_lc ?_)
local macro_rules | `(tactic| infer_instance) => `(tactic| with_reducible refine Lf.v_for ?_)
local macro_rules | `(tactic| infer_instance) => `(tactic| with_reducible refine Lf.v_yes ?_)
local macro_rules | `(tactic| infer_instance) => `(tactic| with_reducible refine Lf.v_gcons ?_)
local macro_rules | `(tactic| infer_instance) => `(tactic| with_reducible refine Lf.v_gnil ?_)
local macro_rules | `(tactic| infer_instance) => `(tactic| with_reducible refine Lf.v_nm ?_)
local macro_rules | `(tactic| infer_instance) => `(tactic| with_reducible refine Lf.v_cnt ?_)
local macro_rules | `(tactic| infer_instance) => `(tactic| with_reducible refine Lf.v_brk ?_)
local macro_rules | `(tactic| infer_instance) => `(tactic| with_reducible refine Lf.v_retN ?_)
local macro_rules | `(tactic| infer_instance) => `(tactic| with_reducible refine Lf.v_drop ?_)
local macro_rules | `(tactic| infer_instance) => `(tactic| with_reducible refine Lf.v_skip ?_)
local macro_rules | `(tactic| infer_instance) => `(tactic| with_reducible refine Lf.v_nil ?_)
local macro_rules | `(tactic| infer_instance) => `(tactic| with_reducible refine Lf.v_c ?_)
local macro_rules | `(tactic| infer_instance) => `(tactic| with_reducible refine Lf.v_notV ?_)
local macro_rules | `(tactic| infer_instance) => `(tactic| with_reducible refine Lf.v_orV ?_)
local macro_rules | `(tactic| infer_instance) => `(tactic| with_reducible refine Lf.v_andV ?_)
local macro_rules | `(tactic| infer_instance) => `(tactic| with_reducible refine Lf.v_not ?_)
local macro_rules | `(tactic| infer_instance) => `(tactic| with_reducible refine Lf.v_or ?_)
local macro_rules | `(tactic| infer_instance) => `(tactic| with_reducible refine Lf.v_and ?_)
local macro_rules | `(tactic| infer_instance) => `(tactic| with_reducible refine Lf.v_tru ?_)
local macro_rules | `(tactic| infer_instance) => `(tactic| with_reducible refine Lf.v_bl ?_)
local macro_rules | `(tactic| infer_instance) => `(tactic| with_reducible refine Lf.v_ifE ?_)
local macro_rules | `(tactic| infer_instance) => `(tactic| with_reducible refine Lf.v_if ?_)
local macro_rules | `(tactic| infer_instance) => `(tactic| with_reducible refine Lf.v_asg ?_)
local macro_rules | `(tactic| infer_instance) => `(tactic| with_reducible refine Lf.v_set ?_)
local macro_rules | `(tactic| infer_instance) => `(tactic| with_reducible refine Lf.v_ret ?_)
local macro_rules | `(tactic| infer_instance) => `(tactic| with_reducible refine Lf.v_call ?_)
local macro_rules | `(tactic| infer_instance) => `(tactic| with_reducible refine Lf.v_cons ?_)
local macro_rules | `(tactic| infer_instance) => `(tactic| with_reducible refine Lf.v_bin ?_)
local macro_rules | `(tactic| infer_instance) => `(tactic| with_reducible refine Lf.seq_wp ?_)
local macro_rules | `(tactic| infer_instance) => `(tactic| with_reducible refine Lf.Wp.ok ?_)
local macro_rules | `(tactic| infer_instance) => `(tactic| with_reducible refine Lf.v_iadd ?_)
local macro_rules | `(tactic| infer_instance) => `(tactic| with_reducible refine Lf.kP_non ?_)
local macro_rules | `(tactic| infer_instance) => `(tactic| with_reducible refine Lf.kP_str ?_)
local macro_rules | `(tactic| infer_instance) => `(tactic| with_reducible refine Lf.kP_bl ?_)
local macro_rules | `(tactic| infer_instance) => `(tactic| with_reducible refine Lf.kP_int ?_)
local macro_rules | `(tactic| infer_instance) => `(tactic| with_reducible refine Lf.v_ifNF ?_)
local macro_rules | `(tactic| infer_instance) => `(tactic| with_reducible refine Lf.v_ifNT ?_)
local macro_rules | `(tactic| infer_instance) => `(tactic| with_reducible refine Lf.v_ifF ?_)
local macro_rules | `(tactic| infer_instance) => `(tactic| with_reducible refine Lf.v_ifT ?_)
local macro_rules | `(tactic| infer_instance) => `(tactic| with_reducible refine Lf.kF_rt ?_)
local macro_rules | `(tactic| infer_instance) => `(tactic| with_reducible refine Lf.kF_bk ?_)
local macro_rules | `(tactic| infer_instance) => `(tactic| with_reducible refine Lf.kF_ct ?_)
local macro_rules | `(tactic| infer_instance) => `(tactic| with_reducible refine Lf.kF_nx ?_)
local macro_rules | `(tactic| infer_instance) => `(tactic| with_reducible refine Lf.kD_nx ?_)
local macro_rules | `(tactic| infer_instance) => `(tactic| with_reducible refine Lf.kD_rt ?_)
local macro_rules | `(tactic| infer_instance) => `(tactic| with_reducible refine Lf.kS_ct ?_)
local macro_rules | `(tactic| infer_instance) => `(tactic| with_reducible refine Lf.kS_bk ?_)
local macro_rules | `(tactic| infer_instance) => `(tactic| with_reducible refine Lf.kS_rt ?_)
local macro_rules | `(tactic| infer_instance) => `(tactic| with_reducible refine Lf.kS_nx ?_)
local macro_rules | `(tactic| bv_omega) => `(tactic| repeat infer_instance)
set_option Elab.async false
set_option linter.all false
set_option maxRecDepth 100000
set_option maxHeartbeats 4000000
namespace Mx
open PySem PySem.Spec L2 Lf
def okI (lo hi : Int) : U → Bool
  | .int v => decide (lo ≤ v ∧ v ≤ hi)
  | _ => false
def neI : U → U → Bool
  | .int a, .int b => decide (a ≠ b)
  | _, _ => false
def parts (p n : Int) (w : Str) (xs : List U) : Bool :=
  if w = "set" ∨ w = "scale" then match xs with
    | [x, c] => okI 0 (n - 1) x && okI 0 (p - 1) c
    | _ => false
  else if w = "copy" ∨ w = "swap" then match xs with
    | [x, y] => okI 0 (n - 1) x && (okI 0 (n - 1) y && neI x y)
    | _ => false
  else if w = "add" then match xs with
    | [x, y, c] => okI 0 (n - 1) x && (okI 0 (n - 1) y && neI x y) && okI 1 (p - 1) c
    | _ => false
  else if w = "read" ∨ w = "write" then match xs with
    | [x] => okI 0 (n - 1) x
    | _ => false
  else false
def okIt (p n : Int) : Nat → U → Bool
  | 0, .tup (.str w :: rest) => if w = "loop" then false else parts p n w rest
  | d + 1, .tup (.str w :: rest) => if w = "loop" then match rest with
      | [k, .tup xs] => okI 0 1000000000000000000 k && xs.all (okIt p n d)
      | _ => false
    else parts p n w rest
  | _, _ => false
def okBd (p n : Int) (d : Nat) : U → Bool
  | .tup xs => xs.all (okIt p n d)
  | _ => false
theorem RpD.mem {T : Sto} {xs : List U} {k b : Nat} (h : RpD T (.tup xs) k b) : xs.length ≤ b ∧ ∀ x ∈ xs, RpD T x k b := by
  obtain ⟨d, h1, g2, g4, g5, g6, g7⟩ := h
  clear g7
  have hd : ∃ ds, d = .tuple ds ∧ ∀ n, k ≤ n → dats (datD T n) xs = some ds := by
    have e : datD T (k + 1) (.tup xs) = some d := h1 (k + 1) (by omega)
    obtain ⟨ds, e1, e2⟩ := Option.map_eq_some_iff.mp (show (dats (datD T k) xs).map PyData.tuple = some d from e)
    refine ⟨ds, e2.symm, fun n hn => ?_⟩
    have e' : datD T (n + 1) (.tup xs) = some d := h1 (n + 1) (by omega)
    obtain ⟨ds', e1', e2'⟩ := Option.map_eq_some_iff.mp (show (dats (datD T n) xs).map PyData.tuple = some d from e')
    rw [← e2] at e2'
    cases e2'
    exact e1'
  obtain ⟨ds, rfl, hds⟩ := hd
  have h2 : PyData.showableAll ds = true := by simpa only [PyData.showable] using g2
  have h4 : PyData.depthAll ds ≤ k := by simp only [PyData.depth] at g4; omega
  have h5 : PyData.leavesShortAll 1930 ds = true := by simpa only [PyData.leavesShort] using g5
  have h6 : PyData.bulkAll ds ≤ b := by simpa only [PyData.bulk] using g6
  clear h1 g2 g4 g5 g6
  induction xs generalizing ds b with
  | nil => exact ⟨Nat.zero_le _, fun _ h => nomatch h⟩
  | cons x xs ih =>
    have hk := hds k (Nat.le_refl _)
    unfold dats at hk
    split at hk
    · rename_i dx ds' e1 e2
      cases hk
      have hall : ∀ n, k ≤ n → datD T n x = some dx ∧ dats (datD T n) xs = some ds' := fun n hn => by
        have := hds n hn
        unfold dats at this
        split at this
        · rename_i dx2 ds2 f1 f2
          cases this
          exact ⟨f1, f2⟩
        · cases this
      simp only [PyData.showableAll, Bool.and_eq_true] at h2
      simp only [PyData.depthAll] at h4
      simp only [PyData.leavesShortAll, Bool.and_eq_true] at h5
      simp only [PyData.bulkAll] at h6
      have a4 : PyData.depthAll ds' ≤ k := by omega
      have a6 : PyData.bulkAll ds' ≤ b := by omega
      have i2 := (ih (b := b) ds' (fun n hn => (hall n hn).2) h2.2 a4 h5.2 a6).2
      have j1 := (ih (b := PyData.bulkAll ds') ds' (fun n hn => (hall n hn).2) h2.2 a4 h5.2 (Nat.le_refl _)).1
      refine ⟨by rw [List.length_cons]; omega, fun y hy => ?_⟩
      rcases List.mem_cons.mp hy with rfl | hy
      · refine ⟨dx, fun n hn => (hall n hn).1, h2.1, by omega, h5.1, by omega, fun ns e => ?_⟩
        rw [e] at e1
        cases k <;> cases e1
      · exact i2 y hy
    · cases hk
theorem RpD.ty {T : Sto} {u : U} {k b : Nat} (h : RpD T u k b) : ∃ n, tyU T u = some n ∧ ((∃ b, u = .bl b) ∨ (∃ i, u = .int i) ∨ kitB n "int" = some false) ∧ ((∃ z, u = .str z) ∨ kitB n "str" = some false) ∧ ((∃ z, u = .tup z) ∨ kitB n "tuple" = some false) := by
  obtain ⟨d, h1, _, _, _, _, h7⟩ := h
  have e := h1 (k + 1) (by omega)
  cases u with
  | non => exact ⟨"NoneType", rfl, .inr (.inr rfl), .inr rfl, .inr rfl⟩
  | bl b => exact ⟨"bool", rfl, .inl ⟨_, rfl⟩, .inr rfl, .inr rfl⟩
  | int i => exact ⟨"int", rfl, .inr (.inl ⟨_, rfl⟩), .inr rfl, .inr rfl⟩
  | str z => exact ⟨"str", rfl, .inr (.inr rfl), .inl ⟨_, rfl⟩, .inr rfl⟩
  | tup xs => exact ⟨"tuple", rfl, .inr (.inr rfl), .inr rfl, .inl ⟨_, rfl⟩⟩
  | scr ns => exact absurd rfl (h7 ns)
  | raw v => cases e
  | ob i =>
    have e : (match T[i]? with
      | some (O.lst xs) => (dats (datD T k) xs).map PyData.list
      | some (O.dic kvs) => match keysD kvs, dats (datD T k) (kvs.map (·.2)) with
        | some ks, some vs => some (.dict (ks.zip vs))
        | _, _ => none
      | _ => none) = some d := e
    split at e
    · rename_i xs ex
      exact ⟨"list", by unfold tyU; simp only [ex], .inr (.inr rfl), .inr rfl, .inr rfl⟩
    · rename_i kvs ex
      exact ⟨"dict", by unfold tyU; simp only [ex], .inr (.inr rfl), .inr rfl, .inr rfl⟩
    · cases e
section
variable {T : Sto} {Q : U → Sto → Prop} {k b : Nat} {u : U}
theorem isiT (h : RpD T u k b) (q : Q (.bl (match u with | .tup _ => true | _ => false)) T) : Wp (gIsi [u, .raw (.ty "tuple")] T) Q := by
  obtain ⟨n, h1, _, _, h2⟩ := RpD.ty h
  rcases h2 with ⟨z, rfl⟩ | h2
  · exact v_isiG (n := "tuple") (b := true) rfl rfl q
  · refine v_isiG h1 h2 ?_
    cases u with
    | tup xs => cases h1; cases h2
    | _ => exact q
theorem isiS (h : RpD T u k b) (q : Q (.bl (match u with | .str _ => true | _ => false)) T) : Wp (gIsi [u, .raw (.ty "str")] T) Q := by
  obtain ⟨n, h1, _, h2, _⟩ := RpD.ty h
  rcases h2 with ⟨z, rfl⟩ | h2
  · exact v_isiG (n := "str") (b := true) rfl rfl q
  · refine v_isiG h1 h2 ?_
    cases u with
    | str z => cases h1; cases h2
    | _ => exact q
theorem wi_ok {g : List U → M U} (hg : g = gDef 3 iwA) {lo hi : Int} (h : RpD T u k b) (q : Q (.bl (okI lo hi u)) T) : Wp (kdG .len 3 g [u, .int lo, .int hi] T) Q := by
  obtain ⟨n, h1, h2, _, _⟩ := RpD.ty h
  rcases h2 with ⟨b, rfl⟩ | ⟨i, rfl⟩ | h2
  · exact iwL_bl hg q
  · by_cases hh : lo ≤ i ∧ i ≤ hi
    · have e : okI lo hi (.int i) = true := decide_eq_true hh
      rw [e] at q
      exact iwL_ok hg hh.1 hh.2 q
    · have e : okI lo hi (.int i) = false := decide_eq_false hh
      rw [e] at q
      exact iwL_out hg (by omega) q
  · have e : okI lo hi u = false := by
      cases u with
      | int i => cases h1; cases h2
      | _ => rfl
    rw [e] at q
    exact iwL_no hg h1 h2 q
theorem okI_int {lo hi : Int} (h : okI lo hi u = true) : ∃ i, u = .int i := by
  cases u with
  | int i => exact ⟨i, rfl⟩
  | _ => cases h
local macro_rules | `(tactic| rfl') => `(tactic| repeat (first | with_reducible refine Lf.kS_nx ?_ | with_reducible refine Lf.kS_rt ?_ | with_reducible refine Lf.kS_bk ?_ | with_reducible refine Lf.kS_ct ?_ | with_reducible refine Lf.kD_rt ?_ | with_reducible refine Lf.kD_nx ?_ | with_reducible refine Lf.kF_nx ?_ | with_reducible refine Lf.kF_ct ?_ | with_reducible refine Lf.kF_bk ?_ | with_reducible refine Lf.kF_rt ?_ | with_reducible refine Lf.v_ifT ?_ | with_reducible refine Lf.v_ifF ?_ | with_reducible refine Lf.v_ifNT ?_ | with_reducible refine Lf.v_ifNF ?_ | with_reducible refine Lf.kP_int ?_ | with_reducible refine Lf.kP_bl ?_ | with_reducible refine Lf.kP_str ?_ | with_reducible refine Lf.kP_non ?_ | with_reducible refine Lf.v_iadd ?_ | with_reducible refine Lf.Wp.ok ?_ | with_reducible refine Lf.seq_wp ?_ | with_reducible refine Lf.v_bin ?_ | with_reducible refine Lf.v_cons ?_ | with_reducible refine Lf.v_call ?_ | with_reducible refine Lf.v_ret ?_ | with_reducible refine Lf.v_set ?_ | with_reducible refine Lf.v_asg ?_ | with_reducible refine Lf.v_if ?_ | with_reducible refine Lf.v_ifE ?_ | with_reducible refine Lf.v_bl ?_ | with_reducible refine Lf.v_tru ?_ | with_reducible refine Lf.v_and ?_ | with_reducible refine Lf.v_or ?_ | with_reducible refine Lf.v_not ?_ | with_reducible refine Lf.v_andV ?_ | with_reducible refine Lf.v_orV ?_ | with_reducible refine Lf.v_notV ?_ | with_reducible refine Lf.v_c ?_ | with_reducible refine Lf.v_nil ?_ | with_reducible refine Lf.v_skip ?_ | with_reducible refine Lf.v_drop ?_ | with_reducible refine Lf.v_retN ?_ | with_reducible refine Lf.v_brk ?_ | with_reducible refine Lf.v_cnt ?_ | with_reducible refine Lf.v_nm ?_ | with_reducible refine Lf.v_gnil ?_ | with_reducible refine Lf.v_gcons ?_ | with_reducible refine Lf.v_yes ?_ | with_reducible refine Lf.v_for ?_ | with_reducible refine Lf.v_lc ?_ | with_reducible refine Lf.v_rg ?_ | with_reducible refine Lf.v_iter ?_ | with_reducible refine Lf.v_iterT ?_ | with_reducible refine Lf.v_add ?_ | with_reducible refine Lf.v_sub ?_ | with_reducible refine Lf.v_neg ?_ | with_reducible refine Lf.v_lt ?_ | with_reducible refine Lf.v_le ?_ | with_reducible refine Lf.v_gt ?_ | with_reducible refine Lf.v_ge ?_ | with_reducible refine Lf.v_eqI ?_ | with_reducible refine Lf.v_neI ?_ | with_reducible refine Lf.v_abs ?_ | with_reducible refine Lf.v_intI ?_ | with_reducible refine Lf.v_intB ?_ | with_reducible refine Lf.v_max2 ?_ | with_reducible refine Lf.v_min2 ?_ | with_reducible refine Lf.v_lenT ?_ | with_reducible refine Lf.v_lenN ?_ | with_reducible refine Lf.v_nw ?_ | with_reducible refine Lf.v_un ?_ | with_reducible refine Lf.v_tup ?_ | with_reducible refine Lf.v_lst ?_ | with_reducible refine Lf.v_par2 ?_ | with_reducible refine Lf.v_par3 ?_ | with_reducible refine Lf.v_chain ?_ | with_reducible refine Lf.v_meth ?_ | with_reducible refine Lf.v_subT ?_ | with_reducible refine Lf.v_isiIB ?_ | with_reducible refine Lf.v_isiII ?_ | with_reducible refine Lf.v_sl ?_ | with_reducible refine Lf.v_noP ?_ | with_reducible refine Lf.v_pt ?_ | with_reducible refine Lf.v_cutT ?_ | ((with_reducible apply Lf.v_var); exact rfl) | ((with_reducible refine Lf.v_kw ?_ ?_); exact rfl) | ((with_reducible apply Lf.v_iterO); first | exact rfl | assumption) | ((with_reducible apply Lf.v_lenL); first | exact rfl | assumption) | ((with_reducible refine Lf.v_unp ?_ ?_); exact rfl) | ((with_reducible apply Lf.v_aug); exact rfl) | ((with_reducible refine Lf.v_mod ?_ ?_); first | decide | omega | assumption | fail) | ((with_reducible refine Lf.v_div ?_ ?_); first | exact ⟨by decide, by decide +kernel⟩ | assumption | exact Lf.log2d (by omega) ⟨by omega, by omega⟩ | fail) | ((with_reducible refine Lf.v_mul ?_ ?_); first | exact Lf.log2m ⟨by omega, by omega⟩ ⟨by omega, by omega⟩ | exact Lf.log2m (by assumption) ⟨by omega, by omega⟩ | exact Lf.log2m ⟨by omega, by omega⟩ (by assumption) | fail) | ((with_reducible refine Lf.v_pow ?_ ?_); exact ⟨by decide, by decide, by decide⟩) | ((with_reducible refine Lf.v_rg1 ?_ ?_); first | decide | fail) | ((with_reducible apply Lf.v_ixL); (first | exact rfl | assumption | fail); (first | exact rfl | assumption | fail)) | ((with_reducible apply Lf.v_ixT); (first | exact rfl | assumption | fail)) | ((with_reducible apply Lf.v_ixN); (first | exact rfl | assumption | fail)) | with_reducible refine ⟨_, rfl, ?_⟩ | (refine ⟨_, (rfl : Lf.tru _ (Lf.U.bl _) = some _), ?_⟩) | with_reducible refine ⟨_, _, rfl, ?_⟩ | with_reducible refine ⟨_, _, _, rfl, ?_⟩ | (refine ⟨(Nat.le_of_ble_eq_true rfl : List.length _ ≤ 16777216), ?_⟩) | with_reducible refine Lf.v_enum ?_ | fail))
theorem two_ok {n : Int} {x y : U} (hx : RpD T x k b) (hy : RpD T y k b) (q : Q (.bl (okI 0 (n - 1) x && (okI 0 (n - 1) y && neI x y))) T) : Wp (kdG .len 3 Fn.g_are_two [.int n, x, y] T) Q := by
  refine len_wp rfl ?_
  show Wp (gDef 3 Fn.f_are_two _ _) _
  refine gDef_wp ?_
  unfold Fn.f_are_two
  rfl'
  refine wi_ok (g := Fn.g_is_within) rfl hx ?_
  rfl'
  cases e1 : okI 0 (n - 1) x with
  | false =>
    rw [e1] at q
    rfl'
    exact q
  | true =>
    rw [e1] at q
    rfl'
    refine wi_ok (g := Fn.g_is_within) rfl hy ?_
    cases e2 : okI 0 (n - 1) y with
    | false =>
      rw [e2] at q
      rfl'
      exact q
    | true =>
      rw [e2] at q
      obtain ⟨i, rfl⟩ := okI_int e1
      obtain ⟨j, rfl⟩ := okI_int e2
      rfl'
      exact q
end
theorem in2 {x a b : Str} : inV (.str x) [.str a, .str b] = decide (x = a ∨ x = b) := by
  show ((a == x) || ((b == x) || false)) = _
  rw [Bool.or_false, Bool.eq_iff_iff, Bool.or_eq_true, beq_iff_eq, beq_iff_eq, decide_eq_true_eq]
  constructor
  · rintro (h | h)
    · exact .inl h.symm
    · exact .inr h.symm
  · rintro (h | h)
    · exact .inl h.symm
    · exact .inr h.symm
theorem len1 {xs : List U} (h : (xs.length : Int) = 1) : ∃ x, xs = [x] := by
  rcases xs with _ | ⟨x, _ | ⟨c, r⟩⟩
  · cases h
  · exact ⟨x, rfl⟩
  · simp at h; omega
theorem len2 {xs : List U} (h : (xs.length : Int) = 2) : ∃ x c, xs = [x, c] := by
  rcases xs with _ | ⟨x, _ | ⟨c, _ | ⟨z, r⟩⟩⟩
  · cases h
  · cases h
  · exact ⟨x, c, rfl⟩
  · simp at h; omega
theorem len3 {xs : List U} (h : (xs.length : Int) = 3) : ∃ x y c, xs = [x, y, c] := by
  rcases xs with _ | ⟨x, _ | ⟨c, _ | ⟨z, _ | ⟨t, r⟩⟩⟩⟩
  · cases h
  · cases h
  · cases h
  · exact ⟨x, c, z, rfl⟩
  · simp at h; omega
theorem drop1 (x : U) (xs : List U) : cutU (x :: xs) (some 1) none = xs := cut_drop (x :: xs) (i := 1) (n := 1) rfl
section
variable {T : Sto} {Q : U → Sto → Prop} {k b : Nat}
theorem plain_ok {p n : Int} {w : Str} {xs : List U} (h : ∀ x ∈ xs, RpD T x k b) (hl : xs.length < 1000000) (q : Q (.bl (parts p n w xs)) T) : Wp (kdG .len 3 Fn.g_is_plain [.int p, .int n, .tup (.str w :: xs)] T) Q := by
  refine len_wp rfl ?_
  show Wp (gDef 5 Fn.f_is_plain _ _) _
  refine gDef_wp ?_
  unfold Fn.f_is_plain
  bv_omega
  rw [drop1]
  refine v_in2 ?_
  rw [in2]
  bv_omega
  unfold parts at q
  refine v_ifd (fun hc => ?_) (fun hc => ?_)
  · rw [if_pos hc] at q
    bv_omega
    refine v_ifd (fun hl => ?_) (fun hl => ?_)
    · obtain ⟨x, c, rfl⟩ := len2 hl
      have q : Q (.bl (okI 0 (n - 1) x && okI 0 (p - 1) c)) T := q
      bv_omega
      refine wi_ok (g := Fn.g_is_within) rfl (h x (by simp)) ?_
      cases e : okI 0 (n - 1) x with
      | false =>
        rw [e] at q
        bv_omega
        exact q
      | true =>
        rw [e] at q
        bv_omega
        refine wi_ok (g := Fn.g_is_within) rfl (h c (by simp)) ?_
        bv_omega
        exact q
    · have q : Q (.bl false) T := by
        split at q
        · exact absurd rfl hl
        · exact q
      bv_omega
      exact q
  rw [if_neg hc] at q
  bv_omega
  refine v_in2 ?_
  rw [in2]
  bv_omega
  refine v_ifd (fun hc2 => ?_) (fun hc2 => ?_)
  · rw [if_pos hc2] at q
    bv_omega
    refine v_ifd (fun hl => ?_) (fun hl => ?_)
    · obtain ⟨x, y, rfl⟩ := len2 hl
      have q : Q (.bl (okI 0 (n - 1) x && (okI 0 (n - 1) y && neI x y))) T := q
      bv_omega
      refine two_ok (h x (by simp)) (h y (by simp)) ?_
      bv_omega
      exact q
    · have q : Q (.bl false) T := by
        split at q
        · exact absurd rfl hl
        · exact q
      bv_omega
      exact q
  rw [if_neg hc2] at q
  bv_omega
  refine v_ifd (fun hc3 => ?_) (fun hc3 => ?_)
  · rw [if_pos hc3] at q
    bv_omega
    refine v_ifd (fun hl => ?_) (fun hl => ?_)
    · obtain ⟨x, y, c, rfl⟩ := len3 hl
      have q : Q (.bl (okI 0 (n - 1) x && (okI 0 (n - 1) y && neI x y) && okI 1 (p - 1) c)) T := q
      bv_omega
      refine two_ok (h x (by simp)) (h y (by simp)) ?_
      cases e : okI 0 (n - 1) x && (okI 0 (n - 1) y && neI x y) with
      | false =>
        rw [e] at q
        bv_omega
        exact q
      | true =>
        rw [e] at q
        bv_omega
        refine wi_ok (g := Fn.g_is_within) rfl (h c (by simp)) ?_
        bv_omega
        exact q
    · have q : Q (.bl false) T := by
        split at q
        · exact absurd rfl hl
        · exact q
      bv_omega
      exact q
  rw [if_neg hc3] at q
  bv_omega
  refine v_in2 ?_
  rw [in2]
  bv_omega
  refine v_ifd (fun hc4 => ?_) (fun hc4 => ?_)
  · rw [if_pos hc4] at q
    bv_omega
    refine v_ifd (fun hl => ?_) (fun hl => ?_)
    · obtain ⟨x, rfl⟩ := len1 hl
      have q : Q (.bl (okI 0 (n - 1) x)) T := q
      bv_omega
      refine wi_ok (g := Fn.g_is_within) rfl (h x (by simp)) ?_
      bv_omega
      exact q
    · have q : Q (.bl false) T := by
        split at q
        · exact absurd rfl hl
        · exact q
      bv_omega
      exact q
  · rw [if_neg hc4] at q
    bv_omega
    exact q
end
end Mx
set_option Elab.async false
set_option linter.all false
set_option maxRecDepth 100000
set_option maxHeartbeats 4000000
namespace Mx
open PySem PySem.Spec L2 Lf
theorem okIt_nt {p n : Int} {d : Nat} {v : U} (h : ∀ xs, v ≠ .tup xs) : okIt p n d v = false := by
  cases v with
  | tup xs => exact absurd rfl (h xs)
  | _ => cases d <;> rfl
theorem okIt_nil {p n : Int} {d : Nat} : okIt p n d (.tup []) = false := by cases d <;> rfl
theorem okIt_ns {p n : Int} {d : Nat} {x : U} {r : List U} (h : ∀ w, x ≠ .str w) : okIt p n d (.tup (x :: r)) = false := by
  cases x with
  | str w => exact absurd rfl (h w)
  | _ => cases d <;> rfl
theorem okIt_w {p n : Int} {d : Nat} {w : Str} {r : List U} (h : w ≠ "loop") : okIt p n d (.tup (.str w :: r)) = parts p n w r := by
  cases d with
  | zero =>
    show (if w = "loop" then false else parts p n w r) = _
    rw [if_neg h]
  | succ d =>
    show (if w = "loop" then _ else parts p n w r) = _
    rw [if_neg h]
theorem okIt_l0 {p n : Int} {w : Str} {r : List U} (h : w = "loop") : okIt p n 0 (.tup (.str w :: r)) = false := by
  show (if w = "loop" then false else parts p n w r) = _
  rw [if_pos h]
theorem okIt_l2 {p n : Int} {d : Nat} {w : Str} {k y : U} (h : w = "loop") : okIt p n (d + 1) (.tup [.str w, k, y]) = (okI 0 1000000000000000000 k && okBd p n d y) := by
  subst h
  cases y with
  | tup xs => rfl
  | _ =>
    rw [show okBd p n d _ = false from rfl, Bool.and_false]
    rfl
theorem okIt_ll {p n : Int} {d : Nat} {w : Str} {r : List U} (h : w = "loop") (hl : ((U.str w :: r).length : Int) ≠ 3) : okIt p n d (.tup (.str w :: r)) = false := by
  cases d with
  | zero => exact okIt_l0 h
  | succ d =>
    subst h
    rcases r with _ | ⟨x, _ | ⟨c, _ | ⟨z, r⟩⟩⟩
    · rfl
    · rfl
    · exact absurd rfl hl
    · cases c <;> rfl
section
variable {p n : Int}
def PI (p n : Int) (d : Nat) : Prop := ∀ (m : Nat), 2 * d + 1 ≤ m → ∀ (T : Sto) (v : U) (k b : Nat) (Q : U → Sto → Prop), RpD T v k b → b < 1000000 → (∀ os, Q (.bl (okIt p n d v)) (T ++ os)) → Wp (kdG .len 4 (Fn.g_is_instruction m) [.int p, .int n, v, .int d] T) Q
def PB (p n : Int) (d : Nat) : Prop := ∀ (m : Nat), 2 * d + 2 ≤ m → ∀ (T : Sto) (v : U) (k b : Nat) (Q : U → Sto → Prop), RpD T v k b → b < 1000000 → (∀ os, Q (.bl (okBd p n d v)) (T ++ os)) → Wp (kdG .len 4 (Fn.g_is_body m) [.int p, .int n, v, .int d] T) Q
theorem pb_of {d : Nat} (h : PI p n d) : PB p n d := by
  intro m hm T v k b Q hv hb q
  obtain ⟨m, rfl⟩ : ∃ m', m = m' + 1 := ⟨m - 1, by omega⟩
  refine len_wp rfl ?_
  show Wp (gDef 5 (Fn.f_is_body (Fn.g_is_body m) (Fn.g_is_instruction m)) _ _) _
  refine gDef_wp ?_
  unfold Fn.f_is_body
  bv_omega
  refine isiT hv ?_
  cases v with
  | tup xs =>
    bv_omega
    obtain ⟨hl, hx⟩ := RpD.mem hv
    refine wp_lcC (fun r acc T' => ∃ os done, T' = T ++ os ∧ xs = done ++ r ∧ acc = (done.map (okIt p n d)).map .bl) ⟨[], [], by simp, rfl, rfl⟩ (fun x r acc T' ⟨os, done, eT, ex, ea⟩ => ?_) (fun acc T' ⟨os, done, eT, ex, ea⟩ => ?_)
    · subst eT ea
      have hxx : x ∈ xs := by rw [ex]; exact List.mem_append_right _ (List.mem_cons_self ..)
      bv_omega
      refine h m (by omega) (T ++ os) x k b _ ((hx x hxx).kp (Kp.app _ _)) hb fun os2 => ?_
      bv_omega
      refine ⟨by rw [List.length_map, List.length_map]; have : done.length ≤ xs.length := by rw [ex]; simp
                 omega, os ++ os2, done ++ [x], by rw [List.append_assoc], by rw [ex]; simp, by simp⟩
    · subst eT ea
      rw [List.append_nil] at ex
      subst ex
      bv_omega
      refine v_allM (bs := xs.map (okIt p n d)) (by simp) ?_
      bv_omega
      have e : (xs.map (okIt p n d)).all id = okBd p n d (.tup xs) := by
        rw [List.all_map]; rfl
      rw [e, List.append_assoc]
      exact q _
  | _ =>
    bv_omega
    have := q []
    rw [List.append_nil] at this
    exact this
theorem pi_of {d : Nat} (hB : ∀ d', d = d' + 1 → PB p n d') : PI p n d := by
  intro m hm T v k b Q hv hb q
  obtain ⟨m, rfl⟩ : ∃ m', m = m' + 1 := ⟨m - 1, by omega⟩
  refine len_wp rfl ?_
  show Wp (gDef 4 (Fn.f_is_instruction (Fn.g_is_body m) (Fn.g_is_instruction m)) _ _) _
  refine gDef_wp ?_
  unfold Fn.f_is_instruction
  have q0 : okIt p n d v = false → Q (.bl false) T := fun e => by
    have := q []
    rw [List.append_nil, e] at this
    exact this
  bv_omega
  refine isiT hv ?_
  by_cases ht : ∃ xs, v = .tup xs
  rotate_left
  · have q1 := q0 (okIt_nt fun xs e => ht ⟨xs, e⟩)
    cases v with
    | tup xs => exact absurd ⟨xs, rfl⟩ ht
    | _ =>
      bv_omega
      exact q1
  obtain ⟨xs, rfl⟩ := ht
  obtain ⟨hl, hx⟩ := RpD.mem hv
  bv_omega
  refine v_eqT0 ?_
  cases xs with
  | nil =>
    have q1 := q0 okIt_nil
    bv_omega
    rw [List.isEmpty_nil]
    bv_omega
    exact q1
  | cons x r =>
    bv_omega
    rw [List.isEmpty_cons]
    bv_omega
    refine isiS (hx x (List.mem_cons_self ..)) ?_
    by_cases hs : ∃ w, x = .str w
    rotate_left
    · have q1 := q0 (okIt_ns fun w e => hs ⟨w, e⟩)
      cases x with
      | str w => exact absurd ⟨w, rfl⟩ hs
      | _ =>
        bv_omega
        exact q1
    obtain ⟨w, rfl⟩ := hs
    bv_omega
    refine v_ifd (fun hw => ?_) (fun hw => ?_)
    · rw [show okIt p n d (.tup (.str w :: r)) = parts p n w r from okIt_w hw] at q
      bv_omega
      rw [List.length_cons] at hl
      refine plain_ok (fun y hy => hx y (List.mem_cons_of_mem _ hy)) (by omega) ?_
      bv_omega
      have := q []
      rw [List.append_nil] at this
      exact this
    · have hw : w = "loop" := Decidable.byContradiction hw
      bv_omega
      refine v_ifd (fun hl3 => ?_) (fun hl3 => ?_)
      · have q1 := q0 (okIt_ll hw hl3)
        bv_omega
        exact q1
      have hl3 : ((U.str w :: r).length : Int) = 3 := Decidable.byContradiction hl3
      obtain ⟨k0, y, rfl⟩ : ∃ k0 y, r = [k0, y] := len2 (by rw [List.length_cons] at hl3; omega)
      bv_omega
      cases d with
      | zero =>
        have q1 := q0 (okIt_l0 hw)
        bv_omega
        exact q1
      | succ d =>
        refine v_nod (by omega) ?_
        bv_omega
        refine wi_ok (g := Fn.g_is_within) rfl (hx k0 (by simp)) ?_
        cases e : okI 0 1000000000000000000 k0 with
        | false =>
          have q1 := q0 (by rw [okIt_l2 hw, e]; rfl)
          bv_omega
          exact q1
        | true =>
          rw [show okIt p n (d + 1) (.tup [.str w, k0, y]) = okBd p n d y from by rw [okIt_l2 hw, e]; rfl] at q
          bv_omega
          have ed : ((d + 1 : Nat) : Int) - 1 = (d : Int) := by omega
          rw [ed]
          refine hB d rfl m (by omega) T y k b _ (hx y (by simp)) hb fun os => ?_
          bv_omega
          exact q os
theorem pb_all : ∀ d, PB p n d
  | 0 => pb_of (pi_of fun _ e => nomatch e)
  | d + 1 => pb_of (pi_of fun d' e => by cases e; exact pb_all d)
end
end Mx
set_option Elab.async false
set_option linter.all false
set_option maxRecDepth 100000
set_option maxHeartbeats 4000000
namespace Mx
open PySem PySem.Spec L2 Lf
def szU : Nat → List U → Int
  | 0, xs => (xs.map fun _ => (1 : Int)).sum
  | d + 1, xs => (xs.map fun x => match lpOf x with
    | some (_, b) => 1 + szU d b
    | none => 1).sum
def szi : Nat → U → Int
  | 0, _ => 1
  | d + 1, x => match lpOf x with
    | some (_, b) => 1 + szU d b
    | none => 1
theorem szU_eq (d : Nat) (xs : List U) : szU d xs = (xs.map (szi d)).sum := by cases d <;> rfl
theorem szU_cons (d : Nat) (x : U) (xs : List U) : szU d (x :: xs) = szi d x + szU d xs := by rw [szU_eq, szU_eq, List.map_cons, List.sum_cons]
theorem szU_nil (d : Nat) : szU d [] = 0 := by rw [szU_eq]; rfl
theorem szi_op {d : Nat} {x : U} (h : Op x) : szi d x = 1 := by
  cases d with
  | zero => rfl
  | succ d => show (match lpOf x with
    | some (_, b) => 1 + szU d b
    | none => 1) = 1; rw [h.no]
theorem szi_lp {d : Nat} {k : Int} {b : List U} : szi (d + 1) (lpU k b) = 1 + szU d b := rfl
mutual
theorem szi_pos : ∀ (d : Nat) (x : U), 1 ≤ szi d x
  | 0, _ => Int.le_refl _
  | d + 1, x => by
    cases e : lpOf x with
    | none =>
      have h : szi (d + 1) x = 1 := by show (match lpOf x with | some (_, b) => 1 + szU d b | none => 1) = 1; rw [e]
      omega
    | some p =>
      have h : szi (d + 1) x = 1 + szU d p.2 := by show (match lpOf x with | some (_, b) => 1 + szU d b | none => 1) = _; rw [e]
      have := szU_len d p.2
      omega
theorem szU_len : ∀ (d : Nat) (xs : List U), (xs.length : Int) ≤ szU d xs
  | d, [] => by rw [szU_nil]; exact Int.le_refl _
  | d, x :: xs => by
    rw [szU_cons, List.length_cons]
    have := szi_pos d x
    have := szU_len d xs
    omega
end
theorem szi_le {d : Nat} {x : U} : ∀ {xs : List U}, x ∈ xs → szi d x ≤ szU d xs
  | y :: ys, h => by
    rw [szU_cons]
    rcases List.mem_cons.mp h with rfl | h
    · have := szU_len d ys; omega
    · have := szi_le (d := d) h; have := szi_pos d y; omega
theorem Pn_small {N : Nat} : ∀ {d : Nat} {L : Nat} {xs : List U}, Pn Op Lf.Rd L d xs → szU d xs ≤ N → Pn Op Lf.Rd N d xs
  | 0, L, xs, h, hs => ⟨by have := szU_len 0 xs; omega, h.2⟩
  | d + 1, L, xs, h, hs => ⟨by have := szU_len (d + 1) xs; omega, fun x hx => by
    rcases h.2 x hx with ho | ⟨k, b, rfl, hk, hb⟩
    · exact .inl ho
    · have := szi_le (d := d + 1) hx
      rw [szi_lp] at this
      exact .inr ⟨k, b, rfl, hk, Pn_small hb (by omega)⟩⟩
theorem okI_bd {lo hi : Int} {u : U} (h : okI lo hi u = true) (h0 : 0 ≤ lo) (h1 : hi < 1000000) : ∃ i, u = .int i ∧ 0 ≤ i ∧ i < 1000000 := by
  obtain ⟨i, rfl⟩ := okI_int h
  have : lo ≤ i ∧ i ≤ hi := of_decide_eq_true h
  exact ⟨i, rfl, by omega, by omega⟩
theorem Op_of {p n : Int} {w : Str} {r : List U} (hp : p ≤ 1000000) (hn : n ≤ 1000000) (h : parts p n w r = true) : Op (.tup (.str w :: r)) := by
  unfold parts at h
  split at h
  · rename_i hw
    split at h
    · rename_i x c
      obtain ⟨h1, h2⟩ := Bool.and_eq_true_iff.mp h
      obtain ⟨i, rfl, i0, i1⟩ := okI_bd h1 (by decide) (by omega)
      obtain ⟨j, rfl, j0, j1⟩ := okI_bd h2 (by decide) (by omega)
      refine ⟨w, [i, j], rfl, ?_, by simp, fun z hz => ?_⟩
      · rcases hw with rfl | rfl <;> decide +kernel
      · simp only [List.mem_cons, List.not_mem_nil, or_false] at hz
        rcases hz with rfl | rfl <;> omega
    · cases h
  split at h
  · rename_i hw
    split at h
    · rename_i x c
      obtain ⟨h1, h2⟩ := Bool.and_eq_true_iff.mp h
      obtain ⟨h4, h5⟩ := Bool.and_eq_true_iff.mp h2
      clear h2 h5
      obtain ⟨i, rfl, i0, i1⟩ := okI_bd h1 (by decide) (by omega)
      obtain ⟨j, rfl, j0, j1⟩ := okI_bd h4 (by decide) (by omega)
      refine ⟨w, [i, j], rfl, ?_, by simp, fun z hz => ?_⟩
      · rcases hw with rfl | rfl <;> decide +kernel
      · simp only [List.mem_cons, List.not_mem_nil, or_false] at hz
        rcases hz with rfl | rfl <;> omega
    · cases h
  split at h
  · rename_i hw
    split at h
    · rename_i x y c
      obtain ⟨h1, h3⟩ := Bool.and_eq_true_iff.mp h
      obtain ⟨h1, h2⟩ := Bool.and_eq_true_iff.mp h1
      obtain ⟨h4, h5⟩ := Bool.and_eq_true_iff.mp h2
      clear h2 h5
      obtain ⟨i, rfl, i0, i1⟩ := okI_bd h1 (by decide) (by omega)
      obtain ⟨j, rfl, j0, j1⟩ := okI_bd h4 (by decide) (by omega)
      obtain ⟨l, rfl, l0, l1⟩ := okI_bd h3 (by decide) (by omega)
      refine ⟨w, [i, j, l], rfl, ?_, by simp, fun z hz => ?_⟩
      · subst hw; decide +kernel
      · simp only [List.mem_cons, List.not_mem_nil, or_false] at hz
        rcases hz with rfl | rfl | rfl <;> omega
    · cases h
  split at h
  · rename_i hw
    split at h
    · rename_i x
      obtain ⟨i, rfl, i0, i1⟩ := okI_bd h (by decide) (by omega)
      refine ⟨w, [i], rfl, ?_, by simp, fun z hz => ?_⟩
      · rcases hw with rfl | rfl <;> decide +kernel
      · simp only [List.mem_cons, List.not_mem_nil, or_false] at hz
        subst hz; omega
    · cases h
  · cases h
theorem Pn_of {p n : Int} (hp : p ≤ 1000000) (hn : n ≤ 1000000) {T : Sto} {k b : Nat} : ∀ {d : Nat} {xs : List U}, okBd p n d (.tup xs) = true → RpD T (.tup xs) k b → Pn Op Lf.Rd b d xs := by
  have key : ∀ {d : Nat} {x : U}, okIt p n d x = true → Op x ∨ ∃ d' k0 ys, d = d' + 1 ∧ x = lpU k0 ys ∧ Lf.Rd k0 ∧ okBd p n d' (.tup ys) = true := by
    intro d x h
    by_cases ht : ∃ xs, x = .tup xs
    rotate_left
    · rw [okIt_nt fun xs e => ht ⟨xs, e⟩] at h; cases h
    obtain ⟨xs, rfl⟩ := ht
    cases xs with
    | nil => rw [okIt_nil] at h; cases h
    | cons y r =>
      by_cases hs : ∃ w, y = .str w
      rotate_left
      · rw [okIt_ns fun w e => hs ⟨w, e⟩] at h; cases h
      obtain ⟨w, rfl⟩ := hs
      by_cases hw : w = "loop"
      · by_cases hl3 : ((U.str w :: r).length : Int) = 3
        · obtain ⟨k0, y, rfl⟩ : ∃ k0 y, r = [k0, y] := len2 (by rw [List.length_cons] at hl3; omega)
          cases d with
          | zero => rw [okIt_l0 hw] at h; cases h
          | succ d =>
            rw [okIt_l2 hw] at h
            obtain ⟨h1, h2⟩ := Bool.and_eq_true_iff.mp h
            obtain ⟨i, rfl⟩ := okI_int h1
            have hi : 0 ≤ i ∧ i ≤ 1000000000000000000 := of_decide_eq_true h1
            cases y with
            | tup ys => exact .inr ⟨d, i, ys, rfl, by rw [hw]; rfl, hi, h2⟩
            | _ => cases h2
        · rw [okIt_ll hw hl3] at h; cases h
      · rw [okIt_w hw] at h
        exact .inl (Op_of hp hn h)
  intro d
  induction d with
  | zero =>
    intro xs h hr
    obtain ⟨hl, hx⟩ := RpD.mem hr
    refine ⟨hl, fun x hxx => ?_⟩
    rcases key (List.all_eq_true.mp h x hxx) with ho | ⟨d', _, _, e, _⟩
    · exact ho
    · cases e
  | succ d ih =>
    intro xs h hr
    obtain ⟨hl, hx⟩ := RpD.mem hr
    refine ⟨hl, fun x hxx => ?_⟩
    rcases key (List.all_eq_true.mp h x hxx) with ho | ⟨d', k0, ys, e, rfl, hk, hb⟩
    · exact .inl ho
    · cases e
      exact .inr ⟨k0, ys, rfl, hk, ih hb ((RpD.mem (hx _ hxx)).2 _ (by simp))⟩
local macro_rules | `(tactic| rfl') => `(tactic| repeat (first | with_reducible refine Lf.kS_nx ?_ | with_reducible refine Lf.kS_rt ?_ | with_reducible refine Lf.kS_bk ?_ | with_reducible refine Lf.kS_ct ?_ | with_reducible refine Lf.kD_rt ?_ | with_reducible refine Lf.kD_nx ?_ | with_reducible refine Lf.kF_nx ?_ | with_reducible refine Lf.kF_ct ?_ | with_reducible refine Lf.kF_bk ?_ | with_reducible refine Lf.kF_rt ?_ | with_reducible refine Lf.v_ifT ?_ | with_reducible refine Lf.v_ifF ?_ | with_reducible refine Lf.v_ifNT ?_ | with_reducible refine Lf.v_ifNF ?_ | with_reducible refine Lf.kP_int ?_ | with_reducible refine Lf.kP_bl ?_ | with_reducible refine Lf.kP_str ?_ | with_reducible refine Lf.kP_non ?_ | with_reducible refine Lf.v_iadd ?_ | with_reducible refine Lf.Wp.ok ?_ | with_reducible refine Lf.seq_wp ?_ | with_reducible refine Lf.v_bin ?_ | with_reducible refine Lf.v_cons ?_ | with_reducible refine Lf.v_call ?_ | with_reducible refine Lf.v_ret ?_ | with_reducible refine Lf.v_set ?_ | with_reducible refine Lf.v_asg ?_ | with_reducible refine Lf.v_if ?_ | with_reducible refine Lf.v_ifE ?_ | with_reducible refine Lf.v_bl ?_ | with_reducible refine Lf.v_tru ?_ | with_reducible refine Lf.v_and ?_ | with_reducible refine Lf.v_or ?_ | with_reducible refine Lf.v_not ?_ | with_reducible refine Lf.v_andV ?_ | with_reducible refine Lf.v_orV ?_ | with_reducible refine Lf.v_notV ?_ | with_reducible refine Lf.v_c ?_ | with_reducible refine Lf.v_nil ?_ | with_reducible refine Lf.v_skip ?_ | with_reducible refine Lf.v_drop ?_ | with_reducible refine Lf.v_retN ?_ | with_reducible refine Lf.v_brk ?_ | with_reducible refine Lf.v_cnt ?_ | with_reducible refine Lf.v_nm ?_ | with_reducible refine Lf.v_gnil ?_ | with_reducible refine Lf.v_gcons ?_ | with_reducible refine Lf.v_yes ?_ | with_reducible refine Lf.v_for ?_ | with_reducible refine Lf.v_lc ?_ | with_reducible refine Lf.v_rg ?_ | with_reducible refine Lf.v_iter ?_ | with_reducible refine Lf.v_iterT ?_ | with_reducible refine Lf.v_add ?_ | with_reducible refine Lf.v_sub ?_ | with_reducible refine Lf.v_neg ?_ | with_reducible refine Lf.v_lt ?_ | with_reducible refine Lf.v_le ?_ | with_reducible refine Lf.v_gt ?_ | with_reducible refine Lf.v_ge ?_ | with_reducible refine Lf.v_eqI ?_ | with_reducible refine Lf.v_neI ?_ | with_reducible refine Lf.v_abs ?_ | with_reducible refine Lf.v_intI ?_ | with_reducible refine Lf.v_intB ?_ | with_reducible refine Lf.v_max2 ?_ | with_reducible refine Lf.v_min2 ?_ | with_reducible refine Lf.v_lenT ?_ | with_reducible refine Lf.v_lenN ?_ | with_reducible refine Lf.v_nw ?_ | with_reducible refine Lf.v_un ?_ | with_reducible refine Lf.v_tup ?_ | with_reducible refine Lf.v_lst ?_ | with_reducible refine Lf.v_par2 ?_ | with_reducible refine Lf.v_par3 ?_ | with_reducible refine Lf.v_chain ?_ | with_reducible refine Lf.v_meth ?_ | with_reducible refine Lf.v_subT ?_ | with_reducible refine Lf.v_isiIB ?_ | with_reducible refine Lf.v_isiII ?_ | with_reducible refine Lf.v_sl ?_ | with_reducible refine Lf.v_noP ?_ | with_reducible refine Lf.v_pt ?_ | with_reducible refine Lf.v_cutT ?_ | ((with_reducible apply Lf.v_var); exact rfl) | ((with_reducible refine Lf.v_kw ?_ ?_); exact rfl) | ((with_reducible apply Lf.v_iterO); first | exact rfl | assumption) | ((with_reducible apply Lf.v_lenL); first | exact rfl | assumption) | ((with_reducible refine Lf.v_unp ?_ ?_); exact rfl) | ((with_reducible apply Lf.v_aug); exact rfl) | ((with_reducible refine Lf.v_mod ?_ ?_); first | decide | omega | assumption | fail) | ((with_reducible refine Lf.v_div ?_ ?_); first | exact ⟨by decide, by decide +kernel⟩ | assumption | exact Lf.log2d (by omega) ⟨by omega, by omega⟩ | fail) | ((with_reducible refine Lf.v_mul ?_ ?_); first | exact Lf.log2m ⟨by omega, by omega⟩ ⟨by omega, by omega⟩ | exact Lf.log2m (by assumption) ⟨by omega, by omega⟩ | exact Lf.log2m ⟨by omega, by omega⟩ (by assumption) | fail) | ((with_reducible refine Lf.v_pow ?_ ?_); exact ⟨by decide, by decide, by decide⟩) | ((with_reducible refine Lf.v_rg1 ?_ ?_); first | decide | fail) | ((with_reducible apply Lf.v_ixL); (first | exact rfl | assumption | fail); (first | exact rfl | assumption | fail)) | ((with_reducible apply Lf.v_ixT); (first | exact rfl | assumption | fail)) | ((with_reducible apply Lf.v_ixN); (first | exact rfl | assumption | fail)) | with_reducible refine ⟨_, rfl, ?_⟩ | (refine ⟨_, (rfl : Lf.tru _ (Lf.U.bl _) = some _), ?_⟩) | with_reducible refine ⟨_, _, rfl, ?_⟩ | with_reducible refine ⟨_, _, _, rfl, ?_⟩ | (refine ⟨(Nat.le_of_ble_eq_true rfl : List.length _ ≤ 16777216), ?_⟩) | with_reducible refine Lf.v_enum ?_ | fail))
theorem size_ok {L : Nat} (hL : L < 1000000) : ∀ (d m : Nat) (xs : List U), d < m → Pn Op Lf.Rd L d xs → ∀ (T : Sto) (Q : U → Sto → Prop), Q (.int (szU d xs)) T → Wp (kdG .pur 1 (Fn.g_size m) [.tup xs] T) Q := by
  intro d
  induction d using Nat.strongRecOn with
  | ind d ih =>
    intro m xs hm hx T Q q
    obtain ⟨m, rfl⟩ : ∃ m', m = m' + 1 := ⟨m - 1, by omega⟩
    refine purK rfl ?_ (gDef_wp ?_)
    · show (nrs xs && true) = true
      rw [hx.nrs]; rfl
    unfold Fn.f_size
    rfl'
    have hxl := hx.len
    refine wp_lcC (fun r acc T => T = [] ∧ ∃ done, xs = done ++ r ∧ acc = (done.map (szi d)).map .int) ⟨rfl, [], rfl, rfl⟩ (fun x r acc T ⟨eT, done, ex, e⟩ => ?_) (fun acc T ⟨eT, done, ex, e⟩ => ?_)
    · subst eT e
      have hxx : x ∈ xs := by rw [ex]; exact List.mem_append_right _ (List.mem_cons_self ..)
      have hll : done.length < 1000000 := by rw [ex] at hxl; simp at hxl; omega
      have fin : ∀ y : Int, 1 + y = szi d x → ((done.map (szi d)).map U.int).length < 16777216 ∧ (([] : Sto) = [] ∧ ∃ d1, xs = d1 ++ r ∧ (done.map (szi d)).map U.int ++ [U.int (1 + y)] = (d1.map (szi d)).map U.int) := fun y hy => by
        refine ⟨by simp; omega, rfl, done ++ [x], by rw [ex]; simp, by rw [hy]; simp⟩
      rcases hx.item hxx with ho | ⟨d', k, b, rfl, rfl, hk, hb⟩
      · have h1 := szi_op (d := d) ho
        obtain ⟨w, is, rfl, hw, _, _⟩ := ho
        have hww := words7_ne w hw
        bv_omega
        exact fin 0 h1.symm
      · unfold lpU
        bv_omega
        refine ih d' (Nat.lt_succ_self _) m b (by omega) hb _ _ ?_
        bv_omega
        exact fin _ szi_lp.symm
    · subst eT e
      rw [List.append_nil] at ex
      subst ex
      rfl'
      refine v_sum (xs := (xs.map (szi d)).map .int) rfl (intsU_map _) ?_
      rfl'
      rw [← szU_eq]
      exact q
def few (xs : List U) : Bool := decide (cnt (wt ["read"]) 4 xs ≤ 2000) && decide (cnt (wt ["write"]) 4 xs ≤ 2000)
def isPr (p n : Int) : U → Bool
  | .tup xs => okBd p n 4 (.tup xs) && (decide (szU 4 xs ≤ 200) && few xs)
  | _ => false
theorem count_ok {g : List U → M U} {w : Str} (hg : g = gDef 1 (fRet (fCall (kdG .pur 2 (Fn.g_times 30)) (fCons (fVar 0) (fCons (fTup (fCons (fC (.str w)) (fNil))) (fNil)))))) (hw : w ∈ words7) {xs : List U} (h : Pn Op Lf.Rd 200 4 xs) {T : Sto} {Q : U → Sto → Prop} (q : Q (.int (cnt (wt [w]) 4 xs)) T) :
    Wp (kdG .pur 1 g [.tup xs] T) Q := by
  subst hg
  refine purK rfl ?_ (gDef_wp ?_)
  · show (nrs xs && true) = true
    rw [h.nrs]; rfl
  rfl'
  refine tm_ok (g := Fn.g_times) (fun _ => rfl) (ws := [w]) (.inr ⟨w, hw, rfl⟩) (L := 200) (by decide) 4 30 xs (by decide) (by decide) h _ _ ?_
  rfl'
  exact q
theorem prog_ok {p n : Int} (hp : p ≤ 1000000) (hn : n ≤ 1000000) {T : Sto} {v : U} {k b : Nat} {Q : U → Sto → Prop} (hv : RpD T v k b) (hb : b < 1000000) (q : ∀ os, Q (.bl (isPr p n v)) (T ++ os)) : Wp (kdG .len 3 Fn.g_is_program [.int p, .int n, v] T) Q := by
  refine len_wp rfl ?_
  show Wp (gDef 3 Fn.f_is_program _ _) _
  refine gDef_wp ?_
  unfold Fn.f_is_program
  bv_omega
  refine pb_all 4 30 (by decide) T v k b _ hv hb fun os => ?_
  have q := q os
  cases v with
  | tup xs =>
    have q : Q (.bl (okBd p n 4 (.tup xs) && (decide (szU 4 xs ≤ 200) && few xs))) (T ++ os) := q
    cases e : okBd p n 4 (.tup xs) with
    | false =>
      rw [e] at q
      bv_omega
      exact q
    | true =>
      rw [e] at q
      have hP := Pn_of hp hn e hv
      bv_omega
      refine size_ok (L := b) hb 4 30 xs (by decide) hP _ _ ?_
      bv_omega
      refine v_ifd (fun hs => ?_) (fun hs => ?_)
      · rw [decide_eq_false (by omega)] at q
        bv_omega
        exact q
      · have hs : szU 4 xs ≤ 200 := by omega
        rw [decide_eq_true hs] at q
        have hS := Pn_small (N := 200) hP (by omega)
        bv_omega
        refine count_ok (w := "read") rfl (by decide +kernel) hS ?_
        bv_omega
        unfold few at q
        refine v_ifd (fun hc => ?_) (fun hc => ?_)
        · rw [decide_eq_true hc] at q
          bv_omega
          refine count_ok (w := "write") rfl (by decide +kernel) hS ?_
          bv_omega
          exact q
        · rw [decide_eq_false hc] at q
          bv_omega
          exact q
  | _ =>
    rw [show okBd p n 4 _ = false from rfl]
    bv_omega
    exact q
end Mx
set_option Elab.async false
set_option linter.all false
set_option maxRecDepth 100000
set_option maxHeartbeats 4000000
namespace Mx
open PySem PySem.Spec L2 Lf Aff
/-- the first two entries of an instruction -/
theorem ins_two {q : Int} {n : Nat} {x : U} (h : Ins q n x) : ∃ (w : Str) (r : List U), x = .tup (.str w :: r) ∧ w ≠ "loop" ∧ (isRd x = decide (w = "read")) ∧ (isWr x = decide (w = "write")) := by
  cases h with
  | set => exact ⟨"set", _, rfl, by decide +kernel, by show false = _; decide +kernel, by show false = _; decide +kernel⟩
  | scale => exact ⟨"scale", _, rfl, by decide +kernel, by show false = _; decide +kernel, by show false = _; decide +kernel⟩
  | copy => exact ⟨"copy", _, rfl, by decide +kernel, by show false = _; decide +kernel, by show false = _; decide +kernel⟩
  | swap => exact ⟨"swap", _, rfl, by decide +kernel, by show false = _; decide +kernel, by show false = _; decide +kernel⟩
  | add => exact ⟨"add", _, rfl, by decide +kernel, by show false = _; decide +kernel, by show false = _; decide +kernel⟩
  | read => exact ⟨"read", _, rfl, by decide +kernel, rfl, rfl⟩
  | write => exact ⟨"write", _, rfl, by decide +kernel, rfl, rfl⟩
theorem flt_one_lp {d k : Nat} {b : List U} : flt (d + 1) [lpU k b] = (List.replicate k (flt d b)).flatten := by rw [flt_lp, Int.toNat_natCast]
theorem rep_len {α : Type} (k : Nat) (l : List α) : (List.replicate k l).flatten.length = k * l.length := by rw [List.length_flatten, List.map_replicate, List.sum_replicate_nat]
end Mx
set_option Elab.async false
set_option linter.all false
set_option maxRecDepth 100000
set_option maxHeartbeats 4000000
namespace Mx
open PySem PySem.Spec L2 Lf Aff
def isRW : U → Bool
  | .tup (.str w :: _) => decide (w = "read" ∨ w = "write")
  | _ => false
theorem isRW_c (w : Str) (r : List U) : isRW (.tup (.str w :: r)) = decide (w = "read" ∨ w = "write") := rfl
def qt : Nat → List U → Bool
  | 0, xs => xs.all fun x => !isRW x
  | d + 1, xs => xs.all fun x => match lpOf x with
    | some (_, b) => qt d b
    | none => !isRW x
def NP (q : Int) (n : Nat) : Nat → Nat → List U → Prop
  | m, 0, xs => xs.length ≤ m ∧ ∀ x ∈ xs, Ins q n x
  | m, d + 1, xs => xs.length ≤ m ∧ ∀ x ∈ xs, Ins q n x ∨ ∃ (k : Nat) (b : List U), x = lpU k b ∧ k ≤ 1000000000000000000 ∧ NP q n 2 d b ∧ (2 < k → qt d b = true)
section
variable {q : Int} {n : Nat}
theorem NP.len : ∀ {m d : Nat} {xs : List U}, NP q n m d xs → xs.length ≤ m
  | _, 0, _, h => h.1
  | _, _ + 1, _, h => h.1
theorem NP.item {m d : Nat} {xs : List U} (h : NP q n m d xs) {x : U} (hx : x ∈ xs) : Ins q n x ∨ ∃ (d' k : Nat) (b : List U), d = d' + 1 ∧ x = lpU k b ∧ k ≤ 1000000000000000000 ∧ NP q n 2 d' b ∧ (2 < k → qt d' b = true) := by
  cases d with
  | zero => exact .inl (h.2 x hx)
  | succ d =>
    rcases h.2 x hx with h | ⟨k, b, e, h1⟩
    · exact .inl h
    · exact .inr ⟨d, k, b, rfl, e, h1⟩
theorem NP.of : ∀ {m d : Nat} {xs : List U}, xs.length ≤ m → (∀ x ∈ xs, Ins q n x ∨ ∃ (d' k : Nat) (b : List U), d = d' + 1 ∧ x = lpU k b ∧ k ≤ 1000000000000000000 ∧ NP q n 2 d' b ∧ (2 < k → qt d' b = true)) → NP q n m d xs
  | _, 0, xs, hl, h => ⟨hl, fun x hx => (h x hx).elim id fun ⟨d', _, _, e, _⟩ => nomatch e⟩
  | _, d + 1, xs, hl, h => ⟨hl, fun x hx => (h x hx).imp id fun ⟨d', k, b, e, h1, h2⟩ => by cases e; exact ⟨k, b, h1, h2⟩⟩
theorem NP.nil {m d : Nat} : NP q n m d [] := .of (Nat.zero_le _) fun _ h => nomatch h
theorem NP.snoc {m d : Nat} {xs : List U} {x : U} (h : NP q n m d xs) (hl : xs.length < m) (hx : Ins q n x ∨ ∃ (d' k : Nat) (b : List U), d = d' + 1 ∧ x = lpU k b ∧ k ≤ 1000000000000000000 ∧ NP q n 2 d' b ∧ (2 < k → qt d' b = true)) : NP q n m d (xs ++ [x]) := by
  refine .of (by rw [List.length_append, List.length_singleton]; omega) fun y hy => ?_
  rcases List.mem_append.mp hy with hy | hy
  · exact h.item hy
  · rw [List.mem_singleton.mp hy]; exact hx
theorem NP.one {m d : Nat} {x : U} (hm : 1 ≤ m) (h : Ins q n x) : NP q n m d [x] := .of hm fun y hy => .inl (by rw [List.mem_singleton.mp hy]; exact h)
theorem qt_up : ∀ {d m : Nat} {xs : List U}, NP q n m d xs → qt d xs = true → qt (d + 1) xs = true
  | 0, m, xs, h, hq => List.all_eq_true.mpr fun x hx => by
    rw [ins_lp (h.2 x hx)]
    exact List.all_eq_true.mp hq x hx
  | d + 1, m, xs, h, hq => List.all_eq_true.mpr fun x hx => by
    have h1 := List.all_eq_true.mp hq x hx
    rcases h.2 x hx with hi | ⟨k, b, rfl, hk, hb, _⟩
    · rw [ins_lp hi] at h1 ⊢; exact h1
    · rw [lpOf_lpU] at h1 ⊢
      exact qt_up hb h1
theorem NP.up : ∀ {d m : Nat} {xs : List U}, NP q n m d xs → NP q n m (d + 1) xs
  | 0, m, xs, h => ⟨h.1, fun x hx => .inl (h.2 x hx)⟩
  | d + 1, m, xs, h => ⟨h.1, fun x hx => (h.2 x hx).imp id fun ⟨k, b, e, hk, hb, hq⟩ => ⟨k, b, e, hk, hb.up, fun h2 => qt_up hb (hq h2)⟩⟩
theorem NP.to {m : Nat} {xs : List U} : ∀ (e : Nat) {d : Nat}, NP q n m d xs → NP q n m (d + e) xs
  | 0, d, h => h
  | e + 1, d, h => (NP.to e h).up
theorem NP.pg : ∀ {d m : Nat} {xs : List U}, m ≤ 4 → NP q n m d xs → Pg q n d xs
  | 0, m, xs, hm, h => ⟨by have := h.1; omega, h.2⟩
  | d + 1, m, xs, hm, h => ⟨by have := h.1; omega, fun x hx => (h.2 x hx).imp id fun ⟨k, b, e, hk, hb, _⟩ => ⟨k, b, e, hk, hb.pg (by decide)⟩⟩
theorem isum_le {f : U → Int} {M : Int} : ∀ {xs : List U}, (∀ x ∈ xs, f x ≤ M) → (xs.map f).sum ≤ xs.length * M
  | [], _ => by simp
  | x :: xs, h => by
    have h1 := isum_le fun y hy => h y (List.mem_cons_of_mem _ hy)
    have h2 := h x (List.mem_cons_self ..)
    rw [List.map_cons, List.sum_cons, List.length_cons, Int.natCast_succ, Int.add_mul, Int.one_mul]
    omega
theorem isum_lem {f : U → Int} {M : Int} (hM : 0 ≤ M) {m : Nat} {xs : List U} (hl : xs.length ≤ m) (h : ∀ x ∈ xs, f x ≤ M) : (xs.map f).sum ≤ m * M :=
  Int.le_trans (isum_le h) (Int.mul_le_mul_of_nonneg_right (Int.ofNat_le.mpr hl) hM)
def szB : Nat → Int
  | 0 => 1
  | d + 1 => 1 + 2 * szB d
theorem szB_nn : ∀ d, 1 ≤ szB d
  | 0 => Int.le_refl _
  | d + 1 => by show 1 ≤ 1 + 2 * szB d; have := szB_nn d; omega
theorem szi_ins {d : Nat} {x : U} (h : Ins q n x) : szi d x = 1 := by
  cases d with
  | zero => rfl
  | succ d => show (match lpOf x with | some (_, b) => 1 + szU d b | none => 1) = 1; rw [ins_lp h]
theorem NP.sz : ∀ {d m : Nat} {xs : List U}, NP q n m d xs → szU d xs ≤ m * szB d
  | d, m, xs, h => by
    rw [szU_eq]
    have := szB_nn d
    refine isum_lem (by omega) h.len fun x hx => ?_
    rcases h.item hx with hi | ⟨d', k, b, rfl, rfl, hk, hb, _⟩
    · rw [szi_ins hi]; exact this
    · rw [szi_lp]
      have := hb.sz
      show 1 + szU d' b ≤ 1 + 2 * szB d'
      omega
def ctB : Nat → Int
  | 0 => 1
  | d + 1 => 4 * ctB d
theorem ctB_nn : ∀ d, 1 ≤ ctB d
  | 0 => Int.le_refl _
  | d + 1 => by show 1 ≤ 4 * ctB d; have := ctB_nn d; omega
theorem cn1_ins {f : U → Int} {d : Nat} {x : U} (h : Ins q n x) : cn1 f d x = f x := by
  cases d with
  | zero => rfl
  | succ d => show (match lpOf x with | some (k, b) => k * cnt f d b | none => f x) = f x; rw [ins_lp h]
theorem wt_rw {w : Str} (hw : w = "read" ∨ w = "write") {x : U} (h : Ins q n x) (hr : (!isRW x) = true) : wt [w] x = 0 := by
  have key : ∀ v : Str, v ≠ "read" → v ≠ "write" → (if ([w] : List Str) = [] ∨ v ∈ [w] then (1 : Int) else 0) = 0 := fun v h1 h2 => by
    rw [if_neg]
    intro z
    rcases z with z | z
    · cases z
    · rw [List.mem_singleton.mp z] at h1 h2
      rcases hw with rfl | rfl
      · exact h1 rfl
      · exact h2 rfl
  cases h with
  | @read a h1 => rw [isRW_c, decide_eq_true (.inl rfl)] at hr; cases hr
  | @write a h1 => rw [isRW_c, decide_eq_true (.inr rfl)] at hr; cases hr
  | _ => exact key _ (by decide) (by decide)
theorem cnt_nn {ws : List Str} : ∀ {d m : Nat} {xs : List U}, NP q n m d xs → 0 ≤ cnt (wt ws) d xs
  | d, m, xs, h => by
    rw [cnt_eq]
    have : ∀ ys : List U, (∀ y ∈ ys, 0 ≤ cn1 (wt ws) d y) → 0 ≤ (ys.map (cn1 (wt ws) d)).sum := fun ys => by
      induction ys with
      | nil => intro _; simp
      | cons y ys ih =>
        intro hy
        have h1 := ih fun z hz => hy z (List.mem_cons_of_mem _ hz)
        have h2 := hy y (List.mem_cons_self ..)
        rw [List.map_cons, List.sum_cons]
        omega
    refine this xs fun x hx => ?_
    rcases h.item hx with hi | ⟨d', k, b, rfl, rfl, hk, hb, _⟩
    · rw [cn1_ins hi]; exact (wt_bd ws x).1
    · show 0 ≤ (k : Int) * cnt (wt ws) d' b
      exact Int.mul_nonneg (Int.natCast_nonneg k) (cnt_nn hb)
theorem qt_cnt {w : Str} (hw : w = "read" ∨ w = "write") : ∀ {d m : Nat} {xs : List U}, NP q n m d xs → qt d xs = true → cnt (wt [w]) d xs = 0
  | d, m, xs, h, hq => by
    rw [cnt_eq]
    have : ∀ ys : List U, (∀ y ∈ ys, cn1 (wt [w]) d y = 0) → (ys.map (cn1 (wt [w]) d)).sum = 0 := fun ys => by
      induction ys with
      | nil => intro _; simp
      | cons y ys ih =>
        intro hy
        rw [List.map_cons, List.sum_cons, hy y (List.mem_cons_self ..), ih fun z hz => hy z (List.mem_cons_of_mem _ hz)]
        rfl
    refine this xs fun x hx => ?_
    rcases h.item hx with hi | ⟨d', k, b, rfl, rfl, hk, hb, _⟩
    · rw [cn1_ins hi]
      refine wt_rw hw hi ?_
      cases d with
      | zero => exact List.all_eq_true.mp hq x hx
      | succ d =>
        have h1 := List.all_eq_true.mp hq x hx
        rw [ins_lp hi] at h1
        exact h1
    · have h1 := List.all_eq_true.mp hq _ hx
      rw [lpOf_lpU] at h1
      show (k : Int) * cnt (wt [w]) d' b = 0
      rw [qt_cnt hw hb h1, Int.mul_zero]
theorem NP.ct {w : Str} (hw : w = "read" ∨ w = "write") : ∀ {d m : Nat} {xs : List U}, NP q n m d xs → cnt (wt [w]) d xs ≤ m * ctB d
  | d, m, xs, h => by
    rw [cnt_eq]
    have hp := ctB_nn d
    refine isum_lem (by omega) h.len fun x hx => ?_
    rcases h.item hx with hi | ⟨d', k, b, rfl, rfl, hk, hb, hq⟩
    · rw [cn1_ins hi]; have := (wt_bd [w] x).2; omega
    · show (k : Int) * cnt (wt [w]) d' b ≤ 4 * ctB d'
      have h1 := hb.ct hw
      have h0 := cnt_nn (ws := [w]) hb
      have hp' := ctB_nn d'
      by_cases h2 : 2 < k
      · rw [qt_cnt hw hb (hq h2), Int.mul_zero]; omega
      · have : (k : Int) * cnt (wt [w]) d' b ≤ 2 * (2 * ctB d') := Int.mul_le_mul (by omega) h1 h0 (by decide)
        omega
theorem okI_of {lo hi i : Int} (h1 : lo ≤ i) (h2 : i ≤ hi) : okI lo hi (.int i) = true := decide_eq_true ⟨h1, h2⟩
theorem okIt_ins {d : Nat} {x : U} (h : Ins q n x) : okIt q n d x = true := by
  have ne : ∀ {a b : Nat}, a ≠ b → neI (.int (a : Nat)) (.int (b : Nat)) = true := fun {a b} h => decide_eq_true (by omega)
  cases h with
  | @set a c h1 h2 h3 => rw [okIt_w (by decide)]; unfold parts; rw [if_pos (.inl rfl)]; dsimp only; rw [okI_of (by omega) (by omega), okI_of (by omega) (by omega)]; rfl
  | @scale a c h1 h2 h3 => rw [okIt_w (by decide)]; unfold parts; rw [if_pos (.inr rfl)]; dsimp only; rw [okI_of (by omega) (by omega), okI_of (by omega) (by omega)]; rfl
  | @copy a b h1 h2 h3 => rw [okIt_w (by decide)]; unfold parts; rw [if_neg (by decide), if_pos (.inl rfl)]; dsimp only; rw [okI_of (by omega) (by omega), okI_of (by omega) (by omega), ne h3]; rfl
  | @swap a b h1 h2 h3 => rw [okIt_w (by decide)]; unfold parts; rw [if_neg (by decide), if_pos (.inr rfl)]; dsimp only; rw [okI_of (by omega) (by omega), okI_of (by omega) (by omega), ne h3]; rfl
  | @add a b c h1 h2 h3 h4 h5 => rw [okIt_w (by decide)]; unfold parts; rw [if_neg (by decide), if_neg (by decide), if_pos rfl]; dsimp only; rw [okI_of (by omega) (by omega), okI_of (by omega) (by omega), ne h3, okI_of (by omega) (by omega)]; rfl
  | @read a h1 => rw [okIt_w (by decide)]; unfold parts; rw [if_neg (by decide), if_neg (by decide), if_neg (by decide), if_pos (.inl rfl)]; exact okI_of (by omega) (by omega)
  | @write a h1 => rw [okIt_w (by decide)]; unfold parts; rw [if_neg (by decide), if_neg (by decide), if_neg (by decide), if_pos (.inr rfl)]; exact okI_of (by omega) (by omega)
theorem NP.okB : ∀ {d m : Nat} {xs : List U}, NP q n m d xs → okBd q n d (.tup xs) = true
  | d, m, xs, h => List.all_eq_true.mpr fun x hx => by
    rcases h.item hx with hi | ⟨d', k, b, rfl, rfl, hk, hb, _⟩
    · exact okIt_ins hi
    · unfold lpU
      rw [okIt_l2 rfl, okI_of (Int.natCast_nonneg k) (by omega), hb.okB]
      rfl
theorem NP.isPr {m : Nat} (hm : m ≤ 4) {xs : List U} (h : NP q n m 4 xs) : Mx.isPr q n (.tup xs) = true := by
  show (okBd q n 4 (.tup xs) && (decide (szU 4 xs ≤ 200) && few xs)) = true
  have h1 := h.sz
  have h2 := h.ct (w := "read") (.inl rfl)
  have h3 := h.ct (w := "write") (.inr rfl)
  rw [show szB 4 = 31 from rfl] at h1
  rw [show ctB 4 = 256 from rfl] at h2 h3
  rw [h.okB, decide_eq_true (by omega)]
  unfold few
  rw [decide_eq_true (by omega), decide_eq_true (by omega)]
  rfl
def bkB : Nat → Nat
  | 0 => 10
  | d + 1 => 8 + 2 * bkB d
theorem bkB_ge : ∀ d, 10 ≤ bkB d
  | 0 => Nat.le_refl _
  | d + 1 => by show 10 ≤ 8 + 2 * bkB d; have := bkB_ge d; omega
theorem RpD.ins (hq : q ≤ 10007) (hn : n ≤ 900) {T : Sto} {x : U} (h : Ins q n x) : RpD T x 1 9 := by
  have s5 : ∀ w ∈ words7, w.cps.size ≤ 5 ∧ PyData.strOk w = true := by decide +kernel
  obtain ⟨w, is, rfl, hw, h1, h3, hi⟩ := ins_shape hq hn h
  have hs := s5 w hw
  have hr : RpDs T (is.map fun i : Nat => U.int i) 0 is.length := by
    clear h1 h3 h
    induction is with
    | nil => exact .nil
    | cons i is ih =>
      have h0 := hi i (List.mem_cons_self ..)
      have := RpDs.cons (T := T) (RpD.sm (i := (i : Nat)) ⟨by omega, by omega⟩) (ih fun j hj => hi j (List.mem_cons_of_mem _ hj))
      rw [List.map_cons, List.length_cons]
      rwa [show 0 + 1 + is.length = is.length + 1 by omega] at this
  exact RpD.mono (.tup (.cons (.str hs.2) hr)) (by omega) (by omega)
theorem NP.rp (hq : q ≤ 10007) (hn : n ≤ 900) {T : Sto} : ∀ {d m : Nat} {xs : List U}, NP q n m d xs → RpDs T xs (2 * d + 1) (xs.length * bkB d)
  | d, m, xs, h => by
    have one : ∀ x ∈ xs, ∃ b, b + 1 ≤ bkB d ∧ RpD T x (2 * d + 1) b := fun x hx => by
      rcases h.item hx with hi | ⟨d', k, b, rfl, rfl, hk, hb, _⟩
      · refine ⟨9, ?_, (RpD.ins hq hn hi).mono (by omega) (Nat.le_refl _)⟩
        cases d with
        | zero => exact Nat.le_refl _
        | succ d => show 9 + 1 ≤ 8 + 2 * bkB d; have := bkB_ge d
                    omega
      · have hbl := hb.len
        have h1 := Nat.mul_le_mul_right (bkB d') hbl
        have hs : ("loop" : Str).cps.size = 4 := by decide +kernel
        have r1 : RpD T (.int (k : Nat)) 0 0 := .int (num_lg hk)
        have r2 := RpD.tup (hb.rp hq hn (T := T))
        have r0 : RpD T (.str "loop") 0 4 := by rw [← hs]; exact .str (by decide +kernel)
        have r3 := RpDs.cons (r0.mono (Nat.zero_le _) (Nat.le_refl _)) (RpDs.cons (r1.mono (Nat.zero_le _) (Nat.le_refl _)) (RpDs.cons r2 .nil))
        exact ⟨_, (by show _ + 1 ≤ 8 + 2 * bkB d'; omega), (RpD.tup r3).mono (by omega) (Nat.le_refl _)⟩
    clear h
    induction xs with
    | nil => rw [List.length_nil, Nat.zero_mul]; exact .nil
    | cons x xs ih =>
      obtain ⟨b, hb, hr⟩ := one x (List.mem_cons_self ..)
      have h2 := ih fun y hy => one y (List.mem_cons_of_mem _ hy)
      have h3 := RpDs.cons hr h2
      rw [List.length_cons, show (xs.length + 1) * bkB d = xs.length * bkB d + bkB d from Nat.succ_mul ..]
      obtain ⟨ds, a1, a2, a3, a4, a5⟩ := h3
      exact ⟨ds, a1, a2, a3, a4, by omega⟩
theorem NP.rpt (hq : q ≤ 10007) (hn : n ≤ 900) {T : Sto} {m : Nat} (hm : m ≤ 4) {xs : List U} (h : NP q n m 4 xs) : RpD T (.tup xs) 10 1200 := by
  have := Nat.mul_le_mul_right (bkB 4) (Nat.le_trans h.len hm)
  have e : bkB 4 = 280 := rfl
  exact RpD.mono (.tup (h.rp hq hn)) (by omega) (by omega)
end
end Mx
set_option Elab.async false
set_option linter.all false
set_option maxRecDepth 100000
set_option maxHeartbeats 4000000
namespace Mx
open PySem PySem.Spec L2 Lf Aff
theorem ins_nr {q : Int} {n : Nat} {x : U} (h : Ins q n x) : nr x = true := by cases h <;> rfl
theorem Pg.nrs_ {q : Int} {n : Nat} : ∀ {d : Nat} {xs : List U}, Pg q n d xs → nrs xs = true
  | 0, xs, h => by
    have : ∀ xs : List U, (∀ x ∈ xs, nr x = true) → nrs xs = true := fun xs => by
      induction xs with
      | nil => intro _; rfl
      | cons x xs ih => intro h; show (nr x && nrs xs) = true; rw [h x (List.mem_cons_self ..), ih fun y hy => h y (List.mem_cons_of_mem _ hy)]; rfl
    exact this xs fun x hx => ins_nr (h.2 x hx)
  | d + 1, xs, h => by
    have : ∀ xs : List U, (∀ x ∈ xs, nr x = true) → nrs xs = true := fun xs => by
      induction xs with
      | nil => intro _; rfl
      | cons x xs ih => intro h; show (nr x && nrs xs) = true; rw [h x (List.mem_cons_self ..), ih fun y hy => h y (List.mem_cons_of_mem _ hy)]; rfl
    refine this xs fun x hx => ?_
    rcases h.2 x hx with h1 | ⟨k, b, rfl, _, h2⟩
    · exact ins_nr h1
    · show (true && (true && (nrs b && true))) = true
      rw [Pg.nrs_ h2]; rfl
def PotB (b : Nat) (o : O) : Prop := ∃ a x c : Int, o = .lst [.int a, .int x, .int c] ∧ 0 ≤ x ∧ x < 2305843009213693921 ∧ 0 ≤ c ∧ c ≤ b
theorem PotB.mono {b b' : Nat} {o : O} (h : PotB b o) (hb : b ≤ b') : PotB b' o := by
  obtain ⟨a, x, c, e, h1, h2, h3, h4⟩ := h
  exact ⟨a, x, c, e, h1, h2, h3, by omega⟩
theorem PotB.nr {b : Nat} {o : O} (h : PotB b o) : nrO o = true := by
  obtain ⟨a, x, c, rfl, _⟩ := h
  rfl
structure PE (i b : Nat) (T T' : Sto) : Prop where
  pot : ∃ o, T'[i]? = some o ∧ PotB b o
  kp : ∀ j, j ≠ i → j < T.length → T'[j]? = T[j]?
  le : T.length ≤ T'.length
theorem PE.refl {i b : Nat} {T : Sto} (h : ∃ o, T[i]? = some o ∧ PotB b o) : PE i b T T := ⟨h, fun _ _ _ => rfl, Nat.le_refl _⟩
theorem PE.trans {i b1 b2 : Nat} {T T1 T2 : Sto} (a : PE i b1 T T1) (c : PE i b2 T1 T2) : PE i b2 T T2 := ⟨c.pot, fun j h1 h2 => (c.kp j h1 (Nat.lt_of_lt_of_le h2 a.le)).trans (a.kp j h1 h2), Nat.le_trans a.le c.le⟩
theorem PE.mono {i b b' : Nat} {T T' : Sto} (a : PE i b T T') (h : b ≤ b') : PE i b' T T' := ⟨let ⟨o, h1, h2⟩ := a.pot; ⟨o, h1, h2.mono h⟩, a.kp, a.le⟩
theorem PE.app {i b : Nat} {T T' l : Sto} (a : PE i b T T') : PE i b T (T' ++ l) := ⟨let ⟨o, h1, h2⟩ := a.pot; ⟨o, ap h1, h2⟩, fun j h1 h2 => by rw [List.getElem?_append_left (Nat.lt_of_lt_of_le h2 a.le)]; exact a.kp j h1 h2, by rw [List.length_append]; have := a.le; omega⟩
theorem PE.at_ {i b j : Nat} {T T' : Sto} {o : O} (a : PE i b T T') (h : T[j]? = some o) (hj : j ≠ i) : T'[j]? = some o := (a.kp j hj (lt_at h)).trans h
theorem PE.kf {i b : Nat} {T T' T2 : Sto} (a : PE i b T T') (K : Kf T' T2) : PE i b T T2 := ⟨let ⟨o, h1, h2⟩ := a.pot; ⟨o, K.at_ h1, h2⟩, fun j h1 h2 => (K.kp j (Nat.lt_of_lt_of_le h2 a.le)).trans (a.kp j h1 h2), Nat.le_trans a.le K.le⟩
theorem potW {n : Nat} {g : List U → M U} {i : Nat} {r : List U} {T : Sto} {Q : U → Sto → Prop} {b b' : Nat} (R : U → Prop) (hn : r.length + 1 = n) (hr : nrs r = true) (a : ∃ o, T[i]? = some o ∧ PotB b o)
    (h : ∀ o, PotB b o → Wp (g (.ob 0 :: r) [o]) fun u T' => (∃ o', T'[0]? = some o' ∧ PotB b' o') ∧ nr u = true ∧ R u) (q : ∀ u T', R u → PE i b' T T' → T'.length = T.length → Q u T') : Wp (kdG .urn n g (.ob i :: r) T) Q := by
  obtain ⟨o, ht, u⟩ := a
  refine urn_wp hn hr ht u.nr ((h o u).mono ?_)
  rintro v T' ⟨⟨o', e, u'⟩, h1, h2⟩
  match T', e with
  | z :: l, e =>
    cases e
    exact ⟨_, _, rfl, u'.nr, h1, q _ _ h2 ⟨⟨_, List.getElem?_set_self (lt_at ht), u'⟩, fun j h1 _ => List.getElem?_set_ne (Ne.symm h1), by rw [List.length_set]; exact Nat.le_refl _⟩ (List.length_set ..)⟩
theorem draw_pot {T : Sto} {i b : Nat} {n : Int} (a : ∃ o, T[i]? = some o ∧ PotB b o) (hb : b ≤ 1000000) (hn : 0 < n) (hn2 : n < 1000000000000000000000) {Q : U → Sto → Prop} (q : ∀ j T', 0 ≤ j → j < n → PE i (b + 1) T T' → T'.length = T.length → Q (.int j) T') : Wp (kdG .urn 2 Fn.g_law_draw [.ob i, .int n] T) Q := by
  refine potW (r := [.int n]) (b' := b + 1) (fun u => ∃ j, u = .int j ∧ 0 ≤ j ∧ j < n) rfl rfl a (fun o u => ?_) (fun u T' ⟨j, e, h1, h2⟩ e1 e2 => by subst e; exact q j T' h1 h2 e1 e2)
  obtain ⟨a, x, c, rfl, x0, x1, c0, c1⟩ := u
  have hdv : 0 < n ∧ n.natAbs.log2 < 9000 := by
    refine ⟨hn, ?_⟩
    have h0 : n.natAbs ≠ 0 := by omega
    have h1 : n.natAbs < 1000000000000000000000 := by omega
    exact Nat.lt_trans ((Nat.log2_lt h0).mpr (Nat.lt_of_lt_of_le h1 (by decide +kernel : 1000000000000000000000 ≤ 2 ^ 80))) (by decide)
  refine gDef_wp ?_
  unfold Fn.f_law_draw
  bv_omega
  refine v_ifd (fun h => ?_) (fun h => ?_)
  · bv_omega
    have hm := emod_bd (a := a) hn
    exact ⟨⟨_, rfl, _, _, _, rfl, x0, x1, c0, by omega⟩, rfl, _, rfl, hm.1, hm.2⟩
  · have hc1 : 0 ≤ 86243 * (c + 1) ∧ 86243 * (c + 1) ≤ 86243 * 1000001 := by omega
    have hcc : 0 ≤ 86243 * (c + 1) * (c + 1) ∧ 86243 * (c + 1) * (c + 1) ≤ 86243 * 1000001 * 1000001 := ⟨Int.mul_nonneg hc1.1 (by omega), Int.mul_le_mul hc1.2 (by omega) (by omega) (by decide)⟩
    have hfin : ∀ y : Int, 0 ≤ y % n ∧ y % n < n := fun y => emod_bd hn
    bv_omega
    exact ⟨⟨_, rfl, _, _, _, rfl, x0, x1, by omega, by omega⟩, rfl, _, rfl, (hfin _).1, (hfin _).2⟩
theorem pick_pot {T : Sto} {i k b : Nat} {xs : List U} (a : ∃ o, T[i]? = some o ∧ PotB b o) (hb : b ≤ 1000000) (hx : T[k]? = some (.lst xs)) (hik : i ≠ k) (h0 : xs ≠ []) (hl : xs.length ≤ 1000000) {Q : U → Sto → Prop} (q : ∀ x T', x ∈ xs → PE i (b + 1) T T' → T'.length = T.length → Q x T') : Wp (kdG .len 2 Fn.g_law_pick [.ob i, .ob k] T) Q := by
  refine len_wp rfl (gDef_wp ?_)
  unfold Fn.f_law_pick
  have hl0 : 0 < xs.length := List.length_pos_iff.mpr h0
  bv_omega
  refine draw_pot a hb (by omega) (by omega) fun j T' j0 j1 e el => ?_
  have hx' := e.at_ hx (Ne.symm hik)
  obtain ⟨j, rfl⟩ : ∃ j' : Nat, j = j' := ⟨j.toNat, by omega⟩
  have hj : xs[j]? = some xs[j] := List.getElem?_eq_getElem (by omega)
  refine v_ixL hx' (atI_nat hj) ?_
  bv_omega
  exact q _ T' (List.getElem_mem _) e el
theorem wrap_ne {x z n : Int} (h0 : 0 ≤ x) (h1 : x < n) (z0 : 0 ≤ z) (z1 : z < n - 1) : x ≠ (x + 1 + z) % n := by
  intro h
  by_cases hb : x + 1 + z < n
  · rw [Int.emod_eq_of_lt (by omega) hb] at h
    omega
  · have h7 := Int.emod_eq_of_lt (a := x + 1 + z - n) (b := n) (by omega) (by omega)
    rw [Int.sub_emod_right] at h7
    omega
theorem other_pot {T : Sto} {i b n x : Nat} (a : ∃ o, T[i]? = some o ∧ PotB b o) (hb : b ≤ 900000) (hn : 2 ≤ n) (hn2 : n ≤ 100000) (hx : x < n) {Q : U → Sto → Prop} (q : ∀ (y : Nat) T', y < n → x ≠ y → PE i (b + 1) T T' → T'.length = T.length → Q (.int y) T') : Wp (kdG .urn 3 Fn.g_law_other [.ob i, .int n, .int x] T) Q := by
  refine potW (r := [.int n, .int x]) (b' := b + 1) (fun u => ∃ y : Nat, u = .int y ∧ y < n ∧ x ≠ y) rfl rfl a (fun o u => ?_) (fun u T' ⟨j, e, h1, h2⟩ e1 e2 => by subst e; exact q j T' h1 h2 e1 e2)
  refine gDef_wp ?_
  unfold Fn.f_law_other
  bv_omega
  refine draw_pot ⟨o, rfl, u⟩ (by omega) (by omega) (by omega) fun z T' z0 z1 e el => ?_
  bv_omega
  have h1 := emod_bd (a := (x : Int) + 1 + z) (n := n) (by omega)
  have h2 := wrap_ne (x := x) (z := z) (n := n) (by omega) (by omega) z0 z1
  exact ⟨e.pot, rfl, (((x : Int) + 1 + z) % n).toNat, by rw [Int.toNat_of_nonneg h1.1], by omega, by omega⟩
theorem digits_ok {ns : List Int} {k : Int} {T : Sto} {Q : U → Sto → Prop} (hk : 0 ≤ k) (hk2 : k < 1000) (q : ∀ o, PotB 0 o → Q (.ob T.length) (T ++ [o])) : Wp (kdG .pur 2 Fn.g_law_digits [.scr ns, .int k] T) Q := by
  refine pur_wp rfl rfl (gDef_wp ?_)
  unfold Fn.f_law_digits
  refine seq_wp (v_set (.mono (Q := fun u T1 => ∃ c, u = .int c ∧ T1 = []) ?_ ?_))
  · bv_omega
    refine v_ifd (fun h => ?_) (fun h => ?_)
    · bv_omega
      obtain ⟨x, e, _⟩ := atI_mem (xs := ns) hk h
      refine v_ixN e ?_
      exact ⟨_, rfl, rfl⟩
    · bv_omega
      rfl
  rintro _ _ ⟨c, rfl, rfl⟩
  bv_omega
  have e1 : ((10 : Int) ^ (60 : Int).toNat).natAbs.log2 + ((10 : Int) ^ (60 : Int).toNat).natAbs.log2 < 1000000 := by decide +kernel
  have e2 : ((10 : Int) ^ (60 : Int).toNat * (10 : Int) ^ (60 : Int).toNat).natAbs.log2 + ((10 : Int) ^ (60 : Int).toNat).natAbs.log2 < 1000000 := by decide +kernel
  have e3 : ((10 : Int) ^ (60 : Int).toNat * (10 : Int) ^ (60 : Int).toNat * (10 : Int) ^ (60 : Int).toNat).natAbs.log2 + ((10 : Int) ^ (60 : Int).toNat).natAbs.log2 < 1000000 := by decide +kernel
  have hp : (0 : Int) < (10 : Int) ^ (60 : Int).toNat * (10 : Int) ^ (60 : Int).toNat * (10 : Int) ^ (60 : Int).toNat * (10 : Int) ^ (60 : Int).toNat := by decide +kernel
  have he : (10 : Int) ^ (60 : Int).toNat * (10 : Int) ^ (60 : Int).toNat * (10 : Int) ^ (60 : Int).toNat * (10 : Int) ^ (60 : Int).toNat < 2 ^ 1999 := by decide +kernel
  refine v_mul e1 ?_
  bv_omega
  refine v_mul e2 ?_
  bv_omega
  refine v_mul e3 ?_
  generalize (10 : Int) ^ (60 : Int).toNat * (10 : Int) ^ (60 : Int).toNat * (10 : Int) ^ (60 : Int).toNat * (10 : Int) ^ (60 : Int).toNat = M at hp he ⊢
  set_option exponentiation.threshold 4000 in
  have hm : ((if c < 0 then -c else c) % M).natAbs.log2 < 999990 := by
    have h := emod_bd (a := if c < 0 then -c else c) hp
    generalize (if c < 0 then -c else c) % M = z at h
    by_cases h0 : z.natAbs = 0
    · rw [h0]; decide
    · refine Nat.lt_trans ((Nat.log2_lt h0).mpr (?_ : z.natAbs < 2 ^ 1999)) (by decide)
      have e1 : ((z.natAbs : Nat) : Int) = z := Int.natAbs_of_nonneg h.1
      have e2 : (((2 ^ 1999 : Nat)) : Int) = (2 : Int) ^ 1999 := by decide +kernel
      omega
  refine v_mod hp ?_
  generalize (if c < 0 then -c else c) % M = z at hm ⊢
  bv_omega
  refine v_mul ?_ ?_
  · have this : ∀ b : Bool, (if b = true then (1 : Int) else 0).natAbs.log2 ≤ 1 := by decide
    exact Nat.lt_of_le_of_lt (Nat.add_le_add_left (this _) _) (by omega)
  have hk1 : 0 ≤ 104729 * k ∧ 104729 * k ≤ 104729 * 1000 := by omega
  have hkk : 0 ≤ 104729 * k * k ∧ 104729 * k * k ≤ 104729 * 1000 * 1000 := ⟨Int.mul_nonneg hk1.1 (by omega), Int.mul_le_mul hk1.2 (by omega) (by omega) (by decide)⟩
  have hcm := emod_bd (a := c) (n := 2305843009213693951) (by decide)
  bv_omega
  exact ⟨rfl, q _ ⟨_, _, _, rfl, (emod_bd (by decide)).1, (emod_bd (by decide)).2, by decide, by decide⟩⟩
end Mx
set_option Elab.async false
set_option linter.all false
set_option maxRecDepth 100000
set_option maxHeartbeats 4000000
namespace Mx
open PySem PySem.Spec L2 Lf Aff
theorem instr_ok {q : Int} (hq : 2 ≤ q) (hq2 : q ≤ 10007) {n : Nat} (hn : 1 ≤ n) (hn2 : n ≤ 900) {T : Sto} {i b : Nat} (a : ∃ o, T[i]? = some o ∧ PotB b o) (hb : b ≤ 90000) {Q : U → Sto → Prop}
    (g : ∀ x T', Ins q n x → PE i (b + 5) T T' → T'.length = T.length → Q x T') : Wp (kdG .urn 3 Fn.g_law_instruction [.ob i, .int q, .int n] T) Q := by
  refine potW (r := [.int q, .int n]) (b' := b + 5) (fun u => Ins q n u) rfl rfl a (fun o po => ?_) (fun u T' h e1 e2 => g u T' h e1 e2)
  have fin : ∀ {x : U} {T' : Sto} {c : Nat}, c ≤ b + 5 → Ins q n x → PE 0 c [o] T' → (∃ o', T'[0]? = some o' ∧ PotB (b + 5) o') ∧ nr x = true ∧ Ins q n x := fun hc hx e => ⟨(e.mono hc).pot, ins_nr hx, hx⟩
  have E0 : PE 0 b [o] [o] := .refl ⟨o, rfl, po⟩
  refine gDef_wp ?_
  unfold Fn.f_law_instruction
  bv_omega
  refine draw_pot E0.pot (by omega) (by omega) (by omega) fun x T2 x0 x1 e2 l2 => ?_
  obtain ⟨x, rfl⟩ : ∃ x' : Nat, x = x' := ⟨x.toNat, by omega⟩
  have hxn : x < n := by omega
  have E2 := E0.trans e2
  have h20 : 0 ≠ T2.length := by rw [l2]; exact Nat.zero_ne_one
  bv_omega
  have e3 : PE 0 (b + 1) T2 (T2 ++ [O.lst [U.str "copy", U.str "set", U.str "add", U.str "read", U.str "scale", U.str "copy", U.str "swap", U.str "write"]]) := (PE.refl E2.pot).app
  refine pick_pot e3.pot (by omega) ap0 h20 (List.cons_ne_nil _ _) (by simp) fun w T4 hwm e4 _ => ?_
  have E4 := (E2.trans e3).trans e4
  clear e2 e3 e4 E2 E0
  simp only [List.mem_cons, List.not_mem_nil, or_false] at hwm
  have hw : w = .str "set" ∨ w = .str "scale" ∨ w = .str "read" ∨ w = .str "write" ∨ w = .str "add" ∨ w = .str "copy" ∨ w = .str "swap" := by
    rcases hwm with rfl | rfl | rfl | rfl | rfl | rfl | rfl | rfl <;> simp
  clear hwm
  have h1n : n ≠ 1 → 2 ≤ n := fun h => by omega
  rcases hw with rfl | rfl | rfl | rfl | rfl | rfl | rfl
  · bv_omega
    refine v_ifd (fun h1 => ?_) (fun h1 => ?_)
    · bv_omega
      refine v_in3 ?_
      bv_omega
      refine v_nob (by decide) ?_
      bv_omega
      refine draw_pot E4.pot (by omega) (by omega) (by omega) fun t T5 t0 t1 e5 _ => ?_
      bv_omega
      exact fin (by omega) (.set hxn t0 t1) (E4.trans e5)
    · have h2 := h1n (by omega)
      bv_omega
      refine draw_pot E4.pot (by omega) (by omega) (by omega) fun t T5 t0 t1 e5 _ => ?_
      bv_omega
      exact fin (by omega) (.set hxn t0 t1) (E4.trans e5)
  · bv_omega
    refine v_ifd (fun h1 => ?_) (fun h1 => ?_)
    · bv_omega
      refine v_in3 ?_
      bv_omega
      refine v_nob (by decide) ?_
      bv_omega
      refine draw_pot E4.pot (by omega) (by omega) (by omega) fun t T5 t0 t1 e5 _ => ?_
      bv_omega
      have e6 : PE 0 (b + 1 + 1 + 1) T4 (T5 ++ [O.lst [U.int 0, U.int 1, U.int (q - 1), U.int t]]) := e5.app
      have h50 : 0 ≠ T5.length := by have := lt_at e5.pot.choose_spec.1; omega
      refine pick_pot (xs := [U.int 0, U.int 1, U.int (q - 1), U.int t]) e6.pot (by omega) ap0 h50 (List.cons_ne_nil _ _) (by simp) fun y T6 hy e7 _ => ?_
      obtain ⟨c, rfl, c0, c1⟩ : ∃ c, y = .int c ∧ 0 ≤ c ∧ c < q := by
        simp only [List.mem_cons, List.not_mem_nil, or_false] at hy
        rcases hy with rfl | rfl | rfl | rfl
        · exact ⟨_, rfl, by omega, by omega⟩
        · exact ⟨_, rfl, by omega, by omega⟩
        · exact ⟨_, rfl, by omega, by omega⟩
        · exact ⟨_, rfl, t0, t1⟩
      bv_omega
      exact fin (by omega) (.scale hxn c0 c1) ((E4.trans e6).trans e7)
    · have h2 := h1n (by omega)
      bv_omega
      refine draw_pot E4.pot (by omega) (by omega) (by omega) fun t T5 t0 t1 e5 _ => ?_
      bv_omega
      have e6 : PE 0 (b + 1 + 1 + 1) T4 (T5 ++ [O.lst [U.int 0, U.int 1, U.int (q - 1), U.int t]]) := e5.app
      have h50 : 0 ≠ T5.length := by have := lt_at e5.pot.choose_spec.1; omega
      refine pick_pot (xs := [U.int 0, U.int 1, U.int (q - 1), U.int t]) e6.pot (by omega) ap0 h50 (List.cons_ne_nil _ _) (by simp) fun y T6 hy e7 _ => ?_
      obtain ⟨c, rfl, c0, c1⟩ : ∃ c, y = .int c ∧ 0 ≤ c ∧ c < q := by
        simp only [List.mem_cons, List.not_mem_nil, or_false] at hy
        rcases hy with rfl | rfl | rfl | rfl
        · exact ⟨_, rfl, by omega, by omega⟩
        · exact ⟨_, rfl, by omega, by omega⟩
        · exact ⟨_, rfl, by omega, by omega⟩
        · exact ⟨_, rfl, t0, t1⟩
      bv_omega
      exact fin (by omega) (.scale hxn c0 c1) ((E4.trans e6).trans e7)
  · bv_omega
    refine v_ifd (fun h1 => ?_) (fun h1 => ?_)
    · bv_omega
      refine v_in3 ?_
      bv_omega
      refine v_nob (by decide) ?_
      bv_omega
      exact fin (by omega) (.read hxn) (E4.mono (by omega : _ ≤ b + 5))
    · have h2 := h1n (by omega)
      bv_omega
      exact fin (by omega) (.read hxn) (E4.mono (by omega : _ ≤ b + 5))
  · bv_omega
    refine v_ifd (fun h1 => ?_) (fun h1 => ?_)
    · bv_omega
      refine v_in3 ?_
      bv_omega
      refine v_nob (by decide) ?_
      bv_omega
      exact fin (by omega) (.write hxn) (E4.mono (by omega : _ ≤ b + 5))
    · have h2 := h1n (by omega)
      bv_omega
      exact fin (by omega) (.write hxn) (E4.mono (by omega : _ ≤ b + 5))
  · bv_omega
    refine v_ifd (fun h1 => ?_) (fun h1 => ?_)
    · bv_omega
      refine v_in3 ?_
      bv_omega
      refine v_yesb (by decide) ?_
      bv_omega
      refine draw_pot E4.pot (by omega) (by omega) (by omega) fun t T5 t0 t1 e5 _ => ?_
      bv_omega
      exact fin (by omega) (.set hxn t0 t1) (E4.trans e5)
    · have h2 := h1n (by omega)
      bv_omega
      refine other_pot E4.pot (by omega) h2 (by omega) hxn fun y T5 y1 y2 e5 _ => ?_
      bv_omega
      refine draw_pot e5.pot (by omega) (by omega) (by omega) fun t T6 t0 t1 e6 _ => ?_
      bv_omega
      exact fin (by omega) (.add hxn y1 y2 (by omega) (by omega)) ((E4.trans e5).trans e6)
  · bv_omega
    refine v_ifd (fun h1 => ?_) (fun h1 => ?_)
    · bv_omega
      refine v_in3 ?_
      bv_omega
      refine v_yesb (by decide) ?_
      bv_omega
      refine draw_pot E4.pot (by omega) (by omega) (by omega) fun t T5 t0 t1 e5 _ => ?_
      bv_omega
      exact fin (by omega) (.set hxn t0 t1) (E4.trans e5)
    · have h2 := h1n (by omega)
      bv_omega
      refine other_pot E4.pot (by omega) h2 (by omega) hxn fun y T5 y1 y2 e5 _ => ?_
      bv_omega
      exact fin (by omega) (.copy hxn y1 y2) (E4.trans e5)
  · bv_omega
    refine v_ifd (fun h1 => ?_) (fun h1 => ?_)
    · bv_omega
      refine v_in3 ?_
      bv_omega
      refine v_yesb (by decide) ?_
      bv_omega
      refine draw_pot E4.pot (by omega) (by omega) (by omega) fun t T5 t0 t1 e5 _ => ?_
      bv_omega
      exact fin (by omega) (.set hxn t0 t1) (E4.trans e5)
    · have h2 := h1n (by omega)
      bv_omega
      refine other_pot E4.pot (by omega) h2 (by omega) hxn fun y T5 y1 y2 e5 _ => ?_
      bv_omega
      exact fin (by omega) (.swap hxn y1 y2) (E4.trans e5)
end Mx
set_option Elab.async false
set_option linter.all false
set_option maxRecDepth 100000
set_option maxHeartbeats 4000000
namespace Mx
open PySem PySem.Spec L2 Lf Aff
theorem ins_op {q : Int} (hq2 : q ≤ 10007) {n : Nat} (hn2 : n ≤ 900) {x : U} (h : Ins q n x) : Op x := by
  cases h with
  | @set a c h1 h2 h3 => exact ⟨"set", [a, c], rfl, by decide, by simp, fun z hz => by simp only [List.mem_cons, List.not_mem_nil, or_false] at hz; rcases hz with rfl | rfl <;> omega⟩
  | @scale a c h1 h2 h3 => exact ⟨"scale", [a, c], rfl, by decide, by simp, fun z hz => by simp only [List.mem_cons, List.not_mem_nil, or_false] at hz; rcases hz with rfl | rfl <;> omega⟩
  | @copy a b h1 h2 h3 => exact ⟨"copy", [a, b], rfl, by decide, by simp, fun z hz => by simp only [List.mem_cons, List.not_mem_nil, or_false] at hz; rcases hz with rfl | rfl <;> omega⟩
  | @swap a b h1 h2 h3 => exact ⟨"swap", [a, b], rfl, by decide, by simp, fun z hz => by simp only [List.mem_cons, List.not_mem_nil, or_false] at hz; rcases hz with rfl | rfl <;> omega⟩
  | @add a b c h1 h2 h3 h4 h5 => exact ⟨"add", [a, b, c], rfl, by decide, by simp, fun z hz => by simp only [List.mem_cons, List.not_mem_nil, or_false] at hz; rcases hz with rfl | rfl | rfl <;> omega⟩
  | @read a h1 => exact ⟨"read", [a], rfl, by decide, by simp, fun z hz => by simp only [List.mem_cons, List.not_mem_nil, or_false] at hz; rcases hz with rfl; omega⟩
  | @write a h1 => exact ⟨"write", [a], rfl, by decide, by simp, fun z hz => by simp only [List.mem_cons, List.not_mem_nil, or_false] at hz; rcases hz with rfl; omega⟩
/-- the steps of a program and of all its bodies: at most N -/
def FB (N : Nat) : Nat → List U → Prop
  | 0, xs => xs.length ≤ N
  | d + 1, xs => (flt (d + 1) xs).length ≤ N ∧ ∀ (k : Int) (b : List U), lpU k b ∈ xs → FB N d b
theorem FB.le {N : Nat} : ∀ {d : Nat} {xs : List U}, FB N d xs → (flt d xs).length ≤ N
  | 0, _, h => h
  | _ + 1, _, h => h.1
theorem pts_la {T : Sto} {q : Int} (hq2 : q ≤ 10007) {n : Nat} (hn2 : n ≤ 900) {ps : List Pw} (h : ∀ w ∈ ps, Ins q n w.2) : LaA T (ps.map pU) := by
  obtain ⟨ds, h1, h2, h3, _⟩ := pts_dat (T := T) (n := 62) ps fun w hw => ins_op hq2 hn2 (h w hw)
  exact ⟨ds, h1, h2, by omega⟩
/-- the steps with paths of some kind -/
structure Ptd (d : Nat) (xs : List U) (ps : List Pw) : Prop where
  s : ps.map (·.2) = flt d xs
  l : ∀ w ∈ ps, w.1.length ≤ 2 * d + 1
theorem Ptd.len {d : Nat} {xs : List U} {ps : List Pw} (h : Ptd d xs ps) : ps.length = (flt d xs).length := by rw [← h.s, List.length_map]
theorem Ptd.ins {q : Int} {n d : Nat} {xs : List U} {ps : List Pw} (h : Ptd d xs ps) (hx : ∀ x ∈ flt d xs, Ins q n x) : ∀ w ∈ ps, Ins q n w.2 := fun w hw => hx _ (by rw [← h.s]; exact List.mem_map.mpr ⟨w, hw, rfl⟩)
theorem flat_ok {q : Int} (hq2 : q ≤ 10007) {n : Nat} (hn2 : n ≤ 900) {N : Nat} (hN : N ≤ 1000000) : ∀ (d m : Nat) (xs : List U), d < m → d ≤ 10 → Pg q n d xs → FB N d xs → ∀ (T : Sto) (Q : U → Sto → Prop), (∀ T' k ps, Kf T T' → T.length ≤ k → T'[k]? = some (.lst (ps.map pU)) → Ptd d xs ps → Q (.ob k) T') → Wp (kdG .len 1 (Fn.g_law_flat m) [.tup xs] T) Q := by
  intro d
  induction d using Nat.strongRecOn with
  | ind d ih =>
    intro m xs hm hd10 hx hF T Q g
    obtain ⟨m, rfl⟩ : ∃ m', m = m' + 1 := ⟨m - 1, by omega⟩
    have hfl := hF.le
    refine len_wp rfl ?_
    show Wp (gDef 8 (Fn.f_law_flat (Fn.g_law_flat m)) [.tup xs] T) Q
    refine gDef_wp ?_
    unfold Fn.f_law_flat
    have hf0 := ap0 (T := T) (o := O.lst [])
    have K0 : Kf T (T ++ [O.lst []]) := .add _ _
    bv_omega
    refine wp_forI itsOk_const (fun j η T' => Kf T T' ∧ j ≤ xs.length ∧ ∃ (ps : List Pw) (o2 o3 o4 o5 o6 o7 : Option U), T'[T.length]? = some (.lst (ps.map pU)) ∧ Ptd d (xs.take j) ps ∧ η = [some (.tup xs), some (.ob T.length), o2, o3, o4, o5, o6, o7])
      ⟨K0, Nat.zero_le _, [], _, _, _, _, _, _, hf0, ⟨by rw [List.take_zero, flt_nil]; rfl, fun _ h => nomatch h⟩, rfl⟩ (fun _ _ _ _ => trivial) (fun j y η T' hj ⟨K, hjl, ps, o2, o3, o4, o5, o6, o7, hf, hP, eη⟩ => ?_) (fun η T' ⟨K, hjl, ps, o2, o3, o4, o5, o6, o7, hf, hP, eη⟩ => ?_)
    · subst eη
      obtain ⟨x, hjx, rfl⟩ := enl_get hj
      have hxx := List.mem_of_getElem? hjx
      have hjl2 := (List.getElem?_eq_some_iff.mp hjx).1
      have htk : (flt d (xs.take (j + 1))).length ≤ N := by
        have h := hfl
        rw [← List.take_append_drop (j + 1) xs, flt_app, List.length_append] at h
        omega
      have hpl := hP.len
      rw [take_snoc hjx, flt_app, List.length_append] at htk
      rcases hx.item hxx with ho | ⟨d', k, b, rfl, rfl, hk, hb⟩
      · have e1 := ins_flt (d := d) ho
        rw [e1, List.length_singleton] at htk
        have hnew : Ptd d (xs.take (j + 1)) (ps ++ [([(j : Int)], x)]) := ⟨by rw [take_snoc hjx, flt_app, e1, List.map_append, hP.s]; rfl, fun w hw => by
          rcases List.mem_append.mp hw with hw | hw
          · exact hP.l w hw
          · rw [List.mem_singleton.mp hw]; simp⟩
        obtain ⟨w, is, rfl, hw, _, _⟩ := ins_op hq2 hn2 ho
        have hpl2 : (ps.map pU).length < 16777216 := by rw [List.length_map]; omega
        bv_omega
        refine v_yesd (words7_ne w hw) ?_
        bv_omega
        exact ⟨K.set (Nat.le_refl _), by omega, _, _, _, _, _, _, _, by rw [List.getElem?_set_self (lt_at hf), List.map_append]; rfl, hnew, rfl⟩
      · rw [flt_one_lp, rep_len] at htk
        have hfb := hF.2 k b hxx
        unfold lpU
        bv_omega
        refine ih d' (Nat.lt_succ_self _) m b (by omega) (by omega) hb hfb _ _ fun T2 kb pb K2 hkb hlb hPb => ?_
        have hf2 := K2.at_ hf
        have hpbl := hPb.len
        have hla := pts_la (T := T2 ++ [O.lst []]) hq2 hn2 (hPb.ins (flt_all hb))
        have hlb3 := ap (l := [O.lst []]) hlb
        have hf3 := ap (l := [O.lst []]) hf2
        have hlt := lt_at hf
        have K3 := (K.trans K2).trans (.add T2 [O.lst []])
        bv_omega
        refine v_neE hlb3 ap0 hla ?_
        generalize T2 ++ [O.lst []] = T3 at hla hlb3 hf3 K3 ⊢
        have hpbn : ∀ K : Nat, (pb = [] → K = 0) → (pb ≠ [] → K = k) → (List.replicate K (flt d' b)).flatten = (List.replicate k (flt d' b)).flatten := fun K h1 h2 => by
          by_cases e : pb = []
          · rw [← hPb.s, e]
            have hz : ∀ z : Nat, (List.replicate z (List.map (fun w : Pw => w.2) [])).flatten = [] := fun z => by simp
            rw [hz, hz]
          · rw [h2 e]
        obtain ⟨K, hK⟩ : ∃ K : Nat, (k : Int) * (if decide (List.map pU pb ≠ []) = true then 1 else 0) = K := by
          by_cases e : pb = []
          · exact ⟨0, by rw [e]; simp⟩
          · exact ⟨k, by rw [decide_eq_true (by simpa using e), if_pos rfl, Int.mul_one]⟩
        have hK0 : pb = [] → K = 0 := fun e => by rw [e] at hK; simp at hK; omega
        have hK1 : pb ≠ [] → K = k := fun e => by rw [decide_eq_true (by simpa using e), if_pos rfl, Int.mul_one] at hK; omega
        have hKk : K ≤ k := by
          by_cases e : pb = []
          · rw [hK0 e]; omega
          · rw [hK1 e]; omega
        have hrep := hpbn K hK0 hK1
        have hKN : K ≤ N := by
          by_cases e : pb = []
          · rw [hK0 e]; omega
          · have h1 : 1 ≤ (flt d' b).length := by rw [← hpbl]; exact List.length_pos_iff.mpr e
            have := Nat.mul_le_mul_left k h1
            omega
        bv_omega
        rw [hK]
        show Wp (forN _ _ (constI (rgU 0 (K : Int).toNat)).fin (constI (rgU 0 (K : Int).toNat)).its _ _) _
        rw [Int.toNat_natCast]
        refine wp_forI itsOk_const (fun t η T4 => Kf T T4 ∧ t ≤ K ∧ ∃ (qs : List Pw) (o5 o6 o7 : Option U), T4[kb]? = some (.lst (pb.map pU)) ∧ T4[T.length]? = some (.lst ((ps ++ qs).map pU)) ∧ qs.map (·.2) = (List.replicate t (flt d' b)).flatten ∧ (∀ w ∈ qs, w.1.length ≤ 2 * d' + 3) ∧ η = [some (.tup xs), some (.ob T.length), some (.int (j : Nat)), some (.tup [.str "loop", .int k, .tup b]), some (.ob kb), o5, o6, o7])
          ⟨K3, Nat.zero_le _, [], _, _, _, hlb3, by rw [List.append_nil]; exact hf3, rfl, (fun _ h => nomatch h), rfl⟩ (fun _ _ _ _ => trivial) (fun t y η T4 ht ⟨K4, htK, qs, o5, o6, o7, hb4, hf4, hqs, hql, eη⟩ => ?_) (fun η T4 ⟨K4, htK, qs, o5, o6, o7, hb4, hf4, hqs, hql, eη⟩ => ?_)
        · subst eη
          obtain ⟨htl, rfl⟩ := rgU_at ht
          have hql1 : qs.length = t * (flt d' b).length := by
            have := congrArg List.length hqs
            rwa [List.length_map, rep_len] at this
          have hmul : (t + 1) * (flt d' b).length ≤ k * (flt d' b).length := Nat.mul_le_mul_right _ (by omega)
          rw [Nat.succ_mul] at hmul
          bv_omega
          refine wp_lcI2 itsOk_obj (fun i acc T5 => T5 = T4 ∧ i ≤ pb.length ∧ acc = ((pb.take i).map fun w : Pw => (((j : Int) :: (t : Int) :: w.1, w.2) : Pw)).map pU) ⟨rfl, Nat.zero_le _, rfl⟩ (fun _ _ _ h => by rw [h.1]; exact hb4) (fun i y acc T5 hi ⟨eT, hil, ea⟩ => ?_) (fun acc T5 ⟨eT, hil, ea⟩ => ?_)
          · subst eT
            rw [List.getElem?_map] at hi
            obtain ⟨w, hw, rfl⟩ := Option.map_eq_some_iff.mp hi
            have hwl := hPb.l w (List.mem_of_getElem? hw)
            have hil2 := (List.getElem?_eq_some_iff.mp hw).1
            have hal : acc.length < 16777216 := by rw [ea, List.length_map, List.length_map, List.length_take]; omega
            unfold pU
            bv_omega
            refine v_addT (by rw [List.length_map]; simp; omega) ?_
            bv_omega
            refine ⟨hal, rfl, by omega, ?_⟩
            rw [ea, take_snoc hw, List.map_append, List.map_append]; rfl
          · subst eT
            rw [List.length_map, List.take_length] at ea
            subst ea
            have hf5 := ap (l := [O.lst ((pb.map fun w : Pw => (((j : Int) :: (t : Int) :: w.1, w.2) : Pw)).map pU)]) hf4
            have hb5 := ap (l := [O.lst ((pb.map fun w : Pw => (((j : Int) :: (t : Int) :: w.1, w.2) : Pw)).map pU)]) hb4
            have hn5 := ap0 (T := T5) (o := O.lst ((pb.map fun w : Pw => (((j : Int) :: (t : Int) :: w.1, w.2) : Pw)).map pU))
            have K5 := K4.trans (.add T5 [O.lst ((pb.map fun w : Pw => (((j : Int) :: (t : Int) :: w.1, w.2) : Pw)).map pU)])
            generalize T5 ++ [O.lst ((pb.map fun w : Pw => (((j : Int) :: (t : Int) :: w.1, w.2) : Pw)).map pU)] = T6 at hf5 hb5 hn5 K5 ⊢
            bv_omega
            refine v_ext hf5 hn5 ⟨?_, ?_⟩
            · rw [List.length_map, List.length_map, List.length_map, List.length_append]; omega
            bv_omega
            have hkT : T.length ≠ kb := by have := lt_at hf; omega
            refine ⟨K5.set (Nat.le_refl _), by omega, qs ++ pb.map (fun w : Pw => (((j : Int) :: (t : Int) :: w.1, w.2) : Pw)), _, _, _, by rw [List.getElem?_set_ne hkT]; exact hb5, by rw [List.getElem?_set_self (lt_at hf5), ← List.map_append, List.append_assoc], ?_, fun w hw => ?_, rfl⟩
            · rw [List.map_append, hqs, rep_s', List.map_map]
              congr 1
              exact hPb.s
            · rcases List.mem_append.mp hw with hw | hw
              · exact hql w hw
              · obtain ⟨v, hv, rfl⟩ := List.mem_map.mp hw
                have := hPb.l v hv
                simp; omega
        · subst eη
          rw [rgU_len, hrep] at hqs
          refine ⟨K4, by omega, _, _, _, _, _, _, _, hf4, ⟨?_, fun w hw => ?_⟩, rfl⟩
          · rw [take_snoc hjx, flt_app, flt_one_lp, List.map_append, hP.s, hqs]
          · rcases List.mem_append.mp hw with hw | hw
            · exact hP.l w hw
            · have := hql w hw; omega
    · subst eη
      rw [show (enl xs).length = xs.length by unfold enl; rw [List.length_map, List.length_range], List.take_length] at hP
      bv_omega
      exact g _ _ ps K (Nat.le_refl _) hf hP
end Mx
set_option Elab.async false
set_option linter.all false
set_option maxRecDepth 100000
set_option maxHeartbeats 4000000
namespace Mx
open PySem PySem.Spec L2 Lf Aff TL
theorem v_fiS {Fe : FxE} {η : Lo} {T : Sto} {QI : ItF → Sto → Prop} (q : Wp (Fe η T) fun u T1 => ∃ x, u = .str x ∧ QI (constI (signI x)) T1) : Wp (fIterS Fe η T) QI := .bindE q fun _ _ ⟨x, e, q⟩ => by
  subst e
  exact .ok q
theorem v_ixS0 {z : Str} {c : Nat} {r : List Nat} {T : Sto} {Q : U → Sto → Prop} (hl : z.length ≤ 16777216) (e : tl z = c :: r) (q : Q (.str ⟨#[c]⟩) T) : Wp (gIx (.str z) (.int 0) T) Q := by
  unfold gIx
  have e1 : atI z.cps.toList 0 = some c := by rw [show z.cps.toList = c :: r from e]; unfold atI ixN; simp
  simp only [hl, e1, if_true]
  exact .ok q
theorem v_intS {a : Str} {n : Int} {T : Sto} {Q : U → Sto → Prop} (e : PySem.intText? a = some n) (hl : a.length ≤ 640) (q : Q (.int n) T) : Wp (gInt [.str a] T) Q := by
  unfold gInt
  simp only [e, hl, if_true]
  exact .ok q
theorem v_inSd {x y : Str} {b : Bool} (e : strIn x y = b) {T : Sto} {Q : U → Sto → Prop} (q : Q (.bl b) T) : Wp (gInS false (.str x) (.str y) T) Q := by
  subst e
  exact .ok q
theorem number_ok {k : Nat} (hk : k ≤ 1000000000000000000) {T : Sto} {Q : U → Sto → Prop} (g : Q (.int (k : Nat)) T) : Wp (kdG .pur 1 Fn.g_number_of [.str (num k)] T) Q := by
  refine purK rfl rfl (gDef_wp ?_)
  unfold Fn.f_number_of
  have h19 := num_len hk
  obtain ⟨c, r, hcr, hc0, hd⟩ := num_head k
  have hne := num_ne k
  have hll : (num k).length ≤ 16777216 := by omega
  bv_omega
  refine v_lenS hll ?_
  bv_omega
  refine v_fiS ?_
  bv_omega
  refine wp_lcI2 itsOk_const (fun i acc T' => T' = [] ∧ acc = (List.replicate i true).map .bl ∧ i ≤ (num k).length) ⟨rfl, rfl, Nat.zero_le _⟩ (fun _ _ _ _ => trivial) (fun i x acc T' hi ⟨eT, ea, hil⟩ => ?_) (fun acc T' ⟨eT, ea, hil⟩ => ?_)
  · subst eT
    unfold signI at hi
    rw [List.getElem?_map] at hi
    obtain ⟨z, hz, rfl⟩ := Option.map_eq_some_iff.mp hi
    have hz2 := hd z (by rw [← hcr]; exact List.mem_of_getElem? hz)
    have hzl := (List.getElem?_eq_some_iff.mp hz).1
    have hal : acc.length < 16777216 := by rw [ea, List.length_map, List.length_replicate]; omega
    have hnl : (num k).cps.toList.length = (num k).length := (len_tl _).symm
    bv_omega
    refine v_inSd (dig_in hz2.1 hz2.2) ?_
    bv_omega
    refine ⟨hal, rfl, ?_, by omega⟩
    rw [ea, List.replicate_succ', List.map_append]
    rfl
  · subst eT
    bv_omega
    refine v_allM (bs := List.replicate (signI (num k)).length true) (by rw [ea]; rfl) ?_
    have hall : (List.replicate (signI (num k)).length true).all id = true := List.all_eq_true.mpr fun b hb => (List.mem_replicate.mp hb).2
    rw [hall]
    bv_omega
    refine v_ixS0 hll hcr ?_
    bv_omega
    have hi := int_num (n := k) (by rw [← tl_num', ← len_tl]; omega)
    have h6 : (num k).length ≤ 640 := by omega
    refine v_ifd (fun hc => ?_) (fun hc => ?_)
    · have h48 : c = 48 := by
        have := congrArg tl hc
        rw [show tl ("0" : Str) = [48] by decide +kernel] at this
        exact List.head_eq_of_cons_eq this
      have hr := hc0 h48
      have hl1 : (num k).length = 1 := by rw [len_tl, hcr, hr]; rfl
      bv_omega
      refine v_lenS hll ?_
      bv_omega
      refine v_intS hi h6 ?_
      bv_omega
      exact g
    · bv_omega
      refine v_intS hi h6 ?_
      bv_omega
      exact g
theorem count_lp {k : Nat} (hk : k ≤ 1000000000000000000) {T : Sto} {Q : U → Sto → Prop} (g : Q (.int (k : Nat)) T) : Wp (kdG .pur 1 Fn.g_loop_count [.str (lpS k)] T) Q := by
  refine purK rfl rfl (gDef_wp ?_)
  unfold Fn.f_loop_count
  have hl := lpS_len hk
  bv_omega
  refine v_tx ?_
  bv_omega
  refine v_split (by decide +kernel) (by omega) ?_
  rw [split_lp]
  have h0 : ([O.lst ([("loop" : Str), num k, "{"].map U.str)] : Sto)[0]? = some (.lst [.str "loop", .str (num k), .str "{"]) := rfl
  bv_omega
  refine number_ok hk ?_
  bv_omega
  refine v_isIN ?_
  bv_omega
  have hk2 : (k : Int) ≤ 10 ^ (18 : Int).toNat := by
    have : (10 : Int) ^ (18 : Int).toNat = 1000000000000000000 := by decide +kernel
    omega
  refine v_yesd hk2 ?_
  bv_omega
  exact g
theorem count_op {w : Str} (hw : w ∈ words7) {is : List Nat} (hl : is.length ≤ 3) (hi : ∀ i ∈ is, i ≤ 100000) {T : Sto} {Q : U → Sto → Prop} (g : Q .non T) : Wp (kdG .pur 1 Fn.g_loop_count [.str (Txt.join " " (w :: is.map num))] T) Q := by
  refine purK rfl rfl (gDef_wp ?_)
  unfold Fn.f_loop_count
  have h80 := (opS_ok hw hl hi).2
  have hwl := (w7_free w hw).2.2.2.1
  bv_omega
  refine v_tx ?_
  bv_omega
  refine v_split (by decide +kernel) (by omega) ?_
  rw [split_op hw]
  have h0 : ([] ++ [O.lst ((w :: is.map num).map U.str)] : Sto)[([] : Sto).length]? = some (.lst ((w :: is.map num).map .str)) := rfl
  have hll : ((w :: is.map num).map U.str).length = is.length + 1 := by simp
  generalize hT : ([] ++ [O.lst ((w :: is.map num).map U.str)] : Sto) = T0 at h0 ⊢
  bv_omega
  refine v_ifd (fun h3 => ?_) (fun h3 => ?_)
  · bv_omega
    exact g
  · bv_omega
    refine v_ixL h0 (show atI _ 0 = some (U.str w) from atI_nat (i := 0) rfl) ?_
    bv_omega
    exact g
theorem instr_read {q : Int} (hq2 : q ≤ 10007) {n : Nat} (hn2 : n ≤ 900) {x : U} (hx : Ins q n x) {T : Sto} {Q : U → Sto → Prop} (g : Q x T) : Wp (kdG .pur 3 Fn.g_instruction_of [.int q, .int (n : Nat), .str (opS x)] T) Q := by
  obtain ⟨w, is, rfl, hw, h1, h3, hi⟩ := ins_shape hq2 hn2 hx
  rw [opS_of]
  refine purK rfl rfl (gDef_wp ?_)
  unfold Fn.f_instruction_of
  have h80 := (opS_ok hw h3 hi).2
  have hwl := (w7_free w hw).2.2.2.1
  bv_omega
  refine v_tx ?_
  bv_omega
  refine v_split (by decide +kernel) (by omega) ?_
  rw [split_op hw]
  have h0 : ([] ++ [O.lst ((w :: is.map num).map U.str)] : Sto)[([] : Sto).length]? = some (.lst (.str w :: (is.map num).map .str)) := rfl
  generalize hT : ([] ++ [O.lst ((w :: is.map num).map U.str)] : Sto) = T0 at h0 ⊢
  refine v_starL h0 ?_
  have h1 := ap0 (T := T0) (o := O.lst ((is.map num).map U.str))
  bv_omega
  generalize hT1 : T0 ++ [O.lst ((is.map num).map U.str)] = T1 at h1 ⊢
  refine wp_lcI2 itsOk_obj (fun i acc T' => T' = T1 ∧ acc = (is.take i).map (fun i : Nat => U.int i) ∧ i ≤ is.length) ⟨rfl, by rw [List.take_zero]; rfl, Nat.zero_le _⟩ (fun _ _ _ h => by rw [h.1]; exact h1) (fun i y acc T' hi2 ⟨eT, ea, hil⟩ => ?_) (fun acc T' ⟨eT, ea, hil⟩ => ?_)
  · subst eT
    rw [List.getElem?_map, List.getElem?_map] at hi2
    obtain ⟨z, hz, rfl⟩ := Option.map_eq_some_iff.mp hi2
    obtain ⟨k, hk, rfl⟩ := Option.map_eq_some_iff.mp hz
    have hkl := hi k (List.mem_of_getElem? hk)
    have hl2 := (List.getElem?_eq_some_iff.mp hk).1
    have hal : acc.length < 16777216 := by rw [ea, List.length_map, List.length_take]; omega
    bv_omega
    refine number_ok (by omega) ?_
    bv_omega
    refine ⟨hal, rfl, ?_, by omega⟩
    rw [ea, take_snoc hk, List.map_append]
    rfl
  · subst eT
    rw [List.length_map, List.length_map, List.take_length] at ea
    subst ea
    have h2 := ap0 (T := T') (o := O.lst (is.map fun i : Nat => U.int i))
    generalize T' ++ [O.lst (is.map fun i : Nat => U.int i)] = T2 at h2 ⊢
    bv_omega
    refine v_addT (by rw [List.length_map]; show 1 + is.length ≤ 16777216; omega) ?_
    bv_omega
    refine prog_ok (by omega) (by omega) (RpD.mono (RpD.tup (.cons (RpD.ins hq2 hn2 hx) .nil)) (Nat.le_refl _) (Nat.le_refl _)) (by decide) fun os => ?_
    have hp : isPr q n (.tup [.tup (.str w :: is.map fun i : Nat => U.int i)]) = true := (NP.one (m := 1) (by decide) hx).isPr (by decide)
    rw [show [U.str w] ++ is.map (fun i : Nat => U.int i) = .str w :: is.map fun i : Nat => U.int i from rfl, hp]
    bv_omega
    refine ⟨ins_nr hx, ?_⟩
    exact g
theorem v_addLL {i j : Nat} {xs ys : List U} {T : Sto} {Q : U → Sto → Prop} (e : T[i]? = some (.lst xs)) (e2 : T[j]? = some (.lst ys)) (hl : xs.length + ys.length ≤ 16777216) (q : Q (.ob T.length) (T ++ [.lst (xs ++ ys)])) : Wp (gAdd (.ob i) (.ob j) T) Q := by
  unfold gAdd
  simp only [e, e2, hl, if_true]
  exact .ok q
theorem sum_len {ss : List Str} {M : Nat} (h : ∀ s ∈ ss, s.length ≤ M) : (ss.map (·.length)).sum ≤ ss.length * M := by
  induction ss with
  | nil => simp
  | cons s ss ih =>
    have h1 := ih fun z hz => h z (List.mem_cons_of_mem _ hz)
    have h2 := h s (List.mem_cons_self ..)
    rw [List.map_cons, List.sum_cons, List.length_cons, Nat.succ_mul]
    omega
theorem words_len {w : Str} (hw : w ∈ words7) {is : List Nat} (hl : is.length ≤ 3) (hi : ∀ i ∈ is, i ≤ 100000) : ((w :: is.map num).map (·.length)).sum + (w :: is.map num).length * (" " : Str).length ≤ 16777216 := by
  have h1 := sum_len (ss := w :: is.map num) (M := 19) fun s hs => by
    rcases List.mem_cons.mp hs with rfl | hs
    · have := (w7_free _ hw).2.2.1; omega
    · obtain ⟨i, hi2, rfl⟩ := List.mem_map.mp hs
      have := hi i hi2
      exact num_len (by omega)
  have h2 : (w :: is.map num).length = is.length + 1 := by simp
  have h3 : (" " : Str).length = 1 := by decide +kernel
  rw [h2] at h1 ⊢
  rw [h3]
  have h4 : (is.length + 1) * 19 ≤ 4 * 19 := Nat.mul_le_mul_right _ (by omega)
  omega
theorem app_len (x y : Str) : (x ++ y).length = x.length + y.length := by rw [len_tl, tl_append, List.length_append, ← len_tl, ← len_tl]
theorem set_me' {T : Sto} {k : Nat} {o o' : O} (h : T[k]? = some o) : (T.set k o')[k]? = some o' := List.getElem?_set_self (lt_at h)
theorem show_ok {q : Int} (hq2 : q ≤ 10007) {n : Nat} (hn2 : n ≤ 900) {x : U} (hx : Ins q n x) {T : Sto} {Q : U → Sto → Prop} (g : Q (.str (opS x)) T) : Wp (kdG .pur 1 Fn.g_show_line [x] T) Q := by
  have hnr := ins_nr hx
  obtain ⟨w, is, rfl, hw, h1, h3, hi⟩ := ins_shape hq2 hn2 hx
  rw [opS_of] at g
  refine purK rfl (by show (nr _ && true) = true; rw [hnr]; rfl) (gDef_wp ?_)
  unfold Fn.f_show_line
  bv_omega
  refine v_starT ?_
  have h0 := ap0 (T := ([] : Sto)) (o := O.lst (is.map fun i : Nat => U.int i))
  bv_omega
  refine v_tx ?_
  bv_omega
  have e0 : (([] : Sto) ++ [O.lst (is.map fun i : Nat => U.int i)] ++ [O.lst [U.str w]])[0]? = some (.lst (is.map fun i : Nat => U.int i)) := rfl
  have e1 : (([] : Sto) ++ [O.lst (is.map fun i : Nat => U.int i)] ++ [O.lst [U.str w]])[1]? = some (.lst [U.str w]) := rfl
  generalize (([] : Sto) ++ [O.lst (is.map fun i : Nat => U.int i)] ++ [O.lst [U.str w]]) = T1 at e0 e1 ⊢
  refine wp_lcI2 itsOk_obj (fun i acc T' => T' = T1 ∧ acc = ((is.take i).map num).map U.str ∧ i ≤ is.length) ⟨rfl, by rw [List.take_zero]; rfl, Nat.zero_le _⟩ (fun _ _ _ h => by rw [h.1]; exact e0) (fun i y acc T' hi2 ⟨eT, ea, hil⟩ => ?_) (fun acc T' ⟨eT, ea, hil⟩ => ?_)
  · subst eT
    rw [List.getElem?_map] at hi2
    obtain ⟨k, hk, rfl⟩ := Option.map_eq_some_iff.mp hi2
    have hkl := hi k (List.mem_of_getElem? hk)
    have hl2 := (List.getElem?_eq_some_iff.mp hk).1
    have hal : acc.length < 16777216 := by rw [ea, List.length_map, List.length_map, List.length_take]; omega
    bv_omega
    refine v_strAi (num_lg (by omega)) ?_
    bv_omega
    refine ⟨hal, rfl, ?_, by omega⟩
    rw [ea, take_snoc hk, List.map_append, List.map_append]
    rfl
  · subst eT
    rw [List.length_map, List.take_length] at ea
    subst ea
    have f1 := ap (l := [O.lst ((is.map num).map U.str)]) e1
    have f2 := ap0 (T := T') (o := O.lst ((is.map num).map U.str))
    refine v_addLL (i := 1) f1 f2 (by rw [List.length_map, List.length_map]; show 1 + is.length ≤ 16777216; omega) ?_
    have f3 := ap0 (T := T' ++ [O.lst ((is.map num).map U.str)]) (o := O.lst ((w :: is.map num).map U.str))
    refine v_join f3 (words_len hw h3 hi) ?_
    bv_omega
    exact g
/-- the lines, at most so many -/
def lnB : Nat → Nat
  | 0 => 1
  | d + 1 => 2 + 2 * lnB d
theorem lnB_ge : ∀ d, 1 ≤ lnB d
  | 0 => Nat.le_refl _
  | d + 1 => by show 1 ≤ 2 + 2 * lnB d; omega
theorem NP.lnl {q : Int} {n : Nat} : ∀ {d m : Nat} {xs : List U} {l : Nat}, NP q n m d xs → (lns d l xs).length ≤ xs.length * lnB d
  | d, m, xs, l, h => by
    have one : ∀ x ∈ xs, (lns d l [x]).length ≤ lnB d := fun x hx => by
      rcases h.item hx with hi | ⟨d', k, b, rfl, rfl, hk, hb, _⟩
      · rw [lns_ins hi]; exact lnB_ge d
      · rw [lns_lp, List.length_cons, List.length_append, List.length_singleton]
        have h1 := hb.lnl (l := l + 1)
        have h2 := Nat.mul_le_mul_right (lnB d') hb.len
        show _ ≤ 2 + 2 * lnB d'
        omega
    clear h
    induction xs with
    | nil => rw [lns_nil]; exact Nat.zero_le _
    | cons x xs ih =>
      have h1 := one x (List.mem_cons_self ..)
      have h2 := ih fun y hy => one y (List.mem_cons_of_mem _ hy)
      rw [show x :: xs = [x] ++ xs from rfl, lns_app, List.length_append, List.length_append, Nat.add_mul]
      show _ ≤ 1 * lnB d + _
      omega
theorem NP.lnm {q : Int} (hq2 : q ≤ 10007) {n : Nat} (hn2 : n ≤ 900) : ∀ {d m : Nat} {xs : List U} {l : Nat}, NP q n m d xs → l + d ≤ 5 → ∀ s ∈ lns d l xs, LnOk s
  | d, m, xs, l, h, hd => by
    have one : ∀ x ∈ xs, ∀ s ∈ lns d l [x], LnOk s := fun x hx s hs => by
      rcases h.item hx with hi | ⟨d', k, b, rfl, rfl, hk, hb, _⟩
      · rw [lns_ins hi] at hs
        rw [List.mem_singleton.mp hs]
        obtain ⟨w, is, rfl, hw, h1, h3, hi⟩ := ins_shape hq2 hn2 hi
        rw [opS_of]
        exact .of (by omega) (opS_ok hw h3 hi).1 (opS_ok hw h3 hi).2 (op_ne hw is)
      · rw [lns_lp] at hs
        rcases List.mem_cons.mp hs with rfl | hs
        · exact .of (by omega) (lpS_free k) (by have := lpS_len hk; omega) (lpS_ne k)
        · rcases List.mem_append.mp hs with hs | hs
          · exact hb.lnm hq2 hn2 (by omega) s hs
          · rw [List.mem_singleton.mp hs]
            exact .of (by omega) (by decide +kernel) (by decide +kernel) (by decide +kernel)
    clear h
    induction xs with
    | nil => rw [lns_nil]; exact fun _ h => nomatch h
    | cons x xs ih =>
      rw [show x :: xs = [x] ++ xs from rfl, lns_app]
      intro s hs
      rcases List.mem_append.mp hs with hs | hs
      · exact one x (List.mem_cons_self ..) s hs
      · exact ih (fun y hy => one y (List.mem_cons_of_mem _ hy)) s hs
theorem lines_ok {q : Int} (hq2 : q ≤ 10007) {n : Nat} (hn2 : n ≤ 900) : ∀ (d f m : Nat) (xs : List U) (l : Nat), d < f → m ≤ 4 → NP q n m d xs → l + d ≤ 5 → ∀ (T : Sto) (Q : U → Sto → Prop), (∀ T' k, Kf T T' → T.length ≤ k → T'[k]? = some (.lst ((lns d l xs).map U.str)) → Q (.ob k) T') → Wp (kdG .len 2 (Fn.g_lines_of f) [.tup xs, .int (l : Nat)] T) Q := by
  intro d
  induction d using Nat.strongRecOn with
  | ind d ih =>
    intro f m xs l hf hm hx hd T Q g
    obtain ⟨f, rfl⟩ : ∃ f', f = f' + 1 := ⟨f - 1, by omega⟩
    refine len_wp rfl ?_
    show Wp (gDef 4 (Fn.f_lines_of (Fn.g_lines_of f)) [.tup xs, .int (l : Nat)] T) Q
    refine gDef_wp ?_
    unfold Fn.f_lines_of
    have hf0 := ap0 (T := T) (o := O.lst [])
    have K0 : Kf T (T ++ [O.lst []]) := .add _ _
    have hB : (lns d l xs).length ≤ 1000 := by
      have h1 := hx.lnl (l := l)
      have h2 := Nat.mul_le_mul_right (lnB d) (Nat.le_trans hx.len hm)
      have h3 : lnB d ≤ 100 := (by decide : ∀ d < 6, lnB d ≤ 100) d (by omega)
      omega
    bv_omega
    refine wp_forI itsOk_const (fun j η T' => Kf T T' ∧ j ≤ xs.length ∧ ∃ o3 : Option U, T'[T.length]? = some (.lst ((lns d l (xs.take j)).map U.str)) ∧ η = [some (.tup xs), some (.int (l : Nat)), some (.ob T.length), o3])
      ⟨K0, Nat.zero_le _, none, by rw [List.take_zero, lns_nil]; exact hf0, rfl⟩ (fun _ _ _ _ => trivial) (fun j x η T' hj ⟨K, hjl, o3, hf, eη⟩ => ?_) (fun η T' ⟨K, hjl, o3, hf, eη⟩ => ?_)
    · subst eη
      have hxx := List.mem_of_getElem? hj
      have hjl2 := (List.getElem?_eq_some_iff.mp hj).1
      have htk : (lns d l (xs.take (j + 1))).length ≤ 1000 := by
        have h := hB
        rw [← List.take_append_drop (j + 1) xs, lns_app, List.length_append] at h
        omega
      have il := ind_len l
      rw [take_snoc hj, lns_app, List.length_append] at htk
      have hfl : ((lns d l (xs.take j)).map U.str).length < 16777216 := by rw [List.length_map]; omega
      rcases hx.item hxx with hi | ⟨d', k, b, rfl, rfl, hk, hb, _⟩
      · have e1 := lns_ins (d := d) (l := l) hi
        have hsh := ins_shape hq2 hn2 hi
        obtain ⟨w, is, ex, hw, h1, h3, hi2⟩ := hsh
        have hol : (opS x).length ≤ 80 := by rw [ex, opS_of]; exact (opS_ok hw h3 hi2).2
        have hwl := (w7_free w hw).2.2.2.1
        have hx0 : ∀ {T : Sto} {Q : U → Sto → Prop}, Q (.str w) T → Wp (gIx x (.int 0) T) Q := fun {T Q} h => by rw [ex]; exact v_ix0 h
        bv_omega
        refine hx0 ?_
        bv_omega
        refine v_ind (by omega) ?_
        bv_omega
        refine show_ok hq2 hn2 hi ?_
        refine v_addS (by omega) ?_
        bv_omega
        refine ⟨K.set (Nat.le_refl _), by omega, _, ?_, rfl⟩
        rw [set_me' hf, take_snoc hj, lns_app, e1, List.map_append]
        rfl
      · rw [lns_lp] at htk
        have hnl := num_len hk
        have hl2 : ("loop " : Str).length = 5 := by decide +kernel
        have hl3 : (" {" : Str).length = 2 := by decide +kernel
        unfold lpU
        bv_omega
        refine v_ind (by omega) ?_
        have em : Str.empty ++ ("loop " : Str) = "loop " := ext_tl (by rw [tl_append]; rfl)
        have ln1 : (("loop " : Str) ++ num k).length ≤ 24 := by rw [app_len]; omega
        have ln2 : (("loop " : Str) ++ num k ++ " {").length ≤ 26 := by rw [app_len, hl3]; omega
        refine v_jsC ?_
        bv_omega
        rw [em]
        refine v_jsC ?_
        bv_omega
        refine v_fmtI (num_lg hk) ?_
        bv_omega
        refine ⟨Nat.le_trans ln1 (by decide), ?_⟩
        refine v_jsC ?_
        bv_omega
        refine ⟨Nat.le_trans ln2 (by decide), ?_⟩
        refine v_jsN ?_
        refine v_addS (by have : (("loop " : Str) ++ num k ++ " {").length ≤ 26 := ln2
                          exact Nat.le_trans (Nat.add_le_add_left ln2 _) (by omega)) ?_
        bv_omega
        rw [show Str.ofString "loop " ++ Str.ofString (toString (k : Int)) ++ Str.ofString " {" = lpS k from lp_eq k]
        have hf1 := set_me' (o' := O.lst ((lns (d' + 1) l (xs.take j)).map U.str ++ [U.str (ind l ++ lpS k)])) hf
        have K1 := K.set (k := T.length) (o := O.lst ((lns (d' + 1) l (xs.take j)).map U.str ++ [U.str (ind l ++ lpS k)])) (Nat.le_refl _)
        generalize T'.set T.length (O.lst ((lns (d' + 1) l (xs.take j)).map U.str ++ [U.str (ind l ++ lpS k)])) = T1 at hf1 K1 ⊢
        bv_omega
        rw [show ((l : Nat) : Int) + 1 = ((l + 1 : Nat) : Int) from rfl]
        refine ih d' (Nat.lt_succ_self _) f 2 b (l + 1) (by omega) (by decide) hb (by omega) T1 _ fun T2 kb K2 hkb hlb => ?_
        have hf2 := K2.at_ hf1
        bv_omega
        refine v_ext hf2 hlb ⟨?_, ?_⟩
        · rw [List.length_append, List.length_map, List.length_map, List.length_singleton]
          rw [List.length_cons, List.length_append] at htk
          omega
        have hf3 := set_me' (o' := O.lst ((lns (d' + 1) l (xs.take j)).map U.str ++ [U.str (ind l ++ lpS k)] ++ (lns d' (l + 1) b).map U.str)) hf2
        have K3 := (K1.trans K2).set (k := T.length) (o := O.lst ((lns (d' + 1) l (xs.take j)).map U.str ++ [U.str (ind l ++ lpS k)] ++ (lns d' (l + 1) b).map U.str)) (Nat.le_refl _)
        generalize T2.set T.length (O.lst ((lns (d' + 1) l (xs.take j)).map U.str ++ [U.str (ind l ++ lpS k)] ++ (lns d' (l + 1) b).map U.str)) = T3 at hf3 K3 ⊢
        bv_omega
        refine v_ind (by omega) ?_
        bv_omega
        refine v_addS (by have : ("}" : Str).length = 1 := by decide +kernel
                          omega) ?_
        bv_omega
        have h4 : ((lns (d' + 1) l (xs.take j)).map U.str ++ [U.str (ind l ++ lpS k)] ++ (lns d' (l + 1) b).map U.str).length < 16777216 := by
          rw [List.length_append, List.length_append, List.length_map, List.length_map, List.length_singleton]
          rw [List.length_cons, List.length_append] at htk
          omega
        refine v_appZ hf3 h4 ?_
        bv_omega
        refine ⟨K3.set (Nat.le_refl _), by omega, _, ?_, rfl⟩
        rw [set_me' hf3, take_snoc hj, lns_app, lns_lp, List.map_append, List.map_cons, List.map_append, List.append_assoc, List.append_assoc]
        rfl
    · subst eη
      rw [List.take_length] at hf
      bv_omega
      exact g _ _ K (Nat.le_refl _) hf
end Mx
set_option Elab.async false
set_option linter.all false
set_option maxRecDepth 100000
set_option maxHeartbeats 4000000
namespace Mx
open PySem PySem.Spec L2 Lf Aff TL
def Bs (T : Sto) : List Nat → List (List U) → Prop
  | [], [] => True
  | j :: js, b :: bs => T[j]? = some (.lst b) ∧ Bs T js bs
  | _, _ => False
theorem Bs.imp {T T' : Sto} : ∀ {js : List Nat} {bs : List (List U)}, (∀ j ∈ js, ∀ o, T[j]? = some o → T'[j]? = some o) → Bs T js bs → Bs T' js bs
  | [], [], _, _ => trivial
  | j :: js, b :: bs, h, hb => ⟨h j (List.mem_cons_self ..) _ hb.1, Bs.imp (fun i hi => h i (List.mem_cons_of_mem _ hi)) hb.2⟩
  | [], _ :: _, _, h => h.elim
  | _ :: _, [], _, h => h.elim
def rdF (q : Int) (n : Nat) (kc kb : Nat) : List (Str × U) := [("prime", .int q), ("register_count", .int (n : Nat)), ("counts", .ob kc), ("bodies", .ob kb)]
structure RdS (q : Int) (n : Nat) (L : List U) (kr kc kb kl : Nat) (cs js : List Nat) (bs : List (List U)) (T : Sto) : Prop where
  r : T[kr]? = some (.ins "Reader" (rdF q n kc kb))
  c : T[kc]? = some (.lst (cs.reverse.map fun k : Nat => .int k))
  b : T[kb]? = some (.lst (js.reverse.map .ob))
  t : T[kl]? = some (.lst L)
  o : Bs T js bs
  nd : (kr :: kc :: kb :: kl :: js).Nodup
  cl : cs.length ≤ 4
  jl : js.length = cs.length + 1
section
variable {q : Int} {n : Nat} {L : List U} {kr kc kb kl : Nat} {cs js : List Nat} {bs : List (List U)} {T : Sto}
theorem RdS.imp {T' : Sto} (h : RdS q n L kr kc kb kl cs js bs T) (e : ∀ (j : Nat) (o : O), T[j]? = some o → T'[j]? = some o) : RdS q n L kr kc kb kl cs js bs T' :=
  ⟨e _ _ h.r, e _ _ h.c, e _ _ h.b, e _ _ h.t, h.o.imp fun j _ o => e j o, h.nd, h.cl, h.jl⟩
structure Nds (kr kc kb kl : Nat) (js : List Nat) : Prop where
  rc : kr ≠ kc
  rb : kr ≠ kb
  rl : kr ≠ kl
  cb : kc ≠ kb
  cl : kc ≠ kl
  bl : kb ≠ kl
  jr : ∀ j ∈ js, j ≠ kr
  jc : ∀ j ∈ js, j ≠ kc
  jb : ∀ j ∈ js, j ≠ kb
  jl : ∀ j ∈ js, j ≠ kl
  nd : js.Nodup
theorem RdS.nn (h : RdS q n L kr kc kb kl cs js bs T) : Nds kr kc kb kl js := by
  have h := h.nd
  simp only [List.nodup_cons, List.mem_cons, not_or] at h
  obtain ⟨⟨a1, a2, a3, a4⟩, ⟨b1, b2, b3⟩, ⟨c1, c2⟩, d1, d2⟩ := h
  exact ⟨a1, a2, a3, b1, b2, c1, (fun j hj e => a4 (e ▸ hj)), (fun j hj e => b3 (e ▸ hj)), (fun j hj e => c2 (e ▸ hj)), (fun j hj e => d1 (e ▸ hj)), d2⟩
theorem Nds.of (h : Nds kr kc kb kl js) : (kr :: kc :: kb :: kl :: js).Nodup := by
  simp only [List.nodup_cons, List.mem_cons, not_or]
  exact ⟨⟨h.rc, h.rb, h.rl, fun hj => h.jr _ hj rfl⟩, ⟨h.cb, h.cl, fun hj => h.jc _ hj rfl⟩, ⟨h.bl, fun hj => h.jb _ hj rfl⟩, (fun hj => h.jl _ hj rfl), h.nd⟩
theorem set_at {T : Sto} {i k : Nat} {o o' : O} (h : T[i]? = some o) (hk : i ≠ k) : (T.set k o')[i]? = some o := by rw [List.getElem?_set_ne (Ne.symm hk)]; exact h
theorem set_me {T : Sto} {k : Nat} {o o' : O} (h : T[k]? = some o) : (T.set k o')[k]? = some o' := List.getElem?_set_self (lt_at h)
/-- a value behind the last body -/
theorem RdS.app {j : Nat} {b : List U} (h : RdS q n L kr kc kb kl cs (j :: js) (b :: bs) T) (v : U) : RdS q n L kr kc kb kl cs (j :: js) ((b ++ [v]) :: bs) (T.set j (.lst (b ++ [v]))) := by
  have d := h.nn
  have hj := List.mem_cons_self (a := j) (l := js)
  refine ⟨set_at h.r (Ne.symm (d.jr _ hj)), set_at h.c (Ne.symm (d.jc _ hj)), set_at h.b (Ne.symm (d.jb _ hj)), set_at h.t (Ne.symm (d.jl _ hj)), ⟨set_me h.o.1, h.o.2.imp fun i hi o ho => set_at ho ?_⟩, h.nd, h.cl, h.jl⟩
  rintro rfl
  exact (List.nodup_cons.mp d.nd).1 hi
/-- a loop opened -/
theorem RdS.opn (h : RdS q n L kr kc kb kl cs js bs T) (hc : cs.length < 4) (k : Nat) :
    RdS q n L kr kc kb kl (k :: cs) (T.length :: js) ([] :: bs) (((T.set kc (O.lst ((cs.reverse.map fun k : Nat => U.int k) ++ [U.int (k : Nat)]))) ++ [O.lst []]).set kb (O.lst (js.reverse.map U.ob ++ [U.ob T.length]))) := by
  have d := h.nn
  have lj : ∀ j ∈ js, j < T.length := by
    have : ∀ {js : List Nat} {bs : List (List U)}, Bs T js bs → ∀ j ∈ js, j < T.length := fun {js} => by
      induction js with
      | nil => intro _ _ _ hj; cases hj
      | cons i js ih =>
        intro bs hb j hj
        cases bs with
        | nil => exact hb.elim
        | cons b bs =>
          rcases List.mem_cons.mp hj with rfl | hj
          · exact lt_at hb.1
          · exact ih hb.2 j hj
    exact this h.o
  have lr := lt_at h.r
  have lc := lt_at h.c
  have lb := lt_at h.b
  have ll := lt_at h.t
  have old : ∀ {i : Nat} {o : O}, T[i]? = some o → i ≠ kc → i ≠ kb → (((T.set kc (O.lst ((cs.reverse.map fun k : Nat => U.int k) ++ [U.int (k : Nat)]))) ++ [O.lst []]).set kb (O.lst (js.reverse.map U.ob ++ [U.ob T.length])))[i]? = some o := fun hi h1 h2 => set_at (ap (set_at hi h1)) h2
  have e0 : (T.set kc (O.lst ((cs.reverse.map fun k : Nat => U.int k) ++ [U.int (k : Nat)]))).length = T.length := List.length_set ..
  refine ⟨old h.r d.rc d.rb, ?_, ?_, old h.t (Ne.symm d.cl) (Ne.symm d.bl), ⟨?_, h.o.imp fun j hj o ho => old ho (d.jc j hj) (d.jb j hj)⟩, ?_, ?_, by have := h.jl; rw [List.length_cons, List.length_cons]; omega⟩
  · refine set_at (ap ?_) d.cb
    rw [set_me h.c, List.reverse_cons, List.map_append]
    rfl
  · rw [List.getElem?_set_self (by rw [List.length_append, e0]; omega), List.reverse_cons, List.map_append]
    rfl
  · refine set_at ?_ (by omega)
    rw [← e0]
    exact ap0
  · refine Nds.of ⟨d.rc, d.rb, d.rl, d.cb, d.cl, d.bl, fun j hj => ?_, fun j hj => ?_, fun j hj => ?_, fun j hj => ?_, List.nodup_cons.mpr ⟨fun hm => by have := lj _ hm; omega, d.nd⟩⟩
    · rcases List.mem_cons.mp hj with rfl | hj
      · omega
      · exact d.jr j hj
    · rcases List.mem_cons.mp hj with rfl | hj
      · omega
      · exact d.jc j hj
    · rcases List.mem_cons.mp hj with rfl | hj
      · omega
      · exact d.jb j hj
    · rcases List.mem_cons.mp hj with rfl | hj
      · omega
      · exact d.jl j hj
  · rw [List.length_cons]; omega
/-- a loop closed -/
theorem RdS.cls {k j2 j1 : Nat} {b2 b1 : List U} (h : RdS q n L kr kc kb kl (k :: cs) (j2 :: j1 :: js) (b2 :: b1 :: bs) T) :
    RdS q n L kr kc kb kl cs (j1 :: js) ((b1 ++ [lpU k b2]) :: bs) (((T.set kb (O.lst ((j1 :: js).reverse.map U.ob))).set kc (O.lst (cs.reverse.map fun k : Nat => U.int k))).set j1 (.lst (b1 ++ [lpU k b2]))) := by
  have d := h.nn
  have hj1 : j1 ∈ j2 :: j1 :: js := List.mem_cons_of_mem _ (List.mem_cons_self ..)
  have nd1 := (List.nodup_cons.mp (List.nodup_cons.mp d.nd).2)
  have hk := h.cl
  have base : RdS q n L kr kc kb kl cs (j1 :: js) (b1 :: bs) ((T.set kb (O.lst ((j1 :: js).reverse.map U.ob))).set kc (O.lst (cs.reverse.map fun k : Nat => U.int k))) := by
    refine ⟨set_at (set_at h.r d.rb) d.rc, set_me (set_at h.c d.cb), set_at (set_me h.b) (Ne.symm d.cb), set_at (set_at h.t (Ne.symm d.bl)) (Ne.symm d.cl), ⟨?_, ?_⟩, ?_, by rw [List.length_cons] at hk; omega, by have := h.jl; rw [List.length_cons, List.length_cons, List.length_cons] at this; rw [List.length_cons]; omega⟩
    · exact set_at (set_at h.o.2.1 (d.jb _ hj1)) (d.jc _ hj1)
    · exact h.o.2.2.imp fun j hj o ho => set_at (set_at ho (d.jb _ (List.mem_cons_of_mem _ (List.mem_cons_of_mem _ hj)))) (d.jc _ (List.mem_cons_of_mem _ (List.mem_cons_of_mem _ hj)))
    · exact Nds.of ⟨d.rc, d.rb, d.rl, d.cb, d.cl, d.bl, fun j hj => d.jr j (List.mem_cons_of_mem _ hj), fun j hj => d.jc j (List.mem_cons_of_mem _ hj), fun j hj => d.jb j (List.mem_cons_of_mem _ hj), fun j hj => d.jl j (List.mem_cons_of_mem _ hj), (List.nodup_cons.mp d.nd).2⟩
  exact base.app _
end
inductive Rdr (q : Int) (n : Nat) : List Nat → List (List U) → Str → List Nat → List (List U) → Prop
  | cls {k : Nat} {cs : List Nat} {b2 b1 : List U} {bs : List (List U)} : Rdr q n (k :: cs) (b2 :: b1 :: bs) (ind cs.length ++ "}") cs ((b1 ++ [lpU k b2]) :: bs)
  | opn {k : Nat} {cs : List Nat} {bs : List (List U)} : cs.length < 4 → k ≤ 1000000000000000000 → Rdr q n cs bs (ind cs.length ++ lpS k) (k :: cs) ([] :: bs)
  | ins {x : U} {cs : List Nat} {b : List U} {bs : List (List U)} : Ins q n x → Rdr q n cs (b :: bs) (ind cs.length ++ opS x) cs ((b ++ [x]) :: bs)
inductive Rds (q : Int) (n : Nat) : List Nat → List (List U) → List Str → List Nat → List (List U) → Prop
  | nil {cs : List Nat} {bs : List (List U)} : Rds q n cs bs [] cs bs
  | cons {cs cs1 cs2 : List Nat} {bs bs1 bs2 : List (List U)} {s : Str} {ss : List Str} : Rdr q n cs bs s cs1 bs1 → Rds q n cs1 bs1 ss cs2 bs2 → Rds q n cs bs (s :: ss) cs2 bs2
theorem Rds.app {q : Int} {n : Nat} : ∀ {cs cs1 cs2 : List Nat} {bs bs1 bs2 : List (List U)} {ss tt : List Str}, Rds q n cs bs ss cs1 bs1 → Rds q n cs1 bs1 tt cs2 bs2 → Rds q n cs bs (ss ++ tt) cs2 bs2
  | _, _, _, _, _, _, _, _, .nil, h => h
  | _, _, _, _, _, _, _, _, .cons h r, h2 => .cons h (r.app h2)
theorem rds_prog {q : Int} {n : Nat} : ∀ {d m : Nat} {xs : List U} {cs : List Nat} {b : List U} {bs : List (List U)}, NP q n m d xs → cs.length + d ≤ 4 → Rds q n cs (b :: bs) (lns d cs.length xs) cs ((b ++ xs) :: bs)
  | d, m, xs, cs, b, bs, h, hd => by
    have one : ∀ x ∈ xs, ∀ b, Rds q n cs (b :: bs) (lns d cs.length [x]) cs ((b ++ [x]) :: bs) := fun x hx b => by
      rcases h.item hx with hi | ⟨d', k, c, rfl, rfl, hk, hb, _⟩
      · rw [lns_ins hi]
        exact .cons (.ins hi) .nil
      · rw [lns_lp]
        refine .cons (.opn (by omega) hk) ?_
        have h2 := rds_prog (cs := k :: cs) (b := []) (bs := b :: bs) hb (by rw [List.length_cons]; omega)
        rw [List.nil_append] at h2
        exact h2.app (.cons .cls .nil)
    clear h
    induction xs generalizing b with
    | nil => rw [lns_nil, List.append_nil]; exact .nil
    | cons x xs ih =>
      rw [show x :: xs = [x] ++ xs from rfl, lns_app, ← List.append_assoc]
      exact (one x (List.mem_cons_self ..) b).app (ih (b ++ [x]) fun y hy => one y (List.mem_cons_of_mem _ hy))
end Mx
set_option Elab.async false
set_option linter.all false
set_option maxRecDepth 100000
set_option maxHeartbeats 4000000
namespace Mx
open PySem PySem.Spec L2 Lf Aff TL
section
variable {q : Int} {n : Nat} {L : List U} {kr kc kb kl : Nat}
theorem atI_last {xs : List U} {u : U} : atI (xs ++ [u]) (-1) = some u := by
  unfold atI ixN
  rw [if_neg (by decide), if_pos (by rw [List.length_append, List.length_singleton]; omega)]
  show (xs ++ [u])[(-1 + ((xs ++ [u]).length : Int)).toNat]? = some u
  rw [List.length_append, List.length_singleton, show (-1 + ((xs.length + 1 : Nat) : Int)).toNat = xs.length by omega, List.getElem?_append_right (Nat.le_refl _), Nat.sub_self]
  rfl
theorem ti_opn {cs js : List Nat} {bs : List (List U)} {T : Sto} (h : RdS q n L kr kc kb kl cs js bs T) (hc : cs.length < 4) {k : Nat} (hk : k ≤ 1000000000000000000) {Q : U → Sto → Prop}
    (g : ∀ T' js', RdS q n L kr kc kb kl (k :: cs) js' ([] :: bs) T' → Q (.bl true) T') : Wp (Fn.g_Reader_take_instruction [.ob kr, .str (lpS k), .int (cs.length : Nat)] T) Q := by
  have hS := h.opn hc k
  have hr := h.r
  have hcc := h.c
  have hbb := h.b
  have d := h.nn
  refine gDef_wp ?_
  unfold Fn.f_Reader_take_instruction
  unfold rdF at hr
  bv_omega
  refine count_lp hk ?_
  bv_omega
  refine v_isIN ?_
  have hr1 := set_at (o' := O.lst (cs.reverse.map (fun k : Nat => U.int k) ++ [U.int (k : Nat)])) hr d.rc
  have hb1 := set_at (o' := O.lst (cs.reverse.map (fun k : Nat => U.int k) ++ [U.int (k : Nat)])) hbb (Ne.symm d.cb)
  have e0 : (T.set kc (O.lst (cs.reverse.map (fun k : Nat => U.int k) ++ [U.int (k : Nat)]))).length = T.length := List.length_set ..
  rw [← e0] at hS
  have hb2 := ap (l := [O.lst []]) hb1
  have hjl : (js.reverse.map U.ob).length < 16777216 := by rw [List.length_map, List.length_reverse, h.jl]; omega
  bv_omega
  exact g _ _ hS
theorem ti_ins (hq2 : q ≤ 10007) (hn2 : n ≤ 900) {cs js : List Nat} {j : Nat} {b : List U} {bs : List (List U)} {T : Sto} (h : RdS q n L kr kc kb kl cs (j :: js) (b :: bs) T) (hb : b.length < 1000000) {x : U} (hx : Ins q n x) {Q : U → Sto → Prop}
    (g : ∀ T' js', RdS q n L kr kc kb kl cs js' ((b ++ [x]) :: bs) T' → Q (.bl true) T') : Wp (Fn.g_Reader_take_instruction [.ob kr, .str (opS x), .int (cs.length : Nat)] T) Q := by
  have hS := h.app x
  have hr := h.r
  have hbb := h.b
  have hj := h.o.1
  obtain ⟨w, is, ex, hw, h1, h3, hi2⟩ := ins_shape hq2 hn2 hx
  refine gDef_wp ?_
  unfold Fn.f_Reader_take_instruction
  unfold rdF at hr
  bv_omega
  rw [show opS x = Txt.join " " (w :: is.map num) by rw [ex, opS_of]]
  refine count_op hw h3 hi2 ?_
  bv_omega
  refine v_isNN ?_
  bv_omega
  rw [show Txt.join " " (w :: is.map num) = opS x by rw [ex, opS_of]]
  refine instr_read hq2 hn2 hx ?_
  bv_omega
  have hin : ∀ {T : Sto} {Q : U → Sto → Prop}, Q (.bl false) T → Wp (gIs false x .non T) Q := fun {T Q} h => by rw [ex]; exact .ok h
  refine hin ?_
  bv_omega
  have hix : atI ((j :: js).reverse.map U.ob) (-1) = some (.ob j) := by
    rw [List.reverse_cons, List.map_append]
    exact atI_last
  refine v_ixL hbb hix ?_
  bv_omega
  exact g _ _ hS
theorem v_cutSx {z : Str} {lo hi : Option Int} (hz : z.length ≤ 16777216) {T : Sto} {Q : U → Sto → Prop} (q : Q (.str (cutS z lo hi)) T) : Wp (gCutS lo hi (.str z) T) Q := by
  unfold gCutS
  simp only [hz, if_true]
  exact .ok q
theorem take_in {cs js : List Nat} {bs : List (List U)} {T : Sto} (h : RdS q n L kr kc kb kl cs js bs T) {s : Str} (hs : s.length ≤ 1000) {Q : U → Sto → Prop}
    (g : Wp (Fn.g_Reader_take_instruction [.ob kr, .str s, .int (cs.length : Nat)] T) Q) : Wp (Fn.g_Reader_take [.ob kr, .str (ind cs.length ++ s)] T) Q := by
  have hr := h.r
  have hcc := h.c
  have hcl := h.cl
  have hl2 : ("  " : Str).length = 2 := by decide +kernel
  have hil := ind_len cs.length
  have hz : (ind cs.length ++ s).length ≤ 16777216 := by rw [app_len]; omega
  have hlen : ((cs.reverse.map fun k : Nat => U.int k).length) = cs.length := by rw [List.length_map, List.length_reverse]
  refine gDef_wp ?_
  unfold Fn.f_Reader_take
  unfold rdF at hr
  bv_omega
  rw [hlen]
  refine v_ifd (fun h0 => ?_) (fun h0 => ?_)
  · obtain ⟨l, hl⟩ : ∃ l, cs.length = l + 1 := ⟨cs.length - 1, by omega⟩
    have hsub : ((cs.length : Nat) : Int) - 1 = (l : Nat) := by omega
    bv_omega
    rw [hsub]
    refine v_ind (by omega) ?_
    bv_omega
    refine v_addS (by rw [ind_len]; have : ("}" : Str).length = 1 := by decide +kernel
                      omega) ?_
    bv_omega
    refine v_nod (by rw [hl]; exact not_close l s) ?_
    bv_omega
    refine v_slS ?_
    bv_omega
    refine v_lenS (by rw [hl2]; decide) ?_
    rw [hl2]
    bv_omega
    refine v_cutSx hz ?_
    rw [show ((2 : Nat) : Int) * (cs.length : Int) = 2 * (cs.length : Int) from rfl, cut_lo]
    bv_omega
    refine v_ind (by omega) ?_
    bv_omega
    refine ⟨_, selM_of hr (by rfl) (by rfl), ?_⟩
    refine v_cons (v_slS ?_)
    bv_omega
    refine v_lenS (by rw [hl2]; decide) ?_
    rw [hl2]
    bv_omega
    refine v_cutSx hz ?_
    rw [show ((2 : Nat) : Int) * (cs.length : Int) = 2 * (cs.length : Int) from rfl, cut_hi]
    bv_omega
    exact ⟨rfl, g.mono fun u T' hh => kD_rt hh⟩
  · bv_omega
    refine v_slS ?_
    bv_omega
    refine v_lenS (by rw [hl2]; decide) ?_
    rw [hl2]
    bv_omega
    refine v_cutSx hz ?_
    rw [show ((2 : Nat) : Int) * (cs.length : Int) = 2 * (cs.length : Int) from rfl, cut_lo]
    bv_omega
    refine v_ind (by omega) ?_
    bv_omega
    refine ⟨_, selM_of hr (by rfl) (by rfl), ?_⟩
    refine v_cons (v_slS ?_)
    bv_omega
    refine v_lenS (by rw [hl2]; decide) ?_
    rw [hl2]
    bv_omega
    refine v_cutSx hz ?_
    rw [show ((2 : Nat) : Int) * (cs.length : Int) = 2 * (cs.length : Int) from rfl, cut_hi]
    bv_omega
    exact ⟨rfl, g.mono fun u T' hh => kD_rt hh⟩
theorem v_popS {k : Nat} {xs : List U} {u : U} {T : Sto} {Q : U → Sto → Prop} (e : T[k]? = some (.lst (xs ++ [u]))) (q : Q u (T.set k (.lst xs))) : Wp (gPop (.ob k) [] T) Q := by
  unfold gPop
  have h1 : (xs ++ [u])[(xs ++ [u]).length - 1]? = some u := by
    rw [List.length_append, List.length_singleton, Nat.add_sub_cancel, List.getElem?_append_right (Nat.le_refl _), Nat.sub_self]; rfl
  simp only [e, h1, List.dropLast_concat]
  exact .ok q
theorem take_cls {k : Nat} {cs js : List Nat} {b2 b1 : List U} {bs : List (List U)} {T : Sto} (h : RdS q n L kr kc kb kl (k :: cs) js (b2 :: b1 :: bs) T) (hb : b1.length < 1000000) {Q : U → Sto → Prop}
    (g : ∀ T' js', RdS q n L kr kc kb kl cs js' ((b1 ++ [lpU k b2]) :: bs) T' → Q (.bl true) T') : Wp (Fn.g_Reader_take [.ob kr, .str (ind cs.length ++ "}")] T) Q := by
  obtain ⟨j2, j1, js, rfl⟩ : ∃ j2 j1 js', js = j2 :: j1 :: js' := by
    have := h.o
    match js, this with
    | j2 :: j1 :: js', _ => exact ⟨j2, j1, js', rfl⟩
    | [_], hh => exact hh.2.elim
    | [], hh => exact hh.elim
  have hS := h.cls
  have d := h.nn
  have hr := h.r
  have hcc := h.c
  have hbb := h.b
  have hcl := h.cl
  have hj2 := h.o.1
  have hj1 := h.o.2.1
  have hlen : (((k :: cs).reverse.map fun k : Nat => U.int k).length) = cs.length + 1 := by rw [List.length_map, List.length_reverse, List.length_cons]
  have hsub : ((cs.length + 1 : Nat) : Int) - 1 = (cs.length : Nat) := by omega
  rw [List.length_cons] at hcl
  refine gDef_wp ?_
  unfold Fn.f_Reader_take
  unfold rdF at hr
  bv_omega
  rw [hlen]
  bv_omega
  rw [hsub]
  refine v_ind (by omega) ?_
  bv_omega
  refine v_addS (by rw [ind_len]; have : ("}" : Str).length = 1 := by decide +kernel
                    omega) ?_
  bv_omega
  rw [List.reverse_cons, List.map_append] at hbb hcc
  refine v_popS hbb ?_
  have hr1 := set_at (o' := O.lst ((j1 :: js).reverse.map U.ob)) hr d.rb
  have hc1 := set_at (o' := O.lst ((j1 :: js).reverse.map U.ob)) hcc d.cb
  have hb1' := set_me (o' := O.lst ((j1 :: js).reverse.map U.ob)) hbb
  have hj2' := set_at (o' := O.lst ((j1 :: js).reverse.map U.ob)) hj2 (d.jb _ (List.mem_cons_self ..))
  have hj1' := set_at (o' := O.lst ((j1 :: js).reverse.map U.ob)) hj1 (d.jb _ (List.mem_cons_of_mem _ (List.mem_cons_self ..)))
  have hix : atI ((j1 :: js).reverse.map U.ob) (-1) = some (.ob j1) := by rw [List.reverse_cons, List.map_append]; exact atI_last
  bv_omega
  refine v_popS hc1 ?_
  have hj1c := d.jc _ (List.mem_cons_of_mem _ (List.mem_cons_self (a := j1) (l := js)))
  have hj1'' := set_at (o' := O.lst (cs.reverse.map fun k : Nat => U.int k)) hj1' hj1c
  bv_omega
  exact g _ _ hS
end
end Mx
set_option Elab.async false
set_option linter.all false
set_option maxRecDepth 100000
set_option maxHeartbeats 4000000
namespace Mx
open PySem PySem.Spec L2 Lf Aff TL
theorem llines_ok {q : Int} (hq2 : q ≤ 10007) {n : Nat} (hn2 : n ≤ 900) : ∀ (d f m : Nat) (xs : List U) (l : Nat), d < f → m ≤ 4 → NP q n m d xs → l + d ≤ 5 → ∀ (T : Sto) (Q : U → Sto → Prop), (∀ T' k, Kf T T' → T.length ≤ k → T'[k]? = some (.lst ((lns d l xs).map U.str)) → Q (.ob k) T') → Wp (kdG .len 2 (Fn.g_law_lines f) [.tup xs, .int (l : Nat)] T) Q := by
  intro d
  induction d using Nat.strongRecOn with
  | ind d ih =>
    intro f m xs l hf hm hx hd T Q g
    obtain ⟨f, rfl⟩ : ∃ f', f = f' + 1 := ⟨f - 1, by omega⟩
    refine len_wp rfl ?_
    show Wp (gDef 5 (Fn.f_law_lines (Fn.g_law_lines f)) [.tup xs, .int (l : Nat)] T) Q
    refine gDef_wp ?_
    unfold Fn.f_law_lines
    have hf0 := ap0 (T := T) (o := O.lst [])
    have K0 : Kf T (T ++ [O.lst []]) := .add _ _
    have hB : (lns d l xs).length ≤ 1000 := by
      have h1 := hx.lnl (l := l)
      have h2 := Nat.mul_le_mul_right (lnB d) (Nat.le_trans hx.len hm)
      have h3 : lnB d ≤ 100 := (by decide : ∀ d < 6, lnB d ≤ 100) d (by omega)
      omega
    bv_omega
    refine wp_forI itsOk_const (fun j η T' => Kf T T' ∧ j ≤ xs.length ∧ ∃ o3 o4 : Option U, T'[T.length]? = some (.lst ((lns d l (xs.take j)).map U.str)) ∧ η = [some (.tup xs), some (.int (l : Nat)), some (.ob T.length), o3, o4])
      ⟨K0, Nat.zero_le _, none, none, by rw [List.take_zero, lns_nil]; exact hf0, rfl⟩ (fun _ _ _ _ => trivial) (fun j x η T' hj ⟨K, hjl, o3, o4, hf, eη⟩ => ?_) (fun η T' ⟨K, hjl, o3, o4, hf, eη⟩ => ?_)
    · subst eη
      have hxx := List.mem_of_getElem? hj
      have hjl2 := (List.getElem?_eq_some_iff.mp hj).1
      have htk : (lns d l (xs.take (j + 1))).length ≤ 1000 := by
        have h := hB
        rw [← List.take_append_drop (j + 1) xs, lns_app, List.length_append] at h
        omega
      have il := ind_len l
      rw [take_snoc hj, lns_app, List.length_append] at htk
      have hfl : ((lns d l (xs.take j)).map U.str).length < 16777216 := by rw [List.length_map]; omega
      rcases hx.item hxx with hi | ⟨d', k, b, rfl, rfl, hk, hb, _⟩
      · have e1 := lns_ins (d := d) (l := l) hi
        obtain ⟨w, is, rfl, hw, h1, h3, hi2⟩ := ins_shape hq2 hn2 hi
        rw [opS_of] at e1
        have hol : (Txt.join " " (w :: is.map num)).length ≤ 80 := (opS_ok hw h3 hi2).2
        have hwl := (w7_free w hw).2.2.2.1
        bv_omega
        refine v_ind (by omega) ?_
        bv_omega
        refine v_tx ?_
        bv_omega
        refine wp_lcI2 itsOk_const (fun i acc T1 => T1 = T' ∧ acc = ((w :: is.map num).take i).map U.str ∧ i ≤ is.length + 1) ⟨rfl, rfl, Nat.zero_le _⟩ (fun _ _ _ _ => trivial) (fun i y acc T1 hy ⟨eT, ea, hil⟩ => ?_) (fun acc T1 ⟨eT, ea, hil⟩ => ?_)
        · subst eT
          have hil2 := (List.getElem?_eq_some_iff.mp hy).1
          rw [List.length_cons, List.length_map] at hil2
          have hal : acc.length < 16777216 := by rw [ea, List.length_map, List.length_take]; omega
          cases i with
          | zero =>
            cases hy
            bv_omega
            refine v_strAs ?_
            bv_omega
            exact ⟨hal, rfl, by rw [ea]; rfl, by omega⟩
          | succ i =>
            rw [List.getElem?_cons_succ, List.getElem?_map] at hy
            obtain ⟨k, hk, rfl⟩ := Option.map_eq_some_iff.mp hy
            have hkl := hi2 k (List.mem_of_getElem? hk)
            bv_omega
            refine v_strAi (num_lg (by omega)) ?_
            bv_omega
            refine ⟨hal, rfl, ?_, by omega⟩
            have hz : (w :: is.map num)[i + 1]? = some (num k) := by rw [List.getElem?_cons_succ, List.getElem?_map, hk]; rfl
            rw [ea, take_snoc hz, List.map_append]
            rfl
        subst eT
        have ea : acc = (w :: is.map num).map U.str := by
          rw [ea]
          congr 1
          exact List.take_of_length_le (by simp)
        subst ea
        have K' := K.trans (.add T1 [O.lst ((w :: is.map num).map U.str)])
        have hf' := ap (l := [O.lst ((w :: is.map num).map U.str)]) hf
        have hj0 := ap0 (T := T1) (o := O.lst ((w :: is.map num).map U.str))
        generalize T1 ++ [O.lst ((w :: is.map num).map U.str)] = T3 at K' hf' hj0 ⊢
        refine v_join hj0 (words_len hw h3 hi2) ?_
        refine v_addS (by omega) ?_
        bv_omega
        refine ⟨K'.set (Nat.le_refl _), by omega, _, _, ?_, rfl⟩
        rw [set_me' hf', take_snoc hj, lns_app, e1, List.map_append]
        rfl
      · rw [lns_lp] at htk
        have hnl := num_len hk
        have hl2 : ("loop " : Str).length = 5 := by decide +kernel
        have hl3 : (" {" : Str).length = 2 := by decide +kernel
        unfold lpU
        bv_omega
        refine v_ind (by omega) ?_
        have em : Str.empty ++ ("loop " : Str) = "loop " := ext_tl (by rw [tl_append]; rfl)
        have ln1 : (("loop " : Str) ++ num k).length ≤ 24 := by rw [app_len]; omega
        have ln2 : (("loop " : Str) ++ num k ++ " {").length ≤ 26 := by rw [app_len, hl3]; omega
        bv_omega
        refine v_addS (by omega) ?_
        bv_omega
        refine v_strAi (num_lg hk) ?_
        have hl4 : (ind l ++ ("loop " : Str)).length = 2 * l + 5 := by rw [app_len]; omega
        have hl5 : (ind l ++ ("loop " : Str) ++ num k).length = 2 * l + 5 + (num k).length := by rw [app_len]; omega
        refine v_addS (by rw [hl4]; exact Nat.le_trans (Nat.add_le_add_left hnl _) (by omega)) ?_
        bv_omega
        refine v_addS (by refine Nat.le_trans (Nat.le_of_eq (congrArg (· + (" {" : Str).length) hl5)) ?_; omega) ?_
        bv_omega
        rw [show ind l ++ ("loop " : Str) ++ Str.ofString (toString (k : Int)) ++ (" {" : Str) = ind l ++ lpS k by rw [← lp_eq]; exact ext_tl (by simp only [tl_append, List.append_assoc]; rfl)]
        have hf1 := set_me' (o' := O.lst ((lns (d' + 1) l (xs.take j)).map U.str ++ [U.str (ind l ++ lpS k)])) hf
        have K1 := K.set (k := T.length) (o := O.lst ((lns (d' + 1) l (xs.take j)).map U.str ++ [U.str (ind l ++ lpS k)])) (Nat.le_refl _)
        generalize T'.set T.length (O.lst ((lns (d' + 1) l (xs.take j)).map U.str ++ [U.str (ind l ++ lpS k)])) = T1 at hf1 K1 ⊢
        bv_omega
        rw [show ((l : Nat) : Int) + 1 = ((l + 1 : Nat) : Int) from rfl]
        refine ih d' (Nat.lt_succ_self _) f 2 b (l + 1) (by omega) (by decide) hb (by omega) T1 _ fun T2 kb K2 hkb hlb => ?_
        have hf2 := K2.at_ hf1
        bv_omega
        refine v_ext hf2 hlb ⟨?_, ?_⟩
        · rw [List.length_append, List.length_map, List.length_map, List.length_singleton]
          rw [List.length_cons, List.length_append] at htk
          omega
        have hf3 := set_me' (o' := O.lst ((lns (d' + 1) l (xs.take j)).map U.str ++ [U.str (ind l ++ lpS k)] ++ (lns d' (l + 1) b).map U.str)) hf2
        have K3 := (K1.trans K2).set (k := T.length) (o := O.lst ((lns (d' + 1) l (xs.take j)).map U.str ++ [U.str (ind l ++ lpS k)] ++ (lns d' (l + 1) b).map U.str)) (Nat.le_refl _)
        generalize T2.set T.length (O.lst ((lns (d' + 1) l (xs.take j)).map U.str ++ [U.str (ind l ++ lpS k)] ++ (lns d' (l + 1) b).map U.str)) = T3 at hf3 K3 ⊢
        bv_omega
        refine v_ind (by omega) ?_
        bv_omega
        refine v_addS (by have : ("}" : Str).length = 1 := by decide +kernel
                          omega) ?_
        bv_omega
        have h4 : ((lns (d' + 1) l (xs.take j)).map U.str ++ [U.str (ind l ++ lpS k)] ++ (lns d' (l + 1) b).map U.str).length < 16777216 := by
          rw [List.length_append, List.length_append, List.length_map, List.length_map, List.length_singleton]
          rw [List.length_cons, List.length_append] at htk
          omega
        refine v_appZ hf3 h4 ?_
        bv_omega
        refine ⟨K3.set (Nat.le_refl _), by omega, _, _, ?_, rfl⟩
        rw [set_me' hf3, take_snoc hj, lns_app, lns_lp, List.map_append, List.map_cons, List.map_append, List.append_assoc, List.append_assoc]
        rfl
    · subst eη
      rw [List.take_length] at hf
      bv_omega
      exact g _ _ K (Nat.le_refl _) hf
end Mx
set_option Elab.async false
set_option linter.all false
set_option maxRecDepth 100000
set_option maxHeartbeats 4000000
namespace Mx
open PySem PySem.Spec L2 Lf Aff TL
theorem nl_join {lines : List Str} (h : ∀ s ∈ lines, LnOk s) (hne : lines ≠ []) : Txt.split (Txt.join "\n" lines) "\n" = lines :=
  split_join (S := []) tl_nl nl_all hne fun p hp => (h p hp).f
theorem nl_ne {lines : List Str} (h : ∀ s ∈ lines, LnOk s) (hne : lines ≠ []) : Txt.join "\n" lines ≠ "" := by
  intro e
  have e := congrArg tl e
  rw [join_eq, tl_join] at e
  cases lines with
  | nil => exact hne rfl
  | cons s ss =>
    have h1 := (h s (List.mem_cons_self ..)).n
    rw [List.map_cons] at e
    cases h2 : ss.map tl with
    | nil => rw [h2] at e; exact h1 e
    | cons a r => rw [h2] at e; exact h1 (List.append_eq_nil_iff.mp e).1
theorem nl_len {lines : List Str} (h : ∀ s ∈ lines, LnOk s) (hl : lines.length ≤ 1000) : (Txt.join "\n" lines).length ≤ 200000 := by
  rw [len_tl, join_eq, tl_join, tl_nl]
  refine Nat.le_trans (joinL_len (M := 100) fun p hp => ?_) ?_
  · obtain ⟨z, hz, rfl⟩ := List.mem_map.mp hp
    rw [← len_tl]
    exact (h z hz).l
  · rw [List.length_map]
    show lines.length * 101 ≤ 200000
    omega
theorem nl_sum {lines : List Str} (h : ∀ s ∈ lines, LnOk s) (hl : lines.length ≤ 1000) : (lines.map (·.length)).sum + lines.length * ("\n" : Str).length ≤ 16777216 := by
  have h1 := sum_len (ss := lines) (M := 100) fun s hs => (h s hs).l
  have h2 : ("\n" : Str).length = 1 := by decide +kernel
  rw [h2]
  omega
theorem nl_nil : Txt.join "\n" ([] : List Str) = "" := by decide +kernel
def rdE (q : Int) (n : Nat) : Sto := [.ins "Reader" (rdF q n 1 3), .lst [], .lst [], .lst [.ob 2]]
theorem init_ok {q : Int} {n : Nat} {Q : U → Sto → Prop} (g : Q .non (rdE q n)) : Wp (Fn.g_Reader___init__ [.ob 0, .int q, .int (n : Nat)] [.ins "Reader" []]) Q := by
  refine gDef_wp ?_
  unfold Fn.f_Reader___init__
  have r0 : ([O.ins "Reader" []] : Sto)[0]? = some (.ins "Reader" []) := rfl
  bv_omega
  exact g
inductive Bl (N : Nat) : List (List U) → Prop
  | nil : Bl N []
  | cons {b : List U} {bs : List (List U)} : b.length ≤ N → Bl N bs → Bl N (b :: bs)
theorem Bl.mono {N M : Nat} (h : N ≤ M) : ∀ {bs : List (List U)}, Bl N bs → Bl M bs
  | _, .nil => .nil
  | _, .cons a b => .cons (Nat.le_trans a h) (b.mono h)
theorem rds_inv {q : Int} {n : Nat} {cs cs2 : List Nat} {bs bs2 : List (List U)} {s : Str} {ss : List Str} (h : Rds q n cs bs (s :: ss) cs2 bs2) : ∃ cs1 bs1, Rdr q n cs bs s cs1 bs1 ∧ Rds q n cs1 bs1 ss cs2 bs2 := by
  cases h with
  | cons a b => exact ⟨_, _, a, b⟩
theorem take_ok {q : Int} (hq2 : q ≤ 10007) {n : Nat} (hn2 : n ≤ 900) {L : List U} {kr kc kb kl : Nat} {cs cs' js : List Nat} {bs bs' : List (List U)} {s : Str} {T : Sto} {N : Nat} (h : RdS q n L kr kc kb kl cs js bs T) (r : Rdr q n cs bs s cs' bs') (hB : Bl N bs) (hN : N ≤ 10000) {Q : U → Sto → Prop}
    (g : ∀ T' js', RdS q n L kr kc kb kl cs' js' bs' T' → Bl (N + 1) bs' → Q (.bl true) T') : Wp (Fn.g_Reader_take [.ob kr, .str s] T) Q := by
  cases r with
  | @cls k _ b2 b1 bs =>
    cases hB with
    | cons h1 hB =>
      cases hB with
      | cons h2 hB => exact take_cls h (by omega) fun T' js' hS => g T' js' hS (.cons (by rw [List.length_append, List.length_singleton]; omega) (hB.mono (Nat.le_succ _)))
  | @opn k _ _ hc hk =>
    exact take_in h (by have := lpS_len hk; omega) (ti_opn h hc hk fun T' js' hS => g T' js' hS (.cons (Nat.zero_le _) (hB.mono (Nat.le_succ _))))
  | @ins x _ b bs hx =>
    obtain ⟨w, is, ex, hw, h1, h3, hi2⟩ := ins_shape hq2 hn2 hx
    have hl : (opS x).length ≤ 80 := by rw [ex, opS_of]; exact (opS_ok hw h3 hi2).2
    cases hB with
    | cons h1 hB =>
      obtain ⟨j, js, rfl⟩ : ∃ j js', js = j :: js' := by
        have := h.o
        match js, this with
        | j :: js', _ => exact ⟨j, js', rfl⟩
        | [], hh => exact hh.elim
      exact take_in h (by omega) (ti_ins hq2 hn2 h (by omega) hx fun T' js' hS => g T' js' hS (.cons (by rw [List.length_append, List.length_singleton]; omega) (hB.mono (Nat.le_succ _))))
theorem rdE_ok {q : Int} {n : Nat} (L : List U) : RdS q n L 0 1 3 4 [] [2] [[]] (rdE q n ++ [.lst L]) :=
  ⟨rfl, rfl, rfl, rfl, ⟨rfl, trivial⟩, by decide, Nat.zero_le _, rfl⟩
theorem text_lines {η : Lo} {T : Sto} {Q : U → Sto → Prop} {lines : List Str} (hη : η[2]? = some (some (.str (Txt.join "\n" lines)))) (hlm : ∀ s ∈ lines, LnOk s) (hln : lines.length ≤ 1000) (g : Q (.ob T.length) (T ++ [.lst (lines.map U.str)])) :
    Wp (fIfE (fBl (fBin (gEq true) (fVar 2) (fC (.str "")))) (fTx gSplit (fVar 2) (fC (.str "\n"))) (fLst fNil) η T) Q := by
  have htl := nl_len hlm hln
  bv_omega
  refine v_var hη ?_
  bv_omega
  refine v_ifd (fun h => ?_) (fun h => ?_)
  · have hne : lines ≠ [] := by
      rintro rfl
      exact h nl_nil
    bv_omega
    refine v_tx ?_
    refine v_var hη ?_
    bv_omega
    refine v_split (by decide +kernel) (by omega) ?_
    rw [nl_join hlm hne]
    exact g
  · have he : lines = [] := by
      by_cases e : lines = []
      · exact e
      · exact absurd (nl_ne hlm e) h
    subst he
    bv_omega
    exact g
theorem read_ok {q : Int} (hq2 : q ≤ 10007) {n : Nat} (hn2 : n ≤ 900) {m : Nat} (hm : m ≤ 4) {xs : List U} (hx : NP q n m 4 xs) {T : Sto} {Q : U → Sto → Prop} (g : Q (.tup xs) T) : Wp (kdG .pur 3 Fn.g_read_program [.int q, .int (n : Nat), .str (Txt.join "\n" (lns 4 0 xs))] T) Q := by
  have hlm := hx.lnm hq2 hn2 (l := 0) (by decide)
  have hln : (lns 4 0 xs).length ≤ 1000 := by
    have h1 := hx.lnl (l := 0)
    have h2 := Nat.mul_le_mul_right (lnB 4) (Nat.le_trans hx.len hm)
    have h3 : lnB 4 ≤ 100 := by decide
    omega
  have hrd : Rds q n [] [[]] (lns 4 0 xs) [] [xs] := rds_prog (cs := []) (b := []) (bs := []) hx (by decide)
  have htl := nl_len hlm hln
  have hp : isPr q n (.tup xs) = true := hx.isPr hm
  generalize lns 4 0 xs = lines at hlm hln hrd htl ⊢
  refine purK rfl rfl (gDef_wp ?_)
  unfold Fn.f_read_program
  bv_omega
  refine .ok ?_
  bv_omega
  refine ⟨rfl, ?_⟩
  refine init_ok ?_
  refine ⟨rfl, ?_⟩
  refine v_cons (text_lines rfl hlm hln ?_)
  have hS0 := rdE_ok (q := q) (n := n) (lines.map U.str)
  have h4 := hS0.t
  have e4 : (rdE q n).length = 4 := rfl
  rw [e4]
  bv_omega
  refine v_enumL h4 ?_
  generalize htx : Txt.join "\n" lines = tx
  refine wp_forI itsOk_enum (fun i η T' => i ≤ lines.length ∧ ∃ (cs js : List Nat) (bs : List (List U)) (o5 o6 : Option U), RdS q n (lines.map U.str) 0 1 3 4 cs js bs T' ∧ Rds q n cs bs (lines.drop i) [] [xs] ∧ Bl i bs ∧ η = [some (.int q), some (.int (n : Nat)), some (.str tx), some (.ob 0), some (.ob 4), o5, o6, none])
    ⟨Nat.zero_le _, [], [2], [[]], none, none, hS0, by rw [List.drop_zero]; exact hrd, .cons (Nat.le_refl _) .nil, rfl⟩ (fun _ _ _ ⟨_, _, _, _, _, _, hS, _⟩ => hS.t) (fun i y η T' hi ⟨hil, cs, js, bs, o5, o6, hS, hR, hB, eη⟩ => ?_) (fun η T' ⟨hil, cs, js, bs, o5, o6, hS, hR, hB, eη⟩ => ?_)
  · subst eη
    obtain ⟨u, hj, rfl⟩ := enl_get hi
    rw [List.getElem?_map] at hj
    obtain ⟨s, hs, rfl⟩ := Option.map_eq_some_iff.mp hj
    have hil2 := (List.getElem?_eq_some_iff.mp hs).1
    have hdr : lines.drop i = s :: lines.drop (i + 1) := by
      rw [List.drop_eq_getElem_cons hil2]
      congr 1
      exact (List.getElem?_eq_some_iff.mp hs).2
    rw [hdr] at hR
    obtain ⟨cs1, bs1, hr1, hR1⟩ := rds_inv hR
    have hr := hS.r
    unfold rdF at hr
    bv_omega
    refine ⟨_, selM_of hr (by rfl) (by rfl), ?_⟩
    bv_omega
    refine ⟨rfl, ?_⟩
    refine take_ok hq2 hn2 hS hr1 hB (by omega) fun T2 js2 hS2 hB2 => ?_
    bv_omega
    exact ⟨by omega, cs1, js2, bs1, _, _, hS2, hR1, hB2, rfl⟩
  · subst eη
    have hl : (enl (lines.map U.str)).length = lines.length := by unfold enl; rw [List.length_map, List.length_range, List.length_map]
    rw [hl, List.drop_length] at hR
    cases hR
    have hr := hS.r
    have hc := hS.c
    have hb := hS.b
    have hjl := hS.jl
    obtain ⟨j, rfl⟩ : ∃ j, js = [j] := List.length_eq_one_iff.mp hjl
    have hj := hS.o.1
    unfold rdF at hr
    have hc' : (T' ++ [O.lst []])[1]? = some (.lst []) := ap hc
    have hr' := ap (l := [O.lst []]) hr
    have hb' : (T' ++ [O.lst []])[3]? = some (.lst [.ob j]) := ap hb
    have hj' := ap (l := [O.lst []]) hj
    have h0 := ap0 (T := T') (o := O.lst [])
    bv_omega
    refine v_neE (us := []) hc' h0 (laA_of fun _ h => nomatch h) ?_
    generalize T' ++ [O.lst []] = T1 at hc' hr' hb' hj' h0 ⊢
    bv_omega
    refine prog_ok (by omega) (by omega) (hx.rpt hq2 hn2 hm) (by decide) fun os => ?_
    rw [hp]
    bv_omega
    have hnr := Pg.nrs_ (hx.pg hm)
    bv_omega
    exact g
theorem show_prog {q : Int} (hq2 : q ≤ 10007) {n : Nat} (hn2 : n ≤ 900) {m : Nat} (hm : m ≤ 4) {xs : List U} (hx : NP q n m 4 xs) {T : Sto} {Q : U → Sto → Prop} (g : Q (.str (Txt.join "\n" (lns 4 0 xs))) T) : Wp (kdG .pur 1 Fn.g_show_program [.tup xs] T) Q := by
  have hlm := hx.lnm hq2 hn2 (l := 0) (by decide)
  have hln : (lns 4 0 xs).length ≤ 1000 := by
    have h1 := hx.lnl (l := 0)
    have h2 := Nat.mul_le_mul_right (lnB 4) (Nat.le_trans hx.len hm)
    have h3 : lnB 4 ≤ 100 := by decide
    omega
  refine purK rfl ?_ (gDef_wp ?_)
  · show (nrs xs && true) = true
    rw [Pg.nrs_ (hx.pg hm)]; rfl
  unfold Fn.f_show_program
  bv_omega
  refine v_tx ?_
  bv_omega
  refine lines_ok hq2 hn2 4 30 m xs 0 (by decide) hm hx (by decide) [] _ fun T1 k K hk hl => ?_
  refine v_join hl (nl_sum hlm hln) ?_
  bv_omega
  exact g
end Mx
set_option Elab.async false
set_option linter.all false
set_option maxRecDepth 100000
set_option maxHeartbeats 4000000
namespace Mx
open PySem PySem.Spec L2 Lf Aff
theorem v_eqEL {T : Sto} {Q : U → Sto → Prop} {k j : Nat} {us : List U} (e : T[k]? = some (.lst us)) (e2 : T[j]? = some (.lst [])) (l : LaA T us) (q : Q (.bl (decide (us = []))) T) : Wp (gEq false (.ob k) (.ob j) T) Q := by
  obtain ⟨ds, h1, h2, h3⟩ := l
  have d1 : dat T 66 (.ob k) = some (PyData.list ds) := by
    show (match T[k]? with
      | some (.lst xs) => (dats (dat T 65) xs).map PyData.list
      | _ => none) = _
    rw [e]
    show (dats (dat T 65) us).map PyData.list = _
    rw [h1]; rfl
  have d2 : dat T 66 (.ob j) = some (PyData.list []) := by
    show (match T[j]? with
      | some (.lst xs) => (dats (dat T 65) xs).map PyData.list
      | _ => none) = _
    rw [e2]; rfl
  refine v_eqD d1 d2 (by simp [SeqAt.shaped, PyData.canLay0, PyData.depth, h2]; omega) rfl ?_
  have hl := dats_length h1
  have : PyData.eqv (PyData.list ds) (PyData.list []) = decide (us = []) := by
    cases ds with
    | nil =>
      have : us = [] := List.length_eq_zero_iff.mp hl.symm
      subst this
      simp [PyData.eqv, PyData.eqvAll]
    | cons d ds =>
      have : us ≠ [] := fun z => by subst z; simp at hl
      simp [PyData.eqv, PyData.eqvAll, this]
  rw [this]
  exact q
def onc : Nat → List U → List U
  | 0, xs => xs
  | d + 1, xs => xs.map fun x => match lpOf x with
    | some (_, b) => lpU (1 : Nat) (onc d b)
    | none => x
def on1 : Nat → U → U
  | 0, x => x
  | d + 1, x => match lpOf x with
    | some (_, b) => lpU (1 : Nat) (onc d b)
    | none => x
theorem onc_eq (d : Nat) (xs : List U) : onc d xs = xs.map (on1 d) := by
  cases d with
  | zero => show xs = xs.map id; rw [List.map_id]
  | succ d => rfl
section
variable {q : Int} {n : Nat}
theorem on1_ins {d : Nat} {x : U} (h : Ins q n x) : on1 d x = x := by
  cases d with
  | zero => rfl
  | succ d => show (match lpOf x with | some (_, b) => lpU (1 : Nat) (onc d b) | none => x) = x; rw [ins_lp h]
theorem on1_lp {d k : Nat} {b : List U} : on1 (d + 1) (lpU k b) = lpU (1 : Nat) (onc d b) := rfl
theorem NP.onc_pg : ∀ {d m : Nat} {xs : List U}, m ≤ 4 → NP q n m d xs → Pg q n d (onc d xs)
  | 0, m, xs, hm, h => h.pg hm
  | d + 1, m, xs, hm, h => ⟨by rw [onc_eq, List.length_map]; have := h.1; omega, fun x hx => by
    rw [onc_eq] at hx
    obtain ⟨y, hy, rfl⟩ := List.mem_map.mp hx
    rcases h.2 y hy with hi | ⟨k, b, rfl, hk, hb, _⟩
    · rw [on1_ins hi]; exact .inl hi
    · rw [on1_lp]; exact .inr ⟨1, _, rfl, by decide, hb.onc_pg (by decide)⟩⟩
def flB : Nat → Nat
  | 0 => 1
  | d + 1 => 2 * flB d
theorem flB_ge : ∀ d, 1 ≤ flB d
  | 0 => Nat.le_refl _
  | d + 1 => by show 1 ≤ 2 * flB d; have := flB_ge d; omega
theorem flB_le {a b : Nat} (h : a ≤ b) : flB a ≤ flB b := by
  induction h with
  | refl => exact Nat.le_refl _
  | step h ih => show flB a ≤ 2 * flB _; omega
theorem NP.onc_fl : ∀ {d m : Nat} {xs : List U}, NP q n m d xs → (flt d (onc d xs)).length ≤ xs.length * flB d
  | d, m, xs, h => by
    have one : ∀ x ∈ xs, (flt d [on1 d x]).length ≤ flB d := fun x hx => by
      rcases h.item hx with hi | ⟨d', k, b, rfl, rfl, hk, hb, _⟩
      · rw [on1_ins hi, ins_flt hi]; exact flB_ge d
      · rw [on1_lp, flt_one_lp, rep_len, Nat.one_mul]
        have h1 := hb.onc_fl
        have h2 := Nat.mul_le_mul_right (flB d') hb.len
        show _ ≤ 2 * flB d'
        omega
    clear h
    rw [onc_eq]
    induction xs with
    | nil => rw [List.map_nil, flt_nil]; exact Nat.zero_le _
    | cons x xs ih =>
      have h1 := one x (List.mem_cons_self ..)
      have h2 := ih fun y hy => one y (List.mem_cons_of_mem _ hy)
      rw [List.map_cons, flt_cons, List.length_append, List.length_cons, Nat.add_mul]
      omega
theorem NP.onc_fb {N : Nat} : ∀ {d m : Nat} {xs : List U}, m ≤ 4 → NP q n m d xs → 4 * flB d ≤ N → FB N d (onc d xs)
  | 0, m, xs, hm, h, hN => by
    show xs.length ≤ N
    have h1 := h.1
    have : 4 * flB 0 = 4 := rfl
    omega
  | d + 1, m, xs, hm, h, hN => ⟨by
    have h1 := h.onc_fl
    have h2 := Nat.mul_le_mul_right (flB (d + 1)) (Nat.le_trans h.len hm)
    omega, fun k b hb => by
      rw [onc_eq] at hb
      obtain ⟨y, hy, e⟩ := List.mem_map.mp hb
      rcases h.2 y hy with hi | ⟨k', c, rfl, hk, hc, _⟩
      · rw [on1_ins hi] at e
        have := ins_lp hi
        rw [e, lpOf_lpU] at this
        cases this
      · rw [on1_lp] at e
        injection e with e
        injection e with _ e
        injection e with _ e
        injection e with e _
        injection e with e
        subst e
        exact hc.onc_fb (by decide) (by have : flB (d + 1) = 2 * flB d := rfl
                                        omega)⟩
theorem NP.onc_qt : ∀ {d m : Nat} {xs : List U}, NP q n m d xs → (∀ x ∈ flt d (onc d xs), isRW x = false) → qt d xs = true
  | d, m, xs, h, hf => by
    have hx : ∀ x ∈ xs, ∀ y ∈ flt d [on1 d x], isRW y = false := fun x hx y hy => by
      refine hf y ?_
      obtain ⟨a, b, rfl⟩ := List.append_of_mem hx
      rw [onc_eq, List.map_append, List.map_cons, flt_app, flt_cons]
      exact List.mem_append_right _ (List.mem_append_left _ hy)
    have key : ∀ x ∈ xs, (Ins q n x ∧ isRW x = false) ∨ ∃ (d' k : Nat) (b : List U), d = d' + 1 ∧ x = lpU k b ∧ qt d' b = true := fun x hxm => by
      rcases h.item hxm with hi | ⟨d', k, b, rfl, rfl, hk, hb, _⟩
      · refine .inl ⟨hi, ?_⟩
        have := hx x hxm x
        rw [on1_ins hi, ins_flt hi] at this
        exact this (List.mem_singleton.mpr rfl)
      · refine .inr ⟨d', k, b, rfl, rfl, hb.onc_qt fun y hy => hx _ hxm y ?_⟩
        rw [on1_lp, flt_one_lp]
        simpa using hy
    cases d with
    | zero =>
      refine List.all_eq_true.mpr fun x hxm => ?_
      rcases key x hxm with ⟨_, h1⟩ | ⟨d', _, _, e, _⟩
      · rw [h1]; rfl
      · cases e
    | succ d =>
        refine List.all_eq_true.mpr fun x hxm => ?_
        rcases key x hxm with ⟨h0, h1⟩ | ⟨d', k, b, e, rfl, h2⟩
        · rw [ins_lp h0, h1]; rfl
        · cases e; rw [lpOf_lpU]; exact h2
theorem once_ok : ∀ (d f m : Nat) (xs : List U), d < f → m ≤ 4 → NP q n m d xs → ∀ (T : Sto) (Q : U → Sto → Prop), Q (.tup (onc d xs)) T → Wp (kdG .pur 1 (Fn.g_law_once f) [.tup xs] T) Q := by
  intro d
  induction d using Nat.strongRecOn with
  | ind d ih =>
    intro f m xs hf hm hx T Q g
    obtain ⟨f, rfl⟩ : ∃ f', f = f' + 1 := ⟨f - 1, by omega⟩
    have hnr := Pg.nrs_ (hx.pg hm)
    refine purK rfl ?_ (gDef_wp ?_)
    · show (nrs xs && true) = true
      rw [hnr]; rfl
    unfold Fn.f_law_once
    have hxl := hx.len
    bv_omega
    refine wp_lcI2 itsOk_const (fun i acc T' => T' = [] ∧ acc = (xs.take i).map (on1 d) ∧ i ≤ xs.length) ⟨rfl, by rw [List.take_zero]; rfl, Nat.zero_le _⟩ (fun _ _ _ _ => trivial) (fun i x acc T' hi ⟨eT, ea, hil⟩ => ?_) (fun acc T' ⟨eT, ea, hil⟩ => ?_)
    · subst eT
      have hxx := List.mem_of_getElem? hi
      have hil2 := (List.getElem?_eq_some_iff.mp hi).1
      have hal : acc.length < 16777216 := by rw [ea, List.length_map, List.length_take]; omega
      have fin : ∀ y : U, y = on1 d x → acc.length < 16777216 ∧ ([] : Sto) = [] ∧ acc ++ [y] = (xs.take (i + 1)).map (on1 d) ∧ i + 1 ≤ xs.length := fun y hy => by
        refine ⟨hal, rfl, ?_, by omega⟩
        rw [ea, hy, take_snoc hi, List.map_append]; rfl
      rcases hx.item hxx with hi | ⟨d', k, b, rfl, rfl, hk, hb, _⟩
      · have e1 := on1_ins (d := d) hi
        obtain ⟨w, r, rfl, hw, _⟩ := ins_two hi
        bv_omega
        exact fin _ e1.symm
      · unfold lpU
        bv_omega
        refine ih d' (Nat.lt_succ_self _) f 2 b (by omega) (by decide) hb _ _ ?_
        bv_omega
        exact fin _ on1_lp.symm
    · subst eT
      rw [List.take_length] at ea
      have h0 := ap0 (T := ([] : Sto)) (o := O.lst acc)
      bv_omega
      rw [ea, ← onc_eq]
      have h2 := Pg.nrs_ (hx.onc_pg hm)
      bv_omega
      exact g
end
end Mx
set_option Elab.async false
set_option linter.all false
set_option maxRecDepth 100000
set_option maxHeartbeats 4000000
namespace Mx
open PySem PySem.Spec L2 Lf Aff
theorem PE.set {i b : Nat} {T T' : Sto} {k : Nat} {o : O} (a : PE i b T T') (h : T.length ≤ k) (hik : i ≠ k) : PE i b T (T'.set k o) := ⟨let ⟨o', h1, h2⟩ := a.pot; ⟨o', by rw [List.getElem?_set_ne (Ne.symm hik)]; exact h1, h2⟩, fun j h1 h2 => by rw [List.getElem?_set_ne (by omega)]; exact a.kp j h1 h2, by rw [List.length_set]; exact a.le⟩
theorem rgU_at3 {a : Int} {n i : Nat} {x : U} (h : (rgU a n)[i]? = some x) : i < n ∧ x = .int (a + (i : Nat)) := by
  have h1 := (List.getElem?_eq_some_iff.mp h).1
  rw [rgU_len] at h1
  refine ⟨h1, ?_⟩
  unfold rgU at h
  rw [List.getElem?_map] at h
  obtain ⟨j, hj, rfl⟩ := Option.map_eq_some_iff.mp h
  rw [range_at hj]
def itN : Nat → Nat
  | 0 => 6
  | d + 1 => (1 + 2 * itN d) + 4
theorem itN_ge : ∀ d, 6 ≤ itN d
  | 0 => Nat.le_refl _
  | d + 1 => by show 6 ≤ (1 + 2 * itN d) + 4; have := itN_ge d; omega
theorem nested_ok {q : Int} (hq : 2 ≤ q) (hq2 : q ≤ 10007) {n : Nat} (hn : 1 ≤ n) (hn2 : n ≤ 900) : ∀ (d f : Nat), d < f → d ≤ 4 → ∀ (most : Nat), 1 ≤ most → most ≤ 4 → ∀ (T : Sto) (i b : Nat), (∃ o, T[i]? = some o ∧ PotB b o) → b + (1 + most * itN d) ≤ 60000 →
    ∀ {Q : U → Sto → Prop}, (∀ prog T', NP q n most d prog → PE i (b + (1 + most * itN d)) T T' → Q (.tup prog) T') → Wp (kdG .len 5 (Fn.g_law_nested_program f) [.ob i, .int q, .int (n : Nat), .int (most : Nat), .int (d : Nat)] T) Q := by
  intro d
  induction d using Nat.strongRecOn with
  | ind d ih =>
  intro f hdf hd4 most hm1 hm4 T i b a hb Q g
  obtain ⟨f, rfl⟩ : ∃ f', f = f' + 1 := ⟨f - 1, by omega⟩
  refine len_wp rfl ?_
  show Wp (gDef 12 (Fn.f_law_nested_program (Fn.g_law_nested_program f)) [.ob i, .int q, .int (n : Nat), .int (most : Nat), .int (d : Nat)] T) Q
  refine gDef_wp ?_
  unfold Fn.f_law_nested_program
  obtain ⟨o0, ho0, po0⟩ := a
  have hil := lt_at ho0
  have hif : i ≠ T.length := by omega
  have a0 : PE i b T (T ++ [O.lst []]) := (PE.refl ⟨o0, ho0, po0⟩).app
  have hf0 := ap0 (T := T) (o := O.lst [])
  bv_omega
  generalize T ++ [O.lst []] = T0 at a0 hf0 ⊢
  refine draw_pot a0.pot (by omega) (by omega) (by omega) fun t T1 t0 t1 e1 _ => ?_
  obtain ⟨t, rfl⟩ : ∃ t' : Nat, t = t' := ⟨t.toNat, by omega⟩
  have a1 := a0.trans e1
  have hf1 := e1.at_ hf0 (Ne.symm hif)
  clear a0 hf0 e1
  have hit := itN_ge d
  bv_omega
  refine wp_forI itsOk_const (fun i1 η T' => ∃ (prog : List U) (o6 o7 o8 o9 o10 o11 : Option U), NP q n most d prog ∧ prog.length = i1 ∧ PE i (b + 1 + i1 * itN d) T T' ∧ T'[T.length]? = some (.lst prog) ∧ η = [some (.ob i), some (.int q), some (.int (n : Nat)), some (.int (most : Nat)), some (.int (d : Nat)), some (.ob T.length), o6, o7, o8, o9, o10, o11])
    ⟨[], _, _, _, _, _, _, .nil, rfl, a1.mono (by omega), hf1, rfl⟩ (fun _ _ _ _ => trivial) (fun i1 x η T' hi ⟨prog, o6, o7, o8, o9, o10, o11, hP, hpl, hE, hf, eη⟩ => ?_) (fun η T' ⟨prog, o6, o7, o8, o9, o10, o11, hP, hpl, hE, hf, eη⟩ => ?_)
  · subst eη
    obtain ⟨hin, rfl⟩ := rgU_at3 hi
    have hi6 : i1 < most := by omega
    have hib : (i1 + 1) * itN d ≤ most * itN d := Nat.mul_le_mul_right _ hi6
    have hsi : (i1 + 1) * itN d = i1 * itN d + itN d := Nat.succ_mul _ _
    -- an instruction
    have plain : ∀ {T2 : Sto} {b2 : Nat} {o6 o7 o8 o9 o10 o11 : Option U}, b2 ≤ b + 2 + i1 * itN d → PE i b2 T' T2 → Wp (fDrop (fMeth isL gAppend (fVar 5) (fCons (fCall (kdG .urn 3 Fn.g_law_instruction) (fCons (fVar 0) (fCons (fVar 1) (fCons (fVar 2) (fNil))))) (fNil))) [some (.ob i), some (.int q), some (.int (n : Nat)), some (.int (most : Nat)), some (.int (d : Nat)), some (.ob T.length), o6, o7, o8, o9, o10, o11] T2)
        (kF (fun η T' => ∃ (prog : List U) (o6 o7 o8 o9 o10 o11 : Option U), NP q n most d prog ∧ prog.length = i1 + 1 ∧ PE i (b + 1 + (i1 + 1) * itN d) T T' ∧ T'[T.length]? = some (.lst prog) ∧ η = [some (.ob i), some (.int q), some (.int (n : Nat)), some (.int (most : Nat)), some (.int (d : Nat)), some (.ob T.length), o6, o7, o8, o9, o10, o11]) (kS (fun η T => Wp (fRet (fCall gTuple (fCons (fVar 5) fNil)) η T) (kD Q)) (kD Q))) := fun {T2 b2 o6 o7 o8 o9 o10 o11} hb2 e2 => by
      have hf2 := e2.at_ hf (Ne.symm hif)
      bv_omega
      refine instr_ok hq hq2 hn hn2 e2.pot (by omega) fun x T3 hx e3 _ => ?_
      have hf3 := e3.at_ hf2 (Ne.symm hif)
      bv_omega
      exact ⟨prog ++ [x], o6, o7, o8, o9, o10, o11, hP.snoc (by omega) (.inl hx), by rw [List.length_append, List.length_singleton, hpl], (((hE.trans e2).trans e3).mono (by omega)).set (Nat.le_refl _) hif, List.getElem?_set_self (lt_at hf3), rfl⟩
    bv_omega
    refine v_ifd (fun hd => ?_) (fun hd => ?_)
    · obtain ⟨d', rfl⟩ : ∃ d', d = d' + 1 := ⟨d - 1, by omega⟩
      have hit2 : itN (d' + 1) = (1 + 2 * itN d') + 4 := rfl
      bv_omega
      refine draw_pot hE.pot (by omega) (by omega) (by omega) fun z T2 z0 z1 e2 _ => ?_
      bv_omega
      refine v_ifd (fun hz => ?_) (fun hz => ?_)
      · bv_omega
        have hd1 : ((d' + 1 : Nat) : Int) - 1 = ((d' : Nat) : Int) := by omega
        rw [hd1]
        refine ih d' (by omega) f (by omega) (by omega) 2 (by omega) (by omega) T2 i (b + 1 + i1 * itN (d' + 1) + 1) e2.pot (by omega) fun body T5 hB e5 => ?_
        have E5 := e2.trans e5
        have hf5 := E5.at_ hf (Ne.symm hif)
        have e18 : (10 : Int) ^ (18 : Int).toNat = 1000000000000000000 := by decide +kernel
        bv_omega
        rw [e18]
        refine draw_pot E5.pot (by omega) (by omega) (by omega) fun v T6 v0 v1 e6 _ => ?_
        obtain ⟨v, rfl⟩ : ∃ v' : Nat, v = v' := ⟨v.toNat, by omega⟩
        have E6 := E5.trans e6
        have hf6 := E6.at_ hf (Ne.symm hif)
        bv_omega
        have e7 := E6.app (l := [O.lst [U.int 0, U.int 1, U.int 2, U.int 5, U.int 1000000000000000000, U.int v]])
        have hi6' : i ≠ T6.length := by have := lt_at E6.pot.choose_spec.1; omega
        refine pick_pot (xs := [U.int 0, U.int 1, U.int 2, U.int 5, U.int 1000000000000000000, U.int v]) e7.pot (by omega) ap0 hi6' (List.cons_ne_nil _ _) (by simp) fun u T7 hu e8 _ => ?_
        have hu : ∃ kk : Nat, u = .int kk ∧ kk ≤ 1000000000000000000 := by
          simp only [List.mem_cons, List.not_mem_nil, or_false] at hu
          rcases hu with rfl | rfl | rfl | rfl | rfl | rfl
          · exact ⟨0, rfl, by omega⟩
          · exact ⟨1, rfl, by omega⟩
          · exact ⟨2, rfl, by omega⟩
          · exact ⟨5, rfl, by omega⟩
          · exact ⟨1000000000000000000, rfl, by omega⟩
          · exact ⟨v, rfl, by omega⟩
        obtain ⟨kk, rfl, hkk⟩ := hu
        have E7 := e7.trans e8
        have hf7 := E7.at_ hf (Ne.symm hif)
        bv_omega
        refine once_ok d' 30 2 body (by omega) (by decide) hB T7 _ ?_
        bv_omega
        have hfl := flB_le (show d' ≤ 4 by omega)
        have hf16 : flB 4 = 16 := rfl
        refine flat_ok hq2 hn2 (N := 1000) (by decide) d' 30 (onc d' body) (by omega) (by omega) (hB.onc_pg (by decide)) (hB.onc_fb (by decide) (by omega)) T7 _ fun T8 kp ps K8 hk8 hl8 hP8 => ?_
        have hf8 := K8.at_ hf7
        have hpo := hP8.ins (flt_all (hB.onc_pg (by decide)))
        have hpl8 : ps.length ≤ 1000 := by
          rw [hP8.len]
          have h1 := hB.onc_fl
          have h2 := Nat.mul_le_mul_right (flB d') hB.len
          omega
        bv_omega
        refine wp_lcI2 itsOk_obj (fun j acc T9 => T9 = T8 ∧ acc = ((ps.take j).map (·.2)).filter isRW ∧ j ≤ ps.length) ⟨rfl, by rw [List.take_zero]; rfl, Nat.zero_le _⟩ (fun _ _ _ h => by rw [h.1]; exact hl8) (fun j y acc T9 hj ⟨eT, ea, hjl⟩ => ?_) (fun acc T9 ⟨eT, ea, hjl⟩ => ?_)
        · subst eT
          rw [List.getElem?_map] at hj
          obtain ⟨w, hw, rfl⟩ := Option.map_eq_some_iff.mp hj
          have hjl2 := (List.getElem?_eq_some_iff.mp hw).1
          obtain ⟨v1, v2⟩ := w
          obtain ⟨wd, r, rfl, hwd, _⟩ := ins_two (hpo _ (List.mem_of_getElem? hw))
          have hal : acc.length < 16777216 := by
            rw [ea]
            refine Nat.lt_of_le_of_lt (List.length_filter_le _ _) ?_
            rw [List.length_map, List.length_take]; omega
          have hsn : ((ps.take (j + 1)).map (·.2)).filter isRW = acc ++ [U.tup (.str wd :: r)].filter isRW := by
            rw [take_snoc hw, List.map_append, List.filter_append, ← ea]; rfl
          unfold pU
          bv_omega
          refine v_in2 ?_
          rw [in2]
          bv_omega
          refine v_ifd (fun hc => ?_) (fun hc => ?_)
          · bv_omega
            refine ⟨hal, rfl, ?_, by omega⟩
            rw [hsn, List.filter_cons, isRW_c, decide_eq_true hc]; rfl
          · refine ⟨rfl, ?_, by omega⟩
            rw [hsn, List.filter_cons, isRW_c, decide_eq_false hc]
            exact (List.append_nil _).symm
        · subst eT
          rw [List.length_map, List.take_length] at ea
          have htm : ∀ x ∈ acc, Ins q n x := fun x hx => by
            rw [ea] at hx
            obtain ⟨w, hw, rfl⟩ := List.mem_map.mp (List.mem_filter.mp hx).1
            exact hpo w hw
          have hla : ∀ T : Sto, LaA T acc := fun T => laA_of fun x hx => by
            obtain ⟨dd, g1, _, g3, g4, _⟩ := Rp.op (T := T) (ins_op hq2 hn2 (htm x hx))
            exact ⟨dd, g1 65 (by decide), g3, by omega⟩
          have hqt : acc = [] → qt d' body = true := fun e => hB.onc_qt fun x hx => by
            rw [← hP8.s] at hx
            by_cases hr : isRW x = true
            · have : x ∈ acc := by rw [ea]; exact List.mem_filter.mpr ⟨hx, hr⟩
              rw [e] at this
              cases this
            · exact Bool.eq_false_iff.mpr hr
          have K9 := K8.trans (.add T9 [O.lst acc])
          have hk9 := ap0 (T := T9) (o := O.lst acc)
          generalize T9 ++ [O.lst acc] = Ta at K9 hk9 ⊢
          have hf9 := K9.at_ hf7
          have E9 := (hE.trans E7).kf K9
          bv_omega
          have hf10 := ap (l := [O.lst []]) hf9
          have E10 := E9.app (l := [O.lst []])
          refine v_eqEL (ap hk9) ap0 (hla _) ?_
          generalize Ta ++ [O.lst []] = Tb at hf10 E10 ⊢
          have hpl3 : prog.length < 16777216 := by omega
          bv_omega
          refine v_ifd (fun he => ?_) (fun he => ?_)
          · bv_omega
            exact ⟨prog ++ [lpU kk body], _, _, _, _, _, _, hP.snoc (by omega) (.inr ⟨d', kk, body, rfl, rfl, hkk, hB, fun _ => hqt he⟩), by rw [List.length_append, List.length_singleton, hpl], (E10.mono (by omega)).set (Nat.le_refl _) hif, List.getElem?_set_self (lt_at hf10), rfl⟩
          · bv_omega
            rw [show ((kk : Nat) : Int) % 3 = ((kk % 3 : Nat) : Int) from rfl]
            have h3 : kk % 3 < 3 := Nat.mod_lt _ (by decide)
            exact ⟨prog ++ [lpU (kk % 3 : Nat) body], _, _, _, _, _, _, hP.snoc (by omega) (.inr ⟨d', kk % 3, body, rfl, rfl, by omega, hB, fun h => by omega⟩), by rw [List.length_append, List.length_singleton, hpl], (E10.mono (by omega)).set (Nat.le_refl _) hif, List.getElem?_set_self (lt_at hf10), rfl⟩
      · exact plain (by omega) e2
    · first | exact plain (by omega) (PE.refl hE.pot) | exact ⟨(fun z => nomatch z), fun _ => plain (by omega) (PE.refl hE.pot)⟩
  · subst eη
    bv_omega
    have hi6 : prog.length ≤ most := hP.len
    have hib : prog.length * itN d ≤ most * itN d := Nat.mul_le_mul_right _ hi6
    refine g prog T' hP (hE.mono ?_)
    have hpl2 := hpl
    rw [rgU_len] at hpl2
    rw [← hpl]
    omega
end Mx
set_option Elab.async false
set_option linter.all false
set_option maxRecDepth 100000
set_option maxHeartbeats 4000000
namespace Mx
open PySem PySem.Spec L2 Lf Aff
theorem v_isTT {T : Sto} {Q : U → Sto → Prop} (q : Q (.bl false) T) : Wp (gIs true (.bl true) (.bl true) T) Q := .ok q
theorem law_true (ns : List Int) : ∃ T, Fn.g_law [.scr ns] [] = .ok (.bl true) T := by
  suffices h : Wp (Fn.g_law [.scr ns] []) fun u T => u = .bl true by
    obtain ⟨u, T, e, rfl⟩ := h
    exact ⟨T, e⟩
  refine gDef_wp ?_
  unfold Fn.f_law
  bv_omega
  refine wp_forI itsOk_const (fun k η T' => k < 100 ∧ ∃ o1 o2 o3 o4 o5 o6 o7 : Option U, η = [some (.scr ns), o1, o2, o3, o4, o5, o6, o7]) ⟨by decide, _, _, _, _, _, _, _, rfl⟩ (fun _ _ _ _ => trivial) (fun k x η T' hk ⟨hk1, o1, o2, o3, o4, o5, o6, o7, eη⟩ => ?_) (fun η T' ⟨hk1, o1, o2, o3, o4, o5, o6, o7, eη⟩ => ?_)
  · subst eη
    obtain ⟨hkl, rfl⟩ := rgU_at hk
    have hk2 : k < 2 := by omega
    bv_omega
    refine digits_ok (by omega) (by omega) fun o po => ?_
    have hp : ∃ o', (T' ++ [o])[T'.length]? = some o' ∧ PotB 0 o' := ⟨o, ap0, po⟩
    generalize T' ++ [o] = T1 at hp ⊢
    generalize T'.length = i at hp ⊢
    bv_omega
    have n0 : NP 5 1 0 4 [] := .nil
    refine show_prog (by decide) (by decide) (m := 0) (by decide) n0 ?_
    rw [show Txt.join "\n" (lns 4 0 []) = "" from nl_nil]
    bv_omega
    have hr : ∀ {Q : U → Sto → Prop}, Q (.tup []) T1 → Wp (kdG .pur 3 Fn.g_read_program [.int 5, .int (1 : Nat), .str (Txt.join "\n" (lns 4 0 []))] T1) Q := fun {Q} h => read_ok (q := 5) (by decide) (n := 1) (by decide) (m := 0) (by decide) n0 h
    rw [show Txt.join "\n" (lns 4 0 []) = "" from nl_nil] at hr
    refine hr ?_
    bv_omega
    refine v_reprRD (RpD.tup (k := 0) .nil) (by decide) (by decide) ?_
    rw [show shwD T1 (.tup []) = "()" by show (PyData.tuple []).shown = _; decide +kernel]
    bv_omega
    refine wp_forI itsOk_const (fun j η T2 => j ≤ 8 ∧ PE i (700 * j) T1 T2 ∧ ∃ o3 o4 o5 o6 o7 : Option U, η = [some (.scr ns), some (.int (k : Nat)), some (.ob i), o3, o4, o5, o6, o7]) ⟨by decide, PE.refl hp, _, _, _, _, _, rfl⟩ (fun _ _ _ _ => trivial) (fun j y η T2 hj ⟨hj8, E, o3, o4, o5, o6, o7, eη⟩ => ?_) (fun η T2 ⟨hj8, E, o3, o4, o5, o6, o7, eη⟩ => ?_)
    · subst eη
      have hjl : j < 8 := (rgU_at hj).1
      bv_omega
      have e1 := E.app (l := [O.lst [U.int 2, U.int 3, U.int 97, U.int 10007]])
      have hi1 : i ≠ T2.length := by have := lt_at E.pot.choose_spec.1; omega
      refine pick_pot (xs := [U.int 2, U.int 3, U.int 97, U.int 10007]) e1.pot (by omega) ap0 hi1 (List.cons_ne_nil _ _) (by simp) fun u T3 hu e3 _ => ?_
      obtain ⟨q, rfl, hq, hq2⟩ : ∃ q : Int, u = .int q ∧ 2 ≤ q ∧ q ≤ 10007 := by
        simp only [List.mem_cons, List.not_mem_nil, or_false] at hu
        rcases hu with rfl | rfl | rfl | rfl <;> exact ⟨_, rfl, by decide, by decide⟩
      have E3 := e1.trans e3
      bv_omega
      refine draw_pot E3.pot (by omega) (by omega) (by omega) fun z T4 z0 z1 e4 _ => ?_
      obtain ⟨n, hn⟩ : ∃ n : Nat, 1 + z = (n : Nat) := ⟨(1 + z).toNat, by omega⟩
      have E4 := E3.trans e4
      bv_omega
      rw [hn]
      refine draw_pot E4.pot (by omega) (by omega) (by omega) fun lv T5 l0 l1 e5 _ => ?_
      obtain ⟨lv, rfl⟩ : ∃ l' : Nat, lv = l' := ⟨lv.toNat, by omega⟩
      have E5 := E4.trans e5
      have hit : itN lv ≤ 171 := (by decide : ∀ d < 5, itN d ≤ 171) lv (by omega)
      bv_omega
      refine nested_ok hq hq2 (by omega) (by omega) lv 30 (by omega) (by omega) 4 (by decide) (by decide) T5 i _ E5.pot (by omega) fun prog T6 hP e6 => ?_
      have E6 := E5.trans e6
      have hP4 : NP q n 4 4 prog := by
        have := hP.to (4 - lv)
        rwa [show lv + (4 - lv) = 4 by omega] at this
      have hpr : isPr q n (.tup prog) = true := hP4.isPr (by decide)
      have hlm := hP4.lnm hq2 (by omega) (l := 0) (by decide)
      have hln : (lns 4 0 prog).length ≤ 1000 := by
        have h1 := hP4.lnl (l := 0)
        have h2 := Nat.mul_le_mul_right (lnB 4) hP4.len
        have h3 : lnB 4 ≤ 100 := by decide
        omega
      clear e1 e3 e4 e5 e6
      bv_omega
      refine v_tx ?_
      bv_omega
      refine llines_ok hq2 (by omega) 4 30 4 prog 0 (by decide) (by decide) hP4 (by decide) T6 _ fun T7 kl K7 hk7 hl7 => ?_
      refine v_join hl7 (nl_sum hlm hln) ?_
      have E7 := E6.kf K7
      bv_omega
      refine prog_ok (by omega) (by omega) (hP4.rpt hq2 (by omega) (by decide)) (by decide) fun os => ?_
      rw [hpr]
      have E8 := E7.app (l := os)
      generalize T7 ++ os = T8 at E8 ⊢
      bv_omega
      refine v_isTT ?_
      bv_omega
      refine show_prog hq2 (by omega) (m := 4) (by decide) hP4 ?_
      bv_omega
      refine read_ok hq2 (by omega) (m := 4) (by decide) hP4 ?_
      bv_omega
      refine v_reprRD (hP4.rpt hq2 (by omega) (by decide)) (by decide) (by decide) ?_
      bv_omega
      refine v_reprRD (hP4.rpt hq2 (by omega) (by decide)) (by decide) (by decide) ?_
      bv_omega
      exact ⟨by omega, E8.mono (by omega), _, _, _, _, _, rfl⟩
    · subst eη
      bv_omega
      exact ⟨by omega, _, _, _, _, _, _, _, rfl⟩
  · subst eη
    bv_omega
    rfl
end Mx
set_option Elab.async false
set_option linter.all false
set_option maxRecDepth 100000
set_option maxHeartbeats 0
theorem PySem.Challenge.cw_leastjournal_k57_programs_written_and_re_holds : PySem.Challenge.rw_leastjournal_k57_programs_written_and_re.Holds :=
  Fm.fin Mx.law_true
