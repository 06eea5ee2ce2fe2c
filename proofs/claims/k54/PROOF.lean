import PyProof.Rows.All
import HandS.ForMost
import HandS.Walk
import HandS.IsInst
import HandS.Conv
import HandS.Zip
import HandS.Rev
import HandS.RevRange
import HandS.TupAny
import HandS.TupMul
import HandS.TupLe
import HandS.SortInts
import HandS.Deep
import HandS.Wide
import HandS.WideBits
import HandS.Flow
import HandS.Exc
import HandS.ExcOwn
import HandS.ExcInit
import HandS.Strs
import HandS.More
import HandS.Style
import HandS.Defaults
import HandS.Codes
import HandS.WordsExc
import HandS.Head0
import HandS.Head1
import HandS.Head2
import HandS.HeadEnd
import HandS.HeadHook1
import HandS.HeadHook2
import KE.KDictKeyed
import KE.KeyNested
import HandS.RaiseMore
import HandS.SetFor
import HandS.Small
import KE.KDictPairs
import PyProof.SumAny
import PyProof.FactsAll.subtypes_4
import KE.DataMinMax
import KE.GoesEnum
import HandS.TupSets
import PyProof.Rows.SortShellAny
import KE.KStateDown
import KE.KRevSl
import PyProof.Rows.IntBool
import PyProof.CallStr
import KE.SortData
import KE.GoesZip
import HandS.Dict
import HandS.Iter
import KE.KDictCopyH
import HandS.Keys
import HandS.ExcIs
import HandS.ExcValue
import KE.GoesMore
import KE.KDictZip
import HandS.ListItems
import HandS.DictTup
import HandS.SortOrd
import PyProof.NeKinds
import PySem.Challenge.RW_countforms_k54_counts_of_books
set_option Elab.async false
set_option linter.all false
set_option maxRecDepth 100000
set_option maxHeartbeats 4000000
namespace VL
open PySem PySem.Spec L2
/-- data; lst: a list that nobody changes any more -/
inductive D where
  | non | bl (b : Bool) | int (i : Int) | str (s : Str) | tup (ds : List D) | lst (ds : List D) | scr (ns : List Int) | fn (a : Addr) | ty (n : String)
  | dn (ks ds : List D) | dk (ks : List Key) (ds : List D) | cls (n : Str) | exc (n : Str) (f : Option (Str × Int))
  deriving Inhabited
/-- a value: data, the n-th changing object, or a list that is lent -/
inductive Sv where
  | d (x : D) | ref (n : Nat) | bor (ds : List D)
  deriving Inhabited
/-- what holds names of changing things: an object of a class with fields -/
inductive Kd where
  | ob (c : Str) (fs : List Str)
  deriving Inhabited, DecidableEq
inductive Cell where
  | gone | lst (ds : List D) | dk (kvs : List (Key × D)) | dn (kvs : List (D × D)) | nd (k : Kd) (its : List (D ⊕ Nat))
  deriving Inhabited
/-- what a cell names stands ahead of it -/
def Cell.wf (n : Nat) : Cell → Prop
  | .nd _ its => ∀ j, Sum.inr j ∈ its → j < n
  | _ => True
abbrev Mem := List Cell
abbrev DS := List (Option Sv)
/-- where the changing objects stand (none: one that is no more) -/
abbrev Ix := List (Option Addr)
/-- a tuple of the written part -/
def KT (K : PySem.W.Frag) (a : Addr) (xs : List V) : Prop :=
  ∃ (o : Obj) (its : Array Value) (n : Nat), K.lookup a = some o ∧ o.cls = .type "tuple" ∧ o.data = .seq its n ∧ its.size ≤ sizeLine ∧ Vals xs its.toList
/-- a list of the written part -/
def KL (K : PySem.W.Frag) (a : Addr) (xs : List V) : Prop :=
  ∃ (o : Obj) (its : Array Value) (n : Nat), K.lookup a = some o ∧ o.cls = .type "list" ∧ o.dict = none ∧ o.data = .seq its n ∧ its.size ≤ sizeLine ∧ Vals xs its.toList
mutual
/-- a key's hash: no text within -/
def nhash : NestedKey → Int
  | .none => reduceHash 0xFCA86420
  | .num i => hashInt i
  | .text _ => 0
  | .tup ks => reduceHash (Builtin.Tuple.tupleHashOf (nhashes ks))
def nhashes : List NestedKey → List Int
  | [] => []
  | k :: ks => nhash k :: nhashes ks
end
mutual
def nplain : NestedKey → Bool
  | .none => true
  | .num _ => true
  | .text _ => false
  | .tup ks => nplains ks
def nplains : List NestedKey → Bool
  | [] => true
  | k :: ks => nplain k && nplains ks
end
def nEnt (x : NestedKey × Addr × Value) : DictEntry := ⟨nhash x.1, .ref x.2.1, x.2.2⟩
/-- at a stands a dict of such keys -/
def DnP (a : Addr) (xs : List (NestedKey × Addr × V)) : Heap → Prop := fun h => (a == sysModules) = false ∧ xs.length ≤ sizeLine ∧ ∃ (ys : List (NestedKey × Addr × Value)) (o : Obj) (es : Array DictEntry) (ep : Nat),
  Paired (fun (p : NestedKey × Addr × V) (q : NestedKey × Addr × Value) => p.1 = q.1 ∧ p.2.1 = q.2.1 ∧ RelV p.2.2 q.2.2) xs ys ∧ h.get? a = some o ∧ o.ExactDict ∧ o.data = .dict es ep ∧ es.toList = ys.map nEnt ∧ (ys.map (·.1)).Nodup
def DnO (a : Addr) (xs : List (NestedKey × Addr × V)) : HO := .ext (DnP a xs)
mutual
def nk0 : D → Option NestedKey
  | .non => some .none
  | .int i => some (.num i)
  | .tup ds => (nk0s ds).map .tup
  | _ => none
def nk0s : List D → Option (List NestedKey)
  | [] => some []
  | d :: ds => (nk0 d).bind fun k => (nk0s ds).map fun ks => k :: ks
end
def nkD (d : D) : Option NestedKey := match d with
  | .tup ds => (nk0s ds).bind fun ks => if (NestedKey.tup ks).depth ≤ 8 then some (.tup ks) else none
  | _ => none
/-- what is told of a caught error's own dict -/
def ExR (H : Hp) (ι : Ix) (f : Option (Str × Int)) (oe : Obj) : Prop := match f with
  | none => oe.dict = none
  | some (x, i) => ∃ dd od, oe.dict = some dd ∧ H dd = some (.frz od (.xd [(x, .int i)])) ∧ some dd ∉ ι
def ExH (a : Addr) (oe : Obj) : HO := .frz oe (.ext fun h => h.get? a = some oe)
mutual
def RD (K : PySem.W.Frag) (N : Bool → Addr → Prop) (H : Hp) (ι : Ix) : D → V → Prop
  | .non, v => v = .non
  | .bl b, v => v = .bl b
  | .int i, v => v = .int i
  | .str s, v => v = .str s
  | .tup ds, v => ∃ a xs, v = .ref a ∧ ((H a = some (.tup xs) ∧ some a ∉ ι) ∨ KT K a xs) ∧ ds.length ≤ sizeLine ∧ RDs K N H ι ds xs
  | .lst ds, v => ∃ a xs, v = .ref a ∧ H a = some (.lst xs) ∧ some a ∉ ι ∧ N true a ∧ ds.length ≤ sizeLine ∧ RDs K N H ι ds xs
  | .scr ns, v => ∃ a, v = .ref a ∧ ((∃ o, H a = some (.frz o (.lst (ns.map V.int))) ∧ some a ∉ ι) ∨ KL K a (ns.map V.int)) ∧ ns.length ≤ sizeLine
  | .fn a, v => v = .ref a
  | .ty n, v => v = .ty n
  | .cls n, v => v = .ref (He.ga K n)
  | .exc n f, v => ∃ a oe vs, v = .ref a ∧ H a = some (ExH a oe) ∧ some a ∉ ι ∧ oe.cls = .ref (He.ga K n) ∧ oe.data = .fields vs ∧ ExR H ι f oe
  | .dn ks ds, v => ∃ a xs o, v = .ref a ∧ H a = some (.frz o (DnO a xs)) ∧ some a ∉ ι ∧ ks.map nkD = xs.map (fun x => some x.1) ∧ RDs K N H ι ks (xs.map fun x => V.ref x.2.1) ∧ RDs K N H ι ds (xs.map fun x => x.2.2)
  | .dk ks ds, v => ∃ a ws o, v = .ref a ∧ H a = some (.frz o (.dK ws)) ∧ some a ∉ ι ∧ ks = ws.map (·.1) ∧ RDs K N H ι ds (ws.map (·.2))
def RDs (K : PySem.W.Frag) (N : Bool → Addr → Prop) (H : Hp) (ι : Ix) : List D → List V → Prop
  | [], xs => xs = []
  | d :: ds, xs => ∃ x r, xs = x :: r ∧ RD K N H ι d x ∧ RDs K N H ι ds r
end
/-- an item that is data, or the n-th changing thing -/
def RI (K : PySem.W.Frag) (N : Bool → Addr → Prop) (H : Hp) (ι : Ix) : D ⊕ Nat → V → Prop
  | .inl d, v => RD K N H ι d v
  | .inr n, v => ∃ a, v = .ref a ∧ (ι[n]? = some (some a) ∨ ι[n]? = some none)
def RIs (K : PySem.W.Frag) (N : Bool → Addr → Prop) (H : Hp) (ι : Ix) : List (D ⊕ Nat) → List V → Prop
  | [], xs => xs = []
  | d :: ds, xs => ∃ x r, xs = x :: r ∧ RI K N H ι d x ∧ RIs K N H ι ds r
def RS (K : PySem.W.Frag) (N : Bool → Addr → Prop) (H : Hp) (ι : Ix) : Sv → V → Prop
  | .d x, v => RD K N H ι x v
  | .ref n, v => ∃ a, v = .ref a ∧ (ι[n]? = some (some a) ∨ ι[n]? = some none)
  | .bor ds, v => ∃ a xs, v = .ref a ∧ H a = some (.lst xs) ∧ some a ∉ ι ∧ N false a ∧ ds.length ≤ sizeLine ∧ RDs K N H ι ds xs
def RSs (K : PySem.W.Frag) (N : Bool → Addr → Prop) (H : Hp) (ι : Ix) : List Sv → List V → Prop
  | [], xs => xs = []
  | d :: ds, xs => ∃ x r, xs = x :: r ∧ RS K N H ι d x ∧ RSs K N H ι ds r
/-- what is not changing stays -/
def Kp (ι : Ix) (H : Hp) (ι' : Ix) (H' : Hp) : Prop := ∀ a o, H a = some o → some a ∉ ι → H' a = some o ∧ some a ∉ ι'
theorem Kp.refl (ι : Ix) (H : Hp) : Kp ι H ι H := fun _ _ h n => ⟨h, n⟩
theorem Kp.trans {ι ι1 ι2 : Ix} {H H1 H2 : Hp} (a : Kp ι H ι1 H1) (b : Kp ι1 H1 ι2 H2) : Kp ι H ι2 H2 := fun c o h n =>
  let ⟨h1, n1⟩ := a c o h n
  b c o h1 n1
/-- names stay, or go -/
def Ex (ι ι' : Ix) : Prop := ∀ (n : Nat) (o : Option Addr), ι[n]? = some o → ι'[n]? = some o ∨ ι'[n]? = some none
theorem Ex.refl (ι : Ix) : Ex ι ι := fun _ _ h => .inl h
theorem Ex.trans {a b c : Ix} (h : Ex a b) (g : Ex b c) : Ex a c := fun n o e => by
  rcases h n o e with h | h
  · exact g n o h
  · rcases g n none h with g | g <;> exact .inr g
theorem Ex.app (ι r : Ix) : Ex ι (ι ++ r) := fun n o e => by
  have hlt := (List.getElem?_eq_some_iff.mp e).1
  rw [List.getElem?_append_left hlt]; exact .inl e
theorem ExR.map {H H' : Hp} {ι ι' : Ix} {f : Option (Str × Int)} {oe : Obj} (k : ∀ a o l, H a = some (.frz o l) → some a ∉ ι → H' a = some (.frz o l) ∧ some a ∉ ι') (h : ExR H ι f oe) : ExR H' ι' f oe := by
  cases f with
  | none => exact h
  | some p =>
    obtain ⟨dd, od, e, q, n⟩ := h
    exact ⟨dd, od, e, (k dd _ _ q n).1, (k dd _ _ q n).2⟩
section
variable {K : PySem.W.Frag} {N N' : Bool → Addr → Prop} {H H' : Hp} {ι ι' : Ix}
mutual
theorem RD.mono (k : Kp ι H ι' H') (hn : ∀ b a o, H a = some o → N b a → N' b a) : ∀ (d : D) (v : V), RD K N H ι d v → RD K N' H' ι' d v
  | .non, _, h => h
  | .bl _, _, h => h
  | .int _, _, h => h
  | .str _, _, h => h
  | .fn _, _, h => h
  | .ty _, _, h => h
  | .cls _, _, h => h
  | .exc _ f, v, h => by
    obtain ⟨a, oe, vs, e, q, n, c, d, x⟩ := h
    exact ⟨a, oe, vs, e, (k a _ q n).1, (k a _ q n).2, c, d, x.map fun b o l q n => k b _ q n⟩
  | .dn ks ds, v, h => by
    obtain ⟨a, xs, o, e, q, n, z, r1, r2⟩ := h
    exact ⟨a, xs, o, e, (k a _ q n).1, (k a _ q n).2, z, RDs.mono k hn ks _ r1, RDs.mono k hn ds _ r2⟩
  | .dk ks ds, v, h => by
    obtain ⟨a, ws, o, e, q, n, z, r⟩ := h
    exact ⟨a, ws, o, e, (k a _ q n).1, (k a _ q n).2, z, RDs.mono k hn ds _ r⟩
  | .scr ns, v, h => by
    obtain ⟨a, e, ⟨o, q, n⟩ | q, l⟩ := h
    · exact ⟨a, e, .inl ⟨o, k a _ q n⟩, l⟩
    · exact ⟨a, e, .inr q, l⟩
  | .tup ds, v, h => by
    obtain ⟨a, xs, e, q, l, r⟩ := h
    refine ⟨a, xs, e, ?_, l, RDs.mono k hn ds xs r⟩
    rcases q with ⟨q, n⟩ | q
    · exact .inl (k a _ q n)
    · exact .inr q
  | .lst ds, v, h => by
    obtain ⟨a, xs, e, q, n, z, l, r⟩ := h
    exact ⟨a, xs, e, (k a _ q n).1, (k a _ q n).2, hn _ a _ q z, l, RDs.mono k hn ds xs r⟩
theorem RDs.mono (k : Kp ι H ι' H') (hn : ∀ b a o, H a = some o → N b a → N' b a) : ∀ (ds : List D) (vs : List V), RDs K N H ι ds vs → RDs K N' H' ι' ds vs
  | [], _, h => h
  | d :: ds, vs, h => by
    obtain ⟨x, r, e, h1, h2⟩ := h
    exact ⟨x, r, e, RD.mono k hn d x h1, RDs.mono k hn ds r h2⟩
end
theorem RI.mono (k : Kp ι H ι' H') (p : Ex ι ι') (hn : ∀ b a o, H a = some o → N b a → N' b a) : ∀ {x : D ⊕ Nat} {v : V}, RI K N H ι x v → RI K N' H' ι' x v
  | .inl d, v, h => RD.mono k hn d v h
  | .inr n, v, h => by
    obtain ⟨a, e, q | q⟩ := h
    · exact ⟨a, e, p n _ q⟩
    · rcases p n _ q with z | z <;> exact ⟨a, e, .inr z⟩
theorem RIs.mono (k : Kp ι H ι' H') (p : Ex ι ι') (hn : ∀ b a o, H a = some o → N b a → N' b a) : ∀ {xs : List (D ⊕ Nat)} {vs : List V}, RIs K N H ι xs vs → RIs K N' H' ι' xs vs
  | [], _, h => h
  | d :: ds, vs, h => by
    obtain ⟨x, r, e, h1, h2⟩ := h
    exact ⟨x, r, e, RI.mono k p hn h1, RIs.mono k p hn h2⟩
theorem RIs.length : ∀ {ds : List (D ⊕ Nat)} {vs : List V}, RIs K N H ι ds vs → ds.length = vs.length
  | [], _, h => by cases (show _ = _ from h); rfl
  | d :: ds, _, h => by
    obtain ⟨x, r, rfl, _, h2⟩ := h
    simp [RIs.length h2]
theorem RIs.get : ∀ {ds : List (D ⊕ Nat)} {vs : List V} {i : Nat} {d : D ⊕ Nat}, RIs K N H ι ds vs → ds[i]? = some d → ∃ v, vs[i]? = some v ∧ RI K N H ι d v
  | [], _, i, _, _, e => by simp at e
  | d :: ds, _, 0, _, h, e => by
    obtain ⟨x, r, rfl, h1, _⟩ := h
    simp at e; subst e; exact ⟨x, rfl, h1⟩
  | d :: ds, _, i + 1, _, h, e => by
    obtain ⟨x, r, rfl, _, h2⟩ := h
    simp at e ⊢
    exact RIs.get h2 e
theorem RS.mono {x : Sv} {v : V} (k : Kp ι H ι' H') (p : Ex ι ι') (hn : ∀ b a o, H a = some o → N b a → N' b a) (h : RS K N H ι x v) : RS K N' H' ι' x v := by
  cases x with
  | d x => exact RD.mono k hn x v h
  | ref n =>
    obtain ⟨a, e, q | q⟩ := h
    · exact ⟨a, e, p n _ q⟩
    · rcases p n _ q with z | z <;> exact ⟨a, e, .inr z⟩
  | bor ds =>
    obtain ⟨a, xs, e, q, n, z, l, r⟩ := h
    exact ⟨a, xs, e, (k a _ q n).1, (k a _ q n).2, hn _ a _ q z, l, RDs.mono k hn ds xs r⟩
theorem RSs.mono (k : Kp ι H ι' H') (p : Ex ι ι') (hn : ∀ b a o, H a = some o → N b a → N' b a) : ∀ {xs : List Sv} {vs : List V}, RSs K N H ι xs vs → RSs K N' H' ι' xs vs
  | [], _, h => h
  | d :: ds, vs, h => by
    obtain ⟨x, r, e, h1, h2⟩ := h
    exact ⟨x, r, e, h1.mono k p hn, RSs.mono k p hn h2⟩
theorem RDs.length : ∀ {ds : List D} {vs : List V}, RDs K N H ι ds vs → ds.length = vs.length
  | [], _, h => by cases (show _ = _ from h); rfl
  | d :: ds, _, h => by
    obtain ⟨x, r, rfl, _, h2⟩ := h
    simp [RDs.length h2]
theorem RDs.get : ∀ {ds : List D} {vs : List V} {i : Nat} {d : D}, RDs K N H ι ds vs → ds[i]? = some d → ∃ v, vs[i]? = some v ∧ RD K N H ι d v
  | [], _, _, _, _, e => by simp at e
  | d :: ds, _, i, d', h, e => by
    obtain ⟨x, r, rfl, h1, h2⟩ := h
    cases i with
    | zero => simp at e; subst e; exact ⟨x, rfl, h1⟩
    | succ i => exact RDs.get (i := i) h2 (by simpa using e)
theorem RDs.append : ∀ {ds es : List D} {vs ws : List V}, RDs K N H ι ds vs → RDs K N H ι es ws → RDs K N H ι (ds ++ es) (vs ++ ws)
  | [], _, _, _, h, g => by cases (show _ = _ from h); exact g
  | d :: ds, _, _, _, h, g => by
    obtain ⟨x, r, rfl, h1, h2⟩ := h
    exact ⟨x, _, rfl, h1, RDs.append h2 g⟩
theorem RDs.set : ∀ {ds : List D} {vs : List V} {d : D} {v : V} (i : Nat), RD K N H ι d v → RDs K N H ι ds vs → RDs K N H ι (ds.set i d) (vs.set i v)
  | [], _, _, _, _, _, h => by cases (show _ = _ from h); rfl
  | e :: ds, _, d, v, i, r, h => by
    obtain ⟨x, t, rfl, h1, h2⟩ := h
    cases i with
    | zero => exact ⟨v, t, rfl, r, h2⟩
    | succ i => exact ⟨x, _, rfl, h1, RDs.set i r h2⟩
theorem RDs.take : ∀ {ds : List D} {vs : List V} (n : Nat), RDs K N H ι ds vs → RDs K N H ι (ds.take n) (vs.take n)
  | [], _, n, h => by cases (show _ = _ from h); cases n <;> rfl
  | e :: ds, _, n, h => by
    obtain ⟨x, t, rfl, h1, h2⟩ := h
    cases n with
    | zero => exact rfl
    | succ n => exact ⟨x, _, rfl, h1, RDs.take n h2⟩
theorem RDs.drop : ∀ {ds : List D} {vs : List V} (n : Nat), RDs K N H ι ds vs → RDs K N H ι (ds.drop n) (vs.drop n)
  | [], _, n, h => by cases (show _ = _ from h); cases n <;> rfl
  | e :: ds, _, n, h => by
    obtain ⟨x, t, rfl, h1, h2⟩ := h
    cases n with
    | zero => exact ⟨x, t, rfl, h1, h2⟩
    | succ n => exact RDs.drop n h2
theorem RDs.eraseIdx : ∀ {ds : List D} {vs : List V} (i : Nat), RDs K N H ι ds vs → RDs K N H ι (ds.eraseIdx i) (vs.eraseIdx i)
  | [], _, n, h => by cases (show _ = _ from h); rfl
  | e :: ds, _, n, h => by
    obtain ⟨x, t, rfl, h1, h2⟩ := h
    cases n with
    | zero => exact h2
    | succ n => exact ⟨x, _, rfl, h1, RDs.eraseIdx n h2⟩
theorem RDs.dropLast {ds : List D} {vs : List V} (h : RDs K N H ι ds vs) : RDs K N H ι ds.dropLast vs.dropLast := by
  rw [List.dropLast_eq_take, List.dropLast_eq_take, h.length]; exact h.take _
theorem RDs.ints {ns : List Int} : ∀ {vs : List V}, RDs K N H ι (ns.map D.int) vs → vs = ns.map V.int := by
  induction ns with
  | nil => intro vs h; exact h
  | cons n ns ih =>
    intro vs h
    obtain ⟨x, r, rfl, h1, h2⟩ := h
    rw [ih h2]; cases (show _ = _ from h1); rfl
theorem RDs.of_ints : ∀ (ns : List Int), RDs K N H ι (ns.map D.int) (ns.map V.int)
  | [] => rfl
  | n :: ns => ⟨_, _, rfl, rfl, RDs.of_ints ns⟩
theorem RDs.bls {ns : List Bool} : ∀ {vs : List V}, RDs K N H ι (ns.map D.bl) vs → vs = ns.map V.bl := by
  induction ns with
  | nil => intro vs h; exact h
  | cons n ns ih =>
    intro vs h
    obtain ⟨x, r, rfl, h1, h2⟩ := h
    rw [ih h2]; cases (show _ = _ from h1); rfl
theorem tup_sq {a : Addr} {xs : List V} (h : (H a = some (.tup xs) ∧ some a ∉ ι) ∨ KT K a xs) : SqT K H a xs := by
  rcases h with h | h
  · exact SqT.of h.1
  · exact .inr h
end
def NdH (K : PySem.W.Frag) (H : Hp) (ι : Ix) (a : Addr) (xs : List V) : Kd → Prop
  | .ob c fs => ∃ dx, H a = some (.ins (He.ga K c) dx (fs.zip xs)) ∧ H dx = some (.own a) ∧ some dx ∉ ι ∧ fs.length = xs.length
theorem NdH.has {K : PySem.W.Frag} {H : Hp} {ι : Ix} {a : Addr} {xs : List V} {k : Kd} (h : NdH K H ι a xs k) : ∃ o, H a = some o := by
  cases k with
  | ob c fs => exact ⟨_, h.choose_spec.1⟩
theorem NdH.mono {K : PySem.W.Frag} {H H' : Hp} {ι ι' : Ix} {a : Addr} {xs : List V} {k : Kd} (kp : Kp ι H ι' H') (e : H' a = H a) (h : NdH K H ι a xs k) : NdH K H' ι' a xs k := by
  cases k with
  | ob c fs => obtain ⟨dx, q1, q2, q3, q4⟩ := h; exact ⟨dx, e.trans q1, (kp dx _ q2 q3).1, (kp dx _ q2 q3).2, q4⟩
def RC (K : PySem.W.Frag) (N : Bool → Addr → Prop) (H : Hp) (ι : Ix) : Cell → Addr → Prop
  | .gone, _ => False
  | .lst ds, a => ∃ xs, H a = some (.lst xs) ∧ ds.length ≤ sizeLine ∧ RDs K N H ι ds xs
  | .dk kvs, a => ∃ ws, H a = some (.dK ws) ∧ kvs.map (·.1) = ws.map (·.1) ∧ RDs K N H ι (kvs.map (·.2)) (ws.map (·.2))
  | .dn kvs, a => ∃ xs, H a = some (DnO a xs) ∧ (kvs.map (·.1)).map nkD = xs.map (fun x => some x.1) ∧ RDs K N H ι (kvs.map (·.1)) (xs.map fun x => V.ref x.2.1) ∧ RDs K N H ι (kvs.map (·.2)) (xs.map fun x => x.2.2)
  | .nd k its, a => ∃ xs, NdH K H ι a xs k ∧ its.length ≤ sizeLine ∧ RIs K N H ι its xs
structure RM (K : PySem.W.Frag) (N : Bool → Addr → Prop) (H : Hp) (ι : Ix) (M : Mem) : Prop where
  len : M.length = ι.length
  nod : ∀ (n m : Nat) (a : Addr), ι[n]? = some (some a) → ι[m]? = some (some a) → n = m
  cell : ∀ (n : Nat) (c : Cell) (a : Addr), M[n]? = some c → ι[n]? = some (some a) → RC K N H ι c a
  gone : ∀ (n : Nat), ι[n]? = some none → M[n]? = some .gone
  wf : ∀ (n : Nat) (c : Cell), M[n]? = some c → c.wf n
theorem RC.has {K : PySem.W.Frag} {N : Bool → Addr → Prop} {H : Hp} {ι : Ix} {c : Cell} {a : Addr} (h : RC K N H ι c a) : ∃ o, H a = some o := by
  cases c with
  | gone => exact h.elim
  | lst ds => exact ⟨_, h.choose_spec.1⟩
  | dk kvs => exact ⟨_, h.choose_spec.1⟩
  | dn kvs => exact ⟨_, h.choose_spec.1⟩
  | nd k its => exact h.choose_spec.1.has
theorem RM.fresh {K : PySem.W.Frag} {N : Bool → Addr → Prop} {H : Hp} {ι : Ix} {M : Mem} (r : RM K N H ι M) {p : Addr} (h : H p = none) : some p ∉ ι := fun hp => by
  obtain ⟨n, hn, e⟩ := List.getElem_of_mem hp
  have hM : n < M.length := by rw [r.len]; exact hn
  obtain ⟨o, q⟩ := (r.cell n M[n] p (List.getElem?_eq_getElem hM) (by rw [List.getElem?_eq_getElem hn, e])).has
  rw [h] at q; cases q
/-- a name that is not gone -/
theorem RM.at {K : PySem.W.Frag} {N : Bool → Addr → Prop} {H : Hp} {ι : Ix} {M : Mem} (r : RM K N H ι M) {n : Nat} {c : Cell} {v : V} (h : RS K N H ι (.ref n) v) (e : M[n]? = some c) (hc : c ≠ .gone) : ∃ a, v = .ref a ∧ ι[n]? = some (some a) ∧ RC K N H ι c a := by
  obtain ⟨a, e1, q | q⟩ := h
  · exact ⟨a, e1, q, r.cell n c a e q⟩
  · rw [r.gone n q] at e; cases e; exact absurd rfl hc
theorem RC.mono {K : PySem.W.Frag} {N N' : Bool → Addr → Prop} {H H' : Hp} {ι ι' : Ix} {c : Cell} {a : Addr} (k : Kp ι H ι' H') (p : Ex ι ι') (hn : ∀ b a o, H a = some o → N b a → N' b a) (e : H' a = H a) (h : RC K N H ι c a) : RC K N' H' ι' c a := by
  cases c with
  | gone => exact h.elim
  | lst ds => obtain ⟨xs, q, l, r⟩ := h; exact ⟨xs, e.trans q, l, r.mono k hn⟩
  | dk kvs => obtain ⟨ws, q, z, r⟩ := h; exact ⟨ws, e.trans q, z, r.mono k hn⟩
  | dn kvs => obtain ⟨xs, q, z, r1, r2⟩ := h; exact ⟨xs, e.trans q, z, r1.mono k hn, r2.mono k hn⟩
  | nd kd its => obtain ⟨xs, q, z, r⟩ := h; exact ⟨xs, q.mono k e, z, r.mono k p hn⟩
/-- names below k stay -/
theorem RIs.taken {K : PySem.W.Frag} {N N' : Bool → Addr → Prop} {H : Hp} {ι : Ix} {k : Nat} (kk : Kp ι H (ι.take k) H) (hn : ∀ b a o, H a = some o → N b a → N' b a) : ∀ {its : List (D ⊕ Nat)} {xs : List V}, (∀ j, Sum.inr j ∈ its → j < k) → RIs K N H ι its xs → RIs K N' H (ι.take k) its xs
  | [], _, _, h => h
  | .inl d :: its, xs, hl, h => by
    obtain ⟨x, r, rfl, h1, h2⟩ := h
    exact ⟨x, r, rfl, RD.mono kk hn d x h1, RIs.taken kk hn (fun j hj => hl j (List.mem_cons_of_mem _ hj)) h2⟩
  | .inr n :: its, xs, hl, h => by
    obtain ⟨x, r, rfl, ⟨a, e, q⟩, h2⟩ := h
    exact ⟨x, r, rfl, ⟨a, e, by rw [List.getElem?_take, if_pos (hl n List.mem_cons_self)]; exact q⟩, RIs.taken kk hn (fun j hj => hl j (List.mem_cons_of_mem _ hj)) h2⟩
theorem RC.taken {K : PySem.W.Frag} {N N' : Bool → Addr → Prop} {H : Hp} {ι : Ix} {k n : Nat} {c : Cell} {a : Addr} (kk : Kp ι H (ι.take k) H) (hn : ∀ b a o, H a = some o → N b a → N' b a) (w : c.wf n) (hk : n < k) (h : RC K N H ι c a) : RC K N' H (ι.take k) c a := by
  cases c with
  | gone => exact h.elim
  | lst ds => obtain ⟨xs, q, l, r⟩ := h; exact ⟨xs, q, l, r.mono kk hn⟩
  | dk kvs => obtain ⟨ws, q, z, r⟩ := h; exact ⟨ws, q, z, r.mono kk hn⟩
  | dn kvs => obtain ⟨xs, q, z, r1, r2⟩ := h; exact ⟨xs, q, z, r1.mono kk hn, r2.mono kk hn⟩
  | nd kd its => obtain ⟨xs, q, z, r⟩ := h; exact ⟨xs, q.mono kk rfl, z, RIs.taken kk hn (fun j hj => Nat.lt_trans (w j hj) hk) r⟩
/-- names below n stay, or go -/
def ExB (n : Nat) (ι ι' : Ix) : Prop := ∀ j, j < n → ∀ o, ι[j]? = some o → ι'[j]? = some o ∨ ι'[j]? = some none
theorem Ex.b {n : Nat} {ι ι' : Ix} (p : Ex ι ι') : ExB n ι ι' := fun j _ o e => p j o e
theorem RIs.monoB {K : PySem.W.Frag} {N N' : Bool → Addr → Prop} {H H' : Hp} {ι ι' : Ix} {n : Nat} (k : Kp ι H ι' H') (p : ExB n ι ι') (hn : ∀ b a o, H a = some o → N b a → N' b a) : ∀ {its : List (D ⊕ Nat)} {xs : List V}, (∀ j, Sum.inr j ∈ its → j < n) → RIs K N H ι its xs → RIs K N' H' ι' its xs
  | [], _, _, h => h
  | .inl d :: its, xs, hl, h => by
    obtain ⟨x, r, rfl, h1, h2⟩ := h
    exact ⟨x, r, rfl, RD.mono k hn d x h1, RIs.monoB k p hn (fun j hj => hl j (List.mem_cons_of_mem _ hj)) h2⟩
  | .inr m :: its, xs, hl, h => by
    obtain ⟨x, r, rfl, ⟨a, e, q⟩, h2⟩ := h
    have hm := hl m List.mem_cons_self
    refine ⟨x, r, rfl, ⟨a, e, ?_⟩, RIs.monoB k p hn (fun j hj => hl j (List.mem_cons_of_mem _ hj)) h2⟩
    rcases q with q | q
    · exact p m hm _ q
    · rcases p m hm _ q with z | z <;> exact .inr z
theorem RC.monoB {K : PySem.W.Frag} {N N' : Bool → Addr → Prop} {H H' : Hp} {ι ι' : Ix} {n : Nat} {c : Cell} {a : Addr} (k : Kp ι H ι' H') (p : ExB n ι ι') (hn : ∀ b a o, H a = some o → N b a → N' b a) (w : c.wf n) (e : H' a = H a) (h : RC K N H ι c a) : RC K N' H' ι' c a := by
  cases c with
  | gone => exact h.elim
  | lst ds => obtain ⟨xs, q, l, r⟩ := h; exact ⟨xs, e.trans q, l, r.mono k hn⟩
  | dk kvs => obtain ⟨ws, q, z, r⟩ := h; exact ⟨ws, e.trans q, z, r.mono k hn⟩
  | dn kvs => obtain ⟨xs, q, z, r1, r2⟩ := h; exact ⟨xs, e.trans q, z, r1.mono k hn, r2.mono k hn⟩
  | nd kd its => obtain ⟨xs, q, z, r⟩ := h; exact ⟨xs, q.mono k e, z, RIs.monoB k p hn w r⟩
/-- the ground of a def: the heap at its entry, its changing arguments, what its callers may change -/
structure Gd where
  He : Hp
  i0 : List Addr
  B : Addr → Prop
  /-- what a comprehension is just making -/
  Hd : Addr → Prop
abbrev Gd.N (G : Gd) : Bool → Addr → Prop := fun b a => ¬ G.Hd a ∧ (b = true → ¬ G.B a)
/-- fields alike: what is a reference stays, an int may be another -/
def SameF : List (Str × V) → List (Str × V) → Prop := Paired fun p q => p.1 = q.1 ∧ (p.2 = q.2 ∨ ∃ i j, p.2 = .int i ∧ q.2 = .int j)
theorem SameF.refl : ∀ fs : List (Str × V), SameF fs fs
  | [] => .nil
  | p :: fs => .cons ⟨rfl, .inl rfl⟩ (SameF.refl fs)
theorem SameF.trans : ∀ {a b c : List (Str × V)}, SameF a b → SameF b c → SameF a c
  | _, _, _, .nil, .nil => .nil
  | _, _, _, .cons ⟨h1, h2⟩ h, .cons ⟨g1, g2⟩ g => .cons ⟨h1.trans g1, by
      rcases h2 with h2 | ⟨i, j, e1, e2⟩
      · rw [h2]; exact g2
      · rcases g2 with g2 | ⟨i', j', e3, e4⟩
        · exact .inr ⟨i, j, e1, g2 ▸ e2⟩
        · exact .inr ⟨i, j', e1, e4⟩⟩ (SameF.trans h g)
/-- the objects among these are still of their classes, with their fields -/
def ObK (l : List Addr) (H H' : Hp) : Prop := ∀ a ∈ l, (∀ C dx fs, H a = some (.ins C dx fs) → ∃ fs', H' a = some (.ins C dx fs') ∧ SameF fs fs') ∧ ∀ C dx fs', H' a = some (.ins C dx fs') → ∃ fs, H a = some (.ins C dx fs)
theorem ObK.refl (l : List Addr) (H : Hp) : ObK l H H := fun _ _ => ⟨fun _ _ fs e => ⟨fs, e, SameF.refl fs⟩, fun _ _ fs e => ⟨fs, e⟩⟩
theorem ObK.trans {l : List Addr} {H H1 H2 : Hp} (p : ObK l H H1) (q : ObK l H1 H2) : ObK l H H2 := fun a ha => ⟨fun C dx fs e => by
    obtain ⟨f1, e1, s1⟩ := (p a ha).1 C dx fs e
    obtain ⟨f2, e2, s2⟩ := (q a ha).1 C dx f1 e1
    exact ⟨f2, e2, s1.trans s2⟩, fun C dx fs e => by
    obtain ⟨f1, e1⟩ := (q a ha).2 C dx fs e
    exact (p a ha).2 C dx f1 e1⟩
/-- a turn that leaves an object an object -/
def ObT (H : Hp) (p : Addr) (o : HO) : Prop := (∀ C dx fs, H p = some (.ins C dx fs) → ∃ fs', o = .ins C dx fs' ∧ SameF fs fs') ∧ ∀ C dx fs', o = .ins C dx fs' → ∃ fs, H p = some (.ins C dx fs)
theorem ObT.of {H : Hp} {p : Addr} {o u : HO} (e : H p = some u) (h : ∀ C dx fs, u ≠ .ins C dx fs) (h2 : ∀ C dx fs, o ≠ .ins C dx fs) : ObT H p o := ⟨fun C dx fs q => by
  rw [e] at q; exact absurd (Option.some.inj q) (h C dx fs), fun C dx fs q => absurd q (h2 C dx fs)⟩
theorem ObK.turn {l : List Addr} {H0 H : Hp} {p : Addr} {o : HO} (k : ObK l H0 H) (t : ObT H p o) : ObK l H0 (upd H p o) := fun a ha => by
  by_cases hp : a = p
  · subst hp
    refine ⟨fun C dx fs e => ?_, fun C dx fs e => ?_⟩
    · obtain ⟨fs', e', s⟩ := (k a ha).1 C dx fs e
      obtain ⟨fs2, rfl, s2⟩ := t.1 C dx fs' e'
      exact ⟨fs2, upd_same, s.trans s2⟩
    · rw [upd_same] at e
      obtain ⟨fs', e'⟩ := t.2 C dx fs (Option.some.inj e)
      exact (k a ha).2 C dx fs' e'
  · rw [upd_ne hp]; exact k a ha
theorem ObK.laid {l : List Addr} {H0 H : Hp} {p : Addr} {o : HO} (k : ObK l H0 H) (t : H p = none) (hl : ∀ a ∈ l, ∃ u, H a = some u) : ObK l H0 (upd H p o) := fun a ha => by
  have hp : a ≠ p := fun e => by
    obtain ⟨u, q⟩ := hl a ha
    rw [e, t] at q; cases q
  rw [upd_ne hp]; exact k a ha
structure Sr (K : PySem.W.Frag) (G : Gd) (δ : DS) (M : Mem) (ι : Ix) (σ : L2.St) (H : Hp) : Prop where
  len : δ.length = σ.length
  slot : ∀ (i : Nat) (d : Sv), δ[i]? = some (some d) → ∃ v, σ[i]? = some (some v) ∧ RS K G.N H ι d v
  mem : RM K G.N H ι M
  pre : ∀ (n : Nat) (a : Addr), G.i0[n]? = some a → ι[n]? = some (some a)
  kp : Kp (G.i0.map some) G.He ι H
  new : ∀ a, some a ∈ ι → a ∉ G.i0 → G.He a = none
  bad : ∀ a, G.B a → ∃ o, G.He a = some o
  hid : ∀ a, G.Hd a → some a ∉ ι ∧ ∃ o, H a = some o
  obk : ObK G.i0 G.He H
theorem RM.there {K : PySem.W.Frag} {N : Bool → Addr → Prop} {H : Hp} {ι : Ix} {M : Mem} (r : RM K N H ι M) {a : Addr} (h : some a ∈ ι) : ∃ o, H a = some o := by
  obtain ⟨n, hn, e⟩ := List.getElem_of_mem h
  have hM : n < M.length := by rw [r.len]; exact hn
  exact (r.cell n M[n] a (List.getElem?_eq_getElem hM) (by rw [List.getElem?_eq_getElem hn, e])).has
theorem Sr.i0there {K : PySem.W.Frag} {G : Gd} {δ : DS} {M : Mem} {ι : Ix} {σ : L2.St} {H : Hp} (S : Sr K G δ M ι σ H) : ∀ a ∈ G.i0, ∃ u, H a = some u := fun a ha => by
  obtain ⟨n, hn⟩ := List.getElem?_of_mem ha
  exact S.mem.there (List.mem_of_getElem? (S.pre n a hn))
/-- H' is H with a new thing, or a turned changing object -/
theorem Kp.laid {ι : Ix} {H : Hp} {p : Addr} {o : HO} (h : H p = none) : Kp ι H ι (upd H p o) := fun a u e n => by
  refine ⟨?_, n⟩
  rw [upd_ne (ne_of_none e h)]; exact e
theorem Kp.named {ι : Ix} {H : Hp} {p : Addr} {o : HO} (h : H p = none) : Kp ι H (ι ++ [some p]) (upd H p o) := fun a u e n => by
  have hne := ne_of_none e h
  refine ⟨?_, ?_⟩
  · rw [upd_ne hne]; exact e
  · simp only [List.mem_append, List.mem_singleton, Option.some.injEq, not_or]; exact ⟨n, hne⟩
theorem Kp.turned {ι : Ix} {H : Hp} {p : Addr} {o : HO} (h : some p ∈ ι) : Kp ι H ι (upd H p o) := fun a u e n => by
  refine ⟨?_, n⟩
  rw [upd_ne (fun z => n (by rw [z]; exact h))]; exact e
theorem Kp.take {ι : Ix} {H : Hp} (k : Nat) : Kp ι H (ι.take k) H := fun a u e n => ⟨e, fun h => n (List.mem_of_mem_take h)⟩
section
variable {K : PySem.W.Frag} {G : Gd} {δ : DS} {M : Mem} {ι : Ix} {σ : L2.St} {H : Hp}
/-- a thing that is not tracked by name is laid -/
theorem Sr.laid {p : Addr} {o : HO} (S : Sr K G δ M ι σ H) (h : H p = none) : Sr K G δ M ι σ (upd H p o) := by
  have k := Kp.laid (ι := ι) (o := o) h
  refine ⟨S.len, fun i d e => ?_, ⟨S.mem.len, S.mem.nod, fun n c a e1 e2 => ?_, S.mem.gone, S.mem.wf⟩, S.pre, S.kp.trans k, S.new, S.bad, fun a ha => ⟨(S.hid a ha).1, ?_⟩, S.obk.laid h S.i0there⟩
  · obtain ⟨v, e1, r⟩ := S.slot i d e
    exact ⟨v, e1, r.mono k (Ex.refl _) (fun _ _ _ _ z => z)⟩
  · refine (S.mem.cell n c a e1 e2).mono k (Ex.refl _) (fun _ _ _ _ z => z) (upd_ne ?_)
    rintro rfl
    exact S.mem.fresh h (List.mem_of_getElem? e2)
  · obtain ⟨u, q⟩ := (S.hid a ha).2
    exact ⟨u, by rw [upd_ne (ne_of_none q h)]; exact q⟩
/-- a new changing object -/
theorem Sr.named {p : Addr} {o : HO} {c : Cell} (S : Sr K G δ M ι σ H) (h : H p = none) (hc : RC K G.N (upd H p o) (ι ++ [some p]) c p) (hw : c.wf M.length := by trivial) : Sr K G δ (M ++ [c]) (ι ++ [some p]) σ (upd H p o) := by
  have k := Kp.named (ι := ι) (o := o) h
  have hp := S.mem.fresh h
  have hpre : Ex ι (ι ++ [some p]) := Ex.app _ _
  refine ⟨S.len, fun i d e => ?_, ⟨by simp [S.mem.len], fun n m a e1 e2 => ?_, fun n c' a e1 e2 => ?_, fun n e => ?_, fun n c' e1 => ?_⟩, fun n a e => ?_, S.kp.trans k, fun a ha hn => ?_, ?_, fun a ha => ?_, S.obk.laid h S.i0there⟩
  · obtain ⟨v, e1, r⟩ := S.slot i d e
    exact ⟨v, e1, r.mono k hpre (fun _ _ _ _ z => z)⟩
  · by_cases hn : n < ι.length
    · rw [List.getElem?_append_left hn] at e1
      by_cases hm : m < ι.length
      · rw [List.getElem?_append_left hm] at e2
        exact S.mem.nod n m a e1 e2
      · rw [List.getElem?_append_right (by omega)] at e2
        have : a = p := by
          cases q : m - ι.length with
          | zero => rw [q] at e2; simpa using e2.symm
          | succ j => rw [q] at e2; simp at e2
        subst this
        exact absurd (List.mem_of_getElem? e1) hp
    · rw [List.getElem?_append_right (by omega)] at e1
      have h1 : n = ι.length ∧ a = p := by
        cases q : n - ι.length with
        | zero => rw [q] at e1; exact ⟨by omega, by simpa using e1.symm⟩
        | succ j => rw [q] at e1; simp at e1
      obtain ⟨h1, rfl⟩ := h1
      by_cases hm : m < ι.length
      · rw [List.getElem?_append_left hm] at e2
        exact absurd (List.mem_of_getElem? e2) hp
      · have h2 := (List.getElem?_eq_some_iff.mp e2).1
        simp at h2; omega
  · by_cases hn : n < M.length
    · rw [List.getElem?_append_left hn] at e1
      rw [List.getElem?_append_left (by rw [← S.mem.len]; exact hn)] at e2
      refine (S.mem.cell n c' a e1 e2).mono k hpre (fun _ _ _ _ z => z) (upd_ne ?_)
      rintro rfl
      exact hp (List.mem_of_getElem? e2)
    · have h1 : n = M.length := by
        have := (List.getElem?_eq_some_iff.mp e1).1
        simp at this; omega
      subst h1
      rw [List.getElem?_append_right (Nat.le_refl _)] at e1
      rw [List.getElem?_append_right (by rw [S.mem.len]; exact Nat.le_refl _)] at e2
      simp [S.mem.len] at e1 e2
      subst e1 e2
      exact hc
  · by_cases hn : n < ι.length
    · rw [List.getElem?_append_left hn] at e
      rw [List.getElem?_append_left (by rw [S.mem.len]; exact hn)]
      exact S.mem.gone n e
    · rw [List.getElem?_append_right (by omega)] at e
      cases q : n - ι.length with
      | zero => rw [q] at e; simp at e
      | succ j => rw [q] at e; simp at e
  · by_cases hn : n < M.length
    · rw [List.getElem?_append_left hn] at e1
      exact S.mem.wf n c' e1
    · have h1 : n = M.length := by
        have := (List.getElem?_eq_some_iff.mp e1).1
        simp at this; omega
      subst h1
      rw [List.getElem?_append_right (Nat.le_refl _)] at e1
      simp at e1
      subst e1
      exact hw
  · have e1 := S.pre n a e
    rw [List.getElem?_append_left (List.getElem?_eq_some_iff.mp e1).1]; exact e1
  · rcases List.mem_append.mp ha with z | z
    · exact S.new a z hn
    · simp only [List.mem_singleton, Option.some.injEq] at z; subst z
      cases q : G.He a with
      | none => rfl
      | some u => rw [(S.kp a u q (by simpa using hn)).1] at h; cases h
  · exact S.bad
  · obtain ⟨n1, u, q⟩ := S.hid a ha
    have hne := ne_of_none q h
    refine ⟨?_, u, by rw [upd_ne hne]; exact q⟩
    simp only [List.mem_append, List.mem_singleton, Option.some.injEq, not_or]; exact ⟨n1, hne⟩
/-- a changing object turns -/
theorem Sr.turned {n : Nat} {p : Addr} {o : HO} {c : Cell} (S : Sr K G δ M ι σ H) (hp : ι[n]? = some (some p)) (hc : RC K G.N (upd H p o) ι c p) (hw : c.wf n := by trivial) (ho : ObT H p o := by refine ObT.of (by assumption) ?_ ?_ <;> (intro C dx fs z; cases z)) : Sr K G δ (M.set n c) ι σ (upd H p o) := by
  have k := Kp.turned (H := H) (o := o) (List.mem_of_getElem? hp)
  refine ⟨S.len, fun i d e => ?_, ⟨by simp [S.mem.len], S.mem.nod, fun m c' a e1 e2 => ?_, fun m e => ?_, fun m c' e1 => ?_⟩, S.pre, S.kp.trans k, S.new, S.bad, fun a ha => ⟨(S.hid a ha).1, ?_⟩, S.obk.turn ho⟩
  · obtain ⟨v, e1, r⟩ := S.slot i d e
    exact ⟨v, e1, r.mono k (Ex.refl _) (fun _ _ _ _ z => z)⟩
  · by_cases hm : n = m
    · subst hm
      have hlt : n < M.length := by
        have := (List.getElem?_eq_some_iff.mp e1).1
        simpa using this
      rw [List.getElem?_set_self hlt] at e1
      cases e1
      rw [hp] at e2; cases e2
      exact hc
    · rw [List.getElem?_set_ne hm] at e1
      refine (S.mem.cell m c' a e1 e2).mono k (Ex.refl _) (fun _ _ _ _ z => z) (upd_ne ?_)
      rintro rfl
      exact hm (S.mem.nod _ _ _ hp e2)
  · by_cases hm : n = m
    · subst hm; rw [hp] at e; cases e
    · rw [List.getElem?_set_ne hm]; exact S.mem.gone m e
  · by_cases hm : n = m
    · subst hm
      have hlt : n < M.length := by
        have := (List.getElem?_eq_some_iff.mp e1).1
        simpa using this
      rw [List.getElem?_set_self hlt] at e1
      cases e1
      exact hw
    · rw [List.getElem?_set_ne hm] at e1
      exact S.mem.wf m c' e1
  · obtain ⟨n1, u, q⟩ := S.hid a ha
    refine ⟨u, ?_⟩
    rw [upd_ne (fun z => n1 (by rw [z]; exact List.mem_of_getElem? hp))]; exact q
theorem Sr.set {i : Nat} {d : Sv} {v : V} (S : Sr K G δ M ι σ H) (r : RS K G.N H ι d v) : Sr K G (δ.set i (some d)) M ι (σ.set i (some v)) H := by
  refine ⟨by simp [S.len], fun j d' e => ?_, S.mem, S.pre, S.kp, S.new, S.bad, S.hid, S.obk⟩
  by_cases hj : i = j
  · subst hj
    have hlt : i < δ.length := by
      have := (List.getElem?_eq_some_iff.mp e).1
      simpa using this
    rw [List.getElem?_set_self hlt] at e
    cases e
    exact ⟨v, by rw [List.getElem?_set_self (by rw [← S.len]; exact hlt)], r⟩
  · rw [List.getElem?_set_ne hj] at e
    obtain ⟨w, e1, r1⟩ := S.slot j d' e
    exact ⟨w, by rw [List.getElem?_set_ne hj]; exact e1, r1⟩
/-- names from k on are forgotten -/
def gcO (k : Nat) : Option Sv → Option Sv
  | some (.d x) => some (.d x)
  | some (.ref n) => if n < k then some (.ref n) else none
  | some (.bor ds) => some (.bor ds)
  | none => none
def gcS (k : Nat) (δ : DS) : DS := δ.map (gcO k)
theorem Sr.gc (S : Sr K G δ M ι σ H) (k : Nat) (hk : G.i0.length ≤ k) : Sr K G (gcS k δ) (M.take k) (ι.take k) σ H := by
  have kk := Kp.take (ι := ι) (H := H) k
  have tk : ∀ (n : Nat) (o : Option Addr), (ι.take k)[n]? = some o → ι[n]? = some o := fun n o e => by
    rw [List.getElem?_take] at e
    split at e
    · exact e
    · cases e
  refine ⟨by simp [gcS, S.len], fun i d e => ?_, ⟨by simp [S.mem.len], fun n m a e1 e2 => S.mem.nod n m a (tk _ _ e1) (tk _ _ e2), fun n c a e1 e2 => ?_, fun n e => ?_, fun n c e1 => ?_⟩, fun n a e => ?_, S.kp.trans kk, fun a ha hn => S.new a (List.mem_of_mem_take ha) hn, S.bad, fun a ha => ⟨fun z => (S.hid a ha).1 (List.mem_of_mem_take z), (S.hid a ha).2⟩, S.obk⟩
  · unfold gcS at e
    rw [List.getElem?_map] at e
    cases q : δ[i]? with
    | none => rw [q] at e; cases e
    | some o =>
      rw [q] at e
      cases o with
      | none => cases e
      | some w =>
        obtain ⟨v, e1, r⟩ := S.slot i w q
        cases w with
        | d x => cases e; exact ⟨v, e1, RD.mono kk (fun _ _ _ _ z => z) x v r⟩
        | bor ds =>
          cases e
          obtain ⟨a, xs, e2, q1, q2, q4, l, q3⟩ := r
          exact ⟨v, e1, a, xs, e2, q1, (kk a _ q1 q2).2, q4, l, q3.mono kk fun _ _ _ _ z => z⟩
        | ref n =>
          simp only [Option.map_some, gcO] at e
          split at e
          · rename_i hn
            cases e
            obtain ⟨a, e2, z⟩ := r
            refine ⟨v, e1, a, e2, ?_⟩
            rw [List.getElem?_take, if_pos hn]; exact z
          · cases e
  · rw [List.getElem?_take] at e1
    split at e1
    · rename_i hnk
      exact (S.mem.cell n c a e1 (tk _ _ e2)).taken kk (fun _ _ _ _ z => z) (S.mem.wf n c e1) hnk
    · cases e1
  · have h1 := (List.getElem?_eq_some_iff.mp e).1
    rw [List.getElem?_take, if_pos (by simp at h1; omega)]
    exact S.mem.gone n (tk _ _ e)
  · rw [List.getElem?_take] at e1
    split at e1
    · exact S.mem.wf n c e1
    · cases e1
  · have h1 := (List.getElem?_eq_some_iff.mp e).1
    rw [List.getElem?_take, if_pos (by omega)]
    exact S.pre n a e
end
abbrev QD := Sv → Mem → Prop
abbrev TE' := DS → Mem → QD → Prop
structure Ends' where
  nx : DS → Mem → Prop
  rt : Sv → Mem → Prop
  bk : DS → Mem → Prop := fun _ _ => False
  ct : DS → Mem → Prop := fun _ _ => False
abbrev TS' := Ends' → DS → Mem → Prop
def lE (K : PySem.W.Frag) (G : Gd) (t : TE') : TE := fun σ H Q => ∃ δ M ι Q0, Sr K G δ M ι σ H ∧ t δ M Q0 ∧
  ∀ d M' ι' H' v, Q0 d M' → Ex ι ι' → Kp ι H ι' H' → Sr K G δ M' ι' σ H' → RS K G.N H' ι' d v → Q v H'
structure EndsR (K : PySem.W.Frag) (G : Gd) (ι : Ix) (H : Hp) (E0 : Ends') (E : Ends) : Prop where
  nx : ∀ δ' M' ι' σ' H', E0.nx δ' M' → Ex ι ι' → Kp ι H ι' H' → Sr K G δ' M' ι' σ' H' → E.nx σ' H'
  rt : ∀ d δ' M' ι' σ' H' v, E0.rt d M' → Sr K G δ' M' ι' σ' H' → RS K G.N H' ι' d v → E.rt v H'
  bk : ∀ δ' M' ι' σ' H', E0.bk δ' M' → Ex ι ι' → Kp ι H ι' H' → Sr K G δ' M' ι' σ' H' → E.bk σ' H'
  ct : ∀ δ' M' ι' σ' H', E0.ct δ' M' → Ex ι ι' → Kp ι H ι' H' → Sr K G δ' M' ι' σ' H' → E.ct σ' H'
theorem EndsR.to {K : PySem.W.Frag} {G : Gd} {ι ι1 : Ix} {H H1 : Hp} {E0 : Ends'} {E : Ends} (z : EndsR K G ι H E0 E) (p : Ex ι ι1) (k : Kp ι H ι1 H1) : EndsR K G ι1 H1 E0 E :=
  ⟨fun δ' M' ι' σ' H' q p' k' S => z.nx δ' M' ι' σ' H' q (p.trans p') (k.trans k') S, z.rt, fun δ' M' ι' σ' H' q p' k' S => z.bk δ' M' ι' σ' H' q (p.trans p') (k.trans k') S,
    fun δ' M' ι' σ' H' q p' k' S => z.ct δ' M' ι' σ' H' q (p.trans p') (k.trans k') S⟩
def lS (K : PySem.W.Frag) (G : Gd) (t : TS') : TS := fun E σ H => ∃ δ M ι E0, Sr K G δ M ι σ H ∧ t E0 δ M ∧ EndsR K G ι H E0 E
abbrev VE (X : Cx) (G : Gd) (e : Expr) (t : TE') : Prop := PE X e (lE X.K G t)
abbrev VS (X : Cx) (G : Gd) (s : Stmt) (t : TS') : Prop := PS X s (lS X.K G t)
abbrev VSs (X : Cx) (G : Gd) (s : List Stmt) (t : TS') : Prop := PSs X s (lS X.K G t)
theorem PE.weak {X : Cx} {e : Expr} {t t' : TE} (h : PE X e t) (w : ∀ σ H Q, t' σ H Q → t σ H Q) : PE X e t' := ⟨fun pins s σ H Q I q => h.run pins s σ H Q I (w _ _ _ q)⟩
theorem PS.weak {X : Cx} {e : Stmt} {t t' : TS} (h : PS X e t) (w : ∀ D σ H, t' D σ H → t D σ H) : PS X e t' := ⟨fun pins s σ H Q I q => h.run pins s σ H Q I (w _ _ _ q)⟩
theorem PSs.weak {X : Cx} {e : List Stmt} {t t' : TS} (h : PSs X e t) (w : ∀ D σ H, t' D σ H → t D σ H) : PSs X e t' := ⟨fun pins s σ H Q I q => h.run pins s σ H Q I (w _ _ _ q)⟩
end VL
set_option Elab.async false
set_option linter.all false
set_option maxRecDepth 100000
set_option maxHeartbeats 4000000
namespace VL
open PySem PySem.Spec L2
abbrev PV := DS → Mem → Option Sv
abbrev TA' := DS → Mem → (List Sv → Mem → Prop) → Prop
def ok {α : Type} (o : Option α) (k : α → Prop) : Prop := match o with | some d => k d | none => False
theorem ok_some {α : Type} {d : α} {k : α → Prop} : ok (some d) k = k d := rfl
theorem ok_none {α : Type} {k : α → Prop} : ok none k = False := rfl
theorem ok_of {α : Type} {o : Option α} {d : α} {k : α → Prop} (e : o = some d) (h : k d) : ok o k := by subst e; exact h
theorem ok_elim {α : Type} {o : Option α} {k : α → Prop} (h : ok o k) : ∃ d, o = some d ∧ k d := by
  cases o with
  | none => exact h.elim
  | some d => exact ⟨d, rfl, h⟩
theorem ok_bind {α β : Type} {o : Option α} {f : α → Option β} {k : β → Prop} : ok (o.bind f) k = ok o fun d => ok (f d) k := by
  cases o <;> rfl
theorem ok_map {α β : Type} {o : Option α} {f : α → β} {k : β → Prop} : ok (o.map f) k = ok o fun d => k (f d) := by
  cases o <;> rfl
def eP (p : PV) : TE' := fun δ M Q => ok (p δ M) fun d => Q d M
def pArgs : List PV → DS → Mem → Option (List Sv)
  | [], _, _ => some []
  | p :: ps, δ, M => (p δ M).bind fun d => (pArgs ps δ M).map fun ds => d :: ds
def aP (ps : List PV) : TA' := fun δ M Q => ok (pArgs ps δ M) fun ds => Q ds M
def aNil : TA' := fun _ M Q => Q [] M
def aCons (t : TE') (r : TA') : TA' := fun δ M Q => t δ M fun d M1 => r δ M1 fun ds M2 => Q (d :: ds) M2
def lA (K : PySem.W.Frag) (G : Gd) (n : Nat) (t : TA') : TA := fun σ H Q => ∃ δ M ι Q0, Sr K G δ M ι σ H ∧ t δ M Q0 ∧
  ∀ ds M' ι' H' vs, ds.length = n → Q0 ds M' → Ex ι ι' → Kp ι H ι' H' → Sr K G δ M' ι' σ H' → RSs K G.N H' ι' ds vs → Q vs H'
abbrev VA (X : Cx) (G : Gd) (es : List Expr) (n : Nat) (t : TA') : Prop := PA X es (lA X.K G n t)
section
variable {X : Cx} {G : Gd} {e a b : Expr} {es : List Expr} {pos : Pos} {ta tb t : TE'} {p q : PV}
theorem VE.weak {t' : TE'} (h : VE X G e t) (w : ∀ δ M Q, t' δ M Q → t δ M Q) : VE X G e t' :=
  PE.weak h fun _ _ _ ⟨δ, M, ι, Q0, S, q, z⟩ => ⟨δ, M, ι, Q0, S, w _ _ _ q, z⟩
theorem VA.weak {n : Nat} {t t' : TA'} (h : VA X G es n t) (w : ∀ δ M Q, t' δ M Q → t δ M Q) : VA X G es n t' :=
  ⟨fun pos pins s σ H Q I ⟨δ, M, ι, Q0, S, q, z⟩ => h.run pos pins s σ H Q I ⟨δ, M, ι, Q0, S, w _ _ _ q, z⟩⟩
def pV (i : Nat) : PV := fun δ _ => (δ[i]?).join
theorem ve_var {i : Nat} {x : Str} (hN : X.N[i]? = some x) (hv : Vis X.env.scope x) (hd : (x == ("__debug__" : Str)) = false := by decide) (hcd : (x == ("__classdict__" : Str)) = false := by decide) : VE X G (.Name x pos) (eP (pV i)) := by
  refine PE.weak (pe_var hN hv hd hcd) fun σ H Q ⟨δ, M, ι, Q0, S, h, z⟩ => ?_
  obtain ⟨d, e1, h⟩ := ok_elim h
  have e2 : δ[i]? = some (some d) := by
    unfold pV at e1
    cases q : δ[i]? with
    | none => rw [q] at e1; cases e1
    | some o =>
      rw [q] at e1
      cases o with
      | none => cases e1
      | some u => cases e1; rfl
  obtain ⟨v, e3, r⟩ := S.slot i d e2
  exact ⟨v, e3, z d M ι H v h (Ex.refl _) (Kp.refl _ _) S r⟩
theorem ve_v (i : Nat) {x : Str} (hN : X.N[i]? = some x := by rfl) (hv : Vis X.env.scope x := by first | exact Or.inl rfl | exact Or.inr (Or.inl rfl) | exact Or.inr (Or.inr rfl)) (hd : (x == ("__debug__" : Str)) = false := by decide)
    (hcd : (x == ("__classdict__" : Str)) = false := by decide) : VE X G (.Name x pos) (eP (pV i)) := ve_var hN hv hd hcd
def pC (d : D) : PV := fun _ _ => some (.d d)
theorem ve_const {v : V} {d : D} (h : PE X e (tC v)) (r : ∀ K N H ι, RD K N H ι d v) : VE X G e (eP (pC d)) :=
  PE.weak h fun σ H Q ⟨δ, M, ι, Q0, S, h, z⟩ => z _ M ι H v h (Ex.refl _) (Kp.refl _ _) S (r _ _ _ _)
theorem ve_int {i j} : VE X G (.Constant (.int i) j pos) (eP (pC (.int i))) := ve_const pe_int fun _ _ _ _ => rfl
theorem ve_bl {i j} : VE X G (.Constant (.bool i) j pos) (eP (pC (.bl i))) := ve_const pe_bl fun _ _ _ _ => rfl
theorem ve_non {j} : VE X G (.Constant .none j pos) (eP (pC .non)) := ve_const pe_non fun _ _ _ _ => rfl
theorem ve_str {i j} : VE X G (.Constant (.str i) j pos) (eP (pC (.str i))) := ve_const pe_str fun _ _ _ _ => rfl
/-- a rule by values, read over data -/
def Rd2 (K : PySem.W.Frag) (r : R2) (f : Mem → Sv → Sv → Option Sv) : Prop := ∀ (G : Gd) (δ : DS) (M : Mem) (ι : Ix) (σ : L2.St) (H : Hp) (x y : Sv) (v u : V) (d : Sv), Sr K G δ M ι σ H → RS K G.N H ι x v → RS K G.N H ι y u → f M x y = some d →
  ∀ Q : VK, (∀ ι' H' w, Ex ι ι' → Kp ι H ι' H' → Sr K G δ M ι' σ H' → RS K G.N H' ι' d w → Q w H') → r v u H Q
def Rd1 (K : PySem.W.Frag) (r : V → Hp → VK → Prop) (f : Mem → Sv → Option Sv) : Prop := ∀ (G : Gd) (δ : DS) (M : Mem) (ι : Ix) (σ : L2.St) (H : Hp) (x : Sv) (v : V) (d : Sv), Sr K G δ M ι σ H → RS K G.N H ι x v → f M x = some d →
  ∀ Q : VK, (∀ ι' H' w, Ex ι ι' → Kp ι H ι' H' → Sr K G δ M ι' σ H' → RS K G.N H' ι' d w → Q w H') → r v H Q
def RdN (K : PySem.W.Frag) (r : List V → Hp → VK → Prop) (f : Mem → List Sv → Option Sv) : Prop := ∀ (G : Gd) (δ : DS) (M : Mem) (ι : Ix) (σ : L2.St) (H : Hp) (xs : List Sv) (vs : List V) (d : Sv), Sr K G δ M ι σ H → RSs K G.N H ι xs vs → f M xs = some d →
  ∀ Q : VK, (∀ ι' H' w, Ex ι ι' → Kp ι H ι' H' → Sr K G δ M ι' σ H' → RS K G.N H' ι' d w → Q w H') → r vs H Q
def eo1 (f : Mem → Sv → Option Sv) (ta : TE') : TE' := fun δ M Q => ta δ M fun x M1 => ok (f M1 x) fun d => Q d M1
def eo2 (f : Mem → Sv → Sv → Option Sv) (ta tb : TE') : TE' := fun δ M Q => ta δ M fun x M1 => tb δ M1 fun y M2 => ok (f M2 x y) fun d => Q d M2
def po1 (f : Mem → Sv → Option Sv) (a : PV) : PV := fun δ M => (a δ M).bind (f M)
def po2 (f : Mem → Sv → Sv → Option Sv) (a b : PV) : PV := fun δ M => (a δ M).bind fun x => (b δ M).bind fun y => f M x y
def eoN (f : Mem → List Sv → Option Sv) (t : TA') : TE' := fun δ M Q => t δ M fun xs M1 => ok (f M1 xs) fun d => Q d M1
def poN (f : Mem → List Sv → Option Sv) (ps : List PV) : PV := fun δ M => (pArgs ps δ M).bind (f M)
theorem VE.pure1 {f : Mem → Sv → Option Sv} (h : VE X G e (eo1 f (eP p))) : VE X G e (eP (po1 f p)) := h.weak fun δ M Q h => by
  unfold eP po1 at h; rw [ok_bind] at h; exact h
theorem VE.pure2 {f : Mem → Sv → Sv → Option Sv} (h : VE X G e (eo2 f (eP p) (eP q))) : VE X G e (eP (po2 f p q)) := h.weak fun δ M Q h => by
  unfold eP po2 at h
  rw [ok_bind] at h
  obtain ⟨d, e1, h⟩ := ok_elim h
  rw [ok_bind] at h
  exact ok_of e1 h
theorem VE.pureN {f : Mem → List Sv → Option Sv} {ps : List PV} (h : VE X G e (eoN f (aP ps))) : VE X G e (eP (poN f ps)) := h.weak fun δ M Q h => by
  unfold eP poN at h; rw [ok_bind] at h; exact h
/-- one value, then more -/
theorem th1 {K : PySem.W.Frag} {σ : L2.St} {H : Hp} {δ : DS} {M : Mem} {ι : Ix} {Q0 : QD} {R : VK} (S : Sr K G δ M ι σ H) (h : ta δ M Q0)
    (k : ∀ d M' ι' H' v, Q0 d M' → Ex ι ι' → Kp ι H ι' H' → Sr K G δ M' ι' σ H' → RS K G.N H' ι' d v → R v H') : lE K G ta σ H R := ⟨δ, M, ι, Q0, S, h, k⟩
theorem thA {K : PySem.W.Frag} {n : Nat} {tA : TA'} {σ : L2.St} {H : Hp} {δ : DS} {M : Mem} {ι : Ix} {Q0 : List Sv → Mem → Prop} {R : List V → Hp → Prop} (S : Sr K G δ M ι σ H) (h : tA δ M Q0)
    (k : ∀ d M' ι' H' v, d.length = n → Q0 d M' → Ex ι ι' → Kp ι H ι' H' → Sr K G δ M' ι' σ H' → RSs K G.N H' ι' d v → R v H') : lA K G n tA σ H R := ⟨δ, M, ι, Q0, S, h, k⟩
theorem fin2 {K : PySem.W.Frag} {r : R2} {f : Mem → Sv → Sv → Option Sv} (hf : Rd2 K r f) {σ : L2.St} {H : Hp} {Q : VK} (h : lE K G (eo2 f ta tb) σ H Q) : tOp r (lE K G ta) (lE K G tb) σ H Q := by
  obtain ⟨δ, M, ι, Q0, S, h, z⟩ := h
  refine th1 S h fun x M1 ι1 H1 v h1 p1 k1 S1 r1 => ?_
  refine th1 S1 h1 fun y M2 ι2 H2 u h2 p2 k2 S2 r2 => ?_
  obtain ⟨d, e, h2⟩ := ok_elim h2
  exact hf G δ M2 ι2 σ H2 x y v u d S2 (r1.mono k2 p2 (fun _ _ _ _ q => q)) r2 e Q fun ι3 H3 w p3 k3 S3 r3 => z d M2 ι3 H3 w h2 ((p1.trans p2).trans p3) ((k1.trans k2).trans k3) S3 r3
theorem fin1 {K : PySem.W.Frag} {r : V → Hp → VK → Prop} {f : Mem → Sv → Option Sv} (hf : Rd1 K r f) {σ : L2.St} {H : Hp} {Q : VK} (h : lE K G (eo1 f ta) σ H Q) : lE K G ta σ H fun v H1 => r v H1 Q := by
  obtain ⟨δ, M, ι, Q0, S, h, z⟩ := h
  refine th1 S h fun x M1 ι1 H1 v h1 p1 k1 S1 r1 => ?_
  obtain ⟨d, e, h1⟩ := ok_elim h1
  exact hf G δ M1 ι1 σ H1 x v d S1 r1 e Q fun ι3 H3 w p3 k3 S3 r3 => z d M1 ι3 H3 w h1 (p1.trans p3) (k1.trans k3) S3 r3
theorem finN {K : PySem.W.Frag} {n : Nat} {tA : TA'} {r : List V → Hp → VK → Prop} {f : Mem → List Sv → Option Sv} (hf : RdN K r f) {σ : L2.St} {H : Hp} {Q : VK} (h : lE K G (eoN f tA) σ H Q)   : lA K G n tA σ H fun v H1 => r v H1 Q := by
  obtain ⟨δ, M, ι, Q0, S, h, z⟩ := h
  refine thA S h fun x M1 ι1 H1 v hn h1 p1 k1 S1 r1 => ?_
  obtain ⟨d, e, h1⟩ := ok_elim h1
  exact hf G δ M1 ι1 σ H1 x v d S1 r1 e Q fun ι3 H3 w p3 k3 S3 r3 => z d M1 ι3 H3 w h1 (p1.trans p3) (k1.trans k3) S3 r3
theorem ve_bin {op : Operator} {r : R2} {f : Mem → Sv → Sv → Option Sv} (ho : OpR X (binaryOp op) r) (hf : Rd2 X.K r f) (ha : VE X G a ta) (hb : VE X G b tb) : VE X G (.BinOp a op b pos) (eo2 f ta tb) :=
  PE.weak (pe_op ho ha hb) fun σ H Q h => fin2 hf h
theorem ve_cmp {op : CmpOp} {r : R2} {f : Mem → Sv → Sv → Option Sv} (ho : OpR X (compareOp op) r) (hf : Rd2 X.K r f) (ha : VE X G a ta) (hb : VE X G b tb) (hm : behindInMarks op b = false) : VE X G (.Compare a [op] [b] pos) (eo2 f ta tb) :=
  PE.weak (pe_cmpR ho ha hb hm) fun σ H Q h => fin2 hf h
theorem ve_un {op : UnaryOp} {r : V → Hp → VK → Prop} {f : Mem → Sv → Option Sv} (ho : UnR X (unaryOp op) r) (hf : Rd1 X.K r f) (ha : VE X G a ta) : VE X G (.UnaryOp op a pos) (eo1 f ta) :=
  PE.weak (pe_un ho ha) fun σ H Q h => fin1 hf h
theorem ve_ix {r : R2} {f : Mem → Sv → Sv → Option Sv} (hr : IxR X r) (hf : Rd2 X.K r f) (ha : VE X G a ta) (hb : VE X G b tb) (hs : PlainIx b) : VE X G (.Subscript a b pos) (eo2 f ta tb) :=
  PE.weak (pe_ix hr ha hb hs) fun σ H Q h => fin2 hf h
theorem va_nil : VA X G [] 0 aNil := ⟨fun pos pins s σ H Q I ⟨δ, M, ι, Q0, S, h, z⟩ => pa_nil.run pos pins s σ H Q I (z [] M ι H [] rfl h (Ex.refl _) (Kp.refl _ _) S rfl)⟩
theorem va_cons {n : Nat} {tA : TA'} (ha : VE X G e ta) (hr : VA X G es n tA) (hs : starEach (e :: es) X.env = (false, eval e X.env) :: starEach es X.env := by rfl) : VA X G (e :: es) (n + 1) (aCons ta tA) := by
  refine ⟨fun pos pins s σ H Q I ⟨δ, M, ι, Q0, S, h, z⟩ => (pa_cons ha hr hs).run pos pins s σ H Q I ?_⟩
  refine th1 S h fun x M1 ι1 H1 v h1 p1 k1 S1 r1 => ?_
  refine thA S1 h1 fun y M2 ι2 H2 u hn h2 p2 k2 S2 r2 => ?_
  exact z _ M2 ι2 H2 _ (by rw [List.length_cons, hn]) h2 (p1.trans p2) (k1.trans k2) S2 ⟨v, u, rfl, r1.mono k2 p2 (fun _ _ _ _ q => q), r2⟩
theorem va_p0 : VA X G [] 0 (aP []) := va_nil.weak fun δ M Q h => h
theorem va_p {n : Nat} {ps : List PV} (ha : VE X G e (eP p)) (hr : VA X G es n (aP ps)) (hs : starEach (e :: es) X.env = (false, eval e X.env) :: starEach es X.env := by rfl) : VA X G (e :: es) (n + 1) (aP (p :: ps)) :=
  (va_cons ha hr hs).weak fun δ M Q h => by
    have h : ok (pArgs (p :: ps) δ M) fun ds => Q ds M := h
    unfold pArgs at h
    rw [ok_bind] at h
    obtain ⟨d, e1, h⟩ := ok_elim h
    rw [ok_map] at h
    exact ok_of e1 h
theorem ve_callB {x : Str} {id : String} {p : Pos} {n : Nat} {tA : TA'} {r : List V → Hp → VK → Prop} {f : Mem → List Sv → Option Sv} (hc : CallR X (.builtin id) r) (hf : RdN X.K r f) (hg : Gl X x) (hm : X.mg x = none) (hv : bootBuiltins x = some (.builtin id)) (ha : VA X G (e :: es) n tA) (hn : x ≠ "__name__" := by decide) (hdb : (x == ("__debug__" : Str)) = false := by decide)
    (he : starEach (e :: es) X.env = (false, eval e X.env) :: starEach es X.env := by rfl) (hpl : (backTo pos (starEach es X.env)).any (·.1) = false := by rfl) : VE X G (.Call (.Name x p) (e :: es) [] pos) (eoN f tA) :=
  PE.weak (pe_callB hc hg hm hv ha hn hdb he hpl) fun σ H Q h => finN hf h
theorem ve_callTy {x : Str} {T : String} {p : Pos} {n : Nat} {tA : TA'} {r : List V → Hp → VK → Prop} {f : Mem → List Sv → Option Sv} (hc : CallR X (.type T) r) (hf : RdN X.K r f) (hg : Gl X x) (hm : X.mg x = none) (hv : bootBuiltins x = some (.type T)) (ha : VA X G (e :: es) n tA) (hn : x ≠ "__name__" := by decide) (hdb : (x == ("__debug__" : Str)) = false := by decide)
    (he : starEach (e :: es) X.env = (false, eval e X.env) :: starEach es X.env := by rfl) (hpl : (backTo pos (starEach es X.env)).any (·.1) = false := by rfl) : VE X G (.Call (.Name x p) (e :: es) [] pos) (eoN f tA) :=
  PE.weak (pe_callTy hc hg hm hv ha hn hdb he hpl) fun σ H Q h => finN hf h
end
end VL
set_option Elab.async false
set_option linter.all false
set_option maxRecDepth 100000
set_option maxHeartbeats 4000000
namespace VL
open PySem PySem.Spec L2
def cellL : Option Cell → Option (List D)
  | some (.lst ds) => some ds
  | _ => none
theorem cellL_some {c : Option Cell} {ds : List D} (h : cellL c = some ds) : c = some (.lst ds) := by
  unfold cellL at h
  split at h
  · cases h; rfl
  · cases h
def seqD (M : Mem) : Sv → Option (List D)
  | .d (.lst ds) => some ds
  | .bor ds => some ds
  | .d (.tup ds) => some ds
  | .d (.scr ns) => some (ns.map D.int)
  | .ref n => cellL M[n]?
  | _ => none
section
variable {K : PySem.W.Frag} {G : Gd} {δ : DS} {M : Mem} {ι : Ix} {σ : L2.St} {H : Hp}
/-- a sequence's value and items -/
theorem seq_of {d : Sv} {v : V} {ds : List D} (S : Sr K G δ M ι σ H) (h : RS K G.N H ι d v) (e : seqD M d = some ds) : ∃ a xs, v = .ref a ∧ (SqL K H a xs ∨ SqT K H a xs) ∧ RDs K G.N H ι ds xs := by
  cases d with
  | ref n =>
    obtain ⟨a, e1, hn, xs, q, _, r⟩ := S.mem.at h (cellL_some (show cellL M[n]? = some ds from e)) (fun z => nomatch z)
    exact ⟨a, xs, e1, .inl (SqL.of q), r⟩
  | bor es =>
    cases e
    obtain ⟨a, xs, e1, q, n, _, _, r⟩ := h
    exact ⟨a, xs, e1, .inl (SqL.of q), r⟩
  | d d =>
    cases d with
    | lst es =>
      cases e
      obtain ⟨a, xs, e1, q, n, z, _, r⟩ := h
      exact ⟨a, xs, e1, .inl (SqL.of q), r⟩
    | tup es =>
      cases e
      obtain ⟨a, xs, e1, q, _, r⟩ := h
      exact ⟨a, xs, e1, .inr (tup_sq q), r⟩
    | scr ns =>
      cases e
      obtain ⟨a, e1, ⟨o, q, n⟩ | q, _⟩ := h
      · exact ⟨a, _, e1, .inl (.inl (.inr ⟨o, q⟩)), RDs.of_ints ns⟩
      · exact ⟨a, _, e1, .inl (.inr q), RDs.of_ints ns⟩
    | _ => cases e
theorem RDs.atI {ds : List D} {vs : List V} {i : Int} {d : D} (h : RDs K G.N H ι ds vs) (e : atI ds i = some d) : ∃ v, atI vs i = some v ∧ RD K G.N H ι d v := by
  unfold L2.atI at e ⊢
  rw [← h.length]
  cases q : ixN ds.length i with
  | none => rw [q] at e; cases e
  | some j => rw [q] at e; exact h.get e
theorem fin_same {d : Sv} {w : V} {Q : VK} (S : Sr K G δ M ι σ H) (z : ∀ ι' H' w, Ex ι ι' → Kp ι H ι' H' → Sr K G δ M ι' σ H' → RS K G.N H' ι' d w → Q w H') (r : RS K G.N H ι d w) : Q w H :=
  z ι H w (Ex.refl _) (Kp.refl _ _) S r
theorem RDs.laid {ds : List D} {xs : List V} {p : Addr} {o : HO} (r : RDs K G.N H ι ds xs) (hp : H p = none) : RDs K G.N (upd H p o) ι ds xs := r.mono (Kp.laid hp) fun _ _ _ _ q => q
theorem fin_tup {ds : List D} {xs : List V} {p : Addr} {Q : VK} (S : Sr K G δ M ι σ H) (z : ∀ ι' H' w, Ex ι ι' → Kp ι H ι' H' → Sr K G δ M ι' σ H' → RS K G.N H' ι' (.d (.tup ds)) w → Q w H') (r : RDs K G.N H ι ds xs) (hl : ds.length ≤ sizeLine) (hp : H p = none) : Q (.ref p) (upd H p (.tup xs)) :=
  z ι _ _ (Ex.refl _) (Kp.laid hp) (S.laid hp) ⟨p, xs, rfl, .inl ⟨upd_same, S.mem.fresh hp⟩, hl, r.laid hp⟩
theorem Sr.newN {p : Addr} {b : Bool} (S : Sr K G δ M ι σ H) (hp : H p = none) : G.N b p := by
  refine ⟨fun hh => ?_, fun _ hb => ?_⟩
  · obtain ⟨_, u, q⟩ := S.hid p hh
    rw [hp] at q; cases q
  · obtain ⟨u, q⟩ := S.bad p hb
    by_cases hi : p ∈ G.i0
    · obtain ⟨n, hn⟩ := List.getElem?_of_mem hi
      exact absurd (List.mem_of_getElem? (S.pre n p hn)) (S.mem.fresh hp)
    · rw [(S.kp p u q (by simpa using hi)).1] at hp; cases hp
theorem fin_lst {ds : List D} {xs : List V} {p : Addr} {Q : VK} (S : Sr K G δ M ι σ H) (z : ∀ ι' H' w, Ex ι ι' → Kp ι H ι' H' → Sr K G δ M ι' σ H' → RS K G.N H' ι' (.d (.lst ds)) w → Q w H') (r : RDs K G.N H ι ds xs) (hl : ds.length ≤ sizeLine) (hp : H p = none) : Q (.ref p) (upd H p (.lst xs)) :=
  z ι _ _ (Ex.refl _) (Kp.laid hp) (S.laid hp) ⟨p, xs, rfl, upd_same, S.mem.fresh hp, S.newN hp, hl, r.laid hp⟩
end
instance {i j : Int} : Decidable (CPow i j) := by unfold CPow; infer_instance
def gd {α : Type} (c : Prop) [Decidable c] (d : α) : Option α := if c then some d else none
theorem gd_pos {α : Type} {c : Prop} [Decidable c] {d : α} (h : c) : gd c d = some d := if_pos h
theorem gd_some {α : Type} {c : Prop} [Decidable c] {d e : α} (h : gd c d = some e) : c ∧ d = e := by
  unfold gd at h
  split at h
  · cases h; exact ⟨by assumption, rfl⟩
  · cases h
def addD (_ : Mem) : Sv → Sv → Option Sv
  | .d (.int i), .d (.int j) => some (.d (.int (i + j)))
  | .d (.str i), .d (.str j) => gd (i.length + j.length ≤ sizeLine) (.d (.str (i ++ j)))
  | .d (.tup a), .d (.tup b) => gd (a.length + b.length ≤ sizeLine) (.d (.tup (a ++ b)))
  | _, _ => none
def subD (_ : Mem) : Sv → Sv → Option Sv
  | .d (.int i), .d (.int j) => some (.d (.int (i - j)))
  | _, _ => none
abbrev MulOk (i j : Int) : Prop := (-(2 ^ 64) < i ∧ i < 2 ^ 64) ∨ (-(2 ^ 64) < j ∧ j < 2 ^ 64) ∨ i.natAbs.log2 + j.natAbs.log2 < 1000000
def mulD (_ : Mem) : Sv → Sv → Option Sv
  | .d (.int i), .d (.int j) => gd (MulOk i j) (.d (.int (i * j)))
  | _, _ => none
def fdivD (_ : Mem) : Sv → Sv → Option Sv
  | .d (.int i), .d (.int j) => gd (0 < j ∧ j.natAbs.log2 < 9000) (.d (.int (i / j)))
  | _, _ => none
def modD (_ : Mem) : Sv → Sv → Option Sv
  | .d (.int i), .d (.int j) => gd (0 < j) (.d (.int (i % j)))
  | _, _ => none
def powD (_ : Mem) : Sv → Sv → Option Sv
  | .d (.int i), .d (.int j) => gd (CPow i j) (.d (.int (i ^ j.toNat)))
  | _, _ => none
def negD (_ : Mem) : Sv → Option Sv
  | .d (.int i) => some (.d (.int (-i)))
  | _ => none
section
variable {K : PySem.W.Frag} {X : Cx} {G : Gd} {e a b : Expr} {pos : Pos} {ta tb : TE'}
theorem rd_add : Rd2 K (fun x y H Q => (fun x y H Q => rI0 (fun i j => .int (i + j)) x y H Q ∨ (fun x y H Q => ∃ i j, x = .str i ∧ y = .str j ∧ i.length + j.length ≤ sizeLine ∧ Q (.str (i ++ j)) H) x y H Q) x y H Q ∨ rCatA K x y H Q) addD := by
  intro G δ M ι σ H x y v u d S rx ry e Q z
  unfold addD at e
  split at e
  · cases e; cases (show _ = _ from rx); cases (show _ = _ from ry)
    exact .inl (.inl ⟨_, _, rfl, rfl, fin_same S z rfl⟩)
  · obtain ⟨hc, rfl⟩ := gd_some e
    cases (show _ = _ from rx); cases (show _ = _ from ry)
    exact .inl (.inr ⟨_, _, rfl, rfl, hc, fin_same S z rfl⟩)
  · obtain ⟨hc, rfl⟩ := gd_some e
    obtain ⟨p, xs, rfl, qa, la, ra⟩ := id rx
    obtain ⟨p', ys, rfl, qb, lb, rb⟩ := id ry
    refine .inr ⟨p, p', xs, ys, rfl, rfl, tup_sq qa, tup_sq qb, by rw [← ra.length, ← rb.length]; exact hc, fun h => ?_, fun _ h => ?_, fun _ _ q hq => ?_⟩
    · subst h
      have hl := ra.length
      have : _ = [] := List.length_eq_zero_iff.mp (by simpa using hl)
      subst this
      exact fin_same S z ⟨p', ys, rfl, qb, by simpa using lb, by simpa using rb⟩
    · subst h
      have hl := rb.length
      have : _ = [] := List.length_eq_zero_iff.mp (by simpa using hl)
      subst this
      exact fin_same S z ⟨p, xs, rfl, qa, by simpa using la, by simpa using ra⟩
    · exact fin_tup S z (ra.append rb) (by rw [List.length_append]; exact hc) hq
  · cases e
theorem ve_add (ha : VE X G a ta) (hb : VE X G b tb) : VE X G (.BinOp a .Add b pos) (eo2 addD ta tb) := ve_bin ((op_add.or op_add_str).or op_catA) rd_add ha hb
theorem rd_int {C : Int → Int → Prop} {g : Int → Int → Int} {f : Mem → Sv → Sv → Option Sv} (hf : ∀ M x y d, f M x y = some d → ∃ i j, x = .d (.int i) ∧ y = .d (.int j) ∧ C i j ∧ d = .d (.int (g i j))) : Rd2 K (rI C fun i j => .int (g i j)) f := by
  intro G δ M ι σ H x y v u d S rx ry e Q z
  obtain ⟨i, j, rfl, rfl, hc, rfl⟩ := hf _ _ _ _ e
  cases (show _ = _ from rx); cases (show _ = _ from ry)
  exact ⟨_, _, rfl, rfl, hc, fin_same S z rfl⟩
theorem ve_sub (ha : VE X G a ta) (hb : VE X G b tb) : VE X G (.BinOp a .Sub b pos) (eo2 subD ta tb) := by
  refine ve_bin op_sub ?_ ha hb
  intro G δ M ι σ H x y v u d S rx ry e Q z
  unfold subD at e
  split at e
  · cases e; cases (show _ = _ from rx); cases (show _ = _ from ry)
    exact ⟨_, _, rfl, rfl, fin_same S z rfl⟩
  · cases e
theorem ve_mul (ha : VE X G a ta) (hb : VE X G b tb) : VE X G (.BinOp a .Mult b pos) (eo2 mulD ta tb) := by
  refine ve_bin (op_mul.or op_mulW) ?_ ha hb
  intro G δ M ι σ H x y v u d S rx ry e Q z
  unfold mulD at e
  split at e
  · obtain ⟨hc, rfl⟩ := gd_some e
    cases (show _ = _ from rx); cases (show _ = _ from ry)
    rcases hc with hc | hc | hc
    · exact .inl ⟨_, _, rfl, rfl, .inl hc, fin_same S z rfl⟩
    · exact .inl ⟨_, _, rfl, rfl, .inr hc, fin_same S z rfl⟩
    · exact .inr ⟨_, _, rfl, rfl, hc, fin_same S z rfl⟩
  · cases e
theorem ve_fdiv (ha : VE X G a ta) (hb : VE X G b tb) : VE X G (.BinOp a .FloorDiv b pos) (eo2 fdivD ta tb) := by
  refine ve_bin op_fdivW (rd_int fun M x y d e => ?_) ha hb
  unfold fdivD at e
  split at e
  · obtain ⟨hc, rfl⟩ := gd_some e; exact ⟨_, _, rfl, rfl, hc, rfl⟩
  · cases e
theorem ve_mod (ha : VE X G a ta) (hb : VE X G b tb) : VE X G (.BinOp a .Mod b pos) (eo2 modD ta tb) := by
  refine ve_bin op_mod (rd_int fun M x y d e => ?_) ha hb
  unfold modD at e
  split at e
  · obtain ⟨hc, rfl⟩ := gd_some e; exact ⟨_, _, rfl, rfl, hc, rfl⟩
  · cases e
theorem ve_pow (ha : VE X G a ta) (hb : VE X G b tb) : VE X G (.BinOp a .Pow b pos) (eo2 powD ta tb) := by
  refine ve_bin op_pow (rd_int fun M x y d e => ?_) ha hb
  unfold powD at e
  split at e
  · obtain ⟨hc, rfl⟩ := gd_some e; exact ⟨_, _, rfl, rfl, hc, rfl⟩
  · cases e
theorem ve_neg (ha : VE X G a ta) : VE X G (.UnaryOp .USub a pos) (eo1 negD ta) := by
  refine ve_un un_neg ?_ ha
  intro G δ M ι σ H x v d S rx e Q z
  unfold negD at e
  split at e
  · cases e; cases (show _ = _ from rx)
    exact ⟨_, rfl, fin_same S z rfl⟩
  · cases e
def ixD (M : Mem) (x y : Sv) : Option Sv := match y with
  | .d (.int i) => (match x with
    | .d (.str s) => (gd (s.length ≤ sizeLine) ()).bind fun _ => (atI s.cps.toList i).map fun c => .d (.str ⟨#[c]⟩)
    | x => (seqD M x).bind fun ds => (atI ds i).map .d)
  | _ => none
theorem rd_ix : Rd2 K (rIx K) ixD := by
  intro G δ M ι σ H x y v u d S rx ry e Q z
  unfold ixD at e
  split at e
  · cases (show _ = _ from ry)
    split at e
    · rename_i s
      cases (show _ = _ from rx)
      cases hq : gd (s.length ≤ sizeLine) () with
      | none => rw [hq] at e; cases e
      | some _ =>
        rw [hq] at e
        obtain ⟨hc, _⟩ := gd_some hq
        cases ha : atI s.cps.toList _ with
        | none => rw [ha] at e; cases e
        | some c =>
          rw [ha] at e; cases e
          exact .inr (.inr ⟨_, _, c, rfl, rfl, hc, ha, fin_same S z rfl⟩)
    · cases hs : seqD M x with
      | none => rw [hs] at e; cases e
      | some ds =>
        rw [hs] at e
        obtain ⟨a, xs, rfl, q, r⟩ := seq_of S rx hs
        obtain ⟨d', ha, rfl⟩ := Option.map_eq_some_iff.mp (show (atI ds _).map Sv.d = some d from e)
        · obtain ⟨w, e3, r3⟩ := r.atI ha
          rcases q with q | q
          · exact .inl ⟨a, xs, _, w, rfl, rfl, q, e3, fin_same (d := .d d') S z r3⟩
          · exact .inr (.inl ⟨a, xs, _, w, rfl, rfl, q, e3, fin_same (d := .d d') S z r3⟩)
  · cases e
theorem ve_idx (ha : VE X G a ta) (hb : VE X G b tb) (hs : PlainIx b := by first | exact fun _ _ => rfl) : VE X G (.Subscript a b pos) (eo2 ixD ta tb) := ve_ix ix_seq rd_ix ha hb hs
end
end VL
set_option Elab.async false
set_option linter.all false
set_option maxRecDepth 100000
set_option maxHeartbeats 4000000
namespace VL
open PySem PySem.Spec L2
mutual
def py : D → PyData
  | .non => .none
  | .bl b => .bool b
  | .int i => .int i
  | .str s => .str s
  | .tup ds => .tuple (pys ds)
  | .lst ds => .list (pys ds)
  | .scr _ => .none
  | .fn _ => .none
  | .dn _ _ => .none
  | .dk _ _ => .none
  | .cls _ => .none
  | .exc _ _ => .none
  | .ty _ => .none
def pys : List D → List PyData
  | [] => []
  | d :: ds => py d :: pys ds
end
mutual
/-- data alone -/
def noR : D → Bool
  | .tup ds => noRs ds
  | .lst ds => noRs ds
  | .scr _ => false
  | .fn _ => false
  | .dn _ _ => false
  | .dk _ _ => false
  | .cls _ => false
  | .exc _ _ => false
  | .ty _ => false
  | .non => true
  | .bl _ => true
  | .int _ => true
  | .str _ => true
def noRs : List D → Bool
  | [] => true
  | d :: ds => noR d && noRs ds
end
mutual
def eqvD : D → D → Bool
  | .non, .non => true
  | .bl a, .bl b => a == b
  | .bl a, .int j => (if a then 1 else 0) == j
  | .int i, .bl b => i == (if b then 1 else 0)
  | .int i, .int j => i == j
  | .str a, .str b => a == b
  | .tup a, .tup b => eqvDs a b
  | .lst a, .lst b => eqvDs a b
  | _, _ => false
def eqvDs : List D → List D → Bool
  | [], [] => true
  | a :: as, b :: bs => eqvD a b && eqvDs as bs
  | _, _ => false
end
mutual
theorem eqv_py : ∀ (x y : D), noR x = true → noR y = true → PyData.eqv (py x) (py y) = eqvD x y
  | .non, y, _, hy => by cases y <;> simp_all [py, eqvD, PyData.eqv, noR]
  | .bl _, y, _, hy => by cases y <;> simp_all [py, eqvD, PyData.eqv, noR]
  | .int _, y, _, hy => by cases y <;> simp_all [py, eqvD, PyData.eqv, noR]
  | .str _, y, _, hy => by cases y <;> simp_all [py, eqvD, PyData.eqv, noR]
  | .scr _, _, hx, _ => by simp [noR] at hx
  | .fn _, _, hx, _ => by simp [noR] at hx
  | .dn _ _, _, hx, _ => by simp [noR] at hx
  | .dk _ _, _, hx, _ => by simp [noR] at hx
  | .cls _, _, hx, _ => by simp [noR] at hx
  | .exc _ _, _, hx, _ => by simp [noR] at hx
  | .ty _, _, hx, _ => by simp [noR] at hx
  | .tup a, y, hx, hy => by
    cases y with
    | tup b =>
      simp only [py, eqvD, PyData.eqv]
      exact eqvs_py a b (by simpa [noR] using hx) (by simpa [noR] using hy)
    | _ => first | (simp [noR] at hy; done) | simp [py, eqvD, PyData.eqv]
  | .lst a, y, hx, hy => by
    cases y with
    | lst b =>
      simp only [py, eqvD, PyData.eqv]
      exact eqvs_py a b (by simpa [noR] using hx) (by simpa [noR] using hy)
    | _ => first | (simp [noR] at hy; done) | simp [py, eqvD, PyData.eqv]
theorem eqvs_py : ∀ (x y : List D), noRs x = true → noRs y = true → PyData.eqvAll (pys x) (pys y) = eqvDs x y
  | [], [], _, _ => by simp [pys, eqvDs, PyData.eqvAll]
  | [], _ :: _, _, _ => by simp [pys, eqvDs, PyData.eqvAll]
  | _ :: _, [], _, _ => by simp [pys, eqvDs, PyData.eqvAll]
  | a :: as, b :: bs, hx, hy => by
    simp only [noRs, Bool.and_eq_true] at hx hy
    simp only [pys, eqvDs, PyData.eqvAll, eqv_py a b hx.1 hy.1, eqvs_py as bs hx.2 hy.2]
end
/-- the top resolved -/
def rsv (M : Mem) : Sv → D
  | .ref n => match cellL M[n]? with
    | some ds => .lst ds
    | none => .ty ""
  | .bor ds => .lst ds
  | .d d => d
/-- data that == may look at -/
def okE (d : D) : Bool := noR d && SeqAt.shaped (py d)
def atomD : D → Bool
  | .non => true | .bl _ => true | .int _ => true | .str _ => true | _ => false
def eqD (M : Mem) : Sv → Sv → Option Sv
  | .d (.int i), .d (.int j) => some (.d (.bl (decide (i = j))))
  | .d (.str i), .d (.str j) => some (.d (.bl (decide (i = j))))
  | .d (.bl i), .d (.bl j) => some (.d (.bl (decide (i = j))))
  | .d .non, .d .non => some (.d (.bl true))
  | .d (.int _), .d (.str _) => some (.d (.bl false))
  | .d (.str _), .d (.int _) => some (.d (.bl false))
  | x, y => gd (okE (rsv M x) = true ∧ okE (rsv M y) = true) (.d (.bl (eqvD (rsv M x) (rsv M y))))
def notD : Sv → Sv
  | .d (.bl b) => .d (.bl (!b))
  | d => d
def neD (M : Mem) (x y : Sv) : Option Sv := (eqD M x y).map notD
section
variable {K : PySem.W.Frag} {G : Gd} {δ : DS} {M : Mem} {ι : Ix} {σ : L2.St} {H : Hp} {N : Bool → Addr → Prop}
mutual
theorem RD.dp : ∀ (d : D) (v : V), RD K N H ι d v → noR d = true → Dp K H v (py d)
  | .non, _, h, _ => by cases (show _ = _ from h); exact .non
  | .bl _, _, h, _ => by cases (show _ = _ from h); exact .bl _
  | .int _, _, h, _ => by cases (show _ = _ from h); exact .int _
  | .str _, _, h, _ => by cases (show _ = _ from h); exact .str _
  | .scr _, _, _, h => by simp [noR] at h
  | .fn _, _, _, h => by simp [noR] at h
  | .dn _ _, _, _, h => by simp [noR] at h
  | .dk _ _, _, _, h => by simp [noR] at h
  | .cls _, _, _, h => by simp [noR] at h
  | .exc _ _, _, _, h => by simp [noR] at h
  | .ty _, _, _, h => by simp [noR] at h
  | .tup ds, _, h, n => by
    obtain ⟨a, xs, rfl, q, _, r⟩ := h
    simp only [py]
    exact .tup (tup_sq q) (RDs.dp ds xs r (by simpa [noR] using n))
  | .lst ds, _, h, n => by
    obtain ⟨a, xs, rfl, q, _, _, _, r⟩ := h
    simp only [py]
    exact .lst (SqL.of q) (RDs.dp ds xs r (by simpa [noR] using n))
theorem RDs.dp : ∀ (ds : List D) (vs : List V), RDs K N H ι ds vs → noRs ds = true → DpAll K H vs (pys ds)
  | [], _, h, _ => by cases (show _ = _ from h); simp only [pys]; exact .nil
  | d :: ds, _, h, n => by
    obtain ⟨x, r, rfl, h1, h2⟩ := h
    simp only [noRs, Bool.and_eq_true] at n
    simp only [pys]
    exact .cons (RD.dp d x h1 n.1) (RDs.dp ds r h2 n.2)
end
theorem rsv_dp {d : Sv} {v : V} (S : Sr K G δ M ι σ H) (h : RS K G.N H ι d v) (n : noR (rsv M d) = true) : Dp K H v (py (rsv M d)) := by
  cases d with
  | ref k =>
    unfold rsv at n ⊢
    cases q : cellL M[k]? with
    | none => simp only [q] at n; simp [noR] at n
    | some ds =>
      simp only [q] at n ⊢
      obtain ⟨a, rfl, hn, xs, hH, _, r⟩ := S.mem.at h (cellL_some q) (fun z => nomatch z)
      simp only [py]
      exact .lst (SqL.of hH) (RDs.dp ds xs r (by simpa [noR] using n))
  | bor ds =>
    obtain ⟨a, xs, rfl, q, _, _, _, r⟩ := h
    simp only [rsv, py]
    exact .lst (SqL.of q) (RDs.dp ds xs r (by simpa [rsv, noR] using n))
  | d d => exact RD.dp _ v h n
theorem okE_and {d : D} (h : okE d = true) : noR d = true ∧ SeqAt.shaped (py d) = true := by
  unfold okE at h; simpa using h
def rEqX (K : PySem.W.Frag) : R2 := fun x y H Q => (rEq x y H Q) ∨ rEqD K x y H Q
theorem rd_eq : Rd2 K (rEqX K) eqD := by
  intro G δ M ι σ H x y v u d S rx ry e Q z
  unfold eqD at e
  split at e
  · cases e; cases (show _ = _ from rx); cases (show _ = _ from ry)
    refine .inl ⟨rfl, fin_same S z ?_⟩
    show _ = _; simp
  · cases e; cases (show _ = _ from rx); cases (show _ = _ from ry)
    refine .inl ⟨rfl, fin_same S z ?_⟩
    show _ = _; simp
  · cases e; cases (show _ = _ from rx); cases (show _ = _ from ry)
    refine .inl ⟨rfl, fin_same S z ?_⟩
    show _ = _; simp
  · cases e; cases (show _ = _ from rx); cases (show _ = _ from ry)
    exact .inl ⟨rfl, fin_same S z rfl⟩
  · cases e; cases (show _ = _ from rx); cases (show _ = _ from ry)
    exact .inl ⟨rfl, fin_same S z rfl⟩
  · cases e; cases (show _ = _ from rx); cases (show _ = _ from ry)
    exact .inl ⟨rfl, fin_same S z rfl⟩
  · obtain ⟨⟨hx, hy⟩, rfl⟩ := gd_some e
    obtain ⟨nx, sx⟩ := okE_and hx
    obtain ⟨ny, sy⟩ := okE_and hy
    exact .inr ⟨_, _, rsv_dp S rx nx, rsv_dp S ry ny, sx, sy, fin_same S z (by rw [eqv_py _ _ nx ny]; rfl)⟩
def rNeX (K : PySem.W.Frag) : R2 := fun x y H Q => (rNe x y H Q) ∨ rNeD K x y H Q
theorem eqD_bl {x y d : Sv} (h : eqD M x y = some d) : ∃ b, d = .d (.bl b) := by
  unfold eqD at h
  split at h
  all_goals first | (cases h; exact ⟨_, rfl⟩) | (obtain ⟨_, rfl⟩ := gd_some h; exact ⟨_, rfl⟩)
theorem rd_ne : Rd2 K (rNeX K) neD := by
  intro G δ M ι σ H x y v u d S rx ry e Q z
  unfold neD at e
  cases q : eqD M x y with
  | none => rw [q] at e; cases e
  | some d' =>
    rw [q] at e
    obtain ⟨b, rfl⟩ := eqD_bl q
    have hd : d = .d (.bl (!b)) := by simpa [notD] using e.symm
    subst hd
    unfold eqD at q
    split at q
    · cases q; cases (show _ = _ from rx); cases (show _ = _ from ry)
      refine .inl ⟨rfl, fin_same S z ?_⟩
      show _ = _; simp
    · cases q; cases (show _ = _ from rx); cases (show _ = _ from ry)
      refine .inl ⟨rfl, fin_same S z ?_⟩
      show _ = _; simp
    · cases q; cases (show _ = _ from rx); cases (show _ = _ from ry)
      refine .inl ⟨rfl, fin_same S z ?_⟩
      show _ = _; simp
    · cases q; cases (show _ = _ from rx); cases (show _ = _ from ry)
      exact .inl ⟨rfl, fin_same S z rfl⟩
    · cases q; cases (show _ = _ from rx); cases (show _ = _ from ry)
      exact .inl ⟨rfl, fin_same S z rfl⟩
    · cases q; cases (show _ = _ from rx); cases (show _ = _ from ry)
      exact .inl ⟨rfl, fin_same S z rfl⟩
    · obtain ⟨⟨hx, hy⟩, hq⟩ := gd_some q
      cases hq
      obtain ⟨nx, sx⟩ := okE_and hx
      obtain ⟨ny, sy⟩ := okE_and hy
      exact .inr ⟨_, _, rsv_dp S rx nx, rsv_dp S ry ny, sx, sy, fin_same S z (by rw [eqv_py _ _ nx ny]; rfl)⟩
end
end VL
set_option Elab.async false
set_option linter.all false
set_option maxRecDepth 100000
set_option maxHeartbeats 4000000
namespace VL
open PySem PySem.Spec L2
def ltD (_ : Mem) : Sv → Sv → Option Sv
  | .d (.int i), .d (.int j) => some (.d (.bl (decide (i < j))))
  | _, _ => none
def leD (_ : Mem) : Sv → Sv → Option Sv
  | .d (.int i), .d (.int j) => some (.d (.bl (decide (i ≤ j))))
  | _, _ => none
def gtD (_ : Mem) : Sv → Sv → Option Sv
  | .d (.int i), .d (.int j) => some (.d (.bl (decide (j < i))))
  | _, _ => none
def geD (_ : Mem) : Sv → Sv → Option Sv
  | .d (.int i), .d (.int j) => some (.d (.bl (decide (j ≤ i))))
  | _, _ => none
def isTupD : Sv → Bool
  | .d (.tup _) => true
  | _ => false
def inL (M : Mem) (x y : Sv) : Option Bool := match x with
  | .d x => (seqD M y).bind fun ds => gd ((atomD x = true ∧ ds.all atomD = true) ∨ (okE x = true ∧ isTupD y = false ∧ okE (.lst ds) = true)) (ds.any fun z => eqvD z x)
  | _ => none
def blS (b : Bool) : Sv := .d (.bl b)
def inD (M : Mem) (x y : Sv) : Option Sv := (inL M x y).map blS
def nonB : Sv → Bool
  | .d .non => true
  | _ => false
def isD (_ : Mem) : Sv → Sv → Option Sv
  | x, .d .non => some (.d (.bl (nonB x)))
  | .d (.bl a), .d (.bl b) => some (.d (.bl (decide (a = b))))
  | _, _ => none
def isntD (_ : Mem) : Sv → Sv → Option Sv
  | x, .d .non => some (.d (.bl (!nonB x)))
  | .d (.bl a), .d (.bl b) => some (.d (.bl (!decide (a = b))))
  | _, _ => none
section
variable {K : PySem.W.Frag} {X : Cx} {G : Gd} {e a b : Expr} {es : List Expr} {pos : Pos} {ta tb : TE'} {N : Bool → Addr → Prop} {H : Hp} {ι : Ix}
theorem rd_cmpI {g : Int → Int → Bool} {f : Mem → Sv → Sv → Option Sv} (hf : ∀ M x y d, f M x y = some d → ∃ i j, x = .d (.int i) ∧ y = .d (.int j) ∧ d = .d (.bl (g i j))) : Rd2 K (rI0 fun i j => .bl (g i j)) f := by
  intro G δ M ι σ H x y v u d S rx ry e Q z
  obtain ⟨i, j, rfl, rfl, rfl⟩ := hf _ _ _ _ e
  cases (show _ = _ from rx); cases (show _ = _ from ry)
  exact ⟨_, _, rfl, rfl, fin_same S z rfl⟩
theorem rd_lt : Rd2 K (rI0 fun i j => .bl (decide (i < j))) ltD := rd_cmpI fun M x y d e => by
  unfold ltD at e
  split at e
  · cases e; exact ⟨_, _, rfl, rfl, rfl⟩
  · cases e
theorem rd_gt : Rd2 K (rI0 fun i j => .bl (decide (j < i))) gtD := rd_cmpI fun M x y d e => by
  unfold gtD at e
  split at e
  · cases e; exact ⟨_, _, rfl, rfl, rfl⟩
  · cases e
theorem rd_ge : Rd2 K (rI0 fun i j => .bl (decide (j ≤ i))) geD := rd_cmpI fun M x y d e => by
  unfold geD at e
  split at e
  · cases e; exact ⟨_, _, rfl, rfl, rfl⟩
  · cases e
theorem atom_flat {d : D} {v : V} (h : RD K N H ι d v) (a : atomD d = true) : flatV v = true := by
  cases d with
  | non => cases (show _ = _ from h); rfl
  | bl b => cases (show _ = _ from h); rfl
  | int b => cases (show _ = _ from h); rfl
  | str b => cases (show _ = _ from h); rfl
  | _ => cases (show false = true from a)
theorem atom_eqV {d d' : D} {v v' : V} (h : RD K N H ι d v) (h' : RD K N H ι d' v') (a : atomD d = true) (a' : atomD d' = true) : eqV v v' = eqvD d d' := by
  cases d with
  | non => cases (show _ = _ from h); cases d' <;> first | (cases (show false = true from a')) | (cases (show _ = _ from h'); rfl)
  | bl b => cases (show _ = _ from h); cases d' <;> first | (cases (show false = true from a')) | (cases (show _ = _ from h'); rfl)
  | int b => cases (show _ = _ from h); cases d' <;> first | (cases (show false = true from a')) | (cases (show _ = _ from h'); rfl)
  | str b => cases (show _ = _ from h); cases d' <;> first | (cases (show false = true from a')) | (cases (show _ = _ from h'); rfl)
  | _ => cases (show false = true from a)
theorem atoms_in {x : D} {v : V} (hx : RD K N H ι x v) (ax : atomD x = true) : ∀ {ds : List D} {vs : List V}, RDs K N H ι ds vs → ds.all atomD = true → vs.all flatV = true ∧ inV v vs = ds.any fun z => eqvD z x
  | [], _, h, _ => by cases (show _ = _ from h); exact ⟨rfl, rfl⟩
  | d :: ds, _, h, a => by
    obtain ⟨y, r, rfl, h1, h2⟩ := h
    rw [List.all_cons, Bool.and_eq_true] at a
    obtain ⟨i1, i2⟩ := atoms_in hx ax h2 a.2
    refine ⟨by rw [List.all_cons, atom_flat h1 a.1, i1]; rfl, ?_⟩
    unfold inV at i2 ⊢
    rw [List.any_cons, List.any_cons, i2, atom_eqV h1 hx a.1 ax]
def rInX (K : PySem.W.Frag) (neg : Bool) : R2 := fun x y H Q => rIn K neg x y H Q ∨ (if neg then rNotInD K else rInD K) x y H Q
theorem any_py {x : D} (nx : noR x = true) : ∀ {ds : List D}, noRs ds = true → (pys ds).any (fun z => PyData.eqv z (py x)) = ds.any fun z => eqvD z x
  | [], _ => by simp [pys]
  | d :: ds, h => by
    simp only [noRs, Bool.and_eq_true] at h
    simp only [pys, List.any_cons, any_py nx h.2, eqv_py d x h.1 nx]
theorem inL_rd {neg : Bool} {δ : DS} {M : Mem} {σ : L2.St} {x y : Sv} {v u : V} {c : Bool} {Q : VK} (S : Sr K G δ M ι σ H) (rx : RS K G.N H ι x v) (ry : RS K G.N H ι y u) (e : inL M x y = some c) (q : Q (.bl (if neg then !c else c)) H) : rInX K neg v u H Q := by
  cases x with
  | ref n => cases e
  | bor n => cases e
  | d x =>
  simp only [inL] at e
  cases hs : seqD M y with
  | none => rw [hs] at e; cases e
  | some ds =>
    rw [hs] at e
    obtain ⟨hc, hb⟩ := gd_some (show gd _ _ = some c from e)
    obtain ⟨a, xs, rfl, hq, r⟩ := seq_of S ry hs
    rcases hc with ⟨ax, ads⟩ | ⟨ox, ty, ods⟩
    · obtain ⟨f1, f2⟩ := atoms_in (show RD K G.N H ι x v from rx) ax r ads
      refine .inl ⟨a, xs, rfl, hq, atom_flat (show RD K G.N H ι x v from rx) ax, f1, ?_⟩
      rw [f2, hb]; exact q
    · obtain ⟨nx, sx⟩ := okE_and ox
      obtain ⟨ny, sy⟩ := okE_and ods
      simp only [noR] at ny
      have hl : Dp K H (.ref a) (.list (pys ds)) := by
        cases y with
        | ref n =>
          obtain ⟨a', e1, hn, xs', hH, _, r'⟩ := S.mem.at ry (cellL_some (show cellL M[n]? = some ds from hs)) (fun z => nomatch z)
          cases e1
          exact .lst (SqL.of hH) (RDs.dp ds xs' r' ny)
        | bor es =>
          cases hs
          obtain ⟨a', xs', e1, hH, _, _, _, r'⟩ := ry
          cases e1
          exact .lst (SqL.of hH) (RDs.dp ds xs' r' ny)
        | d y =>
          cases y with
          | tup es => cases (show true = false from ty)
          | lst es => cases hs; exact RD.dp (.lst _) _ ry (by simpa [noR] using ny)
          | scr ns =>
            cases hs
            obtain ⟨a', e1, q', _⟩ := ry
            cases e1
            have hsq : SqL K H a (ns.map V.int) := by
              rcases q' with ⟨o, q', _⟩ | q'
              · exact .inl (.inr ⟨o, q'⟩)
              · exact .inr q'
            exact .lst hsq (RDs.dp (N := G.N) (ι := ι) _ _ (RDs.of_ints ns) ny)
          | _ => cases hs
      have hq' : Q (.bl (if neg then !((pys ds).any fun z => PyData.eqv z (py x)) else (pys ds).any fun z => PyData.eqv z (py x))) H := by
        rw [any_py nx ny, hb]; exact q
      refine .inr ?_
      cases neg with
      | false => exact ⟨_, _, RD.dp x v rx nx, hl, sx, by simpa [py] using sy, hq'⟩
      | true => exact ⟨_, _, RD.dp x v rx nx, hl, sx, by simpa [py] using sy, hq'⟩
theorem rd_in : Rd2 K (rInX K false) inD := by
  intro G δ M ι σ H x y v u d S rx ry e Q z
  unfold inD at e
  cases q : inL M x y with
  | none => rw [q] at e; cases e
  | some c => rw [q] at e; cases e; exact inL_rd S rx ry q (fin_same S z rfl)
theorem op_inX (hu : X.A.units + 65 < cLine) : OpR X (compareOp .In) (rInX X.K false) := op_in_seq.or (op_inD hu)
theorem op_eqX (hu : X.A.units + 64 < cLine) : OpR X (compareOp .Eq) (rEqX X.K) := op_eq.or (op_eqD hu)
theorem op_neX (hu : X.A.units + 64 < cLine) : OpR X (compareOp .NotEq) (rNeX X.K) := op_ne.or (op_neD hu)
theorem nonB_of {d : Sv} {v : V} (h : RS K N H ι d v) : decide (v = .non) = nonB d := by
  cases d with
  | ref n => obtain ⟨a, rfl, _⟩ := h; rfl
  | bor ds => obtain ⟨a, xs, rfl, _⟩ := h; rfl
  | d d =>
  cases d with
  | non => cases (show _ = _ from h); rfl
  | bl b => cases (show _ = _ from h); rfl
  | int b => cases (show _ = _ from h); rfl
  | str b => cases (show _ = _ from h); rfl
  | fn b => cases (show _ = _ from h); rfl
  | dn ks ds => obtain ⟨a, xs, o, rfl, _⟩ := h; rfl
  | dk ks ds => obtain ⟨a, xs, o, rfl, _⟩ := h; rfl
  | cls n => cases (show _ = _ from h); rfl
  | exc n f => obtain ⟨a, oe, vs, rfl, _⟩ := h; rfl
  | ty b => cases (show _ = _ from h); rfl
  | tup ds => obtain ⟨a, xs, rfl, _⟩ := h; rfl
  | lst ds => obtain ⟨a, xs, rfl, _⟩ := h; rfl
  | scr ds => obtain ⟨a, rfl, _⟩ := h; rfl
def rIsX : R2 := fun x y H Q => (y = .non ∧ Q (.bl (decide (x = .non))) H) ∨ rIsB x y H Q
theorem op_isX : OpR X (compareOp .Is) rIsX := op_isN.or op_isBl
theorem rd_is : Rd2 K rIsX isD := by
  intro G δ M ι σ H x y v u d S rx ry e Q z
  unfold isD at e
  split at e
  · cases e; cases (show _ = _ from ry)
    refine .inl ⟨rfl, ?_⟩
    rw [nonB_of rx]; exact fin_same S z rfl
  · cases e; cases (show _ = _ from rx); cases (show _ = _ from ry)
    exact .inr ⟨_, _, rfl, rfl, fin_same S z rfl⟩
  · cases e
end
def tyN (M : Mem) : Sv → Option String
  | .d .non => some "NoneType"
  | .d (.bl _) => some "bool"
  | .d (.int _) => some "int"
  | .d (.str _) => some "str"
  | .d (.tup _) => some "tuple"
  | .d (.lst _) => some "list"
  | .bor _ => some "list"
  | .d (.scr _) => some "list"
  | .ref n => match M[n]? with
    | some (.lst _) => some "list"
    | some (.dk _) => some "dict"
    | _ => none
  | _ => none
/-- whether a thing of the first type is one of the second -/
def subT (a t : String) : Bool := decide (a = t) || (decide (a = "bool") && decide (t = "int"))
def known (t : String) : Bool := decide (t = "int") || decide (t = "bool") || decide (t = "str") || decide (t = "tuple") || decide (t = "list") || decide (t = "dict")
def isiD (M : Mem) : List Sv → Option Sv
  | [x, .d (.ty t)] => (tyN M x).bind fun a => gd (known t = true) (.d (.bl (subT a t)))
  | [x, .d (.tup [.ty t, .ty u])] => (tyN M x).bind fun a => gd (known t = true ∧ known u = true) (.d (.bl (subT a t || subT a u)))
  | _ => none
section
variable {K : PySem.W.Frag} {X : Cx} {G : Gd} {e a b : Expr} {es : List Expr} {pos : Pos} {ta tb : TE'} {N : Bool → Addr → Prop} {H : Hp} {ι : Ix}
theorem kit_all : ∀ a ∈ ["NoneType", "bool", "int", "str", "tuple", "list", "dict"], ∀ t ∈ ["int", "bool", "str", "tuple", "list", "dict"], kitB a t = some (subT a t) := by decide +kernel
theorem known_mem {t : String} (h : known t = true) : t ∈ ["int", "bool", "str", "tuple", "list", "dict"] := by
  unfold known at h
  simp only [Bool.or_eq_true, decide_eq_true_eq] at h
  simp only [List.mem_cons, List.not_mem_nil, or_false]
  rcases h with ((((h | h) | h) | h) | h) | h <;> simp [h]
theorem ty_of {δ : DS} {M : Mem} {σ : L2.St} {d : Sv} {v : V} {t : String} (S : Sr K G δ M ι σ H) (h : RS K G.N H ι d v) (e : tyN M d = some t) : TyX K H v (.type t) ∧ t ∈ ["NoneType", "bool", "int", "str", "tuple", "list", "dict"] := by
  cases d with
  | ref n =>
    simp only [tyN] at e
    split at e
    · rename_i ds hM
      cases e
      obtain ⟨a, rfl, hn, xs, q, _⟩ := S.mem.at h hM (fun z => nomatch z)
      exact ⟨.base (.lst q), by decide⟩
    · rename_i ds hM
      cases e
      obtain ⟨a, rfl, hn, xs, q, _⟩ := S.mem.at h hM (fun z => nomatch z)
      exact ⟨.base (.dK q), by decide⟩
    · cases e
  | bor ds => cases e; obtain ⟨a, xs, rfl, q, _⟩ := h; exact ⟨.base (.lst q), by decide⟩
  | d d =>
  cases d with
  | non => cases e; cases (show _ = _ from h); exact ⟨.base .non, by decide⟩
  | bl b => cases e; cases (show _ = _ from h); exact ⟨.base (.bl _), by decide⟩
  | int b => cases e; cases (show _ = _ from h); exact ⟨.base (.int _), by decide⟩
  | str b => cases e; cases (show _ = _ from h); exact ⟨.base (.str _), by decide⟩
  | tup ds =>
    cases e
    obtain ⟨a, xs, rfl, q, _⟩ := h
    rcases q with ⟨q, _⟩ | ⟨o, its, n, q, hc, _⟩
    · exact ⟨.base (.tup q), by decide⟩
    · exact ⟨.kTuple q hc, by decide⟩
  | lst ds => cases e; obtain ⟨a, xs, rfl, q, _⟩ := h; exact ⟨.base (.lst q), by decide⟩
  | scr ns =>
    cases e
    obtain ⟨a, rfl, ⟨o, q, _⟩ | ⟨o, its, n, q, hc, _⟩, _⟩ := h
    · exact ⟨.base (.frz q), by decide⟩
    · exact ⟨.kList q hc, by decide⟩
  | fn b => cases e
  | dn ks ds => cases e
  | dk ks ds => cases e
  | cls n => cases e
  | exc n f => cases e
  | ty b => cases e
theorem rd_isi : RdN K (fun xs H Q => (fun xs H Q => rIsi K xs H Q ∨ rIsiT K xs H Q) xs H Q ∨ rIsiK K xs H Q) isiD := by
  intro G δ M ι σ H xs vs d S rx e Q z
  unfold isiD at e
  split at e
  · rename_i x t
    obtain ⟨v, r, rfl, h1, h2⟩ := rx
    obtain ⟨u, r', rfl, h3, h4⟩ := h2
    cases (show _ = _ from h3); cases (show _ = _ from h4)
    cases q : tyN M x with
    | none => rw [q] at e; cases e
    | some a =>
      rw [q] at e
      obtain ⟨hc, rfl⟩ := gd_some (show gd _ _ = some d from e)
      obtain ⟨h5, h6⟩ := ty_of S h1 q
      exact .inl (.inl ⟨v, .ty t, _, _, _, rfl, .ty t, h5, kit_ty (kit_all a h6 t (known_mem hc)), fin_same S z rfl⟩)
  · rename_i x t u
    obtain ⟨v, r, rfl, h1, h2⟩ := rx
    obtain ⟨w, r', rfl, h3, h4⟩ := h2
    cases (show _ = _ from h4)
    obtain ⟨tp, cs, rfl, hq, _, h7⟩ := h3
    obtain ⟨c1, r1, rfl, h8, h9⟩ := h7
    obtain ⟨c2, r2, rfl, h10, h11⟩ := h9
    cases (show _ = _ from h11); cases (show _ = _ from h8); cases (show _ = _ from h10)
    cases q : tyN M x with
    | none => rw [q] at e; cases e
    | some a =>
      rw [q] at e
      obtain ⟨⟨hc, hc2⟩, rfl⟩ := gd_some (show gd _ _ = some d from e)
      obtain ⟨h5, h6⟩ := ty_of S h1 q
      have hk : PySem.W.kitAny K (.type a) [.type t, .type u] = some (subT a t || subT a u) := by
        refine kitAny_cons (kit_ty (kit_all a h6 t (known_mem hc))) (fun h => ?_) fun h => by rw [h]; rfl
        refine kitAny_cons (kit_ty (kit_all a h6 u (known_mem hc2))) (fun h' => ?_) fun h' => by rw [h, h']; rfl
        rw [h, h']; exact kitAny_nil
      rcases hq with ⟨hq, _⟩ | ⟨o, its, n, hq, hcl, hda, hsz, hv⟩
      · exact .inl (.inr ⟨v, tp, _, _, _, _, rfl, hq, .cons (.ty t) (.cons (.ty u) .nil), h5, hk, fin_same S z rfl⟩)
      · obtain ⟨oc, od, dt, sl⟩ := o
        simp only at hcl hda
        subst hcl hda
        obtain ⟨u1, u2, e3, r1, r2⟩ := vals2 hv
        cases (show _ = _ from r1); cases (show _ = _ from r2)
        exact .inr ⟨v, tp, od, [.type t, .type u], n, sl, _, _, rfl, by rw [← e3]; exact hq, h5, hk, fin_same S z rfl⟩
  · cases e
end
end VL
set_option Elab.async false
set_option linter.all false
set_option maxRecDepth 100000
set_option maxHeartbeats 4000000
namespace VL
open PySem PySem.Spec L2
def lenOf (M : Mem) (d : Sv) : Option Int := match d with
  | .d (.str s) => gd (s.length ≤ sizeLine) (s.length : Int)
  | .ref n => (match M[n]? with
    | some (.lst ds) => some (ds.length : Int)
    | some (.dk kvs) => some (kvs.length : Int)
    | _ => none)
  | d => (seqD M d).map fun ds => (ds.length : Int)
def intS (i : Int) : Sv := .d (.int i)
def lenD (M : Mem) : List Sv → Option Sv
  | [d] => (lenOf M d).map intS
  | _ => none
def absD (_ : Mem) : List Sv → Option Sv
  | [.d (.int i)] => some (.d (.int (if i < 0 then -i else i)))
  | _ => none
def intsOf : List D → Option (List Int)
  | [] => some []
  | .int i :: ds => (intsOf ds).map (i :: ·)
  | _ => none
def blsOf : List D → Option (List Bool)
  | [] => some []
  | .bl i :: ds => (blsOf ds).map (i :: ·)
  | _ => none
/-- the items of a list (no tuple) -/
def lstD (M : Mem) : Sv → Option (List D)
  | .d (.lst ds) => some ds
  | .bor ds => some ds
  | .d (.scr ns) => some (ns.map D.int)
  | .ref n => cellL M[n]?
  | _ => none
def minI : List Int → Int
  | [] => 0
  | [x] => x
  | x :: xs => let m := minI xs; if m < x then m else x
def maxI : List Int → Int
  | [] => 0
  | [x] => x
  | x :: xs => let m := maxI xs; if x < m then m else x
def minD (M : Mem) : List Sv → Option Sv
  | [.d (.int i), .d (.int j)] => some (.d (.int (if j < i then j else i)))
  | [d] => (lstD M d).bind fun ds => (intsOf ds).bind fun ns => gd (ns ≠ []) (intS (minI ns))
  | _ => none
def maxD (M : Mem) : List Sv → Option Sv
  | [.d (.int i), .d (.int j)] => some (.d (.int (if j > i then j else i)))
  | [d] => (lstD M d).bind fun ds => (intsOf ds).bind fun ns => gd (ns ≠ []) (intS (maxI ns))
  | _ => none
def intD (_ : Mem) : List Sv → Option Sv
  | [.d (.int i)] => some (.d (.int i))
  | [.d (.bl k)] => some (.d (.int (if k then 1 else 0)))
  | _ => none
def allD (M : Mem) : List Sv → Option Sv
  | [d] => (lstD M d).bind fun ds => (blsOf ds).map fun bs => blS (bs.all id)
  | _ => none
def anyD (M : Mem) : List Sv → Option Sv
  | [d] => (lstD M d).bind fun ds => (blsOf ds).map fun bs => blS (bs.any id)
  | _ => none
section
variable {K : PySem.W.Frag} {X : Cx} {G : Gd} {e a b : Expr} {es : List Expr} {pos : Pos} {ta tb : TE'} {N : Bool → Addr → Prop} {H : Hp} {ι : Ix}
theorem intsOf_some : ∀ {ds : List D} {ns : List Int}, intsOf ds = some ns → ds = ns.map .int
  | [], _, h => by cases h; rfl
  | .int i :: ds, ns, h => by
    simp only [intsOf] at h
    cases q : intsOf ds with
    | none => rw [q] at h; cases h
    | some ms => rw [q] at h; cases h; rw [intsOf_some q]; rfl
  | .non :: _, _, h => by cases h
  | .bl _ :: _, _, h => by cases h
  | .str _ :: _, _, h => by cases h
  | .tup _ :: _, _, h => by cases h
  | .lst _ :: _, _, h => by cases h
  | .scr _ :: _, _, h => by cases h
  | .fn _ :: _, _, h => by cases h
  | .dn _ _ :: _, _, h => by cases h
  | .dk _ _ :: _, _, h => by cases h
  | .cls _ :: _, _, h => by cases h
  | .exc _ _ :: _, _, h => by cases h
  | .ty _ :: _, _, h => by cases h
theorem blsOf_some : ∀ {ds : List D} {ns : List Bool}, blsOf ds = some ns → ds = ns.map .bl
  | [], _, h => by cases h; rfl
  | .bl i :: ds, ns, h => by
    simp only [blsOf] at h
    cases q : blsOf ds with
    | none => rw [q] at h; cases h
    | some ms => rw [q] at h; cases h; rw [blsOf_some q]; rfl
  | .non :: _, _, h => by cases h
  | .int _ :: _, _, h => by cases h
  | .str _ :: _, _, h => by cases h
  | .tup _ :: _, _, h => by cases h
  | .lst _ :: _, _, h => by cases h
  | .scr _ :: _, _, h => by cases h
  | .fn _ :: _, _, h => by cases h
  | .dn _ _ :: _, _, h => by cases h
  | .dk _ _ :: _, _, h => by cases h
  | .cls _ :: _, _, h => by cases h
  | .exc _ _ :: _, _, h => by cases h
  | .ty _ :: _, _, h => by cases h
theorem intsOf_map (ns : List Int) : intsOf (ns.map .int) = some ns := by
  induction ns with
  | nil => rfl
  | cons n ns ih => simp [intsOf, ih]
theorem blsOf_map (ns : List Bool) : blsOf (ns.map .bl) = some ns := by
  induction ns with
  | nil => rfl
  | cons n ns ih => simp [blsOf, ih]
/-- a list's value and items -/
theorem lst_of {δ : DS} {M : Mem} {σ : L2.St} {d : Sv} {v : V} {ds : List D} (S : Sr K G δ M ι σ H) (h : RS K G.N H ι d v) (e : lstD M d = some ds) : ∃ a xs, v = .ref a ∧ SqL K H a xs ∧ RDs K G.N H ι ds xs := by
  cases d with
  | ref n =>
    obtain ⟨a, e1, hn, xs, q, _, r⟩ := S.mem.at h (cellL_some (show cellL M[n]? = some ds from e)) (fun z => nomatch z)
    exact ⟨a, xs, e1, SqL.of q, r⟩
  | bor es => cases e; obtain ⟨a, xs, e1, q, n, _, _, r⟩ := h; exact ⟨a, xs, e1, SqL.of q, r⟩
  | d d =>
    cases d with
    | lst es => cases e; obtain ⟨a, xs, e1, q, n, z, _, r⟩ := h; exact ⟨a, xs, e1, SqL.of q, r⟩
    | scr ns =>
      cases e
      obtain ⟨a, e1, ⟨o, q, n⟩ | q, _⟩ := h
      · exact ⟨a, _, e1, .inl (.inr ⟨o, q⟩), RDs.of_ints ns⟩
      · exact ⟨a, _, e1, .inr q, RDs.of_ints ns⟩
    | _ => cases e
theorem one_of {x : Sv} {vs : List V} (h : RSs K N H ι [x] vs) : ∃ v, vs = [v] ∧ RS K N H ι x v := by
  obtain ⟨v, r, rfl, h1, h2⟩ := h
  cases (show _ = _ from h2)
  exact ⟨v, rfl, h1⟩
theorem two_of {x y : Sv} {vs : List V} (h : RSs K N H ι [x, y] vs) : ∃ v u, vs = [v, u] ∧ RS K N H ι x v ∧ RS K N H ι y u := by
  obtain ⟨v, r, rfl, h1, h2⟩ := h
  obtain ⟨u, rfl, h3⟩ := one_of h2
  exact ⟨v, u, rfl, h1, h3⟩
def rLenX (K : PySem.W.Frag) : List V → Hp → VK → Prop := fun xs H Q => (∃ x n, xs = [x] ∧ LenV K x H n ∧ Q (.int n) H) ∨ (∃ a kvs, xs = [V.ref a] ∧ H a = some (.dK kvs) ∧ Q (.int kvs.length) H)
theorem call_lenX : CallR X (.builtin "len") (rLenX X.K) := call_len.or call_lenD
theorem rd_len : RdN K (rLenX K) lenD := by
  intro G δ M ι σ H xs vs d S rx e Q z
  unfold lenD at e
  split at e
  · rename_i x
    obtain ⟨v, rfl, r⟩ := one_of rx
    cases q : lenOf M x with
    | none => rw [q] at e; cases e
    | some n =>
      rw [q] at e; cases e
      unfold lenOf at q
      split at q
      · obtain ⟨hc, rfl⟩ := gd_some q
        cases (show _ = _ from r)
        exact .inl ⟨_, _, rfl, ⟨hc, rfl⟩, fin_same S z rfl⟩
      · split at q
        · rename_i ds hM
          cases q
          obtain ⟨a, rfl, hn, ys, hH, _, ry⟩ := S.mem.at r hM (fun z => nomatch z)
          refine .inl ⟨_, ys.length, rfl, .inl ⟨ys, SqL.of hH, rfl⟩, ?_⟩
          rw [← ry.length]; exact fin_same S z rfl
        · rename_i kvs hM
          cases q
          obtain ⟨a, rfl, hn, ws, hH, e1, ry⟩ := S.mem.at r hM (fun z => nomatch z)
          refine .inr ⟨a, ws, rfl, hH, ?_⟩
          have hl : kvs.length = ws.length := by simpa using congrArg List.length e1
          rw [← hl]; exact fin_same S z rfl
        · cases q
      · cases hs : seqD M x with
        | none => rw [hs] at q; cases q
        | some ds =>
          rw [hs] at q; cases q
          obtain ⟨a, ys, rfl, hq, ry⟩ := seq_of S r hs
          refine .inl ⟨_, ys.length, rfl, ?_, ?_⟩
          · rcases hq with hq | hq
            · exact .inl ⟨ys, hq, rfl⟩
            · exact .inr ⟨ys, hq, rfl⟩
          · rw [← ry.length]; exact fin_same S z rfl
  · cases e
theorem rd_abs : RdN K (fun xs H Q => ∃ i, xs = [V.int i] ∧ Q (.int (if i < 0 then -i else i)) H) absD := by
  intro G δ M ι σ H xs vs d S rx e Q z
  unfold absD at e
  split at e
  · cases e
    obtain ⟨v, rfl, r⟩ := one_of rx
    cases (show _ = _ from r)
    exact ⟨_, rfl, fin_same S z rfl⟩
  · cases e
theorem minI_cons {x y : Int} {ns : List Int} : minI (x :: y :: ns) = if minI (y :: ns) < x then minI (y :: ns) else x := rfl
theorem maxI_cons {x y : Int} {ns : List Int} : maxI (x :: y :: ns) = if x < maxI (y :: ns) then maxI (y :: ns) else x := rfl
theorem minI_mem : ∀ {ns : List Int}, ns ≠ [] → minI ns ∈ ns ∧ ∀ y ∈ ns, minI ns ≤ y
  | [], h => (h rfl).elim
  | [x], _ => ⟨by simp [minI], by simp [minI]⟩
  | x :: y :: ns, _ => by
    obtain ⟨h1, h2⟩ := minI_mem (ns := y :: ns) (by simp)
    rw [minI_cons]
    by_cases hc : (minI (y :: ns)) < x
    · rw [if_pos hc]
      refine ⟨List.mem_cons_of_mem _ h1, fun z hz => ?_⟩
      rcases List.mem_cons.mp hz with rfl | hz
      · omega
      · exact h2 z hz
    · rw [if_neg hc]
      refine ⟨List.mem_cons_self, fun z hz => ?_⟩
      rcases List.mem_cons.mp hz with rfl | hz
      · omega
      · have := h2 z hz; omega
theorem maxI_mem : ∀ {ns : List Int}, ns ≠ [] → maxI ns ∈ ns ∧ ∀ y ∈ ns, y ≤ maxI ns
  | [], h => (h rfl).elim
  | [x], _ => ⟨by simp [maxI], by simp [maxI]⟩
  | x :: y :: ns, _ => by
    obtain ⟨h1, h2⟩ := maxI_mem (ns := y :: ns) (by simp)
    rw [maxI_cons]
    by_cases hc : x < (maxI (y :: ns))
    · rw [if_pos hc]
      refine ⟨List.mem_cons_of_mem _ h1, fun z hz => ?_⟩
      rcases List.mem_cons.mp hz with rfl | hz
      · omega
      · exact h2 z hz
    · rw [if_neg hc]
      refine ⟨List.mem_cons_self, fun z hz => ?_⟩
      rcases List.mem_cons.mp hz with rfl | hz
      · omega
      · have := h2 z hz; omega
def rMinX (K : PySem.W.Frag) : List V → Hp → VK → Prop := fun xs H Q => (∃ i j, xs = [V.int i, .int j] ∧ Q (.int (if j < i then j else i)) H) ∨ rMin K xs H Q
def rMaxX (K : PySem.W.Frag) : List V → Hp → VK → Prop := fun xs H Q => (∃ i j, xs = [V.int i, .int j] ∧ Q (.int (if j > i then j else i)) H) ∨ rMax K xs H Q
theorem call_minX (hc : X.calm = true) : CallR X (.builtin "min") (rMinX X.K) := (call_min2 hc).or (cr_min hc)
theorem call_maxX (hc : X.calm = true) : CallR X (.builtin "max") (rMaxX X.K) := (call_max2 hc).or (cr_max hc)
theorem lints_of {δ : DS} {M : Mem} {σ : L2.St} {x d : Sv} {v : V} {f : List Int → Option Sv} (S : Sr K G δ M ι σ H) (r : RS K G.N H ι x v) (e : ((lstD M x).bind fun ds => (intsOf ds).bind f) = some d) :
    ∃ a ns, v = .ref a ∧ SqL K H a (ns.map V.int) ∧ f ns = some d := by
  cases q : lstD M x with
  | none => rw [q] at e; cases e
  | some ds =>
    rw [q] at e
    obtain ⟨a, xs, rfl, hs, ry⟩ := lst_of S r q
    cases qi : intsOf ds with
    | none => simp only [Option.bind_some, qi] at e; cases e
    | some ns =>
      simp only [Option.bind_some, qi] at e
      rw [intsOf_some qi] at ry
      rw [ry.ints] at hs
      exact ⟨a, ns, rfl, hs, e⟩
theorem lbls_of {δ : DS} {M : Mem} {σ : L2.St} {x d : Sv} {v : V} {f : List Bool → Option Sv} (S : Sr K G δ M ι σ H) (r : RS K G.N H ι x v) (e : ((lstD M x).bind fun ds => (blsOf ds).bind f) = some d) :
    ∃ a ns, v = .ref a ∧ SqL K H a (ns.map V.bl) ∧ f ns = some d := by
  cases q : lstD M x with
  | none => rw [q] at e; cases e
  | some ds =>
    rw [q] at e
    obtain ⟨a, xs, rfl, hs, ry⟩ := lst_of S r q
    cases qi : blsOf ds with
    | none => simp only [Option.bind_some, qi] at e; cases e
    | some ns =>
      simp only [Option.bind_some, qi] at e
      rw [blsOf_some qi] at ry
      rw [ry.bls] at hs
      exact ⟨a, ns, rfl, hs, e⟩
theorem rd_min : RdN K (rMinX K) minD := by
  intro G δ M ι σ H xs vs d S rx e Q z
  unfold minD at e
  split at e
  · cases e
    obtain ⟨v, u, rfl, r1, r2⟩ := two_of rx
    cases (show _ = _ from r1); cases (show _ = _ from r2)
    exact .inl ⟨_, _, rfl, fin_same S z rfl⟩
  · obtain ⟨v, rfl, r⟩ := one_of rx
    obtain ⟨a, ns, rfl, hs, e⟩ := lints_of S r e
    obtain ⟨hc, rfl⟩ := gd_some e
    refine .inr ⟨a, ns, rfl, hs, List.length_pos_iff.mpr hc, fun m hm hl => ?_⟩
    obtain ⟨h1, h2⟩ := minI_mem hc
    have : m = minI ns := by have := h2 m hm; have := hl _ h1; omega
    subst this
    exact fin_same S z rfl
  · cases e
theorem rd_max : RdN K (rMaxX K) maxD := by
  intro G δ M ι σ H xs vs d S rx e Q z
  unfold maxD at e
  split at e
  · cases e
    obtain ⟨v, u, rfl, r1, r2⟩ := two_of rx
    cases (show _ = _ from r1); cases (show _ = _ from r2)
    exact .inl ⟨_, _, rfl, fin_same S z rfl⟩
  · obtain ⟨v, rfl, r⟩ := one_of rx
    obtain ⟨a, ns, rfl, hs, e⟩ := lints_of S r e
    obtain ⟨hc, rfl⟩ := gd_some e
    refine .inr ⟨a, ns, rfl, hs, List.length_pos_iff.mpr hc, fun m hm hl => ?_⟩
    obtain ⟨h1, h2⟩ := maxI_mem hc
    have : m = maxI ns := by have := h2 m hm; have := hl _ h1; omega
    subst this
    exact fin_same S z rfl
  · cases e
theorem rd_intC : RdN K (fun xs H Q => (∃ i, xs = [V.int i] ∧ Q (.int i) H) ∨ ∃ k, xs = [V.bl k] ∧ Q (.int (if k then 1 else 0)) H) intD := by
  intro G δ M ι σ H xs vs d S rx e Q z
  unfold intD at e
  split at e
  · cases e
    obtain ⟨v, rfl, r⟩ := one_of rx
    cases (show _ = _ from r)
    exact .inl ⟨_, rfl, fin_same S z rfl⟩
  · cases e
    obtain ⟨v, rfl, r⟩ := one_of rx
    cases (show _ = _ from r)
    exact .inr ⟨_, rfl, fin_same S z rfl⟩
  · cases e
theorem rd_all : RdN K (rAll K) allD := by
  intro G δ M ι σ H xs vs d S rx e Q z
  unfold allD at e
  split at e
  · obtain ⟨v, rfl, r⟩ := one_of rx
    obtain ⟨a, ns, rfl, hs, e⟩ := lbls_of (f := fun ns => some (blS (ns.all id))) S r (by simpa only [Option.map_eq_bind, Function.comp_def] using e)
    cases e
    exact ⟨a, ns, rfl, hs, fin_same S z rfl⟩
  · cases e
theorem rd_any : RdN K (rAny K) anyD := by
  intro G δ M ι σ H xs vs d S rx e Q z
  unfold anyD at e
  split at e
  · obtain ⟨v, rfl, r⟩ := one_of rx
    obtain ⟨a, ns, rfl, hs, e⟩ := lbls_of (f := fun ns => some (blS (ns.any id))) S r (by simpa only [Option.map_eq_bind, Function.comp_def] using e)
    cases e
    exact ⟨a, ns, rfl, hs, fin_same S z rfl⟩
  · cases e
end
def truth (M : Mem) : Sv → Option Bool
  | .d .non => some false
  | .d (.bl b) => some b
  | .d (.int i) => some (i != 0)
  | .d (.str s) => gd (s.length ≤ sizeLine) ((s.length : Int) != 0)
  | .ref n => match M[n]? with
    | some (.lst ds) => some !ds.isEmpty
    | some (.dk kvs) => some !kvs.isEmpty
    | _ => none
  | d => (seqD M d).map fun ds => !ds.isEmpty
abbrev TT' := DS → Mem → (Bool → Mem → Prop) → Prop
def lT (K : PySem.W.Frag) (G : Gd) (t : TT') : TT := fun σ H Q => ∃ δ M ι Q0, Sr K G δ M ι σ H ∧ t δ M Q0 ∧
  ∀ b M' ι' H', Q0 b M' → Ex ι ι' → Kp ι H ι' H' → Sr K G δ M' ι' σ H' → Q b H'
abbrev VT (X : Cx) (G : Gd) (e : Expr) (t : TT') : Prop := PT X e (lT X.K G t)
abbrev VW (X : Cx) (G : Gd) (e : Expr) (t : TT') : Prop := PW X e (lT X.K G t)
abbrev PB := DS → Mem → Option Bool
def cP (p : PB) : TT' := fun δ M Q => ok (p δ M) fun b => Q b M
def tTr (t : TE') : TT' := fun δ M Q => t δ M fun d M' => ok (truth M' d) fun b => Q b M'
def bTr (p : PV) : PB := fun δ M => (p δ M).bind (truth M)
def blD : Sv → Option Bool
  | .d (.bl b) => some b
  | _ => none
def tTb (t : TE') : TT' := fun δ M Q => t δ M fun d M' => ok (blD d) fun b => Q b M'
def bB (p : PV) : PB := fun δ M => (p δ M).bind blD
def tAn (t u : TT') : TT' := fun δ M Q => t δ M fun b M' => if b then u δ M' Q else Q false M'
def tOrr (t u : TT') : TT' := fun δ M Q => t δ M fun b M' => if b then Q true M' else u δ M' Q
def tNt (t : TT') : TT' := fun δ M Q => t δ M fun b M' => Q (!b) M'
def bAn (p q : PB) : PB := fun δ M => (p δ M).bind fun b => if b then q δ M else some false
def bOr (p q : PB) : PB := fun δ M => (p δ M).bind fun b => if b then some true else q δ M
def bNt (p : PB) : PB := fun δ M => (p δ M).map fun b => !b
section
variable {K : PySem.W.Frag} {X : Cx} {G : Gd} {e a b c : Expr} {es rest : List Expr} {pos : Pos} {ta tb : TE'} {t u : TT'} {p q : PB}
theorem VT.weak {t' : TT'} (h : VT X G e t) (w : ∀ δ M Q, t' δ M Q → t δ M Q) : VT X G e t' :=
  ⟨fun pins s σ H Q I ⟨δ, M, ι, Q0, S, q, z⟩ => h.run pins s σ H Q I ⟨δ, M, ι, Q0, S, w _ _ _ q, z⟩⟩
theorem VW.weak {t' : TT'} (h : VW X G e t) (w : ∀ δ M Q, t' δ M Q → t δ M Q) : VW X G e t' :=
  ⟨fun wh pins s σ H Q I ⟨δ, M, ι, Q0, S, q, z⟩ => h.run wh pins s σ H Q I ⟨δ, M, ι, Q0, S, w _ _ _ q, z⟩⟩
theorem truth_of {δ : DS} {M : Mem} {ι : Ix} {σ : L2.St} {H : Hp} {d : Sv} {v : V} {k : Bool} (S : Sr K G δ M ι σ H) (h : RS K G.N H ι d v) (e : truth M d = some k) : TruV K v H k := by
  cases d with
  | ref n =>
    simp only [truth] at e
    split at e
    · rename_i ds hM
      cases e
      obtain ⟨a, rfl, hn, xs, q, _, r⟩ := S.mem.at h hM (fun z => nomatch z)
      refine .inl ⟨xs, SqL.of q, ?_⟩
      have := r.length
      cases ds <;> cases xs <;> simp_all
    · rename_i kvs hM
      cases e
      obtain ⟨a, rfl, hn, ws, q, e1, r⟩ := S.mem.at h hM (fun z => nomatch z)
      refine .inr (.inr ⟨ws, q, ?_⟩)
      have hl : kvs.length = ws.length := by simpa using congrArg List.length e1
      cases kvs <;> cases ws <;> simp_all
    · cases e
  | bor ds =>
    cases e
    obtain ⟨a, xs, rfl, q, _, _, _, r⟩ := h
    refine .inl ⟨xs, SqL.of q, ?_⟩
    have := r.length
    cases ds <;> cases xs <;> simp_all
  | d d =>
  cases d with
  | non => cases e; cases (show _ = _ from h); rfl
  | bl b => cases e; cases (show _ = _ from h); rfl
  | int i => cases e; cases (show _ = _ from h); rfl
  | str s => obtain ⟨hc, rfl⟩ := gd_some (show gd _ _ = some k from e); cases (show _ = _ from h); exact ⟨hc, rfl⟩
  | fn b => cases e
  | dn ks ds => cases e
  | dk ks ds => cases e
  | cls n => cases e
  | exc n f => cases e
  | ty b => cases e
  | tup ds =>
    cases e
    obtain ⟨a, xs, rfl, q, _, r⟩ := h
    refine .inr (.inl ⟨xs, tup_sq q, ?_⟩)
    have := r.length
    cases ds <;> cases xs <;> simp_all
  | lst ds =>
    cases e
    obtain ⟨a, xs, rfl, q, _, _, _, r⟩ := h
    refine .inl ⟨xs, SqL.of q, ?_⟩
    have := r.length
    cases ds <;> cases xs <;> simp_all
  | scr ns =>
    cases e
    obtain ⟨a, rfl, q, _⟩ := h
    have hsq : SqL K H a (ns.map V.int) := by
      rcases q with ⟨o, q', _⟩ | q'
      · exact .inl (.inr ⟨o, q'⟩)
      · exact .inr q'
    refine .inl ⟨_, hsq, ?_⟩
    cases ns <;> rfl
theorem fin_tr {σ : L2.St} {H : Hp} {Q : Bool → Hp → Prop} (h : lT K G (tTr ta) σ H Q) : lE K G ta σ H fun x H' => ∃ k, TruV K x H' k ∧ Q k H' := by
  obtain ⟨δ, M, ι, Q0, S, h, z⟩ := h
  refine th1 S h fun x M1 ι1 H1 v h1 p1 k1 S1 r1 => ?_
  obtain ⟨k, e, h1⟩ := ok_elim h1
  exact ⟨k, truth_of S1 r1 e, z k M1 ι1 H1 h1 p1 k1 S1⟩
/-- the test of a value's truth -/
theorem vt_val (ha : VE X G a ta) (he : ∀ whole, isTrue a X.env whole = (do let v ← whole; standAt a.pos; holding [v] (truthy v)) := by exact fun _ => rfl) : VT X G a (tTr ta) := by
  have h := pt_truth ha he
  exact ⟨fun pins s σ H Q I q => h.run pins s σ H Q I (fin_tr q)⟩
theorem VT.pure (h : VT X G a (tTr (eP v))) : VT X G a (cP (bTr v)) := h.weak fun δ M Q h => by
  unfold cP bTr at h; rw [ok_bind] at h; exact h
theorem fin_tb {σ : L2.St} {H : Hp} {Q : Bool → Hp → Prop} (h : lT K G (tTb ta) σ H Q) : lE K G ta σ H fun x H' => ∃ k, x = .bl k ∧ Q k H' := by
  obtain ⟨δ, M, ι, Q0, S, h, z⟩ := h
  refine th1 S h fun x M1 ι1 H1 v h1 p1 k1 S1 r1 => ?_
  obtain ⟨k, e, h1⟩ := ok_elim h1
  unfold blD at e
  split at e
  · cases e; cases (show _ = _ from r1); exact ⟨_, rfl, z _ M1 ι1 H1 h1 p1 k1 S1⟩
  · cases e
theorem vt_cmp {op : CmpOp} {r : R2} {f : Mem → Sv → Sv → Option Sv} (ho : OpR X (compareOp op) r) (hf : Rd2 X.K r f) (ha : VE X G a ta) (hb : VE X G b tb) (hm : behindInMarks op b = false) : VT X G (.Compare a [op] [b] pos) (tTb (eo2 f ta tb)) := by
  have h := pt_cmpR (pos := pos) ho ha hb hm
  exact ⟨fun pins s σ H Q I q => h.run pins s σ H Q I (fin2 hf (fin_tb q))⟩
theorem VT.pureB2 {f : Mem → Sv → Sv → Option Sv} {v w : PV} (h : VT X G a (tTb (eo2 f (eP v) (eP w)))) : VT X G a (cP (bB (po2 f v w))) := h.weak fun δ M Q h => by
  unfold cP bB po2 at h
  rw [ok_bind, ok_bind] at h
  obtain ⟨d, q1, h⟩ := ok_elim h
  rw [ok_bind] at h
  exact ok_of q1 h
theorem vt_not (h : VT X G a t) : VT X G (.UnaryOp .Not a pos) (tNt t) := by
  have hn := pt_not (pos := pos) h
  exact ⟨fun pins s σ H Q I ⟨δ, M, ι, Q0, S, q, z⟩ => hn.run pins s σ H Q I ⟨δ, M, ι, _, S, q, fun b M' ι' H' q1 p1 k1 S1 => z (!b) M' ι' H' q1 p1 k1 S1⟩⟩
theorem vw_and1 (h : VT X G a t) : VW X G (.BoolOp .And [a] pos) t := pw_and1 h
theorem vw_or1 (h : VT X G a t) : VW X G (.BoolOp .Or [a] pos) t := pw_or1 h
theorem vw_and (h : VT X G a t) (h2 : VW X G (.BoolOp .And (b :: rest) pos) u) : VW X G (.BoolOp .And (a :: b :: rest) pos) (tAn t u) := by
  have hn := pw_and h h2
  refine ⟨fun wh pins s σ H Q I ⟨δ, M, ι, Q0, S, q, z⟩ => hn.run wh pins s σ H Q I ⟨δ, M, ι, _, S, q, fun b M' ι' H' q1 p1 k1 S1 => ?_⟩⟩
  cases b with
  | false => exact z false M' ι' H' q1 p1 k1 S1
  | true => exact ⟨δ, M', ι', Q0, S1, q1, fun b M2 ι2 H2 q2 p2 k2 S2 => z b M2 ι2 H2 q2 (p1.trans p2) (k1.trans k2) S2⟩
theorem vw_or (h : VT X G a t) (h2 : VW X G (.BoolOp .Or (b :: rest) pos) u) : VW X G (.BoolOp .Or (a :: b :: rest) pos) (tOrr t u) := by
  have hn := pw_or h h2
  refine ⟨fun wh pins s σ H Q I ⟨δ, M, ι, Q0, S, q, z⟩ => hn.run wh pins s σ H Q I ⟨δ, M, ι, _, S, q, fun b M' ι' H' q1 p1 k1 S1 => ?_⟩⟩
  cases b with
  | true => exact z true M' ι' H' q1 p1 k1 S1
  | false => exact ⟨δ, M', ι', Q0, S1, q1, fun b M2 ι2 H2 q2 p2 k2 S2 => z b M2 ι2 H2 q2 (p1.trans p2) (k1.trans k2) S2⟩
theorem VW.vt (h : VW X G a t) : VT X G a t := PW.pt h
theorem VT.pNot (h : VT X G a (tNt (cP p))) : VT X G a (cP (bNt p)) := h.weak fun δ M Q h => by
  unfold cP bNt at h; rw [ok_map] at h; exact h
theorem VW.pAn (h : VW X G a (tAn (cP p) (cP q))) : VW X G a (cP (bAn p q)) := h.weak fun δ M Q h => by
  unfold cP bAn at h
  rw [ok_bind] at h
  obtain ⟨d, q1, h⟩ := ok_elim h
  refine ok_of q1 ?_
  cases d <;> exact h
theorem VW.pOr (h : VW X G a (tOrr (cP p) (cP q))) : VW X G a (cP (bOr p q)) := h.weak fun δ M Q h => by
  unfold cP bOr at h
  rw [ok_bind] at h
  obtain ⟨d, q1, h⟩ := ok_elim h
  refine ok_of q1 ?_
  cases d <;> exact h
def eAn (ta tb : TE') : TE' := fun δ M Q => ta δ M fun x M1 => ok (truth M1 x) fun k => if k then tb δ M1 Q else Q x M1
def eOr (ta tb : TE') : TE' := fun δ M Q => ta δ M fun x M1 => ok (truth M1 x) fun k => if k then Q x M1 else tb δ M1 Q
def eNt (ta : TE') : TE' := fun δ M Q => ta δ M fun x M1 => ok (truth M1 x) fun k => Q (blS (!k)) M1
def eIf (t : TT') (ta tb : TE') : TE' := fun δ M Q => t δ M fun b M1 => if b then ta δ M1 Q else tb δ M1 Q
def poAn (a b : PV) : PV := fun δ M => (a δ M).bind fun x => (truth M x).bind fun k => if k then b δ M else some x
def poOr (a b : PV) : PV := fun δ M => (a δ M).bind fun x => (truth M x).bind fun k => if k then some x else b δ M
def poNt (a : PV) : PV := fun δ M => (a δ M).bind fun x => (truth M x).map fun k => blS (!k)
def poIf (t : PB) (a b : PV) : PV := fun δ M => (t δ M).bind fun k => if k then a δ M else b δ M
theorem ve_one {op} (h : VE X G a ta) : VE X G (.BoolOp op [a] pos) ta := pe_one h
theorem ve_and (ha : VE X G a ta) (hb : VE X G (.BoolOp .And (b :: rest) pos) tb) : VE X G (.BoolOp .And (a :: b :: rest) pos) (eAn ta tb) := by
  refine PE.weak (pe_andT ha hb) fun σ H Q ⟨δ, M, ι, Q0, S, h, z⟩ => ?_
  refine th1 S h fun x M1 ι1 H1 v h1 p1 k1 S1 r1 => ?_
  obtain ⟨k, e, h1⟩ := ok_elim h1
  refine ⟨k, truth_of S1 r1 e, ?_⟩
  cases k with
  | false => exact z x M1 ι1 H1 v h1 p1 k1 S1 r1
  | true => exact th1 S1 h1 fun y M2 ι2 H2 w h2 p2 k2 S2 r2 => z y M2 ι2 H2 w h2 (p1.trans p2) (k1.trans k2) S2 r2
theorem ve_not (ha : VE X G a ta) : VE X G (.UnaryOp .Not a pos) (eNt ta) := by
  refine PE.weak (pe_notT ha) fun σ H Q ⟨δ, M, ι, Q0, S, h, z⟩ => ?_
  refine th1 S h fun x M1 ι1 H1 v h1 p1 k1 S1 r1 => ?_
  obtain ⟨k, e, h1⟩ := ok_elim h1
  exact ⟨k, truth_of S1 r1 e, z _ M1 ι1 H1 _ h1 p1 k1 S1 rfl⟩
theorem ve_if (hc : VT X G c t) (ha : VE X G a ta) (hb : VE X G b tb) : VE X G (.IfExp c a b pos) (eIf t ta tb) := by
  refine PE.weak (pe_ifExp hc ha hb) fun σ H Q ⟨δ, M, ι, Q0, S, h, z⟩ => ⟨δ, M, ι, _, S, h, fun k M1 ι1 H1 h1 p1 k1 S1 => ?_⟩
  cases k with
  | true => exact th1 S1 h1 fun y M2 ι2 H2 w h2 p2 k2 S2 r2 => z y M2 ι2 H2 w h2 (p1.trans p2) (k1.trans k2) S2 r2
  | false => exact th1 S1 h1 fun y M2 ι2 H2 w h2 p2 k2 S2 r2 => z y M2 ι2 H2 w h2 (p1.trans p2) (k1.trans k2) S2 r2
theorem VE.pAn {v w : PV} (h : VE X G a (eAn (eP v) (eP w))) : VE X G a (eP (poAn v w)) := h.weak fun δ M Q h => by
  unfold eP poAn at h
  rw [ok_bind] at h
  obtain ⟨d, q1, h⟩ := ok_elim h
  rw [ok_bind] at h
  obtain ⟨k, q2, h⟩ := ok_elim h
  refine ok_of q1 (ok_of q2 ?_)
  cases k <;> exact h
theorem VE.pNt {v : PV} (h : VE X G a (eNt (eP v))) : VE X G a (eP (poNt v)) := h.weak fun δ M Q h => by
  unfold eP poNt at h
  rw [ok_bind] at h
  obtain ⟨d, q1, h⟩ := ok_elim h
  rw [ok_map] at h
  exact ok_of q1 h
theorem VE.pIf {v w : PV} (h : VE X G a (eIf (cP p) (eP v) (eP w))) : VE X G a (eP (poIf p v w)) := h.weak fun δ M Q h => by
  unfold eP poIf at h
  rw [ok_bind] at h
  obtain ⟨d, q1, h⟩ := ok_elim h
  refine ok_of q1 ?_
  cases d <;> exact h
end
end VL
set_option Elab.async false
set_option linter.all false
set_option maxRecDepth 100000
set_option maxHeartbeats 4000000
namespace VL
open PySem PySem.Spec L2
def dataS : Sv → Option D
  | .d x => some x
  | _ => none
def datas : List Sv → Option (List D)
  | [] => some []
  | x :: xs => (dataS x).bind fun d => (datas xs).map fun ds => d :: ds
/-- a new list of these -/
abbrev TF' := DS → Mem → (List D → Mem → Prop) → Prop
def lF (K : PySem.W.Frag) (G : Gd) (t : TF') : TE := fun σ H Q => ∃ δ M ι Q0, Sr K G δ M ι σ H ∧ t δ M Q0 ∧
  ∀ ds M' ι' H' xs p, Q0 ds M' → Ex ι ι' → Kp ι H ι' H' → Sr K G δ M' ι' σ H' → RDs K G.N H' ι' ds xs → ds.length ≤ sizeLine → H' p = none → Q (.ref p) (upd H' p (.lst xs))
abbrev VF (X : Cx) (G : Gd) (e : Expr) (t : TF') : Prop := PE X e (lF X.K G t)
def tTupE (t : TA') : TE' := fun δ M Q => t δ M fun xs M1 => ok (datas xs) fun ds => Q (.d (.tup ds)) M1
def tLstF (t : TA') : TF' := fun δ M Q => t δ M fun xs M1 => ok (datas xs) fun ds => Q ds M1
def eFz (t : TF') : TE' := fun δ M Q => t δ M fun ds M' => Q (.d (.lst ds)) M'
def eNw (t : TF') : TE' := fun δ M Q => t δ M fun ds M' => Q (.ref M'.length) (M' ++ [.lst ds])
abbrev PL := DS → Mem → Option (List D)
def fP (p : PL) : TF' := fun δ M Q => ok (p δ M) fun ds => Q ds M
def pFz (p : PL) : PV := fun δ M => (p δ M).map fun ds => .d (.lst ds)
def poTup (ps : List PV) : PV := fun δ M => ((pArgs ps δ M).bind datas).map fun ds => .d (.tup ds)
def plLst (ps : List PV) : PL := fun δ M => (pArgs ps δ M).bind datas
section
variable {K : PySem.W.Frag} {X : Cx} {G : Gd} {e a b : Expr} {es : List Expr} {pos : Pos} {ta tb t : TE'} {N : Bool → Addr → Prop} {H : Hp} {ι : Ix} {tf : TF'}
theorem VF.weak {t' : TF'} (h : VF X G e tf) (w : ∀ δ M Q, t' δ M Q → tf δ M Q) : VF X G e t' :=
  PE.weak h fun _ _ _ ⟨δ, M, ι, Q0, S, q, z⟩ => ⟨δ, M, ι, Q0, S, w _ _ _ q, z⟩
theorem datas_of : ∀ {xs : List Sv} {ds : List D} {vs : List V}, datas xs = some ds → RSs K N H ι xs vs → RDs K N H ι ds vs ∧ ds.length = xs.length
  | [], ds, vs, e, h => by cases e; exact ⟨h, rfl⟩
  | x :: xs, ds, vs, e, h => by
    obtain ⟨v, r, rfl, h1, h2⟩ := h
    cases x with
    | d d =>
      obtain ⟨ds', e2, rfl⟩ := Option.map_eq_some_iff.mp (show (datas xs).map (fun ds => d :: ds) = some ds from e)
      obtain ⟨h3, h4⟩ := datas_of e2 h2
      exact ⟨⟨v, r, rfl, h1, h3⟩, by simp [h4]⟩
    | ref n => cases e
    | bor n => cases e
theorem ve_tup {n k : Nat} {tA : TA'} (h : VA X G es n tA) (hn : n ≤ sizeLine := by decide) : VE X G (.Tuple es k pos) (tTupE tA) := by
  refine PE.weak (pe_tup h) fun σ H Q ⟨δ, M, ι, Q0, S, q, z⟩ => ?_
  refine thA S q fun xs M1 ι1 H1 vs hl h1 p1 k1 S1 r1 => ?_
  obtain ⟨ds, e, h1⟩ := ok_elim h1
  obtain ⟨r2, l2⟩ := datas_of e r1
  refine ⟨by rw [← r2.length, l2, hl]; exact hn, fun p hp => ?_⟩
  exact fin_tup S1 (fun ι' H' w e2 k2 S2 r3 => z _ M1 ι' H' w h1 (p1.trans e2) (k1.trans k2) S2 r3) r2 (by rw [l2, hl]; exact hn) hp
theorem vf_lst {n : Nat} {tA : TA'} (h : VA X G es n tA) (hn : n ≤ sizeLine := by decide) : VF X G (.List es pos) (tLstF tA) := by
  refine PE.weak (pe_lst h) fun σ H Q ⟨δ, M, ι, Q0, S, q, z⟩ => ?_
  refine thA S q fun xs M1 ι1 H1 vs hl h1 p1 k1 S1 r1 => ?_
  obtain ⟨ds, e, h1⟩ := ok_elim h1
  obtain ⟨r2, l2⟩ := datas_of e r1
  exact ⟨by rw [← r2.length, l2, hl]; exact hn, fun p hp => z ds M1 ι1 H1 vs p h1 p1 k1 S1 r2 (by rw [l2, hl]; exact hn) hp⟩
theorem VF.fz (h : VF X G e tf) : VE X G e (eFz tf) :=
  PE.weak h fun σ H Q ⟨δ, M, ι, Q0, S, q, z⟩ => ⟨δ, M, ι, _, S, q, fun ds M' ι' H' xs p h1 p1 k1 S1 r1 hl hp =>
    fin_lst S1 (fun ι2 H2 w e2 k2 S2 r3 => z _ M' ι2 H2 w h1 (p1.trans e2) (k1.trans k2) S2 r3) r1 hl hp⟩
theorem VF.nw (h : VF X G e tf) : VE X G e (eNw tf) :=
  PE.weak h fun σ H Q ⟨δ, M, ι, Q0, S, q, z⟩ => ⟨δ, M, ι, _, S, q, fun ds M' ι' H' xs p h1 p1 k1 S1 r1 hl hp => by
    have S2 := S1.named (o := .lst xs) (c := .lst ds) hp ⟨xs, upd_same, hl, r1.mono (Kp.named hp) fun _ _ _ _ q => q⟩
    refine z _ _ _ _ _ h1 (p1.trans (Ex.app _ _)) (k1.trans (Kp.named hp)) S2 ⟨p, rfl, .inl ?_⟩
    rw [S1.mem.len]; simp⟩
theorem VF.pure {p : PL} (h : VF X G e (fP p)) : VE X G e (eP (pFz p)) := h.fz.weak fun δ M Q h => by
  unfold eP pFz at h; rw [ok_map] at h; exact h
theorem VE.pTup {ps : List PV} (h : VE X G e (tTupE (aP ps))) : VE X G e (eP (poTup ps)) := h.weak fun δ M Q h => by
  unfold eP poTup at h
  rw [ok_map, ok_bind] at h
  exact h
theorem VF.pLst {ps : List PV} (h : VF X G e (tLstF (aP ps))) : VF X G e (fP (plLst ps)) := h.weak fun δ M Q h => by
  unfold fP plLst at h
  rw [ok_bind] at h
  exact h
end
def sSeq (t u : TS') : TS' := fun E δ M => t { E with nx := fun δ' M' => u E δ' M' } δ M
def sNil : TS' := fun E δ M => E.nx δ M
def sRet (t : TE') : TS' := fun E δ M => t δ M fun d M' => E.rt d M'
def sRetN : TS' := fun E δ M => E.rt (.d .non) M
def sDrop (t : TE') : TS' := fun E δ M => t δ M fun _ M' => E.nx δ M'
def sSet (i : Nat) (t : TE') : TS' := fun E δ M => t δ M fun d M' => E.nx (δ.set i (some d)) M'
def sIf (c : TT') (t u : TS') : TS' := fun E δ M => c δ M fun b M' => if b then t E δ M' else u E δ M'
section
variable {K : PySem.W.Frag} {X : Cx} {G : Gd} {e a b c : Expr} {st : Stmt} {ss ss' : List Stmt} {es : List Expr} {pos : Pos} {ta tb t : TE'} {tc : TT'} {s u : TS'}
theorem VS.weak {u' : TS'} (h : VS X G st u) (w : ∀ E δ M, u' E δ M → u E δ M) : VS X G st u' :=
  PS.weak h fun _ _ _ ⟨δ, M, ι, E0, S, q, z⟩ => ⟨δ, M, ι, E0, S, w _ _ _ q, z⟩
theorem VSs.weak {u' : TS'} (h : VSs X G ss u) (w : ∀ E δ M, u' E δ M → u E δ M) : VSs X G ss u' :=
  PSs.weak h fun _ _ _ ⟨δ, M, ι, E0, S, q, z⟩ => ⟨δ, M, ι, E0, S, w _ _ _ q, z⟩
theorem vss_nil : VSs X G [] sNil := PSs.weak pss_nil fun E σ H ⟨δ, M, ι, E0, S, q, z⟩ => z.nx δ M ι σ H q (Ex.refl _) (Kp.refl _ _) S
theorem vss_one (h : VS X G st s) : VSs X G [st] s := pss_one h
theorem vss_cons (h : VS X G st s) (h2 : VSs X G ss u) : VSs X G (st :: ss) (sSeq s u) :=
  PSs.weak (pss_cons h h2) fun E σ H ⟨δ, M, ι, E0, S, q, z⟩ => ⟨δ, M, ι, _, S, q, ⟨fun δ' M' ι' σ' H' q' p' k' S' => ⟨δ', M', ι', E0, S', q', z.to p' k'⟩, z.rt, z.bk, z.ct⟩⟩
theorem vs_ret (h : VE X G e t) : VS X G (.Return (some e) pos) (sRet t) :=
  PS.weak (ps_ret h) fun E σ H ⟨δ, M, ι, E0, S, q, z⟩ => ⟨δ, M, ι, _, S, q, fun d M' ι' H' v q' p' k' S' r' => z.rt d δ M' ι' σ H' v q' S' r'⟩
theorem vs_expr (h : VE X G e t) (hs : swapsWith e none pos.line X.env = pure false := by rfl) : VS X G (.Expr e pos) (sDrop t) :=
  PS.weak (ps_expr h hs) fun E σ H ⟨δ, M, ι, E0, S, q, z⟩ => ⟨δ, M, ι, _, S, q, fun d M' ι' H' v q' p' k' S' r' => z.nx δ M' ι' σ H' q' p' k' S'⟩
theorem vs_set {i : Nat} {x : Str} {pos' : Pos} (hN : X.N.Nodup) (hi : X.N[i]? = some x) (hx : Loc X.env.scope x) (he : VE X G e t) (hs : swapsWith e (some (.Name x pos')) pos.line X.env = pure false := by rfl) (hf : X.fn x = true ∨ X.env.scope.names.lookup x = some .local := by first | exact .inl rfl | exact .inr rfl | assumption) :
    VS X G (.Assign [.Name x pos'] e pos) (sSet i t) :=
  PS.weak (ps_set hN hi hx he hs hf) fun E σ H ⟨δ, M, ι, E0, S, q, z⟩ => ⟨δ, M, ι, _, S, q, fun d M' ι' H' v q' p' k' S' r' => z.nx _ M' ι' _ H' q' p' k' (S'.set r')⟩
theorem vs_if (hc : VT X G c tc) (ha : VSs X G ss s) (hb : VSs X G ss' u) : VS X G (.If c ss ss' pos) (sIf tc s u) :=
  PS.weak (ps_if hc ha hb) fun E σ H ⟨δ, M, ι, E0, S, q, z⟩ => ⟨δ, M, ι, _, S, q, fun b M' ι' H' q' p' k' S' => by
    cases b with
    | true => exact ⟨δ, M', ι', E0, S', q', z.to p' k'⟩
    | false => exact ⟨δ, M', ι', E0, S', q', z.to p' k'⟩⟩
end
abbrev TG' := D → DS → Mem → (DS → Mem → Prop) → Prop
def lG (K : PySem.W.Frag) (G : Gd) (t : TG') : TG := fun v σ H Q => ∃ d δ M ι Q0, Sr K G δ M ι σ H ∧ RD K G.N H ι d v ∧ t d δ M Q0 ∧
  ∀ δ' M' ι' σ' H', Q0 δ' M' → Ex ι ι' → Kp ι H ι' H' → Sr K G δ' M' ι' σ' H' → Q σ' H'
abbrev VG (X : Cx) (G : Gd) (e : Expr) (t : TG') : Prop := PG X e (lG X.K G t)
def gNm (i : Nat) : TG' := fun d δ M Q => Q (δ.set i (some (.d d))) M
/-- names for a tuple's items -/
def setAll : List Nat → List D → DS → Option DS
  | [], [], δ => some δ
  | i :: is, d :: ds, δ => setAll is ds (δ.set i (some (.d d)))
  | _, _, _ => none
def gTp (is : List Nat) : TG' := fun d δ M Q => match d with
  | .tup ds => ok (setAll is ds δ) fun δ' => Q δ' M
  | _ => False
def lGs (K : PySem.W.Frag) (G : Gd) (is : List Nat) : TGs := fun vs σ H Q => ∃ ds δ M ι δ', Sr K G δ M ι σ H ∧ RDs K G.N H ι ds vs ∧ setAll is ds δ = some δ' ∧
  ∀ σ' , Sr K G δ' M ι σ' H → Q σ' H
section
variable {K : PySem.W.Frag} {X : Cx} {G : Gd} {e a b c : Expr} {es : List Expr} {pos : Pos}
theorem vg_name {i : Nat} {x : Str} (hN : X.N.Nodup) (hi : X.N[i]? = some x) (hx : Loc X.env.scope x) (hf : X.fn x = true ∨ X.env.scope.names.lookup x = some .local := by first | exact .inl rfl | exact .inr rfl | assumption) : VG X G (.Name x pos) (gNm i) := by
  have h := pg_name (pos := pos) hN hi hx hf
  refine ⟨fun pins s σ H v u Q I r ⟨d, δ, M, ι, Q0, S, rd, q, z⟩ => h.run pins s σ H v u Q I r ?_⟩
  exact z _ M ι _ H q (Ex.refl _) (Kp.refl _ _) (S.set (d := .d d) rd)
theorem vgs_nil : PGs X [] (lGs X.K G []) := by
  refine ⟨fun pins s σ H vs us Q I r ⟨ds, δ, M, ι, δ', S, rd, q, z⟩ => pgs_nil.run pins s σ H vs us Q I r ?_⟩
  cases ds with
  | nil => cases q; exact ⟨rd, z σ S⟩
  | cons d ds => cases q
theorem vgs_cons {i : Nat} {is : List Nat} {x : Str} {px : Pos} (hN : X.N.Nodup) (hi : X.N[i]? = some x) (hx : Loc X.env.scope x) (hr : PGs X es (lGs X.K G is)) (hf : X.fn x = true ∨ X.env.scope.names.lookup x = some .local := by first | exact .inl rfl | exact .inr rfl | assumption)
    (hs : (assignEach (.Name x px :: es) X.env).map (·.2) = assign (.Name x px) X.env :: (assignEach es X.env).map (·.2) := by rfl) : PGs X (.Name x px :: es) (lGs X.K G (i :: is)) := by
  have h := pgs_cons (pg_name (pos := px) hN hi hx hf) hr hs
  refine ⟨fun pins s σ H vs us Q I r ⟨ds, δ, M, ι, δ', S, rd, q, z⟩ => h.run pins s σ H vs us Q I r ?_⟩
  cases ds with
  | nil => cases q
  | cons d ds =>
    obtain ⟨v, vr, rfl, r1, r2⟩ := rd
    exact ⟨v, vr, rfl, ds, _, M, ι, δ', S.set (d := .d d) r1, r2, q, z⟩
theorem setAll_len : ∀ {is : List Nat} {ds : List D} {δ δ' : DS}, setAll is ds δ = some δ' → ds.length = is.length
  | [], [], _, _, _ => rfl
  | [], _ :: _, _, _, h => by cases h
  | _ :: _, [], _, _, h => by cases h
  | i :: is, d :: ds, δ, δ', h => by simp [setAll_len (is := is) h]
theorem vg_tup {is : List Nat} {k : Nat} (hc : X.calm = true) (h : PGs X es (lGs X.K G is)) (hn : (assignEach es X.env).length = is.length := by rfl) (hst : (assignEach es X.env).findIdx? (·.1) = none := by rfl) : VG X G (.Tuple es k pos) (gTp is) := by
  have hg := pg_tup (pos := pos) (k := k) hc h hn hst
  refine ⟨fun pins s σ H v u Q I r ⟨d, δ, M, ι, Q0, S, rd, q, z⟩ => hg.run pins s σ H v u Q I r ?_⟩
  unfold gTp at q
  split at q
  · rename_i ds
    obtain ⟨δ', e, q⟩ := ok_elim q
    obtain ⟨a, xs, rfl, hq, _, r2⟩ := rd
    exact ⟨a, xs, rfl, tup_sq hq, by rw [← r2.length, setAll_len e], ds, δ, M, ι, δ', S, r2, e, fun σ' S' => z δ' M ι σ' H q (Ex.refl _) (Kp.refl _ _) S'⟩
  · exact q.elim
/-- target = value -/
def sAsg (t : TE') (g : TG') : TS' := fun E δ M => t δ M fun s M' => ok (dataS s) fun d => g d δ M' E.nx
theorem vs_asg {tg : Expr} {t : TE'} {g : TG'} (he : VE X G e t) (hg : VG X G tg g) (hs : swapsWithSole [tg] e pos.line X.env = pure false := by rfl) (hw : swappedStores [tg] e X.env = pure none := by rfl)
    (h1 : (assignEach [tg] X.env).map (·.2) = [assign tg X.env] := by rfl) : VS X G (.Assign [tg] e pos) (sAsg t g) :=
  PS.weak (ps_asg he hg hs hw h1) fun E σ H ⟨δ, M, ι, E0, S, q, z⟩ => th1 S q fun s M1 ι1 H1 v q1 p1 k1 S1 r1 => by
    obtain ⟨d, e, q1⟩ := ok_elim q1
    cases s with
    | d x => cases e; exact ⟨_, δ, M1, ι1, _, S1, r1, q1, fun δ' M' ι' σ' H' q' p' k' S' => z.nx δ' M' ι' σ' H' q' (p1.trans p') (k1.trans k') S'⟩
    | ref n => cases e
    | bor n => cases e
end
end VL
set_option Elab.async false
set_option linter.all false
set_option maxRecDepth 100000
set_option maxHeartbeats 4000000
namespace VL
open PySem PySem.Spec L2
abbrev TI' := DS → Mem → (List D → (Mem → Prop) → Mem → Prop) → Prop
/-- at each turn, while gd stands, the iterator J gives the next of ds -/
def IterD (K : PySem.W.Frag) (G : Gd) (ι : Ix) (H : Hp) (J : It) (ds : List D) (gd : Mem → Prop) : Prop :=
  ∀ (G2 : Gd) (δ2 : DS) (M2 : Mem) (ι2 : Ix) (σ2 : L2.St) (H2 : Hp), (∀ b a o, H a = some o → G.N b a → G2.N b a) → Sr K G2 δ2 M2 ι2 σ2 H2 → Ex ι ι2 → Kp ι H ι2 H2 → gd M2 →
    J.stop ds.length H2 ∧ ∀ i d, ds[i]? = some d → J.go i H2 ∧ ∀ x H3, J.yld i H2 x H3 → (H3 = H2 ∨ ∃ p o, H2 p = none ∧ H3 = upd H2 p o) ∧ Sr K G2 δ2 M2 ι2 σ2 H3 ∧ Kp ι2 H2 ι2 H3 ∧ RD K G2.N H3 ι2 d x
def lI (K : PySem.W.Frag) (G : Gd) (bd : Bool) (it : TI') : TI := fun σ H R => ∃ δ M ι Q0, Sr K G δ M ι σ H ∧ it δ M Q0 ∧
  ∀ ds gd M' ι' H' J, (bd = true → ds.length ≤ sizeLine) → Q0 ds gd M' → Ex ι ι' → Kp ι H ι' H' → Sr K G δ M' ι' σ H' → IterD K G ι' H' J ds gd → R J H'
abbrev VI (X : Cx) (G : Gd) (bd : Bool) (tg e : Expr) (it : TI') : Prop := PI X tg e (lI X.K G bd it)
/-- the turns of a for; k: how many changing objects there were -/
def forL (k : Nat) (g : TG') (b : TS') (E : Ends') (gd : Mem → Prop) : List D → DS → Mem → Prop
  | [], δ, M => gd M ∧ E.nx δ M
  | d :: ds, δ, M => gd M ∧ g d δ M fun δ1 M1 => b ⟨fun δ' M' => forL k g b E gd ds (gcS k δ') (M'.take k), E.rt, E.nx, fun δ' M' => forL k g b E gd ds (gcS k δ') (M'.take k)⟩ δ1 M1
def sFor (it : TI') (g : TG') (b : TS') : TS' := fun E δ M => it δ M fun ds gd M' => forL M'.length g b E gd ds δ M'
section
variable {K : PySem.W.Frag} {X : Cx} {G : Gd} {e a b c tg iter elt : Expr} {st : Stmt} {body : List Stmt} {es : List Expr} {pos : Pos} {ta tb t : TE'} {tc : TT'} {s u : TS'} {it : TI'} {g : TG'}
theorem Sr.i0len {δ : DS} {M : Mem} {ι : Ix} {σ : L2.St} {H : Hp} (S : Sr K G δ M ι σ H) : G.i0.length ≤ M.length := by
  rw [S.mem.len]
  cases q : G.i0.length with
  | zero => exact Nat.zero_le _
  | succ n =>
    have h : n < G.i0.length := by omega
    exact (List.getElem?_eq_some_iff.mp (S.pre n _ (List.getElem?_eq_getElem h))).1
theorem ex_take {a b : Ix} (h : Ex a b) : Ex a (b.take a.length) := fun n o e => by
  have hlt := (List.getElem?_eq_some_iff.mp e).1
  rw [List.getElem?_take, if_pos hlt]; exact h n o e
theorem vs_for {bd : Bool} (hp : PassesOwn (model X.prog X.w) X.A X.env X.xe) (hc : X.calm = true) (hi : VI X G bd tg iter it) (hg : VG X G tg g) (hb : VSs X G body s)
    (hs : ∀ x, foldedSetIterable iter X.env x = pure x := by intro _; rfl) : VS X G (.For tg iter body [] pos) (sFor it g s) := by
  refine PS.weak (ps_for hp hc hi hg hb hs) fun E σ H ⟨δ, M, ι, E0, S, q, z⟩ => ?_
  refine ⟨δ, M, ι, _, S, q, fun ds gd M' ι' H' J _ q1 p1 k1 S1 hJ => ?_⟩
  have hk : G.i0.length ≤ M'.length := S1.i0len
  have hlen : M'.length = ι'.length := S1.mem.len
  refine ⟨fun i m σ2 H2 => m = ds.length - i ∧ i ≤ ds.length ∧ ∃ δ2 M2 ι2, Sr X.K G δ2 M2 ι2 σ2 H2 ∧ Ex ι' ι2 ∧ Kp ι' H' ι2 H2 ∧ forL M'.length g s E0 gd (ds.drop i) δ2 M2,
    ⟨ds.length, by simp, Nat.zero_le _, δ, M', ι', S1, Ex.refl _, Kp.refl _ _, by simpa using q1⟩, ?_⟩
  rintro i m σ2 H2 ⟨rfl, hi, δ2, M2, ι2, S2, e2, k2, q2⟩
  by_cases hlt : i < ds.length
  · have hd : ds.drop i = ds[i] :: ds.drop (i + 1) := List.drop_eq_getElem_cons hlt
    rw [hd] at q2
    obtain ⟨hgd, q2⟩ := q2
    obtain ⟨_, hgo⟩ := hJ G δ2 M2 ι2 σ2 H2 (fun _ _ _ _ z => z) S2 e2 k2 hgd
    obtain ⟨go, hy⟩ := hgo i ds[i] (List.getElem?_eq_getElem hlt)
    refine .inr ⟨go, fun σ3 H3 => ∃ δ3 M3 ι3, Sr X.K G δ3 M3 ι3 σ3 H3 ∧ Ex ι' ι3 ∧ Kp ι' H' ι3 H3 ∧ forL M'.length g s E0 gd (ds.drop (i + 1)) δ3 M3, fun σ3 H3 h3 => ⟨ds.length - (i + 1), by omega, rfl, hlt, h3⟩, fun x H3 y3 => ?_⟩
    obtain ⟨_, S3, k3, r3⟩ := hy x H3 y3
    refine ⟨_, δ2, M2, ι2, _, S3, r3, q2, fun δ4 M4 ι4 σ4 H4 q4 e4 k4 S4 => ?_⟩
    -- the state at the body's start: names since the loop's start
    have fin : ∀ δ5 M5 ι5 σ5 H5, Sr X.K G δ5 M5 ι5 σ5 H5 → Ex ι' ι5 → Kp ι' H' ι5 H5 → forL M'.length g s E0 gd (ds.drop (i + 1)) (gcS M'.length δ5) (M5.take M'.length) →
        ∃ δ3 M3 ι3, Sr X.K G δ3 M3 ι3 σ5 H5 ∧ Ex ι' ι3 ∧ Kp ι' H' ι3 H5 ∧ forL M'.length g s E0 gd (ds.drop (i + 1)) δ3 M3 := fun δ5 M5 ι5 σ5 H5 S5 e5 k5 q5 => by
      refine ⟨_, _, _, S5.gc M'.length hk, ?_, k5.trans (Kp.take _), q5⟩
      rw [hlen]; exact ex_take e5
    have Z := z
    refine ⟨δ4, M4, ι4, _, S4, q4, ⟨fun δ5 M5 ι5 σ5 H5 q5 e5 k5 S5 => ?_, fun d5 δ5 M5 ι5 σ5 H5 v5 q5 S5 r5 => ?_, fun δ5 M5 ι5 σ5 H5 q5 e5 k5 S5 => ?_, fun δ5 M5 ι5 σ5 H5 q5 e5 k5 S5 => ?_⟩⟩
    · exact fin δ5 M5 ι5 σ5 H5 S5 ((e2.trans e4).trans e5) (((k2.trans k3).trans k4).trans k5) q5
    · exact z.rt d5 δ5 M5 ι5 σ5 H5 v5 q5 S5 r5
    · exact z.nx δ5 M5 ι5 σ5 H5 q5 (p1.trans ((e2.trans e4).trans e5)) (k1.trans (((k2.trans k3).trans k4).trans k5)) S5
    · exact fin δ5 M5 ι5 σ5 H5 S5 ((e2.trans e4).trans e5) (((k2.trans k3).trans k4).trans k5) q5
  · have hd : ds.drop i = [] := List.drop_eq_nil_of_le (by omega)
    rw [hd] at q2
    obtain ⟨hgd, q2⟩ := q2
    obtain ⟨hst, _⟩ := hJ G δ2 M2 ι2 σ2 H2 (fun _ _ _ _ z => z) S2 e2 k2 hgd
    have e : i = ds.length := by omega
    subst e
    exact .inl ⟨hst, z.nx δ2 M2 ι2 σ2 H2 q2 (p1.trans e2) (k1.trans k2) S2⟩
end
end VL
set_option Elab.async false
set_option linter.all false
set_option maxRecDepth 100000
set_option maxHeartbeats 4000000
namespace VL
open PySem PySem.Spec L2 RT RZ
def gdS (s : Sv) (ds : List D) : Mem → Prop := match s with
  | .ref n => fun M => cellL M[n]? = some ds
  | _ => fun _ => True
def gdT : Mem → Prop := fun _ => True
/-- over a sequence -/
def iSq (t : TE') : TI' := fun δ M Q => t δ M fun s M1 => ok (lstD M1 s) fun ds => Q ds (gdS s ds) M1
def iPq (p : PV) : TI' := fun δ M Q => ok (p δ M) fun s => ok (seqD M s) fun ds => Q ds (gdS s ds) M
def rgL (lo : Int) (n : Nat) : List D := (List.range n).map fun i => .int (lo + (i : Nat))
def rgC (lo c : Int) (n : Nat) : List D := (List.range n).map fun i => .int (lo + (i : Nat) * c)
abbrev I62 (i : Int) : Prop := -(2 ^ 62) ≤ i ∧ i < 2 ^ 62
def rngD : List Sv → (List D → Prop) → Prop
  | [.d (.int j)], k => I62 j ∧ k (rgL 0 j.toNat)
  | [.d (.int i), .d (.int j)], k => (I62 i ∧ I62 j) ∧ k (rgL i (j - i).toNat)
  | [.d (.int i), .d (.int j), .d (.int c)], k => (c ≠ 0 ∧ c.natAbs < 1073741824 ∧ Builtin.Range.small i j c = true) ∧ k (rgC i c (Builtin.Range.rangeSize i j c).toNat)
  | _, _ => False
def iRg (bd : Bool) (t : TA') : TI' := fun δ M Q => t δ M fun xs M1 => rngD xs fun ds => (bd = true → ds.length ≤ sizeLine) ∧ Q ds gdT M1
def zipL (as bs : List D) : List D := (as.zip bs).map fun p => .tup [p.1, p.2]
def tupD : Sv → Option (List D)
  | .d (.tup ds) => some ds
  | _ => none
section
variable {K : PySem.W.Frag} {X : Cx} {G : Gd} {e e2 a b c tg iter elt : Expr} {es : List Expr} {pos p : Pos} {ta tb t : TE'} {it : TI'}
theorem VI.weak {bd : Bool} {it' : TI'} (h : VI X G bd tg e it) (w : ∀ δ M Q, it' δ M Q → it δ M Q) : VI X G bd tg e it' :=
  ⟨fun pins s σ H R I ⟨δ, M, ι, Q0, S, q, z⟩ => h.run pins s σ H R I ⟨δ, M, ι, Q0, S, w _ _ _ q, z⟩⟩
/-- a list stays to be read -/
theorem list_stays {ι : Ix} {H : Hp} {δ : DS} {M : Mem} {σ : L2.St} {s : Sv} {v : V} {ds : List D} (S : Sr K G δ M ι σ H) (r : RS K G.N H ι s v) (e : lstD M s = some ds) :
    ∃ a, v = .ref a ∧ (∃ xs, SqL K H a xs ∧ RDs K G.N H ι ds xs) ∧ ds.length ≤ sizeLine ∧ ∀ (G2 : Gd) (δ2 : DS) (M2 : Mem) (ι2 : Ix) (σ2 : L2.St) (H2 : Hp), (∀ b a o, H a = some o → G.N b a → G2.N b a) → Sr K G2 δ2 M2 ι2 σ2 H2 → Ex ι ι2 → Kp ι H ι2 H2 → gdS s ds M2 → ∃ xs, SqL K H2 a xs ∧ RDs K G2.N H2 ι2 ds xs := by
  cases s with
  | ref n =>
    obtain ⟨a, rfl, hn, xs, q, hl, r⟩ := S.mem.at r (cellL_some (show cellL M[n]? = some ds from e)) (fun z => nomatch z)
    refine ⟨a, rfl, ⟨xs, SqL.of q, r⟩, hl, fun G2 δ2 M2 ι2 σ2 H2 hn2 S2 e2 k2 hg => ?_⟩
    have hM := cellL_some (show cellL M2[n]? = some ds from hg)
    rcases e2 n _ hn with h | h
    · obtain ⟨xs2, q2, _, r2⟩ := S2.mem.cell n _ a hM h
      exact ⟨xs2, SqL.of q2, r2⟩
    · rw [S2.mem.gone n h] at hM; cases hM
  | bor es =>
    cases e
    obtain ⟨a, xs, rfl, q, n, _, hl, r⟩ := r
    exact ⟨a, rfl, ⟨xs, SqL.of q, r⟩, hl, fun G2 δ2 M2 ι2 σ2 H2 hn2 S2 e2 k2 hg => ⟨xs, SqL.of (k2 a _ q n).1, r.mono k2 hn2⟩⟩
  | d d =>
    cases d with
    | lst es =>
      cases e
      obtain ⟨a, xs, rfl, q, n, _, hl, r⟩ := r
      exact ⟨a, rfl, ⟨xs, SqL.of q, r⟩, hl, fun G2 δ2 M2 ι2 σ2 H2 hn2 S2 e2 k2 hg => ⟨xs, SqL.of (k2 a _ q n).1, r.mono k2 hn2⟩⟩
    | scr ns =>
      cases e
      obtain ⟨a, rfl, ⟨o, q, n⟩ | q, hl⟩ := r
      · exact ⟨a, rfl, ⟨_, .inl (.inr ⟨o, q⟩), RDs.of_ints ns⟩, by simpa using hl, fun G2 δ2 M2 ι2 σ2 H2 hn2 S2 e2 k2 hg => ⟨_, .inl (.inr ⟨o, (k2 a _ q n).1⟩), RDs.of_ints ns⟩⟩
      · exact ⟨a, rfl, ⟨_, .inr q, RDs.of_ints ns⟩, by simpa using hl, fun G2 δ2 M2 ι2 σ2 H2 hn2 S2 e2 k2 hg => ⟨_, .inr q, RDs.of_ints ns⟩⟩
    | _ => cases e
theorem tup_stays {ι : Ix} {H : Hp} {v : V} {ds : List D} (r : RD K G.N H ι (.tup ds) v) :
    ∃ a, v = .ref a ∧ (∃ xs, SqT K H a xs) ∧ ds.length ≤ sizeLine ∧ ∀ (G2 : Gd) (ι2 : Ix) (H2 : Hp), (∀ b a o, H a = some o → G.N b a → G2.N b a) → Kp ι H ι2 H2 → ∃ xs, SqT K H2 a xs ∧ RDs K G2.N H2 ι2 ds xs := by
  obtain ⟨a, xs, rfl, q, hl, r⟩ := r
  refine ⟨a, rfl, ⟨xs, tup_sq q⟩, hl, fun G2 ι2 H2 hn2 k2 => ⟨xs, ?_, r.mono k2 hn2⟩⟩
  rcases q with ⟨q, n⟩ | q
  · exact SqT.of (k2 a _ q n).1
  · exact .inr q
theorem iter_l {ι : Ix} {H : Hp} {a : Addr} {ds : List D} {gd : Mem → Prop}
    (h : ∀ (G2 : Gd) (δ2 : DS) (M2 : Mem) (ι2 : Ix) (σ2 : L2.St) (H2 : Hp), (∀ b a o, H a = some o → G.N b a → G2.N b a) → Sr K G2 δ2 M2 ι2 σ2 H2 → Ex ι ι2 → Kp ι H ι2 H2 → gd M2 → ∃ xs, SqL K H2 a xs ∧ RDs K G2.N H2 ι2 ds xs) : IterD K G ι H (Itl K a) ds gd := by
  intro G2 δ2 M2 ι2 σ2 H2 hn2 S2 e2 k2 hg
  obtain ⟨xs, q, r⟩ := h G2 δ2 M2 ι2 σ2 H2 hn2 S2 e2 k2 hg
  refine ⟨⟨xs, q, by rw [r.length]; exact Nat.le_refl _⟩, fun i d hd => ?_⟩
  obtain ⟨v, hv, rv⟩ := r.get hd
  refine ⟨⟨xs, v, q, hv⟩, fun x H3 y => ?_⟩
  obtain ⟨rfl, y⟩ := y
  have : x = v := Option.some.inj ((y xs q).symm.trans hv)
  subst this
  exact ⟨.inl rfl, S2, Kp.refl _ _, rv⟩
theorem iter_t {ι : Ix} {H : Hp} {a : Addr} {ds : List D} {gd : Mem → Prop}
    (h : ∀ (G2 : Gd) (ι2 : Ix) (H2 : Hp), (∀ b a o, H a = some o → G.N b a → G2.N b a) → Kp ι H ι2 H2 → ∃ xs, SqT K H2 a xs ∧ RDs K G2.N H2 ι2 ds xs) : IterD K G ι H (Itt K a) ds gd := by
  intro G2 δ2 M2 ι2 σ2 H2 hn2 S2 e2 k2 hg
  obtain ⟨xs, q, r⟩ := h G2 ι2 H2 hn2 k2
  refine ⟨⟨xs, q, by rw [r.length]; exact Nat.le_refl _⟩, fun i d hd => ?_⟩
  obtain ⟨v, hv, rv⟩ := r.get hd
  refine ⟨⟨xs, v, q, hv⟩, fun x H3 y => ?_⟩
  obtain ⟨rfl, y⟩ := y
  have : x = v := Option.some.inj ((y xs q).symm.trans hv)
  subst this
  exact ⟨.inl rfl, S2, Kp.refl _ _, rv⟩
/-- a list -/
theorem vi_sq {bd : Bool} (h : VE X G e t) : VI X G bd tg e (iSq t) := by
  have hi := pi_list (tg := tg) h
  refine ⟨fun pins s σ H R I ⟨δ, M, ι, Q0, S, q, z⟩ => hi.run pins s σ H R I ?_⟩
  refine th1 S q fun x M1 ι1 H1 v q1 p1 k1 S1 r1 => ?_
  obtain ⟨ds, e1, q1⟩ := ok_elim q1
  obtain ⟨a, rfl, ⟨xs, hq, _⟩, hl, st⟩ := list_stays S1 r1 e1
  exact ⟨a, rfl, ⟨xs, hq⟩, z ds _ M1 ι1 H1 _ (fun _ => hl) q1 p1 k1 S1 (iter_l st)⟩
/-- a list or a tuple, known ahead -/
theorem vi_pq {bd : Bool} {pv : PV} (h : VE X G e (eP pv)) : VI X G bd tg e (iPq pv) := by
  have hi := pi_list (tg := tg) h
  have ht := pi_tup (tg := tg) h
  refine ⟨fun pins s σ H R I ⟨δ, M, ι, Q0, S, q, z⟩ => ?_⟩
  obtain ⟨x, e1, q⟩ := ok_elim q
  obtain ⟨ds, e2, q⟩ := ok_elim q
  by_cases hx : ∃ es, x = .d (.tup es)
  · obtain ⟨es, rfl⟩ := hx
    cases e2
    refine ht.run pins s σ H R I ?_
    refine th1 (Q0 := fun d M' => d = .d (.tup ds) ∧ M' = M) S (ok_of e1 ⟨rfl, rfl⟩) fun x M1 ι1 H1 v q1 p1 k1 S1 r1 => ?_
    obtain ⟨rfl, rfl⟩ := q1
    obtain ⟨a, rfl, hq, hl, st⟩ := tup_stays (K := X.K) (G := G) r1
    exact ⟨a, rfl, hq, z ds _ M1 ι1 H1 _ (fun _ => hl) q p1 k1 S1 (iter_t st)⟩
  · have e3 : lstD M x = some ds := by
      cases x with
      | d x =>
        cases x with
        | tup es => exact absurd ⟨es, rfl⟩ hx
        | lst es => exact e2
        | scr es => exact e2
        | _ => cases e2
      | ref n => exact e2
      | bor n => exact e2
    refine hi.run pins s σ H R I ?_
    refine th1 (Q0 := fun d M' => d = x ∧ M' = M) S (ok_of e1 ⟨rfl, rfl⟩) fun x M1 ι1 H1 v q1 p1 k1 S1 r1 => ?_
    obtain ⟨rfl, rfl⟩ := q1
    obtain ⟨a, rfl, ⟨xs, hq, _⟩, hl, st⟩ := list_stays S1 r1 e3
    exact ⟨a, rfl, ⟨xs, hq⟩, z ds _ M1 ι1 H1 _ (fun _ => hl) q p1 k1 S1 (iter_l st)⟩
theorem rg_get {lo : Int} {n i : Nat} {d : D} (h : (rgL lo n)[i]? = some d) : i < n ∧ d = .int (lo + (i : Nat)) := by
  unfold rgL at h
  rw [List.getElem?_map] at h
  obtain ⟨j, h1, rfl⟩ := Option.map_eq_some_iff.mp h
  obtain ⟨h2, h3⟩ := List.getElem?_eq_some_iff.mp h1
  simp at h2 h3
  subst h3
  exact ⟨h2, rfl⟩
theorem rgL_len (lo : Int) (n : Nat) : (rgL lo n).length = n := by simp [rgL]
theorem iter_r {ι : Ix} {H : Hp} {lo : Int} {n : Nat} {gd : Mem → Prop} : IterD K G ι H (Itr lo n) (rgL lo n) gd := by
  intro G2 δ2 M2 ι2 σ2 H2 hn2 S2 e2 k2 hg
  refine ⟨by rw [rgL_len]; exact Nat.le_refl _, fun i d hd => ?_⟩
  obtain ⟨h1, rfl⟩ := rg_get hd
  refine ⟨h1, fun x H3 y => ?_⟩
  obtain ⟨rfl, rfl⟩ := y
  exact ⟨.inl rfl, S2, Kp.refl _ _, rfl⟩
theorem len2 {α : Type} {xs : List α} (h : xs.length = 2) : ∃ x y, xs = [x, y] := by
  match xs, h with
  | [x, y], _ => exact ⟨x, y, rfl⟩
theorem vi_range1 {bd : Bool} {tA : TA'} (hg : Gl X "range") (hm : X.mg "range" = none) (ha : VA X G [a] 1 tA) (hs : starEach [a] X.env = [(false, eval a X.env)] := by rfl) : VI X G bd tg (.Call (.Name "range" p) [a] [] pos) (iRg bd tA) := by
  have hi := pi_range1 (tg := tg) (p := p) (pos := pos) hg hm ha hs
  refine ⟨fun pins s σ H R I ⟨δ, M, ι, Q0, S, q, z⟩ => hi.run pins s σ H R I ?_⟩
  refine thA S q fun xs M1 ι1 H1 vs hl q1 p1 k1 S1 r1 => ?_
  obtain ⟨x, rfl⟩ : ∃ x, xs = [x] := List.length_eq_one_iff.mp hl
  obtain ⟨v, rfl, rv⟩ := one_of r1
  unfold rngD at q1
  split at q1
  · rename_i j hj
    cases hj
    cases (show _ = _ from rv)
    exact ⟨_, rfl, q1.1.1, q1.1.2, z _ _ M1 ι1 H1 _ q1.2.1 q1.2.2 p1 k1 S1 iter_r⟩
  · rename_i hj; cases hj
  · rename_i hj; cases hj
  · exact q1.elim
theorem fin_pair {δ : DS} {M : Mem} {ι : Ix} {σ : L2.St} {H : Hp} {d1 d2 : D} {x y : V} {p : Addr} (S : Sr K G δ M ι σ H) (hp : H p = none) (r1 : RD K G.N H ι d1 x) (r2 : RD K G.N H ι d2 y) :
    Sr K G δ M ι σ (upd H p (.tup [x, y])) ∧ Kp ι H ι (upd H p (.tup [x, y])) ∧ RD K G.N (upd H p (.tup [x, y])) ι (.tup [d1, d2]) (.ref p) := by
  refine ⟨S.laid hp, Kp.laid hp, p, [x, y], rfl, .inl ⟨upd_same, S.mem.fresh hp⟩, by show 2 ≤ sizeLine; decide, x, [y], rfl, RD.mono (Kp.laid hp) (fun _ _ _ _ z => z) _ _ r1, y, [], rfl, RD.mono (Kp.laid hp) (fun _ _ _ _ z => z) _ _ r2, rfl⟩
theorem zip_get {as bs : List D} {i : Nat} {d : D} (h : (zipL as bs)[i]? = some d) : ∃ d1 d2, as[i]? = some d1 ∧ bs[i]? = some d2 ∧ d = .tup [d1, d2] := by
  unfold zipL at h
  rw [List.getElem?_map] at h
  obtain ⟨⟨d1, d2⟩, h1, rfl⟩ := Option.map_eq_some_iff.mp h
  rw [List.getElem?_zip_eq_some] at h1
  exact ⟨d1, d2, h1.1, h1.2, rfl⟩
end
end VL
set_option Elab.async false
set_option linter.all false
set_option maxRecDepth 100000
set_option maxHeartbeats 4000000
namespace VL
open PySem PySem.Spec L2 RT RZ
def wipeS (δ : DS) : List Nat → DS
  | [] => δ
  | v :: vs => (wipeS δ vs).set v none
/-- a target in a comprehension -/
inductive LcG where
  | nm (i : Nat) | tp (is : List Nat)
def LcG.names : LcG → List Nat
  | .nm i => [i]
  | .tp is => is
def LcG.to : LcG → TG'
  | .nm i => gNm i
  | .tp is => gTp is
def lcL (g : TG') (tt : TT') (te : TE') (δw : DS) (gd : Mem → Prop) (Q : List D → Mem → Prop) : List D → List D → Mem → Prop
  | [], acc, M => gd M ∧ Q acc M
  | d :: ds, acc, M => gd M ∧ g d δw M fun δ2 M2 => tt δ2 M2 fun b M3 =>
      if b then te δ2 M3 fun s M4 => ok (dataS s) fun y => lcL g tt te δw gd Q ds (acc ++ [y]) M4 else lcL g tt te δw gd Q ds acc M3
def fLc (it : TI') (g : LcG) (tt : TT') (te : TE') (vs : List Nat) : TF' := fun δ M Q => it δ M fun ds gd M1 => lcL g.to tt te (wipeS δ vs) gd Q ds [] M1
def tYs : TT' := fun _ M Q => Q true M
section
variable {K : PySem.W.Frag} {X : Cx} {G : Gd} {δ : DS} {M : Mem} {ι : Ix} {σ : L2.St} {H H' : Hp}
theorem wipe_get (σ : L2.St) (j : Nat) : ∀ vs : List Nat, (wipe σ vs)[j]? = if j ∈ vs then (σ[j]?).map (fun _ => none) else σ[j]?
  | [] => by simp [wipe]
  | v :: vs => by
    unfold wipe
    have ih := wipe_get σ j vs
    by_cases h : v = j
    · subst h
      rw [if_pos List.mem_cons_self, List.getElem?_set_self']
      rw [ih]
      split <;> cases σ[v]? <;> rfl
    · rw [List.getElem?_set_ne h, ih]
      have : (j ∈ v :: vs) ↔ j ∈ vs := by simp [Ne.symm h]
      simp only [this]
theorem wipeS_get (σ : DS) (j : Nat) : ∀ vs : List Nat, (wipeS σ vs)[j]? = if j ∈ vs then (σ[j]?).map (fun _ => none) else σ[j]?
  | [] => by simp [wipeS]
  | v :: vs => by
    unfold wipeS
    have ih := wipeS_get σ j vs
    by_cases h : v = j
    · subst h
      rw [if_pos List.mem_cons_self, List.getElem?_set_self']
      rw [ih]
      split <;> cases σ[v]? <;> rfl
    · rw [List.getElem?_set_ne h, ih]
      have : (j ∈ v :: vs) ↔ j ∈ vs := by simp [Ne.symm h]
      simp only [this]
theorem wipe_set (σ : L2.St) (vs : List Nat) {i : Nat} (x : Option V) (hi : i ∈ vs) : wipe (σ.set i x) vs = wipe σ vs := by
  apply List.ext_getElem?
  intro j
  rw [wipe_get, wipe_get]
  by_cases h : i = j
  · subst h
    rw [if_pos hi, if_pos hi, List.getElem?_set_self']
    cases σ[i]? <;> rfl
  · rw [List.getElem?_set_ne h]
theorem Sr.wiped (S : Sr K G δ M ι σ H) (vs : List Nat) : Sr K G (wipeS δ vs) M ι (wipe σ vs) H := by
  refine ⟨?_, fun i d e => ?_, S.mem, S.pre, S.kp, S.new, S.bad, S.hid, S.obk⟩
  · have h2 : (wipeS δ vs).length = δ.length := by
      induction vs with
      | nil => rfl
      | cons v vs ih => unfold wipeS; rw [List.length_set, ih]
    rw [wipe_length, h2]; exact S.len
  · rw [wipeS_get] at e
    split at e
    · cases q : δ[i]? with
      | none => rw [q] at e; cases e
      | some o => rw [q] at e; cases e
    · rename_i hn
      obtain ⟨v, e1, r⟩ := S.slot i d e
      exact ⟨v, by rw [wipe_get, if_neg hn]; exact e1, r⟩
/-- behind the block: the slots of the def again -/
theorem Sr.back {δ' : DS} {M' : Mem} {ι' : Ix} {σ' : L2.St} (S : Sr K G δ M ι σ H) (S' : Sr K G δ' M' ι' σ' H') (p : Ex ι ι') (k : Kp ι H ι' H') : Sr K G δ M' ι' σ H' :=
  ⟨S.len, fun i d e => by
    obtain ⟨v, e1, r⟩ := S.slot i d e
    exact ⟨v, e1, r.mono k p fun _ _ _ _ z => z⟩, S'.mem, S'.pre, S'.kp, S'.new, S'.bad, S'.hid, S'.obk⟩
/-- the ground while a list at p is just being made -/
def Gd.hide (G : Gd) (p : Addr) : Gd := { G with Hd := fun a => G.Hd a ∨ a = p }
mutual
theorem RD.hide {N N' : Bool → Addr → Prop} {H' : Hp} (hk : ∀ a o, H a = some o → (∀ xs, o = .lst xs → (∃ b, N b a)) → H' a = some o) (hn : ∀ b a o, H a = some o → N b a → N' b a) : ∀ (d : D) (v : V), RD K N H ι d v → RD K N' H' ι d v
  | .non, _, h => h
  | .bl _, _, h => h
  | .int _, _, h => h
  | .str _, _, h => h
  | .fn _, _, h => h
  | .ty _, _, h => h
  | .cls _, _, h => h
  | .exc _ f, v, h => by
    obtain ⟨a, oe, vs, e, q, n, c, d, x⟩ := h
    exact ⟨a, oe, vs, e, hk a _ q (fun xs z => nomatch z), n, c, d, x.map fun b o l q n => ⟨hk b _ q (fun xs z => nomatch z), n⟩⟩
  | .dn ks ds, v, h => by
    obtain ⟨a, xs, o, e, q, n, z, r1, r2⟩ := h
    exact ⟨a, xs, o, e, hk a _ q (fun xs z => nomatch z), n, z, RDs.hide hk hn ks _ r1, RDs.hide hk hn ds _ r2⟩
  | .dk ks ds, v, h => by
    obtain ⟨a, ws, o, e, q, n, z, r⟩ := h
    exact ⟨a, ws, o, e, hk a _ q (fun xs z => nomatch z), n, z, RDs.hide hk hn ds _ r⟩
  | .scr ns, v, h => by
    obtain ⟨a, e, ⟨o, q, n⟩ | q, l⟩ := h
    · exact ⟨a, e, .inl ⟨o, hk a _ q (fun xs z => nomatch z), n⟩, l⟩
    · exact ⟨a, e, .inr q, l⟩
  | .tup ds, v, h => by
    obtain ⟨a, xs, e, q, l, r⟩ := h
    refine ⟨a, xs, e, ?_, l, RDs.hide hk hn ds xs r⟩
    rcases q with ⟨q, n⟩ | q
    · exact .inl ⟨hk a _ q (fun xs z => nomatch z), n⟩
    · exact .inr q
  | .lst ds, v, h => by
    obtain ⟨a, xs, e, q, n, z, l, r⟩ := h
    exact ⟨a, xs, e, hk a _ q (fun _ _ => ⟨_, z⟩), n, hn _ a _ q z, l, RDs.hide hk hn ds xs r⟩
theorem RDs.hide {N N' : Bool → Addr → Prop} {H' : Hp} (hk : ∀ a o, H a = some o → (∀ xs, o = .lst xs → (∃ b, N b a)) → H' a = some o) (hn : ∀ b a o, H a = some o → N b a → N' b a) : ∀ (ds : List D) (vs : List V), RDs K N H ι ds vs → RDs K N' H' ι ds vs
  | [], _, h => h
  | d :: ds, vs, h => by
    obtain ⟨x, r, e, h1, h2⟩ := h
    exact ⟨x, r, e, RD.hide hk hn d x h1, RDs.hide hk hn ds r h2⟩
end
theorem RIs.hide {N N' : Bool → Addr → Prop} {H' : Hp} (hk : ∀ a o, H a = some o → (∀ xs, o = .lst xs → (∃ b, N b a)) → H' a = some o) (hn : ∀ b a o, H a = some o → N b a → N' b a) : ∀ {its : List (D ⊕ Nat)} {vs : List V}, RIs K N H ι its vs → RIs K N' H' ι its vs
  | [], _, h => h
  | .inl d :: its, vs, h => by
    obtain ⟨x, r, e, h1, h2⟩ := h
    exact ⟨x, r, e, RD.hide hk hn d x h1, RIs.hide hk hn h2⟩
  | .inr n :: its, vs, h => by
    obtain ⟨x, r, e, h1, h2⟩ := h
    exact ⟨x, r, e, h1, RIs.hide hk hn h2⟩
/-- the state seen otherwise: all things of it stay, the ground changes in what is hidden -/
theorem Sr.hideG {G' : Gd} {H' : Hp} (S : Sr K G δ M ι σ H) (g1 : G'.He = G.He) (g2 : G'.i0 = G.i0) (g3 : G'.B = G.B) (hk : ∀ a o, H a = some o → (∀ xs, o = .lst xs → (∃ b, G.N b a) ∨ some a ∈ ι) → H' a = some o) (hn : ∀ b a o, H a = some o → G.N b a → G'.N b a)
    (kp : Kp (G.i0.map some) G.He ι H') (hid : ∀ a, G'.Hd a → some a ∉ ι ∧ ∃ o, H' a = some o) : Sr K G' δ M ι σ H' := by
  have hk' : ∀ a o, H a = some o → (∀ xs, o = .lst xs → (∃ b, G.N b a)) → H' a = some o := fun a o e z => hk a o e fun xs h => .inl (z xs h)
  refine ⟨S.len, fun i d e => ?_, ⟨S.mem.len, S.mem.nod, fun n c a e1 e2 => ?_, S.mem.gone, S.mem.wf⟩, by rw [g2]; exact S.pre, by rw [g1, g2]; exact kp, by rw [g1, g2]; exact S.new, by rw [g1, g3]; exact S.bad, hid, by
    rw [g1, g2]
    refine S.obk.trans fun a ha => ?_
    obtain ⟨n, hn⟩ := List.getElem?_of_mem ha
    have hi := List.mem_of_getElem? (S.pre n a hn)
    obtain ⟨u, hu⟩ := S.i0there a ha
    have e9 := hk a u hu (fun xs _ => .inr hi)
    rw [show H' a = H a from e9.trans hu.symm]
    exact ⟨fun C dx fs e => ⟨fs, e, SameF.refl fs⟩, fun C dx fs e => ⟨fs, e⟩⟩⟩
  · obtain ⟨v, e1, r⟩ := S.slot i d e
    refine ⟨v, e1, ?_⟩
    cases d with
    | d x => exact RD.hide hk' hn x v r
    | ref n => exact r
    | bor ds =>
      obtain ⟨a, xs, e2, q, n, z, l, r⟩ := r
      exact ⟨a, xs, e2, hk' a _ q (fun _ _ => ⟨_, z⟩), n, hn _ a _ q z, l, RDs.hide hk' hn ds xs r⟩
  · have h := S.mem.cell n c a e1 e2
    cases c with
    | gone => exact h
    | lst ds => obtain ⟨xs, q, l, r⟩ := h; exact ⟨xs, hk a _ q (fun _ _ => .inr (List.mem_of_getElem? e2)), l, RDs.hide hk' hn ds xs r⟩
    | dk kvs => obtain ⟨ws, q, z, r⟩ := h; exact ⟨ws, hk a _ q (fun xs z => nomatch z), z, RDs.hide hk' hn _ _ r⟩
    | dn kvs => obtain ⟨xs, q, z, r1, r2⟩ := h; exact ⟨xs, hk a _ q (fun xs z => nomatch z), z, RDs.hide hk' hn _ _ r1, RDs.hide hk' hn _ _ r2⟩
    | nd k its =>
      obtain ⟨xs, q, l, r⟩ := h
      refine ⟨xs, ?_, l, RIs.hide hk' hn r⟩
      cases k with
      | ob c fs => obtain ⟨dx, q1, q2, q3, q4⟩ := q; exact ⟨dx, hk a _ q1 (fun xs z => nomatch z), hk dx _ q2 (fun xs z => nomatch z), q3, q4⟩
end
end VL
set_option Elab.async false
set_option linter.all false
set_option maxRecDepth 100000
set_option maxHeartbeats 4000000
namespace VL
open PySem PySem.Spec L2 RT RZ
/-- a comprehension's target, as the layer below reads it -/
def LcG.raw (K : PySem.W.Frag) : LcG → TG
  | .nm i => gName i
  | .tp is => gTup K is.length (is.foldr (fun i r => gCons (gName i) r) gNil)
section
variable {K : PySem.W.Frag} {X : Cx} {G : Gd} {δ : DS} {M : Mem} {ι : Ix} {σ : L2.St} {H H' : Hp}
theorem raw_names {vs : List Nat} {σ0 : L2.St} : ∀ {is : List Nat} {ds : List D} {xs : List V} {δ : DS} {σ : L2.St} {Q : L2.St → Hp → Prop}, Sr K G δ M ι σ H → RDs K G.N H ι ds xs → (∀ i ∈ is, i ∈ vs) → wipe σ vs = wipe σ0 vs →
    ∀ δ', setAll is ds δ = some δ' → (∀ σ', Sr K G δ' M ι σ' H → wipe σ' vs = wipe σ0 vs → Q σ' H) → is.foldr (fun i r => gCons (gName i) r) gNil xs σ H Q
  | [], ds, xs, δ, σ, Q, S, r, hv, hw, δ', e, z => by
    cases ds with
    | nil => cases e; cases (show _ = _ from r); exact ⟨rfl, z σ S hw⟩
    | cons d ds => cases e
  | i :: is, ds, xs, δ, σ, Q, S, r, hv, hw, δ', e, z => by
    cases ds with
    | nil => cases e
    | cons d ds =>
      obtain ⟨v, vr, rfl, r1, r2⟩ := r
      refine ⟨v, vr, rfl, ?_⟩
      exact raw_names (σ := σ.set i (some v)) (S.set (d := .d d) r1) r2 (fun j hj => hv j (List.mem_cons_of_mem _ hj)) ((wipe_set σ vs (some v) (hv i List.mem_cons_self)).trans hw) δ' e z
theorem raw_of {g : LcG} {vs : List Nat} {σ0 : L2.St} {d : D} {v : V} {Q0 : DS → Mem → Prop} {Q : L2.St → Hp → Prop} (S : Sr K G δ M ι σ H) (r : RD K G.N H ι d v) (hv : ∀ i ∈ g.names, i ∈ vs) (hw : wipe σ vs = wipe σ0 vs) (h : g.to d δ M Q0)
    (z : ∀ δ' σ', Q0 δ' M → Sr K G δ' M ι σ' H → wipe σ' vs = wipe σ0 vs → Q σ' H) : g.raw K v σ H Q := by
  cases g with
  | nm i => exact z _ _ h (S.set (d := .d d) r) ((wipe_set σ vs (some v) (hv i List.mem_cons_self)).trans hw)
  | tp is =>
    simp only [LcG.to, gTp] at h
    split at h
    · rename_i ds
      obtain ⟨δ', e, h⟩ := ok_elim h
      obtain ⟨a, xs, rfl, q, _, r⟩ := r
      exact ⟨a, xs, rfl, tup_sq q, by rw [← r.length, setAll_len e], raw_names S r hv hw δ' e fun σ' S' hw' => z δ' σ' h S' hw'⟩
    · exact h.elim
theorem wipe_wipe (σ : L2.St) (vs : List Nat) : wipe (wipe σ vs) vs = wipe σ vs := by
  apply List.ext_getElem?
  intro j
  rw [wipe_get, wipe_get]
  split
  · cases σ[j]? <;> rfl
  · rfl
abbrev VTs (X : Cx) (G : Gd) (es : List Expr) (t : TT') : Prop := PTs X es (lT X.K G t)
theorem vts_nil : VTs X G [] tYs := ⟨fun pins s σ H Q I ⟨δ, M, ι, Q0, S, q, z⟩ => pts_nil.run pins s σ H Q I (z true M ι H q (Ex.refl _) (Kp.refl _ _) S)⟩
/-- a comprehension's reading, in the layer below (the ground of the elements is not known ahead: tests and elements under any ground) -/
theorem lc_low {it : TI'} {g : LcG} {tt : TT'} {te : TE'} {vs : List Nat} (hv : ∀ i ∈ g.names, i ∈ vs) {σ : L2.St} {H : Hp} {Q : VK} (h : lF X.K G (fLc it g tt te vs) σ H Q) :
    tLc (lI X.K G true it) (g.raw X.K) (fun σ H Q => ∃ G', G'.i0 = G.i0 ∧ lT X.K G' tt σ H Q) (fun σ H Q => ∃ G', G'.i0 = G.i0 ∧ lE X.K G' te σ H Q) vs σ H Q := by
  obtain ⟨δ, M, ι, Q0, S, q, z⟩ := h
  refine ⟨δ, M, ι, _, S, q, fun ds gd M1 ι1 H1 J hb q1 p1 k1 S1 hJ => fun Dd hD => ?_⟩
  have hb := hb rfl
  have hDi : some Dd ∉ ι1 := S1.mem.fresh hD
  have kst : Kp ι1 H1 ι1 (upd H1 Dd (.lst [])) := Kp.laid hD
  have S2 : Sr X.K (G.hide Dd) (wipeS δ vs) M1 ι1 (wipe σ vs) (upd H1 Dd (.lst [])) := by
    have hne : ∀ a o, H1 a = some o → a ≠ Dd := fun a o e => ne_of_none e hD
    refine (S1.wiped vs).hideG rfl rfl rfl (fun a o e _ => by rw [upd_ne (hne a o e)]; exact e) (fun b a o e n => ⟨fun hh => ?_, n.2⟩) (S1.kp.trans kst) (fun a ha => ?_)
    · rcases hh with hh | rfl
      · exact n.1 hh
      · exact hne _ o e rfl
    · rcases ha with ha | rfl
      · obtain ⟨h1, o, h2⟩ := S1.hid a ha
        exact ⟨h1, o, (kst a o h2 h1).1⟩
      · exact ⟨hDi, _, upd_same⟩
  have hne : ∀ a o, H1 a = some o → a ≠ Dd := fun a o e => ne_of_none e hD
  have hN0 : ∀ b a o, H1 a = some o → G.N b a → (G.hide Dd).N b a := by
    intro b a o e n
    refine ⟨fun hh => ?_, n.2⟩
    rcases hh with hh | hh
    · exact n.1 hh
    · exact hne a o e hh
  have hHe : ∀ a o, G.He a = some o → some a ∉ G.i0.map some → a ≠ Dd := fun a o e n => hne a o (S1.kp a o e n).1
  -- what is hidden is neither named nor data
  have off : ∀ {ιc : Ix} {Hc : Hp} {δc Mc σc} (Sc : Sr X.K (G.hide Dd) δc Mc ιc σc Hc) {accV : List V} (hDc : Hc Dd = some (.lst accV)) (a : Addr) (o : HO), Hc a = some o → (∀ xs, o = .lst xs → (∃ b, (G.hide Dd).N b a) ∨ some a ∈ ιc) → a ≠ Dd := by
    intro ιc Hc δc Mc σc Sc accV hDc a o e hx hz
    subst hz
    rw [hDc] at e
    rcases hx accV (Option.some.inj e).symm with ⟨b, n⟩ | n
    · exact n.1 (.inr rfl)
    · exact (Sc.hid a (.inr rfl)).1 n
  -- the turns
  refine ⟨fun i m Hc => m = ds.length - i ∧ i ≤ ds.length ∧ ∃ acc accV Mc ιc, Sr X.K (G.hide Dd) (wipeS δ vs) Mc ιc (wipe σ vs) Hc ∧ Ex ι1 ιc ∧ Kp ι1 H1 ιc Hc ∧ Hc Dd = some (.lst accV) ∧ RDs X.K (G.hide Dd).N Hc ιc acc accV ∧ acc.length ≤ i ∧ lcL g.to tt te (wipeS δ vs) gd Q0 (ds.drop i) acc Mc,
    ⟨ds.length, by simp, Nat.zero_le _, [], [], M1, ι1, S2, Ex.refl _, kst, upd_same, rfl, Nat.zero_le _, by simpa using q1⟩, ?_⟩
  rintro i m Hc ⟨rfl, hi', acc, accV, Mc, ιc, Sc, ec, kc, hDc, rc, lc, qc⟩
  by_cases hlt : i < ds.length
  · have hd : ds.drop i = ds[i] :: ds.drop (i + 1) := List.drop_eq_getElem_cons hlt
    rw [hd] at qc
    obtain ⟨hgd, qc⟩ := qc
    obtain ⟨_, hgo⟩ := hJ (G.hide Dd) _ Mc ιc _ Hc hN0 Sc ec kc hgd
    obtain ⟨go, hy⟩ := hgo i ds[i] (List.getElem?_eq_getElem hlt)
    refine .inr ⟨go, fun H' => ∃ acc accV Mc ιc, Sr X.K (G.hide Dd) (wipeS δ vs) Mc ιc (wipe σ vs) H' ∧ Ex ι1 ιc ∧ Kp ι1 H1 ιc H' ∧ H' Dd = some (.lst accV) ∧ RDs X.K (G.hide Dd).N H' ιc acc accV ∧ acc.length ≤ i + 1 ∧ lcL g.to tt te (wipeS δ vs) gd Q0 (ds.drop (i + 1)) acc Mc,
      fun H' h' => ⟨ds.length - (i + 1), by omega, rfl, hlt, h'⟩, fun x H3 y3 => ?_⟩
    obtain ⟨hH3, S3, k3, r3⟩ := hy x H3 y3
    have hidc := (Sc.hid Dd (.inr rfl)).1
    refine raw_of (σ0 := σ) S3 r3 hv (wipe_wipe σ vs) qc fun δ4 σ4 q4 S4 hw4 => ⟨hw4, G.hide Dd, rfl, δ4, Mc, ιc, _, S4, q4, fun b M5 ι5 H5 q5 e5 k5 S5 => ?_⟩
    have S5' := Sc.back S5 e5 (k3.trans k5)
    have hD5 := ((k3.trans k5) Dd _ hDc hidc).1
    have r5 := rc.mono (N' := (G.hide Dd).N) (k3.trans k5) (fun _ _ _ _ z => z)
    cases b with
    | false =>
      simp only [Bool.false_eq_true, if_false] at q5 ⊢
      exact ⟨acc, accV, M5, ι5, S5', ec.trans e5, kc.trans (k3.trans k5), hD5, r5, by omega, q5⟩
    | true =>
      simp only [if_true] at q5 ⊢
      refine ⟨G.hide Dd, rfl, δ4, M5, ι5, _, S5, q5, fun s M6 ι6 H6 v q6 e6 k6 S6 r6 => ?_⟩
      obtain ⟨y, ey, q6⟩ := ok_elim q6
      have hs6 : s = .d y := by
        cases s with
        | d x => cases ey; rfl
        | ref n => cases ey
        | bor n => cases ey
      subst hs6
      have hid5 := (S5.hid Dd (.inr rfl)).1
      have hD6 := (k6 Dd _ hD5 hid5).1
      have S6' := S5'.back S6 e6 k6
      have hid6 := (S6.hid Dd (.inr rfl)).1
      have r6a := r5.mono (N' := (G.hide Dd).N) k6 (fun _ _ _ _ z => z)
      have hlenV : accV.length = acc.length := rc.length.symm
      have o6 := off S6 hD6
      refine ⟨accV, hD6, by omega, acc ++ [y], accV ++ [v], M6, ι6, ?_, (ec.trans e5).trans e6, ?_, upd_same, ?_, by simp; omega, q6⟩
      · refine S6'.hideG rfl rfl rfl (fun a o e hx => by rw [upd_ne (o6 a o e hx)]; exact e) (fun _ _ _ _ z => z) ?_ (fun a ha => ?_)
        · intro a o e n
          obtain ⟨h1, h2⟩ := S6'.kp a o e n
          exact ⟨by rw [upd_ne (hHe a o e n)]; exact h1, h2⟩
        · obtain ⟨h1, o, h2⟩ := S6'.hid a ha
          refine ⟨h1, ?_⟩
          by_cases hz : a = Dd
          · subst hz; exact ⟨_, upd_same⟩
          · exact ⟨o, by rw [upd_ne hz]; exact h2⟩
      · intro a o e n
        obtain ⟨h1, h2⟩ := (kc.trans ((k3.trans k5).trans k6)) a o e n
        exact ⟨by rw [upd_ne (hne a o e)]; exact h1, h2⟩
      · refine RDs.append ?_ ⟨v, [], rfl, ?_, rfl⟩
        · exact RDs.hide (fun a o e hx => by rw [upd_ne (o6 a o e fun xs z => .inl (hx xs z))]; exact e) (fun _ _ _ _ z => z) _ _ r6a
        · exact RD.hide (fun a o e hx => by rw [upd_ne (o6 a o e fun xs z => .inl (hx xs z))]; exact e) (fun _ _ _ _ z => z) _ _ r6
  · have hd : ds.drop i = [] := List.drop_eq_nil_of_le (by omega)
    rw [hd] at qc
    obtain ⟨hgd, qc⟩ := qc
    obtain ⟨hst, _⟩ := hJ (G.hide Dd) _ Mc ιc _ Hc hN0 Sc ec kc hgd
    have e : i = ds.length := by omega
    subst e
    refine .inl ⟨hst, ?_⟩
    have oc := off Sc hDc
    generalize hH' : (fun b => if b = Dd then none else Hc b : Hp) = H'
    have hne' : ∀ a, a ≠ Dd → H' a = Hc a := fun a n => by rw [← hH']; exact if_neg n
    have hDn : H' Dd = none := by rw [← hH']; exact if_pos rfl
    have hback : upd H' Dd (.lst accV) = Hc := by
      funext b
      by_cases hz : b = Dd
      · subst hz; rw [upd_same, hDc]
      · rw [upd_ne hz, hne' b hz]
    rw [← hback]
    have kc' : Kp ι1 H1 ιc H' := fun a o e n => by
      obtain ⟨h1, h2⟩ := kc a o e n
      exact ⟨by rw [hne' a (hne a o e)]; exact h1, h2⟩
    have Sg : Sr X.K G (wipeS δ vs) Mc ιc (wipe σ vs) H' := by
      refine Sc.hideG rfl rfl rfl (fun a o e hx => by rw [hne' a (oc a o e hx)]; exact e) (fun b a o e n => ⟨fun z => n.1 (.inl z), n.2⟩) ?_ (fun a ha => ?_)
      · intro a o e n
        obtain ⟨h1, h2⟩ := Sc.kp a o e n
        exact ⟨by rw [hne' a (hHe a o e n)]; exact h1, h2⟩
      · obtain ⟨h1, o, h2⟩ := Sc.hid a (.inl ha)
        obtain ⟨_, o', h3⟩ := S1.hid a ha
        exact ⟨h1, o, by rw [hne' a (hne a o' h3)]; exact h2⟩
    refine z acc Mc ιc H' accV Dd qc (p1.trans ec) (k1.trans kc') (S1.back Sg ec kc') ?_ (by omega) hDn
    exact RDs.hide (fun a o e hx => by rw [hne' a (oc a o e fun xs z => .inl (hx xs z))]; exact e) (fun b a o e n => ⟨fun z => n.1 (.inl z), n.2⟩) _ _ rc
theorem vf_lc {elt tg iter : Expr} {ifs : List Expr} {scope : Scope} {own : List (Str × Nat)} {pos : Pos} {it : TI'} {g : LcG} {tt : TT'} {te : TE'} (hc : X.calm = true) (hN : X.N.Nodup) (hi : VI X G true tg iter it) (ok' : BlkOk X.N X.env.scope scope own)
    (hg : ∀ (s : Shared) (H : Hp) (C : Addr) (cl : List (Str × Addr)) (fp : List Addr), PG (X.blk s H scope (compEnvC scope cl C X.env) fp) tg (g.raw X.K)) (ht : ∀ (s : Shared) (H : Hp) (C : Addr) (cl : List (Str × Addr)) (fp : List Addr) (G' : Gd), G'.i0 = G.i0 → VTs (X.blk s H scope (compEnvC scope cl C X.env) fp) G' ifs tt)
    (he : ∀ (s : Shared) (H : Hp) (C : Addr) (cl : List (Str × Addr)) (fp : List Addr) (G' : Gd), G'.i0 = G.i0 → VE (X.blk s H scope (compEnvC scope cl C X.env) fp) G' elt te) (hv : ∀ i ∈ g.names, i ∈ own.map (·.2)) (hs : ∀ x, foldedSetIterable iter X.env x = pure x := by intro _; rfl) :
    VF X G (.ListComp elt [⟨tg, iter, ifs, 0⟩] scope pos) (fLc it g tt te (own.map (·.2))) := by
  have h := pe_lc (pos := pos) (te := fun σ H Q => ∃ G', G'.i0 = G.i0 ∧ lE X.K G' te σ H Q) (tt := fun σ H Q => ∃ G', G'.i0 = G.i0 ∧ lT X.K G' tt σ H Q) hc hN hi ok' hg
    (fun s H C cl fp => ⟨fun pins s' σ H' Q I ⟨G', hg', q⟩ => (ht s H C cl fp G' hg').run pins s' σ H' Q I q⟩) (fun s H C cl fp => ⟨fun pins s' σ H' Q I ⟨G', hg', q⟩ => (he s H C cl fp G' hg').run pins s' σ H' Q I q⟩) hs
  exact PE.weak h fun σ H Q q => lc_low hv q
theorem fz_low {K : PySem.W.Frag} {tf : TF'} {σ : L2.St} {H : Hp} {Q : VK} (h : lE K G (eFz tf) σ H Q) : lF K G tf σ H Q := by
  obtain ⟨δ, M, ι, Q0, S, q, z⟩ := h
  exact ⟨δ, M, ι, _, S, q, fun ds M' ι' H' xs p h1 p1 k1 S1 r1 hl hp => fin_lst S1 (fun ι2 H2 w e2 k2 S2 r3 => z _ M' ι2 H2 w h1 (p1.trans e2) (k1.trans k2) S2 r3) r1 hl hp⟩
theorem nw_low {K : PySem.W.Frag} {tf : TF'} {σ : L2.St} {H : Hp} {Q : VK} (h : lE K G (eNw tf) σ H Q) : lF K G tf σ H Q := by
  obtain ⟨δ, M, ι, Q0, S, q, z⟩ := h
  refine ⟨δ, M, ι, _, S, q, fun ds M' ι' H' xs p h1 p1 k1 S1 r1 hl hp => ?_⟩
  have S2 := S1.named (o := .lst xs) (c := .lst ds) hp ⟨xs, upd_same, hl, r1.mono (Kp.named hp) fun _ _ _ _ q => q⟩
  refine z _ _ _ _ _ h1 (p1.trans (Ex.app _ _)) (k1.trans (Kp.named hp)) S2 ⟨p, rfl, .inl ?_⟩
  rw [S1.mem.len]; simp
/-- name = [..] on one line, the name a local -/
theorem vs_setLc {i : Nat} {y : Str} {py : Pos} {elt tg iter : Expr} {ifs : List Expr} {scope : Scope} {own : List (Str × Nat)} {pos spos : Pos} {it : TI'} {g : LcG} {tt : TT'} {te : TE'} (hc : X.calm = true) (hN : X.N.Nodup) (hy : X.N[i]? = some y) (hyl : X.env.scope.names.lookup y = some .local)
    (hsw : swapsWith (.ListComp elt [⟨tg, iter, ifs, 0⟩] scope pos) (some (.Name y py)) spos.line X.env = pure true) (hi : VI X G true tg iter it) (ok' : BlkOk X.N X.env.scope scope own)
    (hg : ∀ (s : Shared) (H : Hp) (C : Addr) (cl : List (Str × Addr)) (fp : List Addr), PG (X.blk s H scope (compEnvC scope cl C X.env) fp) tg (g.raw X.K)) (ht : ∀ (s : Shared) (H : Hp) (C : Addr) (cl : List (Str × Addr)) (fp : List Addr) (G' : Gd), G'.i0 = G.i0 → VTs (X.blk s H scope (compEnvC scope cl C X.env) fp) G' ifs tt)
    (he : ∀ (s : Shared) (H : Hp) (C : Addr) (cl : List (Str × Addr)) (fp : List Addr) (G' : Gd), G'.i0 = G.i0 → VE (X.blk s H scope (compEnvC scope cl C X.env) fp) G' elt te) (hv : ∀ i ∈ g.names, i ∈ own.map (·.2)) {nw : Bool} (hs : ∀ x, foldedSetIterable iter X.env x = pure x := by intro _; rfl) :
    VS X G (.Assign [.Name y py] (.ListComp elt [⟨tg, iter, ifs, 0⟩] scope pos) spos) (sSet i ((if nw then eNw else eFz) (fLc it g tt te (own.map (·.2))))) := by
  have h := ps_setLc (te := fun σ H Q => ∃ G', G'.i0 = G.i0 ∧ lE X.K G' te σ H Q) (tt := fun σ H Q => ∃ G', G'.i0 = G.i0 ∧ lT X.K G' tt σ H Q) hc hN hy hyl hsw hi ok' hg
    (fun s H C cl fp => ⟨fun pins s' σ H' Q I ⟨G', hg', q⟩ => (ht s H C cl fp G' hg').run pins s' σ H' Q I q⟩) (fun s H C cl fp => ⟨fun pins s' σ H' Q I ⟨G', hg', q⟩ => (he s H C cl fp G' hg').run pins s' σ H' Q I q⟩) hs
  refine PS.weak h fun E σ H ⟨δ, M, ι, E0, S, q, z⟩ => ?_
  refine lc_low hv ?_
  have hh : lE X.K G ((if nw then eNw else eFz) (fLc it g tt te (own.map (·.2)))) σ H (fun x H1 => gName i x σ H1 E.nx) :=
    ⟨δ, M, ι, _, S, q, fun d M' ι' H' v q' p' k' S' r' => z.nx _ M' ι' _ H' q' p' k' (S'.set r')⟩
  cases nw with
  | true => exact nw_low hh
  | false => exact fz_low hh
end
end VL
set_option Elab.async false
set_option linter.all false
set_option maxRecDepth 100000
set_option maxHeartbeats 4000000
namespace VL
open PySem PySem.Spec L2 RT RZ
def RdF (K : PySem.W.Frag) (r : List V → Hp → VK → Prop) (f : Mem → List Sv → Option (List D)) : Prop := ∀ (G : Gd) (δ : DS) (M : Mem) (ι : Ix) (σ : L2.St) (H : Hp) (xs : List Sv) (vs : List V) (ds : List D), Sr K G δ M ι σ H → RSs K G.N H ι xs vs → f M xs = some ds →
  ∀ Q : VK, (∀ ys p, RDs K G.N H ι ds ys → ds.length ≤ sizeLine → H p = none → Q (.ref p) (upd H p (.lst ys))) → r vs H Q
def fN (f : Mem → List Sv → Option (List D)) (t : TA') : TF' := fun δ M Q => t δ M fun xs M1 => ok (f M1 xs) fun ds => Q ds M1
def plN (f : Mem → List Sv → Option (List D)) (ps : List PV) : PL := fun δ M => (pArgs ps δ M).bind (f M)
def f2 (f : Mem → Sv → Sv → Option (List D)) (ta tb : TE') : TF' := fun δ M Q => ta δ M fun x M1 => tb δ M1 fun y M2 => ok (f M2 x y) fun ds => Q ds M2
def pl2 (f : Mem → Sv → Sv → Option (List D)) (a b : PV) : PL := fun δ M => (a δ M).bind fun x => (b δ M).bind fun y => f M x y
def RdF2 (K : PySem.W.Frag) (r : R2) (f : Mem → Sv → Sv → Option (List D)) : Prop := ∀ (G : Gd) (δ : DS) (M : Mem) (ι : Ix) (σ : L2.St) (H : Hp) (x y : Sv) (v u : V) (ds : List D), Sr K G δ M ι σ H → RS K G.N H ι x v → RS K G.N H ι y u → f M x y = some ds →
  ∀ Q : VK, (∀ ys p, RDs K G.N H ι ds ys → ds.length ≤ sizeLine → H p = none → Q (.ref p) (upd H p (.lst ys))) → r v u H Q
section
variable {K : PySem.W.Frag} {X : Cx} {G : Gd} {e a b : Expr} {es : List Expr} {pos : Pos} {ta tb t : TE'} {N : Bool → Addr → Prop} {H : Hp} {ι : Ix} {tf : TF'}
theorem vf_callB {x : Str} {id : String} {p : Pos} {n : Nat} {tA : TA'} {r : List V → Hp → VK → Prop} {f : Mem → List Sv → Option (List D)} (hc : CallR X (.builtin id) r) (hf : RdF X.K r f) (hg : Gl X x) (hm : X.mg x = none) (hv : bootBuiltins x = some (.builtin id)) (ha : VA X G (e :: es) n tA) (hn : x ≠ "__name__" := by decide) (hdb : (x == ("__debug__" : Str)) = false := by decide)
    (he : starEach (e :: es) X.env = (false, eval e X.env) :: starEach es X.env := by rfl) (hpl : (backTo pos (starEach es X.env)).any (·.1) = false := by rfl) : VF X G (.Call (.Name x p) (e :: es) [] pos) (fN f tA) :=
  PE.weak (pe_callB hc hg hm hv ha hn hdb he hpl) fun σ H Q ⟨δ, M, ι, Q0, S, q, z⟩ => thA S q fun xs M1 ι1 H1 vs hl q1 p1 k1 S1 r1 => by
    obtain ⟨ds, e, q1⟩ := ok_elim q1
    exact hf G δ M1 ι1 σ H1 xs vs ds S1 r1 e Q fun ys p ry hl hp => z ds M1 ι1 H1 ys p q1 p1 k1 S1 ry hl hp
theorem vf_callTy {x : Str} {T : String} {p : Pos} {n : Nat} {tA : TA'} {r : List V → Hp → VK → Prop} {f : Mem → List Sv → Option (List D)} (hc : CallR X (.type T) r) (hf : RdF X.K r f) (hg : Gl X x) (hm : X.mg x = none) (hv : bootBuiltins x = some (.type T)) (ha : VA X G (e :: es) n tA) (hn : x ≠ "__name__" := by decide) (hdb : (x == ("__debug__" : Str)) = false := by decide)
    (he : starEach (e :: es) X.env = (false, eval e X.env) :: starEach es X.env := by rfl) (hpl : (backTo pos (starEach es X.env)).any (·.1) = false := by rfl) : VF X G (.Call (.Name x p) (e :: es) [] pos) (fN f tA) :=
  PE.weak (pe_callTy hc hg hm hv ha hn hdb he hpl) fun σ H Q ⟨δ, M, ι, Q0, S, q, z⟩ => thA S q fun xs M1 ι1 H1 vs hl q1 p1 k1 S1 r1 => by
    obtain ⟨ds, e, q1⟩ := ok_elim q1
    exact hf G δ M1 ι1 σ H1 xs vs ds S1 r1 e Q fun ys p ry hl hp => z ds M1 ι1 H1 ys p q1 p1 k1 S1 ry hl hp
theorem vf_bin {op : Operator} {r : R2} {f : Mem → Sv → Sv → Option (List D)} (ho : OpR X (binaryOp op) r) (hf : RdF2 X.K r f) (ha : VE X G a ta) (hb : VE X G b tb) : VF X G (.BinOp a op b pos) (f2 f ta tb) :=
  PE.weak (pe_op ho ha hb) fun σ H Q ⟨δ, M, ι, Q0, S, q, z⟩ => th1 S q fun x M1 ι1 H1 v q1 p1 k1 S1 r1 => th1 S1 q1 fun y M2 ι2 H2 u q2 p2 k2 S2 r2 => by
    obtain ⟨ds, e, q2⟩ := ok_elim q2
    exact hf G δ M2 ι2 σ H2 x y v u ds S2 (r1.mono k2 p2 fun _ _ _ _ q => q) r2 e Q fun ys p ry hl hp => z ds M2 ι2 H2 ys p q2 (p1.trans p2) (k1.trans k2) S2 ry hl hp
theorem VF.pN {f : Mem → List Sv → Option (List D)} {ps : List PV} (h : VF X G e (fN f (aP ps))) : VF X G e (fP (plN f ps)) := h.weak fun δ M Q h => by
  unfold fP plN at h; rw [ok_bind] at h; exact h
theorem VF.p2 {f : Mem → Sv → Sv → Option (List D)} {p q : PV} (h : VF X G e (f2 f (eP p) (eP q))) : VF X G e (fP (pl2 f p q)) := h.weak fun δ M Q h => by
  unfold fP pl2 at h
  rw [ok_bind] at h
  obtain ⟨d, e1, h⟩ := ok_elim h
  rw [ok_bind] at h
  exact ok_of e1 h
theorem seq_len {δ : DS} {M : Mem} {σ : L2.St} {d : Sv} {v : V} {ds : List D} (S : Sr K G δ M ι σ H) (h : RS K G.N H ι d v) (e : seqD M d = some ds) : ds.length ≤ sizeLine := by
  cases d with
  | ref n =>
    obtain ⟨a, e1, hn, xs, q, l, r⟩ := S.mem.at h (cellL_some (show cellL M[n]? = some ds from e)) (fun z => nomatch z)
    exact l
  | bor es => cases e; obtain ⟨a, xs, e1, q, n, _, l, r⟩ := h; exact l
  | d d =>
    cases d with
    | lst es => cases e; obtain ⟨a, xs, e1, q, n, z, l, r⟩ := h; exact l
    | tup es => cases e; obtain ⟨a, xs, e1, q, l, r⟩ := h; exact l
    | scr ns => cases e; obtain ⟨a, e1, q, l⟩ := h; simpa using l
    | _ => cases e
theorem lst_seq {M : Mem} {d : Sv} {ds : List D} (e : lstD M d = some ds) : seqD M d = some ds := by
  cases d with
  | ref n => exact e
  | bor n => exact e
  | d d => cases d <;> first | exact e | cases e
def listF (M : Mem) : List Sv → Option (List D)
  | [s] => seqD M s
  | _ => none
theorem rd_list : RdF K (fun xs H Q => ∃ p ys, xs = [V.ref p] ∧ (SqL K H p ys ∨ SqT K H p ys) ∧ ∀ l, H l = none → Q (.ref l) (upd H l (.lst ys))) listF := by
  intro G δ M ι σ H xs vs ds S rx e Q z
  unfold listF at e
  split at e
  · obtain ⟨v, rfl, r⟩ := one_of rx
    obtain ⟨a, ys, rfl, hq, ry⟩ := seq_of S r e
    exact ⟨a, ys, rfl, hq, fun l hl => z ys l ry (by have := seq_len S r e; exact this) hl⟩
  · cases e
def sortI (ns : List Int) : List Int := ns.mergeSort (fun a b => decide (a ≤ b))
theorem sortI_perm (ns : List Int) : (sortI ns).Perm ns := List.mergeSort_perm _ _
theorem sortI_le (ns : List Int) : (sortI ns).Pairwise (· ≤ ·) := by
  have h := List.pairwise_mergeSort (le := fun a b : Int => decide (a ≤ b)) (fun a b c h1 h2 => by simp only [decide_eq_true_eq] at *; omega) (fun a b => by simp only [Bool.or_eq_true, decide_eq_true_eq]; omega) ns
  exact h.imp fun h => by simpa using h
theorem sortI_eq {ns ms : List Int} (p : ms.Perm ns) (o : ms.Pairwise (· ≤ ·)) : ms = sortI ns :=
  List.Perm.eq_of_pairwise (le := (· ≤ ·)) (fun a b _ _ h1 h2 => by omega) o (sortI_le ns) (p.trans (sortI_perm ns).symm)
theorem sortI_len (ns : List Int) : (sortI ns).length = ns.length := (sortI_perm ns).length_eq
/-- the items of a list that is laid (not the script) -/
def laidD (M : Mem) : Sv → Option (List D)
  | .d (.lst ds) => some ds
  | .bor ds => some ds
  | .ref n => cellL M[n]?
  | _ => none
theorem laid_of {δ : DS} {M : Mem} {σ : L2.St} {d : Sv} {v : V} {ds : List D} (S : Sr K G δ M ι σ H) (h : RS K G.N H ι d v) (e : laidD M d = some ds) : ∃ a xs, v = .ref a ∧ H a = some (.lst xs) ∧ RDs K G.N H ι ds xs ∧ ds.length ≤ sizeLine := by
  cases d with
  | ref n =>
    obtain ⟨a, e1, hn, xs, q, l, r⟩ := S.mem.at h (cellL_some (show cellL M[n]? = some ds from e)) (fun z => nomatch z)
    exact ⟨a, xs, e1, q, r, l⟩
  | bor es => cases e; obtain ⟨a, xs, e1, q, n, _, l, r⟩ := h; exact ⟨a, xs, e1, q, r, l⟩
  | d d =>
    cases d with
    | lst es => cases e; obtain ⟨a, xs, e1, q, n, z, l, r⟩ := h; exact ⟨a, xs, e1, q, r, l⟩
    | _ => cases e
def catF (M : Mem) (x y : Sv) : Option (List D) := (laidD M x).bind fun as => (laidD M y).bind fun bs => gd (as.length + bs.length ≤ sizeLine) (as ++ bs)
theorem rd_cat : RdF2 K rCat catF := by
  intro G δ M ι σ H x y v u ds S rx ry e Q z
  unfold catF at e
  cases qa : laidD M x with
  | none => rw [qa] at e; cases e
  | some as =>
    cases qb : laidD M y with
    | none => rw [qa, qb] at e; cases e
    | some bs =>
      rw [qa, qb] at e
      obtain ⟨hc, rfl⟩ := gd_some (show gd _ _ = some ds from e)
      obtain ⟨a, xs, rfl, h1, r1, l1⟩ := laid_of S rx qa
      obtain ⟨b, ys, rfl, h2, r2, l2⟩ := laid_of S ry qb
      exact ⟨a, b, xs, ys, rfl, rfl, h1, h2, by rw [← r1.length, ← r2.length]; exact hc, fun p hp => z _ p (r1.append r2) (by rw [List.length_append]; exact hc) hp⟩
theorem vf_cat (ha : VE X G a ta) (hb : VE X G b tb) : VF X G (.BinOp a .Add b pos) (f2 catF ta tb) := vf_bin op_cat rd_cat ha hb
def f1 (f : Mem → Sv → Option (List D)) (ta : TE') : TF' := fun δ M Q => ta δ M fun x M1 => ok (f M1 x) fun ds => Q ds M1
def pl1 (f : Mem → Sv → Option (List D)) (a : PV) : PL := fun δ M => (a δ M).bind (f M)
theorem VF.p1 {f : Mem → Sv → Option (List D)} {p : PV} (h : VF X G e (f1 f (eP p))) : VF X G e (fP (pl1 f p)) := h.weak fun δ M Q h => by
  unfold fP pl1 at h; rw [ok_bind] at h; exact h
def tupC (M : Mem) (x : Sv) : Option Sv := (seqD M x).map fun ds => .d (.tup ds)
theorem ve_tupleOf {p : Pos} (hg : Gl X "tuple") (hm : X.mg "tuple" = none) (ha : VE X G a ta) (na : starEach [a] X.env = (false, eval a X.env) :: starEach [] X.env := by rfl) : VE X G (.Call (.Name "tuple" p) [a] [] pos) (eo1 tupC ta) :=
  PE.weak (pe_tupleOf hg hm ha na) fun σ H Q h => by
    refine fin1 (r := fun x H Q => kTup X.K x H Q) (fun G δ M ι σ H x v d S rx e Q z => ?_) h
    obtain ⟨ds, e9, rfl⟩ := Option.map_eq_some_iff.mp e
    have hl := seq_len S rx e9
    by_cases hx : ∃ es, x = .d (.tup es)
    · obtain ⟨es, rfl⟩ := hx
      cases e9
      have rx' := rx
      obtain ⟨b, xs, rfl, q, l, r⟩ := rx
      exact .inr ⟨b, xs, rfl, tup_sq q, fin_same S z rx'⟩
    · have e3 : lstD M x = some ds := by
        cases x with
        | d x =>
          cases x with
          | tup es => exact absurd ⟨es, rfl⟩ hx
          | lst es => exact e9
          | scr es => exact e9
          | _ => cases e9
        | ref n => exact e9
        | bor n => exact e9
      obtain ⟨b, xs, rfl, hq, r⟩ := lst_of S rx e3
      exact .inl ⟨b, xs, rfl, hq, fun q hq => fin_tup S z r hl hq⟩
end
abbrev TO' := DS → Mem → (Option Int → Mem → Prop) → Prop
def lO (K : PySem.W.Frag) (G : Gd) (t : TO') : TO := fun σ H Q => ∃ δ M ι Q0, Sr K G δ M ι σ H ∧ t δ M Q0 ∧
  ∀ b M' ι' H', Q0 b M' → Ex ι ι' → Kp ι H ι' H' → Sr K G δ M' ι' σ H' → Q b H'
abbrev VO (X : Cx) (G : Gd) (e : Option Expr) (t : TO') : Prop := PO X e (lO X.K G t)
abbrev PO' := DS → Mem → Option (Option Int)
def oP (p : PO') : TO' := fun δ M Q => ok (p δ M) fun o => Q o M
def poNo : PO' := fun _ _ => some none
def intO : Sv → Option (Option Int)
  | .d (.int i) => some (some i)
  | _ => none
def poI (p : PV) : PO' := fun δ M => (p δ M).bind intO
def cutD (ds : List D) (lo hi : Option Int) : List D := (ds.drop (HT.sIx ds.length 0 lo)).take (HT.sIx ds.length ds.length hi - HT.sIx ds.length 0 lo)
def slD (_ : Mem) : Sv → Option Int → Option Int → Option Sv
  | .d (.tup ds), lo, hi => some (.d (.tup (cutD ds lo hi)))
  | .d (.str z), lo, hi => gd (z.length ≤ sizeLine) (.d (.str (cutS z lo hi)))
  | _, _, _ => none
def slF (M : Mem) (s : Sv) (lo hi : Option Int) : Option (List D) := (lstD M s).map fun ds => cutD ds lo hi
def poSl (a : PV) (lo hi : PO') : PV := fun δ M => (a δ M).bind fun s => (lo δ M).bind fun l => (hi δ M).bind fun h => slD M s l h
def plSl (a : PV) (lo hi : PO') : PL := fun δ M => (a δ M).bind fun s => (lo δ M).bind fun l => (hi δ M).bind fun h => slF M s l h
section
variable {K : PySem.W.Frag} {X : Cx} {G : Gd} {e a b : Expr} {es : List Expr} {pos p2 : Pos} {ta tb t : TE'} {N : Bool → Addr → Prop} {H : Hp} {ι : Ix} {lo hi : Option Expr} {pa : PV} {pl ph : PO'}
theorem vo_none : VO X G none (oP poNo) := ⟨fun pins s σ H Q I ⟨δ, M, ι, Q0, S, q, z⟩ => po_none.run pins s σ H Q I (z none M ι H q (Ex.refl _) (Kp.refl _ _) S)⟩
theorem vo_some (h : VE X G e (eP pa)) : VO X G (some e) (oP (poI pa)) := by
  refine ⟨fun pins s σ H Q I ⟨δ, M, ι, Q0, S, q, z⟩ => (po_some h).run pins s σ H Q I ?_⟩
  unfold oP poI at q
  rw [ok_bind] at q
  refine th1 (Q0 := fun s M' => M' = M ∧ ok (intO s) fun o => Q0 o M) S (by obtain ⟨d, e, q⟩ := ok_elim q; exact ok_of e ⟨rfl, q⟩) fun x M1 ι1 H1 v q1 p1 k1 S1 r1 => ?_
  obtain ⟨rfl, q1⟩ := q1
  obtain ⟨o, e, q1⟩ := ok_elim q1
  unfold intO at e
  split at e
  · cases e; cases (show _ = _ from r1); exact ⟨_, rfl, z _ M1 ι1 H1 q1 p1 k1 S1⟩
  · cases e
theorem cutD_len (ds : List D) (lo hi : Option Int) : (cutD ds lo hi).length ≤ ds.length := by
  unfold cutD; rw [List.length_take, List.length_drop]; omega
theorem RDs.cut {ds : List D} {xs : List V} (r : RDs K N H ι ds xs) (lo hi : Option Int) : RDs K N H ι (cutD ds lo hi) (cutV xs lo hi) := by
  unfold cutD cutV
  rw [← r.length]
  exact (r.drop _).take _
theorem cut_whole {xs : List V} {lo hi : Option Int} (h : HT.sIx xs.length 0 lo = 0 ∧ HT.sIx xs.length xs.length hi = xs.length) : cutV xs lo hi = xs := by
  unfold cutV; rw [h.1, h.2]; simp
theorem ve_slice (he : VE X G a (eP pa)) (hl : VO X G lo (oP pl)) (hu : VO X G hi (oP ph)) : VE X G (.Subscript a (.Slice lo hi none p2) pos) (eP (poSl pa pl ph)) := by
  refine PE.weak (pe_slice ((sl_tupA (X := X)).or sl_str) he hl hu) fun σ H Q ⟨δ, M, ι, Q0, S, q, z⟩ => ?_
  unfold eP poSl at q
  rw [ok_bind] at q
  obtain ⟨s, e1, q⟩ := ok_elim q
  rw [ok_bind] at q
  obtain ⟨l, e2, q⟩ := ok_elim q
  rw [ok_bind] at q
  obtain ⟨h, e3, q⟩ := ok_elim q
  obtain ⟨d, e4, q9⟩ := ok_elim q
  refine th1 (Q0 := fun x M' => x = s ∧ M' = M) S (ok_of e1 ⟨rfl, rfl⟩) fun x M1 ι1 H1 v q1 p1 k1 S1 r1 => ?_
  obtain ⟨rfl, rfl⟩ := q1
  refine ⟨δ, M1, ι1, fun o M' => o = l ∧ M' = M1, S1, ok_of e2 ⟨rfl, rfl⟩, fun o M2 ι2 H2 q2 p2 k2 S2 => ?_⟩
  obtain ⟨rfl, rfl⟩ := q2
  refine ⟨δ, M2, ι2, fun o M' => o = h ∧ M' = M2, S2, ok_of e3 ⟨rfl, rfl⟩, fun o' M3 ι3 H3 q3 p3 k3 S3 => ?_⟩
  obtain ⟨rfl, rfl⟩ := q3
  have r3 := r1.mono (k2.trans k3) (p2.trans p3) (fun _ _ _ _ z => z)
  have z3 : ∀ ι' H' w, Ex ι3 ι' → Kp ι3 H3 ι' H' → Sr X.K G δ M3 ι' σ H' → RS X.K G.N H' ι' d w → Q w H' := fun ι' H' w p4 k4 S4 r4 => z d M3 ι' H' w q9 (((p1.trans p2).trans p3).trans p4) (((k1.trans k2).trans k3).trans k4) S4 r4
  unfold slD at e4
  split at e4
  · cases e4
    obtain ⟨b, xs, rfl, hq, hl, r⟩ := r3
    refine .inl ⟨b, xs, rfl, tup_sq hq, fun hw => ?_, fun hw p hp => ?_⟩
    · refine fin_same S3 z3 ⟨b, xs, rfl, hq, Nat.le_trans (cutD_len _ _ _) hl, ?_⟩
      have := r.cut o o'
      rw [cut_whole hw] at this
      exact this
    · exact fin_tup S3 z3 (r.cut _ _) (Nat.le_trans (cutD_len _ _ _) hl) hp
  · obtain ⟨hc, rfl⟩ := gd_some e4
    cases (show _ = _ from r3)
    exact .inr ⟨_, rfl, hc, fin_same S3 z3 rfl⟩
  · cases e4
theorem vf_slice (he : VE X G a (eP pa)) (hl : VO X G lo (oP pl)) (hu : VO X G hi (oP ph)) : VF X G (.Subscript a (.Slice lo hi none p2) pos) (fP (plSl pa pl ph)) := by
  refine PE.weak (pe_slice sl_list he hl hu) fun σ H Q ⟨δ, M, ι, Q0, S, q, z⟩ => ?_
  unfold fP plSl at q
  rw [ok_bind] at q
  obtain ⟨s, e1, q⟩ := ok_elim q
  rw [ok_bind] at q
  obtain ⟨l, e2, q⟩ := ok_elim q
  rw [ok_bind] at q
  obtain ⟨h, e3, q⟩ := ok_elim q
  obtain ⟨d, e4, q9⟩ := ok_elim q
  obtain ⟨es, e5, rfl⟩ := Option.map_eq_some_iff.mp e4
  refine th1 (Q0 := fun x M' => x = s ∧ M' = M) S (ok_of e1 ⟨rfl, rfl⟩) fun x M1 ι1 H1 v q1 p1 k1 S1 r1 => ?_
  obtain ⟨rfl, rfl⟩ := q1
  refine ⟨δ, M1, ι1, fun o M' => o = l ∧ M' = M1, S1, ok_of e2 ⟨rfl, rfl⟩, fun o M2 ι2 H2 q2 p2 k2 S2 => ?_⟩
  obtain ⟨rfl, rfl⟩ := q2
  refine ⟨δ, M2, ι2, fun o M' => o = h ∧ M' = M2, S2, ok_of e3 ⟨rfl, rfl⟩, fun o' M3 ι3 H3 q3 p3 k3 S3 => ?_⟩
  obtain ⟨rfl, rfl⟩ := q3
  have r3 := r1.mono (k2.trans k3) (p2.trans p3) (fun _ _ _ _ z => z)
  obtain ⟨b, xs, rfl, hq, rx⟩ := lst_of S3 r3 e5
  have hl := seq_len S3 r3 (lst_seq e5)
  exact ⟨b, xs, rfl, hq, fun p hp => z _ M3 ι3 H3 _ p q9 ((p1.trans p2).trans p3) ((k1.trans k2).trans k3) S3 (rx.cut _ _) (Nat.le_trans (cutD_len _ _ _) hl) hp⟩
end
end VL
set_option Elab.async false
set_option linter.all false
set_option maxRecDepth 100000
set_option maxHeartbeats 4000000
namespace VL
open PySem PySem.Spec L2 RT RZ
def rcv (M : Mem) : Sv → Option String
  | .ref n => match M[n]? with
    | some (.lst _) => some "list"
    | some (.dk _) => some "dict"
    | _ => none
  | .d (.lst _) => some "list"
  | .bor _ => some "list"
  | .d (.str _) => some "str"
  | _ => none
abbrev Mt := Sv → List Sv → Mem → QD → Prop
def eMt (T : String) (f : Mt) (to : TE') (tA : TA') : TE' := fun δ M Q => to δ M fun o M1 => rcv M1 o = some T ∧ tA δ M1 fun xs M2 => f o xs M2 Q
def RdMt (K : PySem.W.Frag) (r : V → List V → Hp → VK → Prop) (f : Mt) : Prop := ∀ (G : Gd) (δ : DS) (M : Mem) (ι : Ix) (σ : L2.St) (H : Hp) (o : Sv) (xs : List Sv) (v : V) (vs : List V) (Q0 : QD), Sr K G δ M ι σ H → RS K G.N H ι o v → RSs K G.N H ι xs vs → f o xs M Q0 →
  ∀ Q : VK, (∀ d M' ι' H' w, Q0 d M' → Ex ι ι' → Kp ι H ι' H' → Sr K G δ M' ι' σ H' → RS K G.N H' ι' d w → Q w H') → r v vs H Q
section
variable {K : PySem.W.Frag} {X : Cx} {G : Gd} {e a b o : Expr} {es : List Expr} {pos cpos apos : Pos} {ta tb t to : TE'} {N : Bool → Addr → Prop} {H : Hp} {ι : Ix} {tA : TA'}
theorem rcv_ty {δ : DS} {M : Mem} {σ : L2.St} {s : Sv} {v : V} {T : String} (S : Sr K G δ M ι σ H) (r : RS K G.N H ι s v) (e : rcv M s = some T) : tyV K T v H := by
  cases s with
  | ref n =>
    simp only [rcv] at e
    split at e
    · rename_i ds hM
      cases e
      obtain ⟨a, rfl, hn, xs, q, _, _⟩ := S.mem.at r hM (fun z => nomatch z)
      exact .inl ⟨rfl, xs, SqL.of q⟩
    · rename_i ds hM
      cases e
      obtain ⟨a, rfl, hn, xs, q, _, _⟩ := S.mem.at r hM (fun z => nomatch z)
      exact .inr (.inr (.inl ⟨rfl, .inl ⟨xs, q⟩⟩))
    · cases e
  | bor ds => cases e; obtain ⟨a, xs, rfl, q, _⟩ := r; exact .inl ⟨rfl, xs, SqL.of q⟩
  | d d =>
    cases d with
    | lst ds => cases e; obtain ⟨a, xs, rfl, q, _⟩ := r; exact .inl ⟨rfl, xs, SqL.of q⟩
    | str z => cases e; cases (show _ = _ from r); rfl
    | _ => cases e
theorem ve_mt {n : Nat} {T id : String} {name : Str} {r : V → List V → Hp → VK → Prop} {f : Mt} (pa : PlainAttrs T) (slot : Slot T name id) (hty : typeOf (.builtin id) = pure (.type "method_descriptor")) (hm : MtR X id r) (hf : RdMt X.K r f) (ho : VE X G o to) (ha : VA X G (e :: es) n tA)
    (hbase : attributeBase o name X.env (eval o X.env) = eval o X.env := by rfl)
    (hfew : ((backTo cpos (starEach (e :: es) X.env)).all (fun x => !x.1) && (backToKw cpos (keywordEach [] X.env)).all (fun x => x.1.isSome)
      && decide ((e :: es).length + ([] : List Keyword).length + (if ([] : List Keyword).isEmpty then 0 else 1) < 30)) = true := by rfl)
    (hline : (apos.endLine == cpos.line) = true := by rfl) (hs : starEach (e :: es) X.env = (false, eval e X.env) :: starEach es X.env := by rfl) (hplain : (backTo cpos (starEach es X.env)).any (·.1) = false := by rfl) :
    VE X G (.Call (.Attribute o name apos) (e :: es) [] cpos) (eMt T f to tA) :=
  PE.weak (pe_bm pa slot hty hm ho ha hbase hfew hline hs hplain) fun σ H Q ⟨δ, M, ι, Q0, S, q, z⟩ => th1 S q fun s M1 ι1 H1 v q1 p1 k1 S1 r1 =>
    ⟨rcv_ty S1 r1 q1.1, thA S1 q1.2 fun xs M2 ι2 H2 vs hl q2 p2 k2 S2 r2 =>
      hf G δ M2 ι2 σ H2 s xs v vs Q0 S2 (r1.mono k2 p2 fun _ _ _ _ q => q) r2 q2 Q fun d M3 ι3 H3 w q3 p3 k3 S3 r3 => z d M3 ι3 H3 w q3 ((p1.trans p2).trans p3) ((k1.trans k2).trans k3) S3 r3⟩
theorem ve_mt0 {T id : String} {name : Str} {r : V → List V → Hp → VK → Prop} {f : Mt} (pa : PlainAttrs T) (slot : Slot T name id) (hty : typeOf (.builtin id) = pure (.type "method_descriptor")) (hm : MtR X id r) (hf : RdMt X.K r f) (ho : VE X G o to)
    (hbase : attributeBase o name X.env (eval o X.env) = eval o X.env := by rfl) (hline : (apos.endLine == cpos.line) = true := by rfl) :
    VE X G (.Call (.Attribute o name apos) [] [] cpos) (eMt T f to aNil) :=
  PE.weak (pe_bm0 pa slot hty hm ho hbase hline) fun σ H Q ⟨δ, M, ι, Q0, S, q, z⟩ => th1 S q fun s M1 ι1 H1 v q1 p1 k1 S1 r1 =>
    ⟨rcv_ty S1 r1 q1.1, hf G δ M1 ι1 σ H1 s [] v [] Q0 S1 r1 rfl q1.2 Q fun d M3 ι3 H3 w q3 p3 k3 S3 r3 => z d M3 ι3 H3 w q3 (p1.trans p3) (k1.trans k3) S3 r3⟩
def mApp : Mt := fun o xs M Q => match o, xs with
  | .ref n, [.d x] => ok (cellL M[n]?) fun ds => ds.length < sizeLine ∧ Q (.d .non) (M.set n (.lst (ds ++ [x])))
  | _, _ => False
def mPop : Mt := fun o xs M Q => match o, xs with
  | .ref n, [] => ok (cellL M[n]?) fun ds => ok ds[ds.length - 1]? fun y => Q (.d y) (M.set n (.lst ds.dropLast))
  | _, _ => False
def mPopAt : Mt := fun o xs M Q => match o, xs with
  | .ref n, [.d (.int i)] => ok (cellL M[n]?) fun ds => ok (ixN ds.length i) fun k => ok ds[k]? fun y => Q (.d y) (M.set n (.lst (ds.eraseIdx k)))
  | _, _ => False
/-- the end of a method that turns a list -/
theorem fin_turn {δ : DS} {M : Mem} {σ : L2.St} {n : Nat} {a : Addr} {ds' : List D} {xs' : List V} {s : Sv} {w : V} {Q0 : QD} {Q : VK} (S : Sr K G δ M ι σ H) (hn : ι[n]? = some (some a)) (r : RDs K G.N H ι ds' xs') (hl : ds'.length ≤ sizeLine) (rs : RS K G.N H ι s w) (q : Q0 s (M.set n (.lst ds')))
    (z : ∀ d M' ι' H' w, Q0 d M' → Ex ι ι' → Kp ι H ι' H' → Sr K G δ M' ι' σ H' → RS K G.N H' ι' d w → Q w H') (ho : ObT H a (.lst xs') := by refine ObT.of (by assumption) ?_ ?_ <;> (intro C dx fs z; cases z)) : Q w (upd H a (.lst xs')) := by
  have hm := List.mem_of_getElem? hn
  have k : Kp ι H ι (upd H a (.lst xs')) := Kp.turned hm
  exact z s _ ι _ w q (Ex.refl _) k (S.turned hn ⟨xs', upd_same, hl, r.mono k fun _ _ _ _ z => z⟩ trivial ho) (rs.mono k (Ex.refl _) fun _ _ _ _ z => z)
theorem rd_app : RdMt K rAppend mApp := by
  intro G δ M ι σ H o xs v vs Q0 S ro rx h Q z
  unfold mApp at h
  split at h
  · rename_i n x
    obtain ⟨ds, e, hl, q⟩ := ok_elim h
    obtain ⟨a, rfl, hn, ys, hH, _, r⟩ := S.mem.at ro (cellL_some e) (fun z => nomatch z)
    obtain ⟨y, rfl, ry⟩ := one_of rx
    exact ⟨a, ys, y, rfl, rfl, hH, by rw [← r.length]; exact hl, fin_turn (s := .d .non) S hn (r.append (es := [x]) ⟨y, [], rfl, ry, rfl⟩) (by simp; omega) rfl q z⟩
  · exact h.elim
theorem rd_pop : RdMt K rPop mPop := by
  intro G δ M ι σ H o xs v vs Q0 S ro rx h Q z
  unfold mPop at h
  split at h
  · rename_i n
    obtain ⟨ds, e, h⟩ := ok_elim h
    obtain ⟨y, e2, q⟩ := ok_elim h
    obtain ⟨a, rfl, hn, ys, hH, hl, r⟩ := S.mem.at ro (cellL_some e) (fun z => nomatch z)
    obtain ⟨w, hw, rw'⟩ := r.get e2
    exact ⟨a, ys, w, rfl, rx, hH, by rw [← r.length]; exact hw, fin_turn (s := .d y) S hn r.dropLast (by simp; omega) rw' q z⟩
  · exact h.elim
theorem rd_popAt : RdMt K rPopAt mPopAt := by
  intro G δ M ι σ H o xs v vs Q0 S ro rx h Q z
  unfold mPopAt at h
  split at h
  · rename_i n i
    obtain ⟨ds, e, h⟩ := ok_elim h
    obtain ⟨k, e2, h⟩ := ok_elim h
    obtain ⟨y, e3, q⟩ := ok_elim h
    obtain ⟨a, rfl, hn, ys, hH, hl, r⟩ := S.mem.at ro (cellL_some e) (fun z => nomatch z)
    obtain ⟨u, rfl, ru⟩ := one_of rx
    cases (show _ = _ from ru)
    obtain ⟨w, hw, rw'⟩ := r.get e3
    obtain ⟨h1, h2, h3, h4⟩ := ixN_seq e2
    have hz := sizeLine_eq
    exact ⟨a, ys, i, k, w, rfl, rfl, hH, by omega, by omega, by rw [← r.length]; exact h1, hw, fin_turn (s := .d y) S hn (r.eraseIdx k) (Nat.le_trans (len_erase _ _) hl) rw' q z⟩
  · exact h.elim
def mPure (f : Mem → Sv → List Sv → Option Sv) : Mt := fun o xs M Q => ok (f M o xs) fun d => Q d M
def countD (M : Mem) (o : Sv) : List Sv → Option Sv
  | [.d x] => (lstD M o).bind fun ds => gd (okE x = true ∧ okE (.lst ds) = true) (intS ((ds.countP fun z => eqvD z x : Nat) : Int))
  | _ => none
def indexD (M : Mem) (o : Sv) : List Sv → Option Sv
  | [.d x] => (lstD M o).bind fun ds => gd (okE x = true ∧ okE (.lst ds) = true ∧ (ds.any fun z => eqvD z x) = true) (intS ((ds.findIdx fun z => eqvD z x : Nat) : Int))
  | _ => none
def rCountD (K : PySem.W.Frag) : V → List V → Hp → VK → Prop := fun x xs H Q => ∃ (a : Addr) (y : V) (d : PyData) (ds : List PyData), x = V.ref a ∧ xs = [y] ∧ Dp K H (V.ref a) (.list ds) ∧ Dp K H y d ∧
  SeqAt.shaped (.list ds) = true ∧ SeqAt.shaped d = true ∧ Q (.int ((ds.countP fun z => PyData.eqv z d : Nat) : Int)) H
theorem mt_countD (hu : X.A.units + 65 < cLine) : MtR X "list.count" (rCountD X.K) := by
  intro pins s σ H x xs v us Q I rx rxs h
  obtain ⟨a, y, d, ds, rfl, rfl, hl, hy, sl, sd, q⟩ := h
  cases rx
  cases rxs with
  | cons ry rt =>
    rename_i uy ut
    cases rt
    obtain ⟨bs, r1⟩ := Dp.reads I d y uy hy ry
    have hxs : PyData.canLayAll0 ds = true := SeqAt.canLay_of_shaped sl
    have hroom : X.A.units + 1 + min (PyData.depthAll ds) d.depth < cLine := PyProof.Rows.room_in_shaped sd hu
    cases hl with
    | lst hs ha =>
      obtain ⟨its, rv, ⟨⟨cls, dd, data, sls⟩, n, ho, hc, hdn, hdt⟩, hlen⟩ := I.list hs
      simp only at hc hdt
      subst hc hdt
      obtain ⟨as, h4⟩ := Dp.readsAll I ds _ its ha rv
      have hmap : its.map (SeqAt.readOf s.heap) = ds := SeqAt.readsAll_map ds its as hxs h4
      refine call_meets PySem.F.slot_list_count ⟨_, ho, rfl⟩ PySem.F.entry_list_count (PySem.F.args_list_count_2 _ _)
        (SeqAt.list_countAt a its.toArray n dd sls uy (fun u => PyData.eqv (SeqAt.readOf s.heap u) d)) ⟨ho, SeqAt.items_eqAt (vs := its.toArray) (show ReadsAll s.heap its.toArray.toList ds as from h4) r1 hxs (SeqAt.canLay_of_shaped sd) hroom, ?_⟩
      have hcnt : its.toArray.toList.countP (fun u => PyData.eqv (SeqAt.readOf s.heap u) d) = ds.countP fun z => PyData.eqv z d := by
        rw [← hmap, List.countP_map]; rfl
      rw [hcnt]
      exact ⟨.int _, H, I.tok _, ⟨_, rfl⟩, q⟩
theorem pys_get : ∀ (ds : List D) (i : Nat), (pys ds)[i]? = (ds[i]?).map py
  | [], i => by simp [pys]
  | d :: ds, 0 => by simp [pys]
  | d :: ds, i + 1 => by simp [pys, pys_get ds i]
theorem noRs_get {ds : List D} {i : Nat} {d : D} (h : noRs ds = true) (e : ds[i]? = some d) : noR d = true := by
  induction ds generalizing i with
  | nil => simp at e
  | cons x xs ih =>
    simp only [noRs, Bool.and_eq_true] at h
    cases i with
    | zero => simp at e; subst e; exact h.1
    | succ i => exact ih h.2 (by simpa using e)
theorem count_py {x : D} (nx : noR x = true) : ∀ {ds : List D}, noRs ds = true → (pys ds).countP (fun z => PyData.eqv z (py x)) = ds.countP fun z => eqvD z x
  | [], _ => by simp [pys]
  | d :: ds, h => by
    simp only [noRs, Bool.and_eq_true] at h
    simp only [pys, List.countP_cons, count_py nx h.2, eqv_py d x h.1 nx]
theorem lst_dp {δ : DS} {M : Mem} {σ : L2.St} {s : Sv} {v : V} {ds : List D} (S : Sr K G δ M ι σ H) (r : RS K G.N H ι s v) (e : lstD M s = some ds) (n : noRs ds = true) : ∃ a, v = .ref a ∧ Dp K H (.ref a) (.list (pys ds)) := by
  obtain ⟨a, xs, rfl, q, r2⟩ := lst_of S r e
  exact ⟨a, rfl, .lst q (RDs.dp ds xs r2 n)⟩
theorem rd_count : RdMt K (rCountD K) (mPure countD) := by
  intro G δ M ι σ H o xs v vs Q0 S ro rx h Q z
  obtain ⟨d, e, q⟩ := ok_elim h
  unfold countD at e
  split at e
  · rename_i x
    cases qe : lstD M o with
    | none => rw [qe] at e; cases e
    | some ds =>
      rw [qe] at e
      obtain ⟨⟨h1, h2⟩, rfl⟩ := gd_some (show gd _ _ = some d from e)
      obtain ⟨nx, sx⟩ := okE_and h1
      obtain ⟨ny, sy⟩ := okE_and h2
      simp only [noR] at ny
      obtain ⟨a, rfl, hl⟩ := lst_dp S ro qe ny
      obtain ⟨y, rfl, ry⟩ := one_of rx
      refine ⟨a, y, py x, pys ds, rfl, rfl, hl, RD.dp x y ry nx, by simpa [py] using sy, sx, ?_⟩
      rw [count_py nx ny]
      exact z _ M ι H _ q (Ex.refl _) (Kp.refl _ _) S rfl
  · cases e
theorem rd_index : RdMt K (rIndexD K) (mPure indexD) := by
  intro G δ M ι σ H o xs v vs Q0 S ro rx h Q z
  obtain ⟨d, e, q⟩ := ok_elim h
  unfold indexD at e
  split at e
  · rename_i x
    cases qe : lstD M o with
    | none => rw [qe] at e; cases e
    | some ds =>
      rw [qe] at e
      obtain ⟨⟨h1, h2, h3⟩, rfl⟩ := gd_some (show gd _ _ = some d from e)
      obtain ⟨nx, sx⟩ := okE_and h1
      obtain ⟨ny, sy⟩ := okE_and h2
      simp only [noR] at ny
      obtain ⟨a, rfl, hl⟩ := lst_dp S ro qe ny
      obtain ⟨y, rfl, ry⟩ := one_of rx
      obtain ⟨w, hw, hp⟩ := List.any_eq_true.mp h3
      have hlt : (ds.findIdx fun z => eqvD z x) < ds.length := List.findIdx_lt_length_of_exists ⟨w, hw, hp⟩
      have hz : ds[ds.findIdx fun z => eqvD z x]? = some ds[ds.findIdx fun z => eqvD z x] := List.getElem?_eq_getElem hlt
      refine ⟨a, y, py x, pys ds, ds.findIdx fun z => eqvD z x, py ds[ds.findIdx fun z => eqvD z x], rfl, rfl, hl, RD.dp x y ry nx, by simpa [py] using sy, sx, by rw [pys_get, hz]; rfl, ?_, fun m z' hm hz' => ?_, ?_⟩
      · rw [eqv_py _ _ (noRs_get ny hz) nx]; exact List.findIdx_getElem (w := hlt)
      · rw [pys_get] at hz'
        obtain ⟨u, hu, rfl⟩ := Option.map_eq_some_iff.mp hz'
        rw [eqv_py _ _ (noRs_get ny hu) nx]
        have hlt2 := (List.getElem?_eq_some_iff.mp hu).1
        have := List.not_of_lt_findIdx hm
        rw [List.getElem?_eq_getElem hlt2] at hu
        cases hu
        simpa using this
      · exact z _ M ι H _ q (Ex.refl _) (Kp.refl _ _) S rfl
  · cases e
def poMt (T : String) (f : Mem → Sv → List Sv → Option Sv) (a : PV) (ps : List PV) : PV := fun δ M => (a δ M).bind fun o => (gd (rcv M o = some T) ()).bind fun _ => (pArgs ps δ M).bind fun xs => f M o xs
theorem VE.pMt {T : String} {f : Mem → Sv → List Sv → Option Sv} {pv : PV} {ps : List PV} (h : VE X G e (eMt T (mPure f) (eP pv) (aP ps))) : VE X G e (eP (poMt T f pv ps)) := h.weak fun δ M Q h => by
  unfold eP poMt at h
  rw [ok_bind] at h
  obtain ⟨d, q1, h⟩ := ok_elim h
  rw [ok_bind] at h
  obtain ⟨u, q2, h⟩ := ok_elim h
  rw [ok_bind] at h
  obtain ⟨xs, q3, h⟩ := ok_elim h
  exact ok_of q1 ⟨(gd_some q2).1, ok_of q3 h⟩
end
end VL
set_option Elab.async false
set_option linter.all false
set_option maxRecDepth 100000
set_option maxHeartbeats 4000000
namespace VL
open PySem PySem.Spec L2 RT RZ
def stD (o i : Sv) (d : D) (M : Mem) (Q : Mem → Prop) : Prop := match o, i with
  | .ref n, .d (.int k) => ok (cellL M[n]?) fun ds => ok (ixN ds.length k) fun j => Q (M.set n (.lst (ds.set j d)))
  | _, _ => False
def sSub (te to ti : TE') : TS' := fun E δ M => te δ M fun s M1 => ok (dataS s) fun d => to δ M1 fun o M2 => ti δ M2 fun i M3 => stD o i d M3 fun M4 => E.nx δ M4
/-- name op= e -/
def sAug (i : Nat) (f : Mem → Sv → Sv → Option Sv) (te : TE') : TS' := fun E δ M => ok (δ[i]?).join fun x => te δ M fun y M1 => ok (f M1 x y) fun z => E.nx (δ.set i (some z)) M1
/-- a, b = x, y -/
def sPar (i j : Nat) (tA : TA') : TS' := fun E δ M => tA δ M fun xs M1 => match xs with
  | [x, y] => E.nx ((δ.set i (some x)).set j (some y)) M1
  | _ => False
/-- the same by a tuple, any names -/
def setAllS : List Nat → List Sv → DS → Option DS
  | [], [], δ => some δ
  | i :: is, d :: ds, δ => setAllS is ds (δ.set i (some d))
  | _, _, _ => none
def sParT (is : List Nat) (tA : TA') : TS' := fun E δ M => tA δ M fun xs M1 => ok (setAllS is xs δ) fun δ' => E.nx δ' M1
/-- the turns of a while -/
def whL (k : Nat) (c : TT') (b : TS') (E : Ends') : Nat → DS → Mem → Prop
  | 0, _, _ => False
  | n + 1, δ, M => c δ M fun t M' => if t then b ⟨fun δ' M'' => whL k c b E n (gcS k δ') (M''.take k), E.rt, E.nx, fun δ' M'' => whL k c b E n (gcS k δ') (M''.take k)⟩ δ M' else E.nx δ M'
def sWh (c : TT') (b : TS') : TS' := fun E δ M => ∃ n, whL M.length c b E n δ M
section
variable {K : PySem.W.Frag} {X : Cx} {G : Gd} {e a b o i c : Expr} {es : List Expr} {body : List Stmt} {pos cpos apos p1' p2' : Pos} {ta tb t to ti te : TE'} {N : Bool → Addr → Prop} {H : Hp} {ι : Ix} {tA : TA'} {tc : TT'} {s : TS'}
theorem vs_sub (he : VE X G e te) (ho : VE X G o to) (hi : VE X G i ti) (hs : swapsWithSole [.Subscript o i p1'] e pos.line X.env = pure false := by rfl) (hw : swappedStores [.Subscript o i p1'] e X.env = pure none := by rfl)
    (h1 : (assignEach [.Subscript o i p1'] X.env).map (·.2) = [assign (.Subscript o i p1') X.env] := by rfl)
    (ha : ∀ v, assign (.Subscript o i p1') X.env v = (do
      let ov ← holding [v] (eval o X.env)
      let iv ← holding [v, ov] (eval i X.env)
      standAt p1'
      holding [v, ov, iv] (setItem ov iv v)
      release [v, ov, iv] []) := by intro _; rfl) : VS X G (.Assign [.Subscript o i p1'] e pos) (sSub te to ti) :=
  PS.weak (ps_asg he (pg_sub ho hi set_list ha) hs hw h1) fun E σ H ⟨δ, M, ι, E0, S, q, z⟩ => th1 S q fun s M1 ι1 H1 v q1 p1 k1 S1 r1 => by
    obtain ⟨d, e9, q1⟩ := ok_elim q1
    refine th1 S1 q1 fun x M2 ι2 H2 u q2 p2 k2 S2 r2 => th1 S2 q2 fun y M3 ι3 H3 w q3 p3 k3 S3 r3 => ?_
    have r1' := r1.mono (k2.trans k3) (p2.trans p3) (fun _ _ _ _ z => z)
    have r2' := r2.mono k3 p3 (fun _ _ _ _ z => z)
    unfold stD at q3
    split at q3
    · obtain ⟨ds, e1, q3⟩ := ok_elim q3
      obtain ⟨j, e2, q3⟩ := ok_elim q3
      obtain ⟨a, rfl, hn, ys, hH, hl, r⟩ := S3.mem.at r2' (cellL_some e1) (fun z => nomatch z)
      cases (show _ = _ from r3)
      cases s with
      | d x =>
        cases e9
        have hm := List.mem_of_getElem? hn
        have k : Kp ι3 H3 ι3 (upd H3 a (.lst (ys.set j v))) := Kp.turned hm
        refine ⟨a, ys, _, j, rfl, rfl, hH, by rw [← r.length]; exact e2, ?_⟩
        exact z.nx _ _ _ _ _ q3 ((p1.trans p2).trans p3) (((k1.trans k2).trans k3).trans k) (S3.turned hn ⟨_, upd_same, by simpa using hl, (RDs.set j (show RD _ _ _ _ _ _ from r1') r).mono k fun _ _ _ _ z => z⟩)
      | ref n => cases e9
      | bor n => cases e9
    · exact q3.elim
theorem vs_par {i j : Nat} {x y : Str} {px py pt pt2 : Pos} {kt k2 : Nat} (hc : X.calm = true) (hN : X.N.Nodup) (hi : X.N[i]? = some x) (hj : X.N[j]? = some y) (hij : i ≠ j)
    (hx : X.env.scope.names.lookup x = some .local) (hy : X.env.scope.names.lookup y = some .local) (ha : VA X G [a, b] 2 tA)
    (hw : swappedStores [.Tuple [.Name x px, .Name y py] kt pt] (.Tuple [a, b] k2 pt2) X.env = pure (some [x, y]))
    (hs : swapsWithSole [.Tuple [.Name x px, .Name y py] kt pt] (.Tuple [a, b] k2 pt2) pos.line X.env = pure false := by rfl) :
    VS X G (.Assign [.Tuple [.Name x px, .Name y py] kt pt] (.Tuple [a, b] k2 pt2) pos) (sPar i j tA) :=
  PS.weak (ps_par hc hN hi hj hij hx hy ha hw hs) fun E σ H ⟨δ, M, ι, E0, S, q, z⟩ => thA S q fun xs M1 ι1 H1 vs hl q1 p1 k1 S1 r1 => by
    obtain ⟨u, w, rfl⟩ : ∃ u w, xs = [u, w] := by
      match xs, hl with
      | [u, w], _ => exact ⟨u, w, rfl⟩
    obtain ⟨v1, v2, rfl, h1, h2⟩ := two_of r1
    exact ⟨v1, v2, rfl, z.nx _ M1 ι1 _ H1 q1 p1 k1 ((S1.set h1).set h2)⟩
/-- the names' targets, as the layer below reads them -/
theorem raw_all : ∀ {is : List Nat} {ds : List Sv} {xs : List V} {δ : DS} {M : Mem} {σ : L2.St} {Q : L2.St → Hp → Prop}, Sr K G δ M ι σ H → RSs K G.N H ι ds xs → ∀ δ', setAllS is ds δ = some δ' → (∀ σ', Sr K G δ' M ι σ' H → Q σ' H) →
    is.foldr (fun i r => gCons (gName i) r) gNil xs σ H Q
  | [], ds, xs, δ, M, σ, Q, S, r, δ', e, z => by
    cases ds with
    | nil => cases e; cases (show _ = _ from r); exact ⟨rfl, z σ S⟩
    | cons d ds => cases e
  | i :: is, ds, xs, δ, M, σ, Q, S, r, δ', e, z => by
    cases ds with
    | nil => cases e
    | cons d ds =>
      obtain ⟨v, vr, rfl, r1, r2⟩ := r
      exact ⟨v, vr, rfl, raw_all (S.set r1) r2 δ' e z⟩
theorem setAllS_len : ∀ {is : List Nat} {ds : List Sv} {δ δ' : DS}, setAllS is ds δ = some δ' → ds.length = is.length
  | [], [], _, _, _ => rfl
  | [], _ :: _, _, _, h => by cases h
  | _ :: _, [], _, _, h => by cases h
  | i :: is, d :: ds, δ, δ', h => by simp [setAllS_len (is := is) h]
theorem RSs.length : ∀ {ds : List Sv} {vs : List V}, RSs K N H ι ds vs → ds.length = vs.length
  | [], _, h => by cases (show _ = _ from h); rfl
  | d :: ds, _, h => by
    obtain ⟨x, r, rfl, _, h2⟩ := h
    simp [RSs.length h2]
theorem vs_parT {is : List Nat} {ts : List Expr} {n kt k2 : Nat} {pt pt2 : Pos} (hc : X.calm = true) (hg : PGs X ts (is.foldr (fun i r => gCons (gName i) r) gNil)) (ha : VA X G es n tA) (hz : n ≤ sizeLine := by decide)
    (hn : (assignEach ts X.env).length = is.length := by rfl) (hst : (assignEach ts X.env).findIdx? (·.1) = none := by rfl)
    (hs : swapsWithSole [.Tuple ts kt pt] (.Tuple es k2 pt2) pos.line X.env = pure false := by rfl) (hw : swappedStores [.Tuple ts kt pt] (.Tuple es k2 pt2) X.env = pure none := by rfl)
    (h1 : (assignEach [.Tuple ts kt pt] X.env).map (·.2) = [assign (.Tuple ts kt pt) X.env] := by rfl) :
    VS X G (.Assign [.Tuple ts kt pt] (.Tuple es k2 pt2) pos) (sParT is tA) :=
  PS.weak (ps_asg (pe_tup ha) (pg_tup hc hg hn hst) hs hw h1) fun E σ H ⟨δ, M, ι, E0, S, q, z⟩ => thA S q fun xs M1 ι1 H1 vs hl q1 p1 k1 S1 r1 => by
    obtain ⟨δ', e, q1⟩ := ok_elim q1
    refine ⟨by rw [← r1.length, hl]; exact hz, fun p hp => ?_⟩
    have k2 : Kp ι1 H1 ι1 (upd H1 p (.tup vs)) := Kp.laid hp
    refine ⟨p, vs, rfl, SqT.of upd_same, by rw [← r1.length, setAllS_len e], ?_⟩
    exact raw_all (S1.laid hp) (r1.mono k2 (Ex.refl _) fun _ _ _ _ z => z) δ' e fun σ' S' => z.nx _ M1 ι1 _ _ q1 p1 (k1.trans k2) S'
theorem pgs_names_nil : PGs X [] (([] : List Nat).foldr (fun i r => gCons (gName i) r) gNil) := pgs_nil
theorem pgs_names {i : Nat} {is : List Nat} {x : Str} {px : Pos} (hN : X.N.Nodup) (hi : X.N[i]? = some x) (hx : Loc X.env.scope x) (hr : PGs X es (is.foldr (fun i r => gCons (gName i) r) gNil)) (hf : X.fn x = true ∨ X.env.scope.names.lookup x = some .local := by first | exact .inl rfl | exact .inr rfl | assumption)
    (hs : (assignEach (.Name x px :: es) X.env).map (·.2) = assign (.Name x px) X.env :: (assignEach es X.env).map (·.2) := by rfl) : PGs X (.Name x px :: es) ((i :: is).foldr (fun i r => gCons (gName i) r) gNil) :=
  pgs_cons (pg_name (pos := px) hN hi hx hf) hr hs
theorem vs_while (hp : PassesOwn (model X.prog X.w) X.A X.env X.xe) (hc : VT X G c tc) (hb : VSs X G body s) : VS X G (.While c body [] pos) (sWh tc s) := by
  refine PS.weak (ps_while hp hc hb) fun E σ H ⟨δ, M, ι, E0, S, q, z⟩ => ?_
  obtain ⟨n0, q⟩ := q
  have hk : G.i0.length ≤ M.length := S.i0len
  have hlen : M.length = ι.length := S.mem.len
  refine ⟨fun m σ2 H2 => ∃ δ2 M2 ι2, Sr X.K G δ2 M2 ι2 σ2 H2 ∧ Ex ι ι2 ∧ Kp ι H ι2 H2 ∧ whL M.length tc s E0 m δ2 M2, ⟨n0, δ, M, ι, S, Ex.refl _, Kp.refl _ _, q⟩, ?_⟩
  rintro m σ2 H2 ⟨δ2, M2, ι2, S2, e2, k2, q2⟩
  cases m with
  | zero => exact q2.elim
  | succ m =>
    refine ⟨δ2, M2, ι2, _, S2, q2, fun t M3 ι3 H3 q3 p3 k3 S3 => ?_⟩
    cases t with
    | false => exact z.nx δ2 M3 ι3 σ2 H3 q3 (e2.trans p3) (k2.trans k3) S3
    | true =>
      simp only [if_true] at q3 ⊢
      refine ⟨fun σ5 H5 => ∃ δ2 M2 ι2, Sr X.K G δ2 M2 ι2 σ5 H5 ∧ Ex ι ι2 ∧ Kp ι H ι2 H5 ∧ whL M.length tc s E0 m δ2 M2, fun σ5 H5 h => ⟨m, Nat.lt_succ_self _, h⟩, ?_⟩
      have fin : ∀ δ5 M5 ι5 σ5 H5, Sr X.K G δ5 M5 ι5 σ5 H5 → Ex ι ι5 → Kp ι H ι5 H5 → whL M.length tc s E0 m (gcS M.length δ5) (M5.take M.length) →
          ∃ δ3 M3 ι3, Sr X.K G δ3 M3 ι3 σ5 H5 ∧ Ex ι ι3 ∧ Kp ι H ι3 H5 ∧ whL M.length tc s E0 m δ3 M3 := fun δ5 M5 ι5 σ5 H5 S5 e5 k5 q5 => by
        refine ⟨_, _, _, S5.gc M.length hk, ?_, k5.trans (Kp.take _), q5⟩
        rw [hlen]; exact ex_take e5
      refine ⟨δ2, M3, ι3, _, S3, q3, ⟨fun δ5 M5 ι5 σ5 H5 q5 e5 k5 S5 => ?_, fun d5 δ5 M5 ι5 σ5 H5 v5 q5 S5 r5 => ?_, fun δ5 M5 ι5 σ5 H5 q5 e5 k5 S5 => ?_, fun δ5 M5 ι5 σ5 H5 q5 e5 k5 S5 => ?_⟩⟩
      · exact fin δ5 M5 ι5 σ5 H5 S5 ((e2.trans p3).trans e5) ((k2.trans k3).trans k5) q5
      · exact z.rt d5 δ5 M5 ι5 σ5 H5 v5 q5 S5 r5
      · exact z.nx δ5 M5 ι5 σ5 H5 q5 ((e2.trans p3).trans e5) ((k2.trans k3).trans k5) S5
      · exact fin δ5 M5 ι5 σ5 H5 S5 ((e2.trans p3).trans e5) ((k2.trans k3).trans k5) q5
end
end VL
set_option Elab.async false
set_option linter.all false
set_option maxRecDepth 100000
set_option maxHeartbeats 400000
namespace VL
open PySem PySem.Spec PyProof.Rows L2
structure RoomG (k : Nat) (A : Around) : Prop where
  rm : Room k A
  gs : A.guards = some []
theorem RoomG.mono {j k : Nat} {A : Around} (r : RoomG k A) (h : j ≤ k) : RoomG j A := ⟨r.rm.mono h, r.gs⟩
theorem RoomG.deeper {k : Nat} {A : Around} (r : RoomG (k + 1) A) (env : Env) : RoomG k (A.deeper env) := ⟨r.rm.deeper env, r.gs⟩
structure FnG (P : Program) (w : World) (K : PySem.W.Frag) (mg : Str → Option Value) (base : Heap) (CX : CXT) (k : Nat) (f : Addr) (fd : FuncData) (ps : List Str) (sp : Sp) : Prop where
  len : ∀ vs H Q E, sp vs H Q E → vs.length = ps.length
  run : ∀ (A : Around) (outer : List Env) (s : Shared) (H : Hp) (args : Args) (us : List Value) (vs : List V) (Q : VK) (E : XK), RoomG k A → Env0 P w K mg base A outer s H → BindsTo s fd args (ps.zip us) → Vals vs us → sp vs H Q E →
    codeAny (model P w) A (.call (.ref f) args) (CR CX outer P w H s Q E) s
theorem FnG.mono {P : Program} {w : World} {K : PySem.W.Frag} {mg : Str → Option Value} {base : Heap} {CX : CXT} {j k : Nat} {f : Addr} {fd : FuncData} {ps : List Str} {sp : Sp} (F : FnG P w K mg base CX j f fd ps sp) (h : j ≤ k) :
    FnG P w K mg base CX k f fd ps sp := ⟨F.len, fun A outer s H args us vs Q E hr => F.run A outer s H args us vs Q E (hr.mono h)⟩
section
variable {X : Cx} {CX : CXT} {k : Nat} {f C : Addr} {fd : FuncData} {ps : List Str} {sp : Sp} {dvs : List V} {ds : List Value} {E : XK} {x m : Str} {p pos apos : Pos} {e o : Expr} {es : List Expr} {ta : TE} {t : TA}
theorem run_g {pins : List (Addr × Obj)} {σ : L2.St} {H : Hp} {s : Shared} {Q : VK} {us : List Value} {vs : List V} (F : FnG X.prog X.w X.K X.mg X.base CX k f fd ps sp) (hr : RoomG k X.A) (hb : Binds X.K fd ps ds) (hd : Vals dvs ds) (hx : Passes CX X E)
    (I : Inv X pins σ H s) (r : Vals vs us) (h : sp (vs ++ dvs) H Q E) : wpAny (model X.prog X.w) X.A (call (.ref f) us) (EP X pins σ Q) X.xe s := by
  have r2 : Vals (vs ++ dvs) (us ++ ds) := r.append hd
  have hl : (us ++ ds).length = ps.length := by rw [← r2.length]; exact F.len _ _ _ _ h
  refine wpAny_call (codeAny_mono (F.run X.A X.stack s H ⟨us, []⟩ (us ++ ds) (vs ++ dvs) Q E hr I.env0 (hb s us I.kIn hl) r2 h) fun r s' hq => ?_)
  cases r with
  | error e => exact hx pins σ H s e s' I hq
  | ok fl =>
    cases fl with
    | ret u => exact I.after hq
    | next => exact False.elim hq
    | brk => exact False.elim hq
    | cont => exact False.elim hq
theorem pe_callg (F : FnG X.prog X.w X.K X.mg X.base CX k f fd ps sp) (hr : RoomG k X.A) (hg : Gl X x) (hm : X.mg x = some (.ref f)) (hk : PySem.W.keepIn X.K (.ref f) = true) (hb : Binds X.K fd ps ds) (hd : Vals dvs ds) (hx : Passes CX X E)
    (ha : PA X (e :: es) t) (hdb : (x == ("__debug__" : Str)) = false := by decide) (he : starEach (e :: es) X.env = (false, eval e X.env) :: starEach es X.env := by rfl) (hpl : (backTo pos (starEach es X.env)).any (·.1) = false := by rfl) :
    PE X (.Call (.Name x p) (e :: es) [] pos) (tCall sp dvs E t) :=
  ⟨fun pins s σ H Q I h => wpAny_Call_Name_kw (ld_glob I hg hm (PySem.W.callWith_K (h₀ := X.base) I.ok.mod.kin hk (thn (ha.run pos pins s σ H _ I h) fun us s1 ⟨vs, H1, I1, r, q⟩ => ⟨I1.kIn, run_g F hr hb hd hx I1 r q⟩) he hpl) hdb)⟩
theorem pe_callg0 (F : FnG X.prog X.w X.K X.mg X.base CX k f fd ps sp) (hr : RoomG k X.A) (hg : Gl X x) (hm : X.mg x = some (.ref f)) (hk : PySem.W.keepIn X.K (.ref f) = true) (hb : Binds X.K fd ps ds) (hd : Vals dvs ds) (hx : Passes CX X E)
    (hdb : (x == ("__debug__" : Str)) = false := by decide) : PE X (.Call (.Name x p) [] [] pos) (tCall sp dvs E tNil) :=
  ⟨fun pins s σ H Q I h => wpAny_Call_Name_kw (ld_glob I hg hm (PySem.W.callWith_K0 I.kIn hk (run_g (us := []) F hr hb hd hx I .nil h)) hdb)⟩
end
/-- a def by its body -/
theorem fn_g {CX : CXT} {P : Program} {w : World} {K : PySem.W.Frag} {mg : Str → Option Value} {base : Heap} {k : Nat} {f : Addr} {x qual : Str} {params : Arguments} {body : List Stmt} {scope : Scope} {dvs : List V} {kws : List (Str × V)} {fd : FuncData}
    {N ps : List Str} {sp : Sp} (F : FunD K x qual params body scope dvs kws f fd) (S : FnScope N ps scope)
    (len : ∀ vs H Q E, sp vs H Q E → vs.length = ps.length)
    (hbody : ∀ (cdv : Value) (A : Around) (outer : List Env) (s : Shared) (H : Hp) (vs : List V) (Q : VK) (E : XK), RoomG k (A.deeper (envOfC qual scope s.heap.objs.size f cdv)) → sp vs H Q E →
      ∃ t, PSs (cxOf CX P w K mg base N qual scope f cdv A outer s H E) body t ∧ t { nx := fun _ H' => Q .non H', rt := Q } (L2.start N vs) H) :
    FnG P w K mg base CX (k + 1) f fd ps sp := by
  obtain ⟨oc, od, dV, kV, doc, pm, an, cdv, ct, osl, rfl, lk, hcd, _, _⟩ := F.ex
  refine ⟨len, fun A outer s H args us vs Q E hr e0 hb r hsp => ?_⟩
  have hl := len _ _ _ _ hsp
  have KX : K.In s.heap := e0.mod.kin.keeps fun b o e => (e0.bs b o e).1
  have lim : s.heap.NoLimit := e0.mod.nolimit.keeps fun b o e => (e0.bs b o e).1
  have hkind : ∀ y ∈ ps.zip us, scope.names.lookup y.1 = some .local ∨ (scope.names.lookup y.1 = some .cell ∧ ((cellsFrom (s.heap.objs.size + 1) scope.names []).lookup y.1).isSome = true) := fun y hy => by
    have hy1 : y.1 ∈ ps := (List.of_mem_zip (show (y.1, y.2) ∈ ps.zip us from hy)).1
    exact (S.par y.1 hy1).imp id fun q => ⟨q, PySem.W.cellsFrom_some _ _ _ (.inl q)⟩
  refine codeAny_call_function hr.rm.depth (KX _ _ lk) rfl S.co S.gen rfl (PySem.W.codeRec_of KX hcd) (hb _ _ _ _ ?_)
  refine wpAny_newFunctionEnv_cells S.kind hkind fun env he s1 x => ?_
  subst he
  refine ⟨lim.keeps x.toInCall.keep, codeAny_func ?_⟩
  obtain ⟨t, ht, hq⟩ := hbody cdv A outer s H vs Q E (hr.deeper _) hsp
  have I : Inv (cxOf CX P w K mg base N qual scope f cdv A outer s H E) [] (L2.start N vs) H s1 := inv_start S hr.rm.hd e0 hl r x
  refine wpAny_mono (ht.run [] s1 (L2.start N vs) H _ I hq) (fun fl s' hs => ?_) fun e s' hs => hs
  have fin : ∀ {σ' : L2.St} {H' : Hp} {v : V} {u : Value}, Inv (cxOf CX P w K mg base N qual scope f cdv A outer s H E) [] σ' H' s' → RelV v u → Q v H' → CE outer P w H s Q u s' :=
    fun {σ' H' v u} J rv q => ⟨v, H', J.os, J.bare, J.base, J.hok, rv, q⟩
  cases fl with
  | ret u =>
    obtain ⟨v, σ', H', J, rv, q⟩ := hs
    exact fin J rv q
  | next =>
    obtain ⟨σ', H', J, q⟩ := hs
    exact fin (v := V.non) (u := Value.none) J rfl q
  | brk =>
    obtain ⟨_, _, _, q⟩ := hs
    exact False.elim q
  | cont =>
    obtain ⟨_, _, _, q⟩ := hs
    exact False.elim q
theorem law_g {P : Program} {w : World} {K : PySem.W.Frag} {mg mb : Str → Option Value} {CX : CXT} {k : Nat} {fa a : Addr} {fd : FuncData} {x : Str} {sp : Sp} {s₁ : Shared} {vs : List Value} {ns : List Int}
    (KX : K.In s₁.heap) (hns : s₁.heap.Ns mainGlobals mg) (hb : s₁.heap.Ns builtinsNs mb) (hbb : ∀ x : Str, x ≠ "__name__" → mb x = bootBuiltins x) (hlim : s₁.heap.NoLimit) (hg : s₁.gens = #[])
    (ha : s₁.heap.get? a = some { cls := .type "list", data := .seq vs.toArray }) (hi : IntsAre vs ns) (hl : ns.length ≤ sizeLine) (hr : Room k callerA)
    (F : ∀ base : Heap, K.In base → base.Ns mainGlobals mg → FnG P w K mg base CX k fa fd [x] sp) (hbind : ∀ (s : Shared) (u : Value), BindsTo s fd ⟨[u], []⟩ [(x, u)])
    (hsp : ∀ H : Hp, Only H → SqL K H a (ns.map V.int) → sp [.ref a] H (fun v _ => v = .bl true) fun _ _ _ => False)
    (hCX : ∀ H e s', CX [] H s₁ (fun _ _ _ => False) e s' → False) :
    codeAny (model P w) callerA (.call (.ref fa) ⟨[.ref a], []⟩) (fun r s' => r = .ok (.ret (.bool true)) ∧ OldK s₁.heap s'.heap ∧ s'.os = s₁.os ∧ AllBare s'.gens) s₁ := by
  have rv := vals_ints hi
  have lenV := hi.length
  have core : ∀ H : Hp, Only H → SqL K H a (ns.map V.int) → HOk P w H s₁.heap → (∀ b, H b ≠ none → b = a) → (H a ≠ none → K.lookup a = none) →
      codeAny (model P w) callerA (.call (.ref fa) ⟨[.ref a], []⟩) (fun r s' => r = .ok (.ret (.bool true)) ∧ OldK s₁.heap s'.heap ∧ s'.os = s₁.os ∧ AllBare s'.gens) s₁ := by
    intro H hO hS hok hA hK
    have noA : ∀ {b : Addr} {o : Obj} {es : Array DictEntry} {ep : Nat}, s₁.heap.get? b = some o → o.data = .dict es ep → H b = none := fun {b o es ep} e d => by
      refine Classical.byContradiction fun z => ?_
      have e' : b = a := hA b z
      subst e'
      rw [ha] at e; cases e
      have d' : Data.seq vs.toArray _ = Data.dict es ep := d
      cases d'
    have nsK : ∀ {b : Addr} {m : Str → Option Value}, s₁.heap.Ns b m → (hidT s₁.heap H).Ns b m := fun {b m} ⟨o, es, ep, e, d, r⟩ => ⟨o, es, ep, hidT_get e (noA e d), d, r⟩
    have hKb : K.In (hidT s₁.heap H) := fun b o e => hidT_get (KX b o e) (Classical.byContradiction fun z => by
      have e' : b = a := hA b z
      subst e'
      rw [hK z] at e; cases e)
    have hM : Mod K mg (hidT s₁.heap H) := ⟨hKb, nsK hns, ⟨mb, nsK hb, hbb⟩, let ⟨mc, h1, h2⟩ := hlim; ⟨mc, nsK h1, h2⟩⟩
    have e0 : Env0 P w K mg (hidT s₁.heap H) callerA [] s₁ H := ⟨rfl, hM, fun b o e => of_hidT e, Nat.le_of_eq (hidT_size _ _), trivial, fun b hb => absurd (show b ∈ ([] : List Addr) from hb) (by simp), hok, .of_eq hg⟩
    refine codeAny_mono ((F _ hKb (nsK hns)).run callerA [] s₁ H ⟨[.ref a], []⟩ [.ref a] [.ref a] _ _ ⟨hr, rfl⟩ e0 (hbind s₁ (.ref a)) (.cons rfl .nil) (hsp H hO hS)) fun r s' h => ?_
    cases r with
    | error e => exact (hCX H e s' h).elim
    | ok fl =>
     cases fl with
     | next => exact False.elim h
     | brk => exact False.elim h
     | cont => exact False.elim h
     | ret u =>
      obtain ⟨v, H', os, bare, un, hok', r', q⟩ := h
      have q' : v = .bl true := q
      subst q'
      obtain rfl : u = Value.bool true := r'
      refine ⟨rfl, OldK.of_keep fun b o e => ?_, os, bare⟩
      cases q : H b with
      | none => exact un.keep b o e q (by intro z; exact absurd (show b ∈ ([] : List Addr) from z) (by simp)) (by simp)
      | some u =>
        rcases hO b with z | ⟨ob, xs, z⟩
        · rw [q] at z; cases z
        · obtain ⟨e1, _⟩ := hok b _ z
          obtain ⟨e2, _⟩ := hok' b _ (un.frzs b ob _ z)
          rw [e] at e1; cases e1
          exact e2
  cases hk : K.lookup a with
  | some o =>
    have e := KX a o hk
    rw [ha] at e
    cases e
    exact core (fun _ => none) (fun _ => .inl rfl) (.inr ⟨_, vs.toArray, _, hk, rfl, rfl, rfl, by rw [List.size_toArray, lenV]; exact hl, by simpa using rv⟩) (fun b u z => by have z' : (none : Option HO) = some u := z; cases z') (fun b z => absurd rfl z) fun z => absurd rfl z
  | none =>
    have at_ : ∀ b u, (if b = a then some (HO.frz { cls := .type "list", data := .seq vs.toArray } (.lst (ns.map V.int))) else none) = some u → b = a ∧ u = HO.frz { cls := .type "list", data := .seq vs.toArray } (.lst (ns.map V.int)) := fun b u z => by
      by_cases hb : b = a
      · rw [if_pos hb] at z; cases z; exact ⟨hb, rfl⟩
      · rw [if_neg hb] at z; cases z
    refine core (fun b => if b = a then some (.frz { cls := .type "list", data := .seq vs.toArray } (.lst (ns.map V.int))) else none) (fun b => ?_) (.inl (.inr ⟨{ cls := .type "list", data := .seq vs.toArray }, if_pos rfl⟩)) (fun b u z => ?_) (fun b z => ?_) fun _ => hk
    · by_cases hb : b = a
      · exact .inr ⟨_, _, if_pos hb⟩
      · exact .inl (if_neg hb)
    · obtain ⟨rfl, rfl⟩ := at_ b u z
      exact ⟨ha, by rw [List.length_map]; exact hl, vs, _, rv, ha⟩
    · exact Classical.byContradiction fun hb => z (if_neg hb)
theorem walk_g {l : PySem.W.OpenLaw} {n k : Nat} {q : Program} {loose : List Str} {XP : (Str → Option Value) → Heap → Prop} {YP : World → Heap → Prop} {d : DefRec} {CX : CXT} {x : Str}
    (hn : l.most = some n) (hn2 : n ≤ sizeLine) (hdf : d.params.defaults = []) (hr : Room k callerA)
    (F : ∀ (w : World) (mg : Str → Option Value) (fa : Addr) (h : Heap), YP w h → h.Ns mainGlobals mg → mg d.name = some (.ref fa) →
      ∃ (K : PySem.W.Frag) (fd : FuncData) (sp : Sp), K.In h ∧ (∀ (s : Shared) (u : Value), BindsTo s fd ⟨[u], []⟩ [(x, u)]) ∧
        (∀ (H : Hp) (a : Addr) (ns : List Int), ns.length ≤ n → Only H → SqL K H a (ns.map V.int) → sp [.ref a] H (fun v _ => v = .bl true) fun _ _ _ => False) ∧
        ∀ base : Heap, K.In base → base.Ns mainGlobals mg → FnG l.prog w K mg base CX k fa fd [x] sp)
    (hCX : ∀ (H : Hp) (s : Shared) (e : Value) (s' : Shared), CX [] H s (fun _ _ _ => False) e s' → False) :
    PySem.W.WalkO q loose XP YP l.row.toRowW d [] (fun f vs => PySem.call f vs) := by
  refine Att.attach_call hn hdf fun w s₀ s₁ mg mb fa o pm cd doc a vs ns G Y ho hd hcd hmg hobj hints hlen hg => ?_
  obtain ⟨K, fd, sp, KX, hb, hsp, hF⟩ := F w mg fa _ Y G.T.g hmg
  exact law_g KX G.T.g G.T.b G.T.builtins G.T.nolimit hg hobj hints (Nat.le_trans hlen hn2) hr hF hb (fun H hO hS => hsp H a ns hlen hO hS) fun H e s' => hCX H s₁ e s'
end VL
set_option Elab.async false
set_option linter.all false
set_option maxRecDepth 100000
set_option maxHeartbeats 4000000
namespace VL
open PySem PySem.Spec L2 RT RZ
/-- a result: data, or a new list -/
inductive Rv where
  | d (x : D) | new (ds : List D) | newK (kvs : List (Key × D))
def Rv.cell : Rv → Option Cell
  | .d _ => none
  | .new ds => some (.lst ds)
  | .newK kvs => some (.dk kvs)
abbrev SpD := List Sv → Mem → (Rv → Mem → Prop) → Prop
def NB (B : Addr → Prop) : Bool → Addr → Prop := fun b a => ¬ False ∧ (b = true → ¬ B a)
/-- objects stay objects -/
def ObI (ι : Ix) (H0 H : Hp) : Prop := ∀ l : List Addr, l.map some = ι → ObK l H0 H
theorem ObI.of {l : List Addr} {H0 H : Hp} (h : ObK l H0 H) : ObI (l.map some) H0 H := fun m e => by
  have : m = l := List.map_inj_right (fun a b z => Option.some.inj z) |>.mp e
  rw [this]; exact h
/-- how a result lies: ι the callee's changing arguments -/
def RR (K : PySem.W.Frag) (N : Bool → Addr → Prop) (H0 H : Hp) (ι : Ix) (M : Mem) : Rv → V → Prop
  | .d x, v => RD K N H ι x v ∧ RM K N H ι M ∧ Kp ι H0 ι H ∧ ObI ι H0 H
  | .new ds, v => ∃ a, v = .ref a ∧ H0 a = none ∧ RM K N H (ι ++ [some a]) (M ++ [.lst ds]) ∧ Kp ι H0 (ι ++ [some a]) H ∧ ObI ι H0 H
  | .newK kvs, v => ∃ a, v = .ref a ∧ H0 a = none ∧ RM K N H (ι ++ [some a]) (M ++ [.dk kvs]) ∧ Kp ι H0 (ι ++ [some a]) H ∧ ObI ι H0 H
theorem RR.of {K : PySem.W.Frag} {N : Bool → Addr → Prop} {H0 H : Hp} {ι : Ix} {M : Mem} {v : V} {c : Cell} : ∀ {r : Rv}, r.cell = some c → ((∃ a, v = .ref a ∧ H0 a = none ∧ RM K N H (ι ++ [some a]) (M ++ [c]) ∧ Kp ι H0 (ι ++ [some a]) H ∧ ObI ι H0 H) ↔ RR K N H0 H ι M r v)
  | .d _, e => by cases e
  | .new ds, e => by cases e; exact Iff.rfl
  | .newK kvs, e => by cases e; exact Iff.rfl
def resC : Option Cell → Option Rv
  | some (.lst ds) => some (.new ds)
  | some (.dk kvs) => some (.newK kvs)
  | _ => none
theorem resC_some {o : Option Cell} {r : Rv} (h : resC o = some r) : ∃ c, o = some c ∧ r.cell = some c ∧ c ≠ .gone ∧ ∀ k its, c ≠ .nd k its := by
  unfold resC at h
  split at h
  · cases h; exact ⟨_, rfl, rfl, (fun z => nomatch z), fun _ _ z => nomatch z⟩
  · cases h; exact ⟨_, rfl, rfl, (fun z => nomatch z), fun _ _ z => nomatch z⟩
  · cases h
def lP (K : PySem.W.Frag) (n : Nat) (sp : SpD) : Sp := fun vs H Q _ => ∃ (as : List Sv) (M : Mem) (i0 : List Addr) (B : Addr → Prop) (Q0 : Rv → Mem → Prop),
  as.length = n ∧ (∀ a, B a → ∃ o, H a = some o) ∧ RSs K (NB B) H (i0.map some) as vs ∧ RM K (NB B) H (i0.map some) M ∧ sp as M Q0 ∧
  ∀ r M' v H', Q0 r M' → RR K (NB B) H H' (i0.map some) M' r v → Q v H'
/-- the ends of a body: m cells were handed in -/
def resD (M : Mem) : Sv → Option Rv
  | .d x => some (.d x)
  | .ref n => resC M[n]?
  | .bor _ => none
def okRef (m : Nat) : Sv → Prop
  | .ref n => m ≤ n
  | _ => True
def endsF (m : Nat) (Q0 : Rv → Mem → Prop) : Ends' where
  nx := fun _ M => Q0 (.d .non) (M.take m)
  rt := fun s M => okRef m s ∧ ok (resD M s) fun r => Q0 r (M.take m)
def startD (n : Nat) (as : List Sv) : DS := as.map some ++ List.replicate (n - as.length) none
section
variable {K : PySem.W.Frag} {X : Cx} {N : Bool → Addr → Prop} {H : Hp} {ι : Ix}
theorem RSs.get : ∀ {as : List Sv} {vs : List V} {i : Nat} {d : Sv}, RSs K N H ι as vs → as[i]? = some d → ∃ v, vs[i]? = some v ∧ RS K N H ι d v
  | [], _, _, _, _, e => by simp at e
  | a :: as, _, i, d, h, e => by
    obtain ⟨x, r, rfl, h1, h2⟩ := h
    cases i with
    | zero => simp at e; subst e; exact ⟨x, rfl, h1⟩
    | succ i => exact RSs.get (i := i) h2 (by simpa using e)
theorem startD_at {n : Nat} {as : List Sv} {i : Nat} {d : Sv} (h : (startD n as)[i]? = some (some d)) : as[i]? = some d := by
  unfold startD at h
  by_cases hi : i < as.length
  · rw [List.getElem?_append_left (by simpa using hi), List.getElem?_map] at h
    cases q : as[i]? with
    | none => rw [q] at h; cases h
    | some u => rw [q] at h; cases h; rfl
  · rw [List.getElem?_append_right (by simpa using hi), List.getElem?_replicate] at h
    split at h <;> cases h
/-- the ground of a callee -/
abbrev gnd (H : Hp) (i0 : List Addr) (B : Addr → Prop) : Gd := ⟨H, i0, B, fun _ => False⟩
theorem start_sr {Ns : List Str} {as : List Sv} {vs : List V} {M : Mem} {i0 : List Addr} {B : Addr → Prop} (hB : ∀ a, B a → ∃ o, H a = some o) (r : RSs K (NB B) H (i0.map some) as vs) (m : RM K (NB B) H (i0.map some) M) :
    Sr K (gnd H i0 B) (startD Ns.length as) M (i0.map some) (L2.start Ns vs) H := by
  have hl := r.length
  refine ⟨by unfold startD L2.start; simp [hl], fun i d e => ?_, m, fun n a e => ?_, Kp.refl _ _, fun a ha hn => ?_, hB, fun a ha => ha.elim, ObK.refl _ _⟩
  · have e1 := startD_at e
    obtain ⟨v, e2, r2⟩ := r.get e1
    refine ⟨v, ?_, r2⟩
    unfold L2.start
    rw [List.getElem?_append_left (by simpa using (List.getElem?_eq_some_iff.mp e2).1), List.getElem?_map, e2]; rfl
  · rw [List.getElem?_map, e]; rfl
  · exact absurd (by simpa using ha) hn
theorem pre_take {G : Gd} {δ : DS} {M : Mem} {σ : L2.St} (S : Sr K G δ M ι σ H) : ι.take G.i0.length = G.i0.map some := by
  apply List.ext_getElem?
  intro n
  rw [List.getElem?_take, List.getElem?_map]
  split
  · rename_i h
    rw [List.getElem?_eq_getElem h]
    exact S.pre n _ (List.getElem?_eq_getElem h)
  · rename_i h
    rw [List.getElem?_eq_none (by omega)]; rfl
/-- a body keeps the promise -/
theorem body_at {Ns : List Str} {body : List Stmt} {t : TS'} {vs : List V} {Q : VK} {as : List Sv} {M : Mem} {i0 : List Addr} {B : Addr → Prop} {Q0 : Rv → Mem → Prop}
    (hb : VSs X (gnd H i0 B) body t) (hB : ∀ a, B a → ∃ o, H a = some o) (ra : RSs X.K (NB B) H (i0.map some) as vs) (rm : RM X.K (NB B) H (i0.map some) M) (hp : t (endsF M.length Q0) (startD Ns.length as) M)
    (z : ∀ r M' v H', Q0 r M' → RR X.K (NB B) H H' (i0.map some) M' r v → Q v H') :
    ∃ t', PSs X body t' ∧ t' { nx := fun _ H' => Q .non H', rt := Q } (L2.start Ns vs) H := by
  have hlen : M.length = i0.length := by rw [rm.len]; simp
  have fin : ∀ {δ' : DS} {M' : Mem} {ι' : Ix} {σ' : L2.St} {H' : Hp}, Sr X.K (gnd H i0 B) δ' M' ι' σ' H' → RM X.K (NB B) H' (i0.map some) (M'.take M.length) ∧ Kp (i0.map some) H (i0.map some) H' ∧ Kp ι' H' (i0.map some) H' := fun S' => by
    have e := pre_take S'
    have S2 := S'.gc i0.length (Nat.le_refl _)
    rw [show (gnd H i0 B).i0.length = i0.length from rfl] at e
    rw [e] at S2
    refine ⟨by rw [hlen]; exact S2.mem, S2.kp, ?_⟩
    rw [← show (gnd H i0 B).i0 = i0 from rfl, ← e]; exact Kp.take _
  refine ⟨_, hb, startD Ns.length as, M, i0.map some, endsF M.length Q0, start_sr hB ra rm, hp, ?_⟩
  refine ⟨fun δ' M' ι' σ' H' q e k S' => ?_, fun d δ' M' ι' σ' H' v q S' r => ?_, fun δ' M' ι' σ' H' q e k S' => q.elim, fun δ' M' ι' σ' H' q e k S' => q.elim⟩
  · obtain ⟨f1, f2, f3⟩ := fin S'
    exact z _ _ .non H' q ⟨rfl, f1, f2, ObI.of S'.obk⟩
  · obtain ⟨f1, f2, f3⟩ := fin S'
    obtain ⟨hr, q9⟩ := q
    obtain ⟨rv, e, q⟩ := ok_elim q9
    clear q9
    cases d with
    | d x => cases e; exact z _ _ v H' q ⟨RD.mono f3 (fun _ _ _ _ z => z) x v r, f1, f2, ObI.of S'.obk⟩
    | bor ds => cases e
    | ref k =>
      obtain ⟨cc, e1, hcc, hng, hnn⟩ := resC_some (show resC M'[k]? = some rv from e)
      obtain ⟨a, rfl, hk, rc⟩ := S'.mem.at r e1 hng
      have hm : M.length ≤ k := hr
      have hno : a ∉ i0 := fun ha => by
        obtain ⟨j, hj⟩ := List.getElem?_of_mem ha
        have := S'.pre j a hj
        have e3 := S'.mem.nod _ _ _ this hk
        have := (List.getElem?_eq_some_iff.mp hj).1
        omega
      have f4 : Kp ι' H' (i0.map some ++ [some a]) H' := fun b o e n => by
        refine ⟨e, fun hb => ?_⟩
        rcases List.mem_append.mp hb with hb | hb
        · exact (f3 b o e n).2 hb
        · simp only [List.mem_singleton, Option.some.injEq] at hb; subst hb; exact n (List.mem_of_getElem? hk)
      have hsz : (M'.take M.length).length = (i0.map some).length := f1.len
      refine z _ _ _ H' q ((RR.of hcc).mp ⟨a, rfl, S'.new a (List.mem_of_getElem? hk) hno, ⟨by simp [hsz], fun n m b e1 e2 => ?_, fun n c b e1 e2 => ?_, fun n e1 => ?_, fun n c e1 => ?_⟩, fun b o e n => ?_, ObI.of S'.obk⟩)
      · rw [List.getElem?_append] at e1 e2
        split at e1 <;> split at e2
        · exact f1.nod n m b e1 e2
        · rename_i h1 h2
          have : b = a := by
            cases w : m - (i0.map some).length with
            | zero => rw [w] at e2; simpa using e2.symm
            | succ j => rw [w] at e2; simp at e2
          subst this
          exact absurd (by simpa using List.mem_of_getElem? e1) hno
        · rename_i h1 h2
          have : b = a := by
            cases w : n - (i0.map some).length with
            | zero => rw [w] at e1; simpa using e1.symm
            | succ j => rw [w] at e1; simp at e1
          subst this
          exact absurd (by simpa using List.mem_of_getElem? e2) hno
        · rename_i h1 h2
          cases w : n - (i0.map some).length with
          | zero =>
            cases w2 : m - (i0.map some).length with
            | zero => omega
            | succ j => rw [w2] at e2; simp at e2
          | succ j => rw [w] at e1; simp at e1
      · rw [List.getElem?_append] at e1 e2
        rw [hsz] at e1
        split at e1
        · rename_i h1
          rw [if_pos h1] at e2
          have e3 : M'[n]? = some c := by
            rw [List.getElem?_take] at e1
            split at e1
            · exact e1
            · cases e1
          have e4 : ι'[n]? = some (some b) := by
            rw [List.getElem?_map] at e2
            cases w : i0[n]? with
            | none => rw [w] at e2; cases e2
            | some b' => rw [w] at e2; cases e2; exact S'.pre n b w
          refine (S'.mem.cell n c b e3 e4).monoB (n := n) f4 (fun j hj o q => ?_) (fun _ _ _ _ z => z) (S'.mem.wf n c e3) rfl
          have hji : j < (i0.map some).length := Nat.lt_trans hj h1
          rw [List.getElem?_append_left hji, List.getElem?_map]
          have hj0 : j < i0.length := by simpa using hji
          have := S'.pre j _ (List.getElem?_eq_getElem hj0)
          rw [this] at q
          cases q
          left
          rw [List.getElem?_eq_getElem hj0]; rfl
        · rename_i h1
          rw [if_neg h1] at e2
          cases w : n - (i0.map some).length with
          | zero =>
            rw [w] at e1 e2
            simp at e1 e2
            subst e1 e2
            revert hcc hnn rc
            cases cc with
            | gone => exact fun _ _ z => z.elim
            | lst ds => exact fun _ _ ⟨xs, q1, l, rd⟩ => ⟨xs, q1, l, rd.mono f4 fun _ _ _ _ z => z⟩
            | dk kvs => exact fun _ _ ⟨xs, q1, l, rd⟩ => ⟨xs, q1, l, rd.mono f4 fun _ _ _ _ z => z⟩
            | dn kvs => exact fun _ _ ⟨xs, q1, l, r1, r2⟩ => ⟨xs, q1, l, r1.mono f4 fun _ _ _ _ z => z, r2.mono f4 fun _ _ _ _ z => z⟩
            | nd k its => exact fun _ h => absurd rfl (h k its)
          | succ j => rw [w] at e1; simp at e1
      · rw [List.getElem?_append] at e1
        split at e1
        · rw [List.getElem?_map] at e1
          cases w : i0[n]? with
          | none => rw [w] at e1; cases e1
          | some b' => rw [w] at e1; cases e1
        · cases w : n - (i0.map some).length with
          | zero => rw [w] at e1; simp at e1
          | succ j => rw [w] at e1; simp at e1
      · rw [List.getElem?_append] at e1
        split at e1
        · exact f1.wf n c e1
        · have := List.mem_of_getElem? e1
          rw [List.mem_singleton.mp this]
          cases cc with
          | nd k its => exact absurd rfl (hnn k its)
          | _ => trivial
      · obtain ⟨h1, h2⟩ := f2 b o e n
        refine ⟨h1, fun hb => ?_⟩
        rcases List.mem_append.mp hb with hb | hb
        · exact h2 hb
        · simp only [List.mem_singleton, Option.some.injEq] at hb; subst hb
          rw [show H b = none from S'.new b (List.mem_of_getElem? hk) hno] at e; cases e
theorem body_ok {Ns : List Str} {n : Nat} {sp : SpD} {body : List Stmt} {t : TS'} {vs : List V} {Q : VK} {E : XK}
    (m0 : Nat) (hX : X.K = K) (hb : ∀ G, G.i0.length = m0 → VSs X G body t) (hm0 : ∀ as M Q0, sp as M Q0 → M.length = m0) (hp : ∀ as M Q0, as.length = n → sp as M Q0 → t (endsF M.length Q0) (startD Ns.length as) M) (h : lP K n sp vs H Q E) :
    ∃ t', PSs X body t' ∧ t' { nx := fun _ H' => Q .non H', rt := Q } (L2.start Ns vs) H := by
  subst hX
  obtain ⟨as, M, i0, B, Q0, hn, hB, ra, rm, hs, z⟩ := h
  have hlen : M.length = i0.length := by rw [rm.len]; simp
  exact body_at (hb (gnd H i0 B) (hlen.symm.trans (hm0 _ _ _ hs))) hB ra rm (hp as M Q0 hn hs) z
/-- a changing thing that is not gone -/
def cellA : Option Cell → Option Unit
  | some (.lst _) => some ()
  | some (.dk _) => some ()
  | some (.dn _) => some ()
  | _ => none
theorem cellA_some {c : Option Cell} {u : Unit} (h : cellA c = some u) : ∃ x, c = some x ∧ x ≠ .gone := by
  cases c with
  | none => cases h
  | some x => cases x with
    | gone => cases h
    | lst ds => exact ⟨_, rfl, fun z => nomatch z⟩
    | dk kvs => exact ⟨_, rfl, fun z => nomatch z⟩
    | dn kvs => exact ⟨_, rfl, fun z => nomatch z⟩
    | nd k its => cases h
/-- how the arguments are handed over: tt, a changing list of the caller's that the callee may change; ns: the caller's numbers of these -/
def handS (M : Mem) : List Bool → List Sv → List Nat → Option (List Sv × List Nat)
  | [], [], ns => some ([], ns)
  | true :: ms, .ref n :: xs, ns => if n ∈ ns then none else (cellA M[n]?).bind fun _ => (handS M ms xs (ns ++ [n])).map fun r => (.ref ns.length :: r.1, r.2)
  | false :: ms, .ref n :: xs, ns => (cellL M[n]?).bind fun ds => (handS M ms xs ns).bind fun r => if n ∈ r.2 then none else some (.bor ds :: r.1, r.2)
  | false :: ms, x :: xs, ns => (handS M ms xs ns).map fun r => (x :: r.1, r.2)
  | _, _, _ => none
def cellsAt (M : Mem) (ns : List Nat) : Mem := ns.map fun n => M[n]?.getD .gone
/-- the callee's cells written back -/
def backS : List Nat → Mem → Mem → Mem
  | n :: ns, c :: cs, M => backS ns cs (M.set n c)
  | _, _, M => M
def callS (ms : List Bool) (sp : SpD) (M : Mem) (xs : List Sv) (Q : Rv → Mem → Prop) : Prop :=
  ok (handS M ms xs []) fun r => sp r.1 (cellsAt M r.2) fun v Mc => Q v (backS r.2 Mc M)
def rvQ (Q : QD) : Rv → Mem → Prop
  | .d x, M => Q (.d x) M
  | .new ds, M => Q (.ref M.length) (M ++ [.lst ds])
  | .newK kvs, M => Q (.ref M.length) (M ++ [.dk kvs])
theorem rvQ_cell {Q : QD} {c : Cell} {M : Mem} : ∀ {r : Rv}, r.cell = some c → rvQ Q r M → Q (.ref M.length) (M ++ [c])
  | .d _, e, _ => by cases e
  | .new ds, e, h => by cases e; exact h
  | .newK kvs, e, h => by cases e; exact h
def eCall (ms : List Bool) (sp : SpD) (tA : TA') : TE' := fun δ M Q => tA δ M fun xs M1 => callS ms sp M1 xs (rvQ Q)
/-- what the callee's callers may change -/
def Bc (G : Gd) (ι : Ix) (i0 : List Addr) : Addr → Prop := fun a => G.B a ∨ G.Hd a ∨ (some a ∈ ι ∧ a ∉ i0)
mutual
theorem RD.go {N N' : Bool → Addr → Prop} {H H' : Hp} {ι ι' : Ix} (h1 : ∀ a xs, H a = some (.tup xs) → some a ∉ ι → H' a = some (.tup xs) ∧ some a ∉ ι') (h2 : ∀ a o l, H a = some (.frz o l) → some a ∉ ι → H' a = some (.frz o l) ∧ some a ∉ ι')
    (h3 : ∀ a xs, H a = some (.lst xs) → some a ∉ ι → N true a → H' a = some (.lst xs) ∧ some a ∉ ι' ∧ N' true a) : ∀ (d : D) (v : V), RD K N H ι d v → RD K N' H' ι' d v
  | .non, _, h => h
  | .bl _, _, h => h
  | .int _, _, h => h
  | .str _, _, h => h
  | .fn _, _, h => h
  | .ty _, _, h => h
  | .cls _, _, h => h
  | .exc _ f, v, h => by
    obtain ⟨a, oe, vs, e, q, n, c, d, x⟩ := h
    exact ⟨a, oe, vs, e, (h2 a _ _ q n).1, (h2 a _ _ q n).2, c, d, x.map h2⟩
  | .dn ks ds, v, h => by
    obtain ⟨a, xs, o, e, q, n, z, r1, r2⟩ := h
    exact ⟨a, xs, o, e, (h2 a _ _ q n).1, (h2 a _ _ q n).2, z, RDs.go h1 h2 h3 ks _ r1, RDs.go h1 h2 h3 ds _ r2⟩
  | .dk ks ds, v, h => by
    obtain ⟨a, ws, o, e, q, n, z, r⟩ := h
    exact ⟨a, ws, o, e, (h2 a _ _ q n).1, (h2 a _ _ q n).2, z, RDs.go h1 h2 h3 ds _ r⟩
  | .scr ns, v, h => by
    obtain ⟨a, e, ⟨o, q, n⟩ | q, l⟩ := h
    · exact ⟨a, e, .inl ⟨o, h2 a _ _ q n⟩, l⟩
    · exact ⟨a, e, .inr q, l⟩
  | .tup ds, v, h => by
    obtain ⟨a, xs, e, q, l, r⟩ := h
    refine ⟨a, xs, e, ?_, l, RDs.go h1 h2 h3 ds xs r⟩
    rcases q with ⟨q, n⟩ | q
    · exact .inl (h1 a _ q n)
    · exact .inr q
  | .lst ds, v, h => by
    obtain ⟨a, xs, e, q, n, z, l, r⟩ := h
    obtain ⟨q1, q2, q3⟩ := h3 a xs q n z
    exact ⟨a, xs, e, q1, q2, q3, l, RDs.go h1 h2 h3 ds xs r⟩
theorem RDs.go {N N' : Bool → Addr → Prop} {H H' : Hp} {ι ι' : Ix} (h1 : ∀ a xs, H a = some (.tup xs) → some a ∉ ι → H' a = some (.tup xs) ∧ some a ∉ ι') (h2 : ∀ a o l, H a = some (.frz o l) → some a ∉ ι → H' a = some (.frz o l) ∧ some a ∉ ι')
    (h3 : ∀ a xs, H a = some (.lst xs) → some a ∉ ι → N true a → H' a = some (.lst xs) ∧ some a ∉ ι' ∧ N' true a) : ∀ (ds : List D) (vs : List V), RDs K N H ι ds vs → RDs K N' H' ι' ds vs
  | [], _, h => h
  | d :: ds, vs, h => by
    obtain ⟨x, r, e, g1, g2⟩ := h
    exact ⟨x, r, e, RD.go h1 h2 h3 d x g1, RDs.go h1 h2 h3 ds r g2⟩
end
section
variable {G : Gd} {δ : DS} {M : Mem} {σ : L2.St} {i0 : List Addr}
theorem RD.dn {d : D} {v : V} (hi : ∀ a ∈ i0, some a ∈ ι) (h : RD K G.N H ι d v) : RD K (NB (Bc G ι i0)) H (i0.map some) d v := by
  have hn : ∀ a, some a ∉ ι → some a ∉ i0.map some := fun a hn h => hn (hi a (by simpa using h))
  exact RD.go (fun a xs q n => ⟨q, hn a n⟩) (fun a o l q n => ⟨q, hn a n⟩) (fun a xs q n z => ⟨q, hn a n, fun z => z, fun _ => by
    rintro (h | h | h)
    · exact z.2 rfl h
    · exact z.1 h
    · exact n h.1⟩) d v h
theorem RDs.dn {d : List D} {v : List V} (hi : ∀ a ∈ i0, some a ∈ ι) (h : RDs K G.N H ι d v) : RDs K (NB (Bc G ι i0)) H (i0.map some) d v := by
  have hn : ∀ a, some a ∉ ι → some a ∉ i0.map some := fun a hn h => hn (hi a (by simpa using h))
  exact RDs.go (fun a xs q n => ⟨q, hn a n⟩) (fun a o l q n => ⟨q, hn a n⟩) (fun a xs q n z => ⟨q, hn a n, fun z => z, fun _ => by
    rintro (h | h | h)
    · exact z.2 rfl h
    · exact z.1 h
    · exact n h.1⟩) d v h
/-- a cell's kind -/
theorem Sr.kind (S : Sr K G δ M ι σ H) {a : Addr} (h : some a ∈ ι) : (∃ xs, H a = some (.lst xs)) ∨ (∃ ws, H a = some (.dK ws)) ∨ (∃ ws, H a = some (.ext ws)) ∨ ∃ C dx fs, H a = some (.ins C dx fs) := by
  obtain ⟨n, hn⟩ := List.getElem?_of_mem h
  have hM : n < M.length := by rw [S.mem.len]; exact (List.getElem?_eq_some_iff.mp hn).1
  have q := S.mem.cell n M[n] a (List.getElem?_eq_getElem hM) hn
  cases e : M[n] with
  | gone => rw [e] at q; exact q.elim
  | lst ds => rw [e] at q; exact .inl ⟨_, q.choose_spec.1⟩
  | dk kvs => rw [e] at q; exact .inr (.inl ⟨_, q.choose_spec.1⟩)
  | dn kvs => rw [e] at q; exact .inr (.inr (.inl ⟨_, q.choose_spec.1⟩))
  | nd k its =>
    rw [e] at q
    obtain ⟨xs, q1, _⟩ := q
    cases k with
    | ob c fs => obtain ⟨dx, q1, _⟩ := q1; exact .inr (.inr (.inr ⟨_, _, _, q1⟩))
theorem up3 {H' : Hp} {r : Ix} (S : Sr K G δ M ι σ H) (k : Kp (i0.map some) H (i0.map some ++ r) H') :
    (∀ a xs, H' a = some (.tup xs) → some a ∉ i0.map some ++ r → H' a = some (.tup xs) ∧ some a ∉ ι ++ r) ∧ (∀ a o l, H' a = some (.frz o l) → some a ∉ i0.map some ++ r → H' a = some (.frz o l) ∧ some a ∉ ι ++ r) ∧
    (∀ a xs, H' a = some (.lst xs) → some a ∉ i0.map some ++ r → NB (Bc G ι i0) true a → H' a = some (.lst xs) ∧ some a ∉ ι ++ r ∧ G.N true a) := by
  refine ⟨fun a xs q n => ⟨q, fun h => ?_⟩, fun a o l q n => ⟨q, fun h => ?_⟩, fun a xs q n z => ⟨q, fun h => ?_, fun h => z.2 rfl (.inr (.inl h)), fun _ h => z.2 rfl (.inl h)⟩⟩
  all_goals
    have n1 : some a ∉ i0.map some := fun h => n (List.mem_append_left _ h)
    have n2 : some a ∉ r := fun h => n (List.mem_append_right _ h)
    have h : some a ∈ ι := (List.mem_append.mp h).resolve_right n2
  · rcases S.kind h with ⟨ys, e⟩ | ⟨ys, e⟩ | ⟨ys, e⟩ | ⟨C, dx, fs, e⟩
    · rw [(k a _ e n1).1] at q; cases q
    · rw [(k a _ e n1).1] at q; cases q
    · rw [(k a _ e n1).1] at q; cases q
    · rw [(k a _ e n1).1] at q; cases q
  · rcases S.kind h with ⟨ys, e⟩ | ⟨ys, e⟩ | ⟨ys, e⟩ | ⟨C, dx, fs, e⟩
    · rw [(k a _ e n1).1] at q; cases q
    · rw [(k a _ e n1).1] at q; cases q
    · rw [(k a _ e n1).1] at q; cases q
    · rw [(k a _ e n1).1] at q; cases q
  · exact z.2 rfl (.inr (.inr ⟨h, by simpa using n1⟩))
theorem RDs.up {H' : Hp} {r : Ix} {d : List D} {v : List V} (S : Sr K G δ M ι σ H) (k : Kp (i0.map some) H (i0.map some ++ r) H') (h : RDs K (NB (Bc G ι i0)) H' (i0.map some ++ r) d v) : RDs K G.N H' (ι ++ r) d v :=
  let ⟨h1, h2, h3⟩ := up3 S k
  RDs.go h1 h2 h3 d v h
theorem RD.up {H' : Hp} {r : Ix} {d : D} {v : V} (S : Sr K G δ M ι σ H) (k : Kp (i0.map some) H (i0.map some ++ r) H') (h : RD K (NB (Bc G ι i0)) H' (i0.map some ++ r) d v) : RD K G.N H' (ι ++ r) d v :=
  let ⟨h1, h2, h3⟩ := up3 S k
  RD.go h1 h2 h3 d v h
/-- what is handed over, as the callee sees it -/
theorem hand_of (S : Sr K G δ M ι σ H) : ∀ (ms : List Bool) (xs : List Sv) (vs : List V) (ns : List Nat) (as : List Sv) (ns' : List Nat), handS M ms xs ns = some (as, ns') → RSs K G.N H ι xs vs → ns.Nodup → (∀ n ∈ ns, ∃ ds, cellA M[n]? = some ds ∧ ∃ a, ι[n]? = some (some a)) →
    ns'.Nodup ∧ (∀ n ∈ ns', ∃ ds, cellA M[n]? = some ds ∧ ∃ a, ι[n]? = some (some a)) ∧ (∃ r, ns' = ns ++ r) ∧ (∀ i0, i0.map some = ns'.map (fun n => (ι[n]?).join) → RSs K (NB (Bc G ι i0)) H (i0.map some) as vs) ∧ as.length = xs.length
  | [], [], vs, ns, as, ns', e, r, nd, hc => by
    cases e
    exact ⟨nd, hc, ⟨[], by simp⟩, fun i0 _ => r, rfl⟩
  | true :: ms, .ref n :: xs, vs, ns, as, ns', e, r, nd, hc => by
    unfold handS at e
    split at e
    · cases e
    rename_i hn
    obtain ⟨ds, e1, e⟩ := Option.bind_eq_some_iff.mp e
    obtain ⟨⟨as1, ns1⟩, e2, e⟩ := Option.map_eq_some_iff.mp e
    cases e
    obtain ⟨v, r', rfl, r1, r2⟩ := r
    obtain ⟨cx, hx1, hx2⟩ := cellA_some e1
    obtain ⟨a, rfl, ha, _⟩ := S.mem.at r1 hx1 hx2
    obtain ⟨h1, h2, ⟨q, h3⟩, h4, h5⟩ := hand_of S ms xs r' (ns ++ [n]) as1 ns1 e2 r2 (by
      rw [List.nodup_append]; refine ⟨nd, by simp, fun x hx y hy => ?_⟩
      simp only [List.mem_singleton] at hy; subst hy; rintro rfl; exact hn hx) (fun m hm => by
      rcases List.mem_append.mp hm with hm | hm
      · exact hc m hm
      · simp only [List.mem_singleton] at hm; subst hm; exact ⟨ds, e1, a, ha⟩)
    refine ⟨h1, h2, ⟨n :: q, by rw [h3]; simp⟩, fun i0 hi => ⟨_, _, rfl, ⟨a, rfl, .inl ?_⟩, h4 i0 hi⟩, by simp [h5]⟩
    rw [hi, h3, List.getElem?_map, List.append_assoc, List.getElem?_append_right (Nat.le_refl _)]
    simp [ha]
  | false :: ms, .ref n :: xs, vs, ns, as, ns', e, r, nd, hc => by
    unfold handS at e
    obtain ⟨ds, e1, e⟩ := Option.bind_eq_some_iff.mp e
    obtain ⟨⟨as1, ns1⟩, e2, e⟩ := Option.bind_eq_some_iff.mp e
    split at e
    · cases e
    rename_i hn
    cases e
    obtain ⟨v, r', rfl, r1, r2⟩ := r
    obtain ⟨a, rfl, ha, ys, q1, l1, rd⟩ := S.mem.at r1 (cellL_some e1) (fun z => nomatch z)
    obtain ⟨h1, h2, h3, h4, h5⟩ := hand_of S ms xs r' ns as1 ns1 e2 r2 nd hc
    refine ⟨h1, h2, h3, fun i0 hi => ⟨_, _, rfl, ⟨a, ys, rfl, q1, ?_, ⟨fun z => z, fun z => nomatch z⟩, l1, ?_⟩, h4 i0 hi⟩, by simp [h5]⟩
    · rw [hi]
      intro hm
      obtain ⟨m, hm1, hm2⟩ := List.mem_map.mp hm
      obtain ⟨_, _, b, hb⟩ := h2 m hm1
      rw [hb] at hm2
      cases hm2
      exact hn (S.mem.nod _ _ _ hb ha ▸ hm1)
    · refine RDs.dn (fun b hb => ?_) rd
      have : some b ∈ i0.map some := by simpa using hb
      rw [hi] at this
      obtain ⟨m, hm1, hm2⟩ := List.mem_map.mp this
      obtain ⟨_, _, c, hb⟩ := h2 m hm1
      rw [hb] at hm2; cases hm2
      exact List.mem_of_getElem? hb
  | false :: ms, .d x :: xs, vs, ns, as, ns', e, r, nd, hc => by
    obtain ⟨⟨as1, ns1⟩, e2, e⟩ := Option.map_eq_some_iff.mp (show (handS M ms xs ns).map _ = _ from e)
    cases e
    obtain ⟨v, r', rfl, r1, r2⟩ := r
    obtain ⟨h1, h2, h3, h4, h5⟩ := hand_of S ms xs r' ns as1 ns1 e2 r2 nd hc
    refine ⟨h1, h2, h3, fun i0 hi => ⟨_, _, rfl, RD.dn (fun b hb => ?_) r1, h4 i0 hi⟩, by simp [h5]⟩
    have : some b ∈ i0.map some := by simpa using hb
    rw [hi] at this
    obtain ⟨m, hm1, hm2⟩ := List.mem_map.mp this
    obtain ⟨_, _, c, hb⟩ := h2 m hm1
    rw [hb] at hm2; cases hm2
    exact List.mem_of_getElem? hb
  | false :: ms, .bor ds :: xs, vs, ns, as, ns', e, r, nd, hc => by
    obtain ⟨⟨as1, ns1⟩, e2, e⟩ := Option.map_eq_some_iff.mp (show (handS M ms xs ns).map _ = _ from e)
    cases e
    obtain ⟨v, r', rfl, r1, r2⟩ := r
    obtain ⟨h1, h2, h3, h4, h5⟩ := hand_of S ms xs r' ns as1 ns1 e2 r2 nd hc
    refine ⟨h1, h2, h3, fun i0 hi => ?_, by simp [h5]⟩
    have hb : ∀ b ∈ i0, some b ∈ ι := fun b hb => by
      have : some b ∈ i0.map some := by simpa using hb
      rw [hi] at this
      obtain ⟨m, hm1, hm2⟩ := List.mem_map.mp this
      obtain ⟨_, _, c, hb⟩ := h2 m hm1
      rw [hb] at hm2; cases hm2
      exact List.mem_of_getElem? hb
    obtain ⟨a, ys, rfl, q1, n1, _, l1, rd⟩ := r1
    exact ⟨_, _, rfl, ⟨a, ys, rfl, q1, fun hm => n1 (hb a (by simpa using hm)), ⟨fun z => z, fun z => nomatch z⟩, l1, RDs.dn hb rd⟩, h4 i0 hi⟩
  | true :: ms, .d x :: xs, _, _, _, _, e, _, _, _ => by cases e
  | true :: ms, .bor x :: xs, _, _, _, _, e, _, _, _ => by cases e
  | [], _ :: _, _, _, _, _, e, _, _, _ => by cases e
  | true :: _, [], _, _, _, _, e, _, _, _ => by cases e
  | false :: _, [], _, _, _, _, e, _, _, _ => by cases e
theorem nodup_ix : ∀ {ns : List Nat} {j l m : Nat}, ns.Nodup → ns[j]? = some m → ns[l]? = some m → j = l
  | [], _, _, _, _, h, _ => by simp at h
  | n :: ns, 0, 0, _, _, _, _ => rfl
  | n :: ns, 0, l + 1, m, nd, h1, h2 => by
    simp at h1; subst h1
    exact absurd (List.mem_of_getElem? (by simpa using h2)) (List.nodup_cons.mp nd).1
  | n :: ns, j + 1, 0, m, nd, h1, h2 => by
    simp at h2; subst h2
    exact absurd (List.mem_of_getElem? (by simpa using h1)) (List.nodup_cons.mp nd).1
  | n :: ns, j + 1, l + 1, m, nd, h1, h2 => by
    exact congrArg (· + 1) (nodup_ix (List.nodup_cons.mp nd).2 (by simpa using h1) (by simpa using h2))
theorem backS_len : ∀ (ns : List Nat) (cs M : Mem), (backS ns cs M).length = M.length
  | [], cs, M => by cases cs <;> rfl
  | n :: ns, [], M => rfl
  | n :: ns, c :: cs, M => by simp [backS, backS_len ns cs]
theorem backS_ne : ∀ (ns : List Nat) (cs M : Mem) (m : Nat), m ∉ ns → (backS ns cs M)[m]? = M[m]?
  | [], cs, M, m, _ => by cases cs <;> rfl
  | n :: ns, [], M, m, _ => rfl
  | n :: ns, c :: cs, M, m, h => by
    simp only [List.mem_cons, not_or] at h
    simp only [backS]
    rw [backS_ne ns cs _ m h.2, List.getElem?_set_ne (fun z => h.1 z.symm)]
theorem backS_at : ∀ (ns : List Nat) (cs M : Mem) (j m : Nat) (c : Cell), ns.Nodup → ns[j]? = some m → cs[j]? = some c → m < M.length → (backS ns cs M)[m]? = some c
  | [], _, _, _, _, _, _, h, _, _ => by simp at h
  | _ :: _, [], _, _, _, _, _, _, h, _ => by simp at h
  | n :: ns, d :: cs, M, 0, m, c, nd, h1, h2, hl => by
    simp at h1 h2; subst h1 h2
    simp only [backS]
    rw [backS_ne ns cs _ _ (List.nodup_cons.mp nd).1, List.getElem?_set_self hl]
  | n :: ns, d :: cs, M, j + 1, m, c, nd, h1, h2, hl => by
    simp only [backS]
    exact backS_at ns cs _ j m c (List.nodup_cons.mp nd).2 (by simpa using h1) (by simpa using h2) (by simpa using hl)
theorem Sr.after {H' : Hp} {ns : List Nat} {Mc cs : Mem} {r : List Addr} (S : Sr K G δ M ι σ H) (nd : ns.Nodup) (hc : ∀ n ∈ ns, ∃ ds, cellA M[n]? = some ds ∧ ∃ a, ι[n]? = some (some a)) (hi : i0.map some = ns.map (fun n => (ι[n]?).join))
    (hl : Mc.length = i0.length) (hcs : cs.length = r.length) (hr : ∀ a ∈ r, H a = none)
    (m : RM K (NB (Bc G ι i0)) H' (i0.map some ++ r.map some) (Mc ++ cs)) (k : Kp (i0.map some) H (i0.map some ++ r.map some) H') (ob : ObI (i0.map some) H H') (hfl : ∀ c ∈ cs, ∀ kd its, c ≠ .nd kd its := by simp) : Sr K G δ (backS ns Mc M ++ cs) (ι ++ r.map some) σ H' := by
  have hsub : ∀ b ∈ i0, some b ∈ ι := fun b hb => by
    have : some b ∈ i0.map some := by simpa using hb
    rw [hi] at this
    obtain ⟨m, hm1, hm2⟩ := List.mem_map.mp this
    obtain ⟨_, _, c, hb⟩ := hc m hm1
    rw [hb] at hm2; cases hm2
    exact List.mem_of_getElem? hb
  have hn : ∀ a, some a ∉ ι → some a ∉ i0.map some := fun a hn h => hn (hsub a (by simpa using h))
  have hrr : ∀ a o, H a = some o → some a ∉ r.map some := fun a o e h => by
    have h : a ∈ r := by simpa using h
    rw [hr a h] at e; cases e
  have kk : Kp ι H (ι ++ r.map some) H' := fun a o e n => ⟨(k a o e (hn a n)).1, fun h => by
    rcases List.mem_append.mp h with h | h
    · exact n h
    · exact hrr a o e h⟩
  have hin : ∀ (n : Nat) (a : Addr), ι[n]? = some (some a) → n ∉ ns → some a ∉ i0.map some := fun n a h hno z => by
    rw [hi] at z
    obtain ⟨m, hm1, hm2⟩ := List.mem_map.mp z
    obtain ⟨_, _, c, hb⟩ := hc m hm1
    rw [hb] at hm2; cases hm2
    exact hno (S.mem.nod _ _ _ hb h ▸ hm1)
  have hfr : ∀ a ∈ r, some a ∉ ι := fun a ha => S.mem.fresh (hr a ha)
  have hbl : (backS ns Mc M).length = ι.length := by rw [backS_len]; exact S.mem.len
  have up : ∀ c a, (∀ kd its, c ≠ .nd kd its) → RC K (NB (Bc G ι i0)) H' (i0.map some ++ r.map some) c a → RC K G.N H' (ι ++ r.map some) c a := fun c a hf q => by
    cases c with
    | nd kd its => exact absurd rfl (hf kd its)
    | gone => exact q.elim
    | lst ds => obtain ⟨xs, q1, l, r⟩ := q; exact ⟨xs, q1, l, RDs.up S k r⟩
    | dk kvs => obtain ⟨xs, q1, l, r⟩ := q; exact ⟨xs, q1, l, RDs.up S k r⟩
    | dn kvs => obtain ⟨xs, q1, l, r1, r2⟩ := q; exact ⟨xs, q1, l, RDs.up S k r1, RDs.up S k r2⟩
  have mcf : ∀ (j n : Nat), ns[j]? = some n → ∀ c, Mc[j]? = some c → ∀ kd its, c ≠ .nd kd its := fun j n hj c hcj kd its e => by
    subst e
    obtain ⟨u, h1, a, h2⟩ := hc n (List.mem_of_getElem? hj)
    have hji : (i0.map some)[j]? = some (some a) := by rw [hi, List.getElem?_map, hj]; simp [h2]
    have hjn : j < i0.length := by simpa using (List.getElem?_eq_some_iff.mp hji).1
    obtain ⟨xs, q, _⟩ := m.cell j _ a (by rw [List.getElem?_append_left (List.getElem?_eq_some_iff.mp hcj).1]; exact hcj) (by rw [List.getElem?_append_left (by simpa using hjn)]; exact hji)
    cases kd with
    | ob c fs =>
      obtain ⟨dx, q1, _⟩ := q
      have ha : a ∈ i0 := by have := List.mem_of_getElem? hji; simpa using this
      obtain ⟨f0, h0⟩ := (ob i0 rfl a ha).2 _ _ _ q1
      obtain ⟨cx, hx1, _⟩ := cellA_some h1
      have q2 := S.mem.cell n cx a hx1 h2
      rw [hx1] at h1
      cases cx with
      | gone => exact q2.elim
      | lst ds => obtain ⟨xs, q3, _⟩ := q2; rw [q3] at h0; cases h0
      | dk ds => obtain ⟨xs, q3, _⟩ := q2; rw [q3] at h0; cases h0
      | dn ds => obtain ⟨xs, q3, _⟩ := q2; rw [q3] at h0; cases h0
      | nd k its => cases h1
  have obk : ObK G.i0 H H' := fun a ha => by
    obtain ⟨n, hn0⟩ := List.getElem?_of_mem ha
    have hp := S.pre n a hn0
    by_cases h0 : a ∈ i0
    · exact ob i0 rfl a h0
    · obtain ⟨u, hu⟩ := S.i0there a ha
      have e9 := (k a u hu (by simpa using h0)).1
      rw [show H' a = H a from e9.trans hu.symm]
      exact ⟨fun C dx fs e => ⟨fs, e, SameF.refl fs⟩, fun C dx fs e => ⟨fs, e⟩⟩
  refine ⟨S.len, fun i d e => ?_, ⟨by simp [hbl, hcs], fun n m' a e1 e2 => ?_, fun n c a e1 e2 => ?_, fun n e => ?_, fun n c e1 => ?_⟩, fun n a e => ?_, S.kp.trans kk, fun a ha h0 => ?_, S.bad, fun a ha => ?_, S.obk.trans obk⟩
  · obtain ⟨v, e1, r⟩ := S.slot i d e
    exact ⟨v, e1, r.mono kk (Ex.app _ _) (fun _ _ _ _ z => z)⟩
  · rw [List.getElem?_append] at e1 e2
    split at e1 <;> split at e2
    · exact S.mem.nod n m' a e1 e2
    · exact absurd (List.mem_of_getElem? e1) (hfr a (by simpa using List.mem_of_getElem? e2))
    · exact absurd (List.mem_of_getElem? e2) (hfr a (by simpa using List.mem_of_getElem? e1))
    · have := m.nod (i0.length + (n - ι.length)) (i0.length + (m' - ι.length)) a (by rw [List.getElem?_append_right (by simp)]; simpa using e1) (by rw [List.getElem?_append_right (by simp)]; simpa using e2)
      omega
  · rw [List.getElem?_append, hbl] at e1
    rw [List.getElem?_append] at e2
    split at e1
    · rename_i hlt
      rw [if_pos hlt] at e2
      by_cases hno : n ∈ ns
      · obtain ⟨j, hj⟩ := List.getElem?_of_mem hno
        have hji : (i0.map some)[j]? = some (some a) := by rw [hi, List.getElem?_map, hj]; simp [e2]
        have hjn : j < i0.length := by simpa using (List.getElem?_eq_some_iff.mp hji).1
        have hjl : j < Mc.length := by omega
        have hl : n < M.length := by rw [S.mem.len]; exact hlt
        rw [backS_at ns Mc M j n _ nd hj (List.getElem?_eq_getElem hjl) hl] at e1
        cases e1
        exact up _ _ (mcf j n hj _ (List.getElem?_eq_getElem hjl)) (m.cell j _ a (by rw [List.getElem?_append_left hjl, List.getElem?_eq_getElem hjl]) (by rw [List.getElem?_append_left (by simpa using hjn)]; exact hji))
      · rw [backS_ne ns Mc M n hno] at e1
        have q := S.mem.cell n c a e1 e2
        obtain ⟨o, ho⟩ := q.has
        exact q.mono kk (Ex.app _ _) (fun _ _ _ _ z => z) (by rw [(k a o ho (hin n a e2 hno)).1, ho])
    · rename_i hlt
      rw [if_neg hlt] at e2
      exact up _ _ (hfl c (List.mem_of_getElem? e1)) (m.cell (i0.length + (n - ι.length)) _ a (by rw [List.getElem?_append_right (by omega)]; rw [hl]; simpa using e1) (by rw [List.getElem?_append_right (by simp)]; simpa using e2))
  · rw [List.getElem?_append] at e
    split at e
    · rename_i hlt
      rw [List.getElem?_append_left (by rw [hbl]; exact hlt), backS_ne ns Mc M n fun hno => ?_]
      · exact S.mem.gone n e
      · obtain ⟨_, _, c, hb⟩ := hc n hno
        rw [hb] at e; cases e
    · have := List.mem_of_getElem? e
      simp at this
  · have flat : (∀ kd its, c ≠ .nd kd its) → c.wf n := fun h => by
      cases c with
      | nd kd its => exact absurd rfl (h kd its)
      | _ => trivial
    rw [List.getElem?_append, hbl] at e1
    split at e1
    · rename_i hlt
      by_cases hno : n ∈ ns
      · obtain ⟨j, hj⟩ := List.getElem?_of_mem hno
        have hl : n < M.length := by rw [S.mem.len]; exact hlt
        have hjl : j < Mc.length := by
          have h1 := (List.getElem?_eq_some_iff.mp hj).1
          have h2 : i0.length = ns.length := by have := congrArg List.length hi; simpa using this
          omega
        rw [backS_at ns Mc M j n _ nd hj (List.getElem?_eq_getElem hjl) hl] at e1
        cases e1
        exact flat (mcf j n hj _ (List.getElem?_eq_getElem hjl))
      · rw [backS_ne ns Mc M n hno] at e1
        exact S.mem.wf n c e1
    · exact flat (hfl c (List.mem_of_getElem? e1))
  · have e1 := S.pre n a e
    rw [List.getElem?_append_left (List.getElem?_eq_some_iff.mp e1).1]; exact e1
  · rcases List.mem_append.mp ha with z | z
    · exact S.new a z h0
    · have z : a ∈ r := by simpa using z
      cases q : G.He a with
      | none => rfl
      | some u =>
        have := (S.kp a u q (by simpa using h0)).1
        rw [hr a z] at this; cases this
  · obtain ⟨u, q⟩ := (S.hid a ha).2
    exact ⟨(kk a u q (S.hid a ha).1).2, u, (kk a u q (S.hid a ha).1).1⟩
theorem call_gen {ms : List Bool} {xs as : List Sv} {vs : List V} {ns : List Nat} (S : Sr K G δ M ι σ H) (r : RSs K G.N H ι xs vs) (e : handS M ms xs [] = some (as, ns)) :
    as.length = xs.length ∧ ∃ (i0 : List Addr) (B : Addr → Prop), (∀ a, B a → ∃ o, H a = some o) ∧ RSs K (NB B) H (i0.map some) as vs ∧ RM K (NB B) H (i0.map some) (cellsAt M ns) ∧
      (∀ x M' v H', RR K (NB B) H H' (i0.map some) M' (.d x) v → Kp ι H ι H' ∧ Sr K G δ (backS ns M' M) ι σ H' ∧ RD K G.N H' ι x v) ∧
      ∀ rv c M' v H', rv.cell = some c → RR K (NB B) H H' (i0.map some) M' rv v → ∃ a, v = .ref a ∧ Kp ι H (ι ++ [some a]) H' ∧ Sr K G δ (backS ns M' M ++ [c]) (ι ++ [some a]) σ H' ∧ (backS ns M' M).length = M.length := by
  obtain ⟨nd, hc, h3, hr, hl⟩ := hand_of S ms xs vs [] as ns e r List.nodup_nil (fun _ z => by simp at z)
  obtain ⟨i0, hi⟩ : ∃ i0 : List Addr, i0.map some = ns.map (fun n => (ι[n]?).join) := by
    clear e hr nd hl h3
    induction ns with
    | nil => exact ⟨[], rfl⟩
    | cons n ns ih =>
      obtain ⟨i0, hi⟩ := ih fun m hm => hc m (List.mem_cons_of_mem _ hm)
      obtain ⟨_, _, a, ha⟩ := hc n List.mem_cons_self
      exact ⟨a :: i0, by simp [hi, ha]⟩
  have hsub : ∀ b ∈ i0, some b ∈ ι := fun b hb => by
    have : some b ∈ i0.map some := by simpa using hb
    rw [hi] at this
    obtain ⟨m, hm1, hm2⟩ := List.mem_map.mp this
    obtain ⟨_, _, c, hb⟩ := hc m hm1
    rw [hb] at hm2; cases hm2
    exact List.mem_of_getElem? hb
  have hget : ∀ (j : Nat) (a : Addr), (i0.map some)[j]? = some (some a) → ∃ n, ns[j]? = some n ∧ ι[n]? = some (some a) := fun j a e => by
    rw [hi, List.getElem?_map] at e
    cases q : ns[j]? with
    | none => rw [q] at e; cases e
    | some n =>
      rw [q] at e
      obtain ⟨_, _, b, hb⟩ := hc n (List.mem_of_getElem? q)
      simp [hb] at e
      exact ⟨n, rfl, by rw [hb, e]⟩
  refine ⟨hl, i0, Bc G ι i0, fun a ha => ?_, hr i0 hi, ⟨?_, fun j l a e1 e2 => ?_, fun j c a e1 e2 => ?_, fun j e => ?_, fun j c e1 => ?_⟩, fun x M' v H' rr => ?_, fun rv cn M' v H' hcn rr => ?_⟩
  · rcases ha with ha | ha | ⟨ha, _⟩
    · obtain ⟨o, ho⟩ := S.bad a ha
      by_cases h0 : a ∈ G.i0
      · obtain ⟨j, hj⟩ := List.getElem?_of_mem h0
        rcases S.kind (List.mem_of_getElem? (S.pre j a hj)) with ⟨ys, e⟩ | ⟨ys, e⟩ | ⟨ys, e⟩ | ⟨C, dx, fs, e⟩ <;> exact ⟨_, e⟩
      · exact ⟨o, (S.kp a o ho (by simpa using h0)).1⟩
    · exact (S.hid a ha).2
    · rcases S.kind ha with ⟨ys, e⟩ | ⟨ys, e⟩ | ⟨ys, e⟩ | ⟨C, dx, fs, e⟩ <;> exact ⟨_, e⟩
  · rw [hi]; simp [cellsAt]
  · obtain ⟨n, h1, h2⟩ := hget j a e1
    obtain ⟨m, h3, h4⟩ := hget l a e2
    have e3 := S.mem.nod _ _ _ h2 h4
    subst e3
    exact nodup_ix nd h1 h3
  · obtain ⟨n, h1, h2⟩ := hget j a e2
    have hM : n < M.length := by rw [S.mem.len]; exact (List.getElem?_eq_some_iff.mp h2).1
    unfold cellsAt at e1
    rw [List.getElem?_map, h1] at e1
    simp only [Option.map_some, List.getElem?_eq_getElem hM, Option.getD_some, Option.some.injEq] at e1
    have q := S.mem.cell n _ a (List.getElem?_eq_getElem hM) h2
    rw [e1] at q
    cases c with
    | gone => exact q.elim
    | nd kd its =>
      obtain ⟨u, h9, _⟩ := hc n (List.mem_of_getElem? h1)
      rw [List.getElem?_eq_getElem hM, e1] at h9; cases h9
    | lst ds => obtain ⟨xs, q1, l, r⟩ := q; exact ⟨xs, q1, l, RDs.dn hsub r⟩
    | dk kvs => obtain ⟨xs, q1, l, r⟩ := q; exact ⟨xs, q1, l, RDs.dn hsub r⟩
    | dn kvs => obtain ⟨xs, q1, l, r1, r2⟩ := q; exact ⟨xs, q1, l, RDs.dn hsub r1, RDs.dn hsub r2⟩
  · rw [List.getElem?_map] at e
    cases q : i0[j]? with
    | none => rw [q] at e; cases e
    | some b => rw [q] at e; cases e
  · unfold cellsAt at e1
    rw [List.getElem?_map, Option.map_eq_some_iff] at e1
    obtain ⟨n, h1, rfl⟩ := e1
    obtain ⟨u, h9, _⟩ := hc n (List.mem_of_getElem? h1)
    obtain ⟨cx, hx, _⟩ := cellA_some h9
    rw [hx] at h9 ⊢
    cases cx with
    | nd kd its => cases h9
    | _ => trivial
  · have hni : ∀ a, some a ∉ ι → some a ∉ i0.map some := fun a n h => n (hsub a (by simpa using h))
    obtain ⟨rd, rm, k, ob⟩ := rr
    have hl : M'.length = i0.length := by rw [rm.len]; simp
    have S2 := S.after (r := []) (cs := []) nd hc hi hl rfl (fun a h => by simp at h) (by simpa using rm) (by simpa using k) ob
    have rd2 := RD.up (r := []) S (by simpa using k) (by simpa using rd)
    simp only [List.map_nil, List.append_nil] at S2 rd2
    exact ⟨fun a o e n => ⟨(k a o e (hni a n)).1, n⟩, S2, rd2⟩
  · have hni : ∀ a, some a ∉ ι → some a ∉ i0.map some := fun a n h => n (hsub a (by simpa using h))
    obtain ⟨a, rfl, ha, rm, k, ob⟩ := (RR.of hcn).mpr rr
    have hl : M'.length = i0.length := by have := rm.len; simp at this; exact this
    have S2 := S.after (r := [a]) (cs := [cn]) nd hc hi hl rfl (fun b h => by simp at h; subst h; exact ha) (by simpa using rm) (by simpa using k) ob (by
      cases rv with
      | d x => cases hcn
      | new ds => cases hcn; simp
      | newK kvs => cases hcn; simp)
    refine ⟨a, rfl, fun b o e n => ⟨(k b o e (hni b n)).1, fun h => ?_⟩, by simpa using S2, backS_len _ _ _⟩
    rcases List.mem_append.mp h with h | h
    · exact n h
    · simp at h; subst h; rw [ha] at e; cases e
theorem call_in {n : Nat} {sp : SpD} {ms : List Bool} {xs : List Sv} {vs : List V} {Q0 : Rv → Mem → Prop} {Q : VK} {E : XK} (S : Sr K G δ M ι σ H) (r : RSs K G.N H ι xs vs) (hn : xs.length = n) (h : callS ms sp M xs Q0)
    (z1 : ∀ x M' H' v, Q0 (.d x) M' → Kp ι H ι H' → Sr K G δ M' ι σ H' → RD K G.N H' ι x v → Q v H')
    (z2 : ∀ rv c M' H' a, rv.cell = some c → Q0 rv M' → Kp ι H (ι ++ [some a]) H' → Sr K G δ (M' ++ [c]) (ι ++ [some a]) σ H' → M'.length = M.length → Q (.ref a) H') : lP K n sp vs H Q E := by
  obtain ⟨⟨as, ns⟩, e, h⟩ := ok_elim h
  obtain ⟨hl, i0, B, hB, ra, rm, c1, c2⟩ := call_gen S r e
  refine ⟨as, cellsAt M ns, i0, B, _, hl.trans hn, hB, ra, rm, h, fun rv M' v H' q rr => ?_⟩
  cases rv with
  | d x =>
    obtain ⟨k, S2, rd⟩ := c1 x M' v H' rr
    exact z1 x _ H' v q k S2 rd
  | new ds =>
    obtain ⟨a, rfl, k, S2, hl2⟩ := c2 _ _ M' v H' rfl rr
    exact z2 _ _ _ H' a rfl q k S2 hl2
  | newK kvs =>
    obtain ⟨a, rfl, k, S2, hl2⟩ := c2 _ _ M' v H' rfl rr
    exact z2 _ _ _ H' a rfl q k S2 hl2
end
end
/-- a def that may be called by its name -/
structure Ca (P : Program) (w : World) (K : PySem.W.Frag) (mg : Str → Option Value) (base : Heap) (k : Nat) (x : Str) (n : Nat) (sp : SpD) : Prop where
  ex : ∃ (f : Addr) (fd : FuncData) (ps : List Str), FnG P w K mg base C8.CX0 k f fd ps (lP K n sp) ∧ mg x = some (.ref f) ∧ PySem.W.keepIn K (.ref f) = true ∧ Binds K fd ps []
section
variable {X : Cx} {G : Gd} {k j n : Nat} {x : Str} {sp : SpD} {p pos : Pos} {e : Expr} {es : List Expr} {tA : TA'}
theorem ve_call (ms : List Bool) (c : Ca X.prog X.w X.K X.mg X.base k x n sp) (hr : RoomG j X.A) (hk : k ≤ j) (hg : Gl X x) (ha : VA X G (e :: es) n tA)
    (hdb : (x == ("__debug__" : Str)) = false := by decide) (he : starEach (e :: es) X.env = (false, eval e X.env) :: starEach es X.env := by rfl) (hpl : (backTo pos (starEach es X.env)).any (·.1) = false := by rfl) :
    VE X G (.Call (.Name x p) (e :: es) [] pos) (eCall ms sp tA) := by
  obtain ⟨f, fd, ps, F, hm, kp, b⟩ := c.ex
  refine PE.weak (pe_callg F (hr.mono hk) hg hm kp b .nil C8.pass0 ha hdb he hpl (E := C8.E0)) fun σ H Q ⟨δ, M, ι, Q0, S, q, z⟩ => ?_
  refine thA S q fun xs M1 ι1 H1 vs hl h1 p1 k1 S1 r1 => ?_
  show lP X.K n sp (vs ++ []) H1 Q _
  rw [List.append_nil]
  refine call_in S1 r1 hl h1 (fun y M' H' v q2 k2 S2 r2 => z _ M' ι1 H' v q2 p1 (k1.trans k2) S2 r2) fun rv cn M' H' a hcn q2 k2 S2 hl2 => ?_
  refine z (.ref M'.length) _ _ H' _ (rvQ_cell hcn q2) (p1.trans (Ex.app _ _)) (k1.trans k2) S2 ⟨a, rfl, .inl ?_⟩
  rw [hl2, S1.mem.len, List.getElem?_append_right (Nat.le_refl _)]; simp
end
theorem Sr.seal {K : PySem.W.Frag} {G : Gd} {δ : DS} {M : Mem} {ι : Ix} {σ : L2.St} {H : Hp} {n : Nat} {a : Addr} {ds : List D} (S : Sr K G δ M ι σ H) (hn : ι[n]? = some (some a)) (h0 : G.i0.length ≤ n) (hc : M[n]? = some (.lst ds)) :
    Sr K G δ (M.set n .gone) (ι.set n none) σ H ∧ Ex ι (ι.set n none) ∧ Kp ι H (ι.set n none) H ∧ RD K G.N H (ι.set n none) (.lst ds) (.ref a) := by
  have kk : Kp ι H (ι.set n none) H := fun b o e h => ⟨e, fun z => by
    rcases List.mem_or_eq_of_mem_set z with z | z
    · exact h z
    · cases z⟩
  have ee : Ex ι (ι.set n none) := fun m o e => by
    by_cases h : n = m
    · subst h
      exact .inr (List.getElem?_set_self (List.getElem?_eq_some_iff.mp e).1)
    · rw [List.getElem?_set_ne h]; exact .inl e
  have back : ∀ (m : Nat) (b : Addr), (ι.set n none)[m]? = some (some b) → n ≠ m ∧ ι[m]? = some (some b) := fun m b e => by
    by_cases h : n = m
    · subst h
      rw [List.getElem?_set_self (List.getElem?_eq_some_iff.mp hn).1] at e; cases e
    · rw [List.getElem?_set_ne h] at e; exact ⟨h, e⟩
  have hno : some a ∉ ι.set n none := fun z => by
    obtain ⟨m, hm⟩ := List.getElem?_of_mem z
    obtain ⟨h1, h2⟩ := back m a hm
    exact h1 (S.mem.nod _ _ _ hn h2)
  have hi0 : a ∉ G.i0 := fun z => by
    obtain ⟨j, hj⟩ := List.getElem?_of_mem z
    have e1 := S.mem.nod _ _ _ (S.pre j a hj) hn
    have := (List.getElem?_eq_some_iff.mp hj).1
    omega
  obtain ⟨xs, q1, l, r⟩ := S.mem.cell n _ a hc hn
  refine ⟨⟨S.len, fun i d e => ?_, ⟨by simp [S.mem.len], fun m m' b e1 e2 => S.mem.nod _ _ _ (back m b e1).2 (back m' b e2).2, fun m c b e1 e2 => ?_, fun m e => ?_, fun m c e1 => ?_⟩, fun m b e => ?_, S.kp.trans kk, fun b hb h1 => ?_, S.bad, fun b hb => ⟨fun z => ?_, (S.hid b hb).2⟩, S.obk⟩, ee, kk,
    a, xs, rfl, q1, hno, ⟨fun z => (S.hid a z).1 (List.mem_of_getElem? hn), fun _ z => ?_⟩, l, r.mono kk fun _ _ _ _ z => z⟩
  · obtain ⟨v, e1, r⟩ := S.slot i d e
    exact ⟨v, e1, r.mono kk ee fun _ _ _ _ z => z⟩
  · obtain ⟨h1, h2⟩ := back m b e2
    rw [List.getElem?_set_ne h1] at e1
    exact (S.mem.cell m c b e1 h2).mono kk ee (fun _ _ _ _ z => z) rfl
  · by_cases h : n = m
    · subst h; exact List.getElem?_set_self (List.getElem?_eq_some_iff.mp hc).1
    · rw [List.getElem?_set_ne h] at e ⊢; exact S.mem.gone m e
  · by_cases h : n = m
    · subst h
      rw [List.getElem?_set_self (List.getElem?_eq_some_iff.mp hc).1] at e1
      cases e1; trivial
    · rw [List.getElem?_set_ne h] at e1; exact S.mem.wf m c e1
  · rw [List.getElem?_set_ne (fun h => by have := (List.getElem?_eq_some_iff.mp e).1; omega)]; exact S.pre m b e
  · rcases List.mem_or_eq_of_mem_set hb with z | z
    · exact S.new b z h1
    · cases z
  · rcases List.mem_or_eq_of_mem_set z with z | z
    · exact (S.hid b hb).1 z
    · cases z
  · obtain ⟨o, ho⟩ := S.bad a z
    rw [S.new a (List.mem_of_getElem? hn) hi0] at ho; cases ho
/-- the value, its list sealed -/
def sealD (m0 : Nat) (M : Mem) : Sv → Option (Sv × Mem)
  | .ref n => if m0 ≤ n then (cellL M[n]?).map fun ds => (.d (.lst ds), M.set n .gone) else none
  | x => some (x, M)
def eSeal (m0 : Nat) (t : TE') : TE' := fun δ M Q => t δ M fun d M1 => ok (sealD m0 M1 d) fun r => Q r.1 r.2
theorem VE.seal {X : Cx} {G : Gd} {e : Expr} {t : TE'} {m0 : Nat} (hG : G.i0.length = m0) (h : VE X G e t) : VE X G e (eSeal m0 t) :=
  PE.weak h fun σ H Q ⟨δ, M, ι, Q0, S, q, z⟩ => ⟨δ, M, ι, _, S, q, fun d M' ι' H' v h1 p1 k1 S1 r1 => by
    obtain ⟨r, e, h1⟩ := ok_elim h1
    cases d with
    | d x => cases e; exact z _ _ ι' H' v h1 p1 k1 S1 r1
    | bor ds => cases e; exact z _ _ ι' H' v h1 p1 k1 S1 r1
    | ref n =>
      by_cases hn : m0 ≤ n
      · rw [show sealD m0 M' (.ref n) = (if m0 ≤ n then (cellL M'[n]?).map fun ds => (.d (.lst ds), M'.set n .gone) else none) from rfl, if_pos hn] at e
        obtain ⟨ds, e1, rfl⟩ := Option.map_eq_some_iff.mp e
        obtain ⟨a, rfl, ha, _⟩ := S1.mem.at r1 (cellL_some e1) (fun z => nomatch z)
        obtain ⟨S2, e2, k2, r2⟩ := S1.seal ha (by omega) (cellL_some e1)
        exact z _ _ _ H' _ h1 (p1.trans e2) (k1.trans k2) S2 r2
      · rw [show sealD m0 M' (.ref n) = (if m0 ≤ n then (cellL M'[n]?).map fun ds => (.d (.lst ds), M'.set n .gone) else none) from rfl, if_neg hn] at e; cases e⟩
/-- the rule for a def: from its derivation and the pure law -/
theorem ca_of {P : Program} {w : World} {K : PySem.W.Frag} {mg : Str → Option Value} {base : Heap} {x qual : Str} {params : Arguments} {body : List Stmt} {scope : Scope} {f : Addr} {fd : FuncData} {Ns ps : List Str} {k m0 : Nat} {sp : SpD} {t : TS'}
    (F : FunD K x qual params body scope [] [] f fd) (hg : mg x = some (.ref f)) (b : Binds K fd ps []) (S : FnScope Ns ps scope) (hm0 : ∀ as M Q0, sp as M Q0 → M.length = m0)
    (hb : ∀ (cdv : Value) (A : Around) (outer : List Env) (s : Shared) (H : Hp) (E : XK) (G : Gd), RoomG k (A.deeper (PyProof.Rows.envOfC qual scope s.heap.objs.size f cdv)) → G.i0.length = m0 → VSs (cxOf C8.CX0 P w K mg base Ns qual scope f cdv A outer s H E).nox G body t)
    (hp : ∀ as M Q0, as.length = ps.length → sp as M Q0 → t (endsF M.length Q0) (startD Ns.length as) M) : Ca P w K mg base (k + 1) x ps.length sp := by
  refine ⟨f, fd, ps, ?_, hg, F.kp, b⟩
  refine fn_g F S (fun vs H Q E ⟨as, M, i0, B, Q0, hn, hB, ra, h⟩ => by rw [← ra.length, hn]) fun cdv A outer s H vs Q E hr h => ?_
  obtain ⟨t', h1, h2⟩ := body_ok (X := (cxOf C8.CX0 P w K mg base Ns qual scope f cdv A outer s H E).nox) (Ns := Ns) m0 rfl (fun G hG => hb cdv A outer s H E G hr hG) hm0 hp h
  exact ⟨t', h1.nox, h2⟩
end VL
set_option Elab.async false
set_option linter.all false
set_option maxRecDepth 100000
set_option maxHeartbeats 400000
namespace VL
open PySem PySem.Spec L2 RT RZ
def eCh (f g : Mem → Sv → Sv → Option Sv) (ta tb tc : TE') : TE' := fun δ M Q => ta δ M fun x M1 => tb δ M1 fun y M2 => ok ((f M2 x y).bind blD) fun k => if k then tc δ M2 fun z M3 => ok (g M3 y z) fun d => Q d M3 else Q (.d (.bl false)) M2
def pCh (f g : Mem → Sv → Sv → Option Sv) (a b c : PV) : PV := fun δ M => (a δ M).bind fun x => (b δ M).bind fun y => ((f M x y).bind blD).bind fun k => if k then (c δ M).bind fun z => g M y z else some (.d (.bl false))
section
variable {K : PySem.W.Frag} {X : Cx} {G : Gd} {e a b c : Expr} {es rest : List Expr} {pos : Pos} {ta tb tc : TE'} {p q u : PV}
theorem blD_some {d : Sv} {k : Bool} (h : blD d = some k) : d = .d (.bl k) := by
  cases d with
  | d x => cases x <;> first | (cases h; rfl) | cases h
  | ref n => cases h
  | bor n => cases h
theorem fin_ch {r r' : R2} {f g : Mem → Sv → Sv → Option Sv} (hf : Rd2 K r f) (hg : Rd2 K r' g) {σ : L2.St} {H : Hp} {Q : VK} (h : lE K G (eCh f g ta tb tc) σ H Q) : tChain r r' (lE K G ta) (lE K G tb) (lE K G tc) σ H Q := by
  obtain ⟨δ, M, ι, Q0, S, h, z⟩ := h
  refine th1 S h fun x M1 ι1 H1 v h1 p1 k1 S1 r1 => ?_
  refine th1 S1 h1 fun y M2 ι2 H2 u h2 p2 k2 S2 r2 => ?_
  obtain ⟨k, e, h2⟩ := ok_elim h2
  obtain ⟨d, e1, e2⟩ := Option.bind_eq_some_iff.mp e
  have e3 := blD_some e2
  subst e3
  refine hf G δ M2 ι2 σ H2 x y v u _ S2 (r1.mono k2 p2 (fun _ _ _ _ q => q)) r2 e1 _ fun ι3 H3 w p3 k3 S3 r3 => ?_
  cases (show _ = _ from r3)
  refine ⟨k, rfl, ?_⟩
  cases k with
  | false =>
    rw [if_neg Bool.false_ne_true]
    exact z _ M2 ι3 H3 _ h2 ((p1.trans p2).trans p3) ((k1.trans k2).trans k3) S3 rfl
  | true =>
    rw [if_pos rfl] at h2 ⊢
    refine th1 S3 h2 fun w M4 ι4 H4 t h4 p4 k4 S4 r4 => ?_
    obtain ⟨d, e4, h4⟩ := ok_elim h4
    exact hg G δ M4 ι4 σ H4 y w u t d S4 (r2.mono (k3.trans k4) (p3.trans p4) (fun _ _ _ _ q => q)) r4 e4 Q fun ι5 H5 w p5 k5 S5 r5 => z d M4 ι5 H5 w h4 ((((p1.trans p2).trans p3).trans p4).trans p5) ((((k1.trans k2).trans k3).trans k4).trans k5) S5 r5
theorem vt_chain {op op' : CmpOp} {r r' : R2} {f g : Mem → Sv → Sv → Option Sv} (ho : OpR X (compareOp op) r) (ho' : OpR X (compareOp op') r') (hf : Rd2 X.K r f) (hg : Rd2 X.K r' g) (ha : VE X G a ta) (hb : VE X G b tb) (hc : VE X G c tc)
    (hm : lastMarks [op, op'] [b, c] = false := by with_unfolding_all rfl) : VT X G (.Compare a [op, op'] [b, c] pos) (tTb (eCh f g ta tb tc)) := by
  have h := pt_chain (pos := pos) ho ho' ha hb hc hm
  refine ⟨fun pins s σ H Q I ⟨δ, M, ι, Q0, S, q, z⟩ => h.run pins s σ H Q I ?_⟩
  refine fin_ch hf hg ⟨δ, M, ι, _, S, q, fun d M' ι' H' v h1 p1 k1 S1 r1 => ?_⟩
  obtain ⟨k, e, h1⟩ := ok_elim h1
  have e3 := blD_some e
  subst e3
  cases (show _ = _ from r1)
  exact ⟨k, rfl, z k M' ι' H' h1 p1 k1 S1⟩
theorem ve_ty {x : Str} {n : String} (hg : Gl X x) (hm : X.mg x = none) (hv : bootBuiltins x = some (.type n)) (hn : x ≠ "__name__" := by decide) (hd : (x == ("__debug__" : Str)) = false := by decide) : VE X G (.Name x pos) (eP (pC (.ty n))) :=
  ve_const (pe_bltn (v := .ty n) hg hm hv rfl hn hd) fun _ _ _ _ => rfl
/-- data of the written part -/
def KV (K : PySem.W.Frag) (d : D) (u : Value) : Prop := ∃ v, RelV v u ∧ ∀ N H ι, RD K N H ι d v
theorem ve_glob {x : Str} {u : Value} {d : D} (hg : Gl X x) (hm : X.mg x = some u) (r : KV X.K d u) (hd : (x == ("__debug__" : Str)) = false := by decide) : VE X G (.Name x pos) (eP (pC d)) := by
  obtain ⟨v, r1, r2⟩ := r
  exact PE.weak (pe_glob hg hm r1 hd) fun σ H Q ⟨δ, M, ι, Q0, S, h, z⟩ => z _ M ι H v h (Ex.refl _) (Kp.refl _ _) S (r2 _ _ _)
def okR (d : D) : Bool := noR d && (PyData.showable (py d) && (decide ((PyData.shown (py d)).length ≤ sizeLine) && (decide (PyData.depth (py d) ≤ 150))))
def reprD (M : Mem) : List Sv → Option Sv
  | [x] => gd (okR (rsv M x) = true) (.d (.str (PyData.shown (py (rsv M x)))))
  | _ => none
end
end VL
set_option Elab.async false
set_option linter.all false
set_option maxRecDepth 100000
set_option maxHeartbeats 400000
namespace VL
open PySem PySem.Spec PyProof.Rows L2
mutual
def relDB (K : PySem.W.Frag) : D → Value → Bool
  | .non, .none => true
  | .bl b, .bool c => b == c
  | .int i, .int j _ => decide (i = j)
  | .str x, .str y _ => decide (x = y)
  | .tup ds, .ref a => (match K.lookup a with
    | some ⟨.type c, _, .seq its _, _⟩ => decide (c = "tuple") && (decide (its.size ≤ sizeLine) && relDBs K ds its.toList)
    | _ => false)
  | _, _ => false
def relDBs (K : PySem.W.Frag) : List D → List Value → Bool
  | [], [] => true
  | d :: ds, u :: us => relDB K d u && relDBs K ds us
  | _, _ => false
end
mutual
theorem relDB_ok {K : PySem.W.Frag} : ∀ (d : D) (u : Value), relDB K d u = true → ∃ v, RelV v u ∧ ∀ N H ι, RD K N H ι d v
  | .non, u, h => by
    cases u <;> first | (simp [relDB] at h; done) | exact ⟨.non, rfl, fun _ _ _ => rfl⟩
  | .bl b, u, h => by
    cases u <;> first | (simp [relDB] at h; done) | skip
    simp only [relDB, beq_iff_eq] at h; subst h
    exact ⟨.bl _, rfl, fun _ _ _ => rfl⟩
  | .int i, u, h => by
    cases u <;> first | (simp [relDB] at h; done) | skip
    simp only [relDB, decide_eq_true_eq] at h; subst h
    exact ⟨.int _, ⟨_, rfl⟩, fun _ _ _ => rfl⟩
  | .str i, u, h => by
    cases u <;> first | (simp [relDB] at h; done) | skip
    simp only [relDB, decide_eq_true_eq] at h; subst h
    exact ⟨.str _, ⟨_, rfl⟩, fun _ _ _ => rfl⟩
  | .tup ds, u, h => by
    cases u with
    | ref a =>
      unfold relDB at h
      cases q : K.lookup a with
      | none => rw [q] at h; cases h
      | some o =>
        obtain ⟨oc, od, dt, osl⟩ := o
        rw [q] at h
        cases oc with
        | type c =>
          cases dt with
          | seq its n =>
            have h : (decide (c = "tuple") && (decide (its.size ≤ sizeLine) && relDBs K ds its.toList)) = true := h
            simp only [Bool.and_eq_true, decide_eq_true_eq] at h
            obtain ⟨h1, h2, h3⟩ := h
            obtain ⟨xs, r1, r2, r3⟩ := relDBs_ok ds its.toList h3
            refine ⟨.ref a, rfl, fun N H ι => ⟨a, xs, rfl, .inr ⟨_, its, n, q, congrArg Value.type h1, rfl, h2, r1⟩, by rw [r3]; simpa using h2, r2 N H ι⟩⟩
          | _ => cases h
        | _ => cases dt <;> cases h
    | _ => simp [relDB] at h
  | .lst ds, u, h => by cases u <;> simp [relDB] at h
  | .scr ds, u, h => by cases u <;> simp [relDB] at h
  | .fn a, u, h => by cases u <;> simp [relDB] at h
  | .ty a, u, h => by cases u <;> simp [relDB] at h
  | .dn _ _, u, h => by cases u <;> simp [relDB] at h
  | .dk _ _, u, h => by cases u <;> simp [relDB] at h
  | .cls _, u, h => by cases u <;> simp [relDB] at h
  | .exc _ _, u, h => by cases u <;> simp [relDB] at h
theorem relDBs_ok {K : PySem.W.Frag} : ∀ (ds : List D) (us : List Value), relDBs K ds us = true → ∃ vs, Vals vs us ∧ (∀ N H ι, RDs K N H ι ds vs) ∧ ds.length = us.length
  | [], [], _ => ⟨[], .nil, fun _ _ _ => rfl, rfl⟩
  | [], _ :: _, h => by simp [relDBs] at h
  | _ :: _, [], h => by simp [relDBs] at h
  | d :: ds, u :: us, h => by
    simp only [relDBs, Bool.and_eq_true] at h
    obtain ⟨v, r1, r2⟩ := relDB_ok d u h.1
    obtain ⟨vs, r3, r4, r5⟩ := relDBs_ok ds us h.2
    exact ⟨v :: vs, .cons r1 r3, fun N H ι => ⟨v, vs, rfl, r2 N H ι, r4 N H ι⟩, by simp [r5]⟩
end
def conV (K : PySem.W.Frag) (c : Str × D) : Bool := match PySem.W.nsIn K mainGlobals c.1 with
  | some (some u) => relDB K c.2 u
  | _ => false
abbrev AlV : Type := He.AlD × Bool
def obsV (fa : List He.Fa) (fn : List He.DefD) (cs : List (Str × D)) (K : PySem.W.Frag) : AlV := (He.obsD fa fn K, cs.all (conV K))
def SaysV (fa : List He.Fa) (fn : List He.DefD) (cs : List (Str × D)) (K : PySem.W.Frag) : Prop := obsV fa fn cs K = (He.valD fn, true)
theorem SaysV.d {fa : List He.Fa} {fn : List He.DefD} {cs : List (Str × D)} {K : PySem.W.Frag} (c : SaysV fa fn cs K) : He.SaysD fa fn K := congrArg (fun z : AlV => z.1) c
theorem SaysV.con {fa : List He.Fa} {fn : List He.DefD} {cs : List (Str × D)} {K : PySem.W.Frag} {h : Heap} {mg : Str → Option Value} (c : SaysV fa fn cs K) (X : K.In h) (G : h.Ns mainGlobals mg) (i : Nat) {x : Str} {d : D} (hi : cs[i]? = some (x, d) := by rfl) : ∃ u, mg x = some u ∧ KV K d u := by
  have c1 : cs.all (conV K) = true := congrArg (fun z : AlV => z.2) c
  have c2 := List.all_eq_true.mp c1 _ (List.mem_of_getElem? hi)
  unfold conV at c2
  split at c2
  · rename_i u e
    exact ⟨u, PySem.W.mg_of X G e, relDB_ok d u c2⟩
  · cases c2
end VL
set_option Elab.async false
set_option linter.all false
set_option maxRecDepth 100000
set_option maxHeartbeats 400000
namespace VL
open PySem PySem.Spec L2 RT RZ
theorem bt_len : bootBuiltins "len" = some (.builtin "len") := by decide +kernel
theorem bt_abs : bootBuiltins "abs" = some (.builtin "abs") := by decide +kernel
theorem bt_min : bootBuiltins "min" = some (.builtin "min") := by decide +kernel
theorem bt_max : bootBuiltins "max" = some (.builtin "max") := by decide +kernel
theorem bt_all : bootBuiltins "all" = some (.builtin "all") := by decide +kernel
theorem bt_any : bootBuiltins "any" = some (.builtin "any") := by decide +kernel
theorem bt_isinstance : bootBuiltins "isinstance" = some (.builtin "isinstance") := by decide +kernel
theorem bt_sorted : bootBuiltins "sorted" = some (.builtin "sorted") := by decide +kernel
theorem bt_int : bootBuiltins "int" = some (.type "int") := by decide +kernel
theorem bt_bool : bootBuiltins "bool" = some (.type "bool") := by decide +kernel
theorem bt_str : bootBuiltins "str" = some (.type "str") := by decide +kernel
theorem bt_tuple : bootBuiltins "tuple" = some (.type "tuple") := by decide +kernel
theorem bt_list : bootBuiltins "list" = some (.type "list") := by decide +kernel
section
variable {K : PySem.W.Frag} {X : Cx} {G : Gd} {e a b c : Expr} {es rest : List Expr} {pos : Pos} {p q u : PV}
theorem VT.pCh {f g : Mem → Sv → Sv → Option Sv} (h : VT X G e (tTb (eCh f g (eP p) (eP q) (eP u)))) : VT X G e (cP (bB (VL.pCh f g p q u))) := h.weak fun δ M Q h => by
  unfold cP bB VL.pCh at h
  rw [ok_bind, ok_bind] at h
  obtain ⟨x, e1, h⟩ := ok_elim h
  rw [ok_bind] at h
  obtain ⟨y, e2, h⟩ := ok_elim h
  rw [ok_bind] at h
  obtain ⟨k, e3, h⟩ := ok_elim h
  refine ok_of e1 (ok_of e2 (ok_of e3 ?_))
  cases k with
  | false => exact h
  | true =>
    rw [if_pos rfl] at h ⊢
    rw [ok_bind] at h
    exact h
/-- name = [..] on one line: frozen, or changing -/
theorem vs_setLcF {i : Nat} {y : Str} {py : Pos} {elt tg iter : Expr} {ifs : List Expr} {scope : Scope} {own : List (Str × Nat)} {pos spos : Pos} {it : TI'} {g : LcG} {tt : TT'} {te : TE'} (hc : X.calm = true) (hN : X.N.Nodup) (hy : X.N[i]? = some y) (hyl : X.env.scope.names.lookup y = some .local)
    (hsw : swapsWith (.ListComp elt [⟨tg, iter, ifs, 0⟩] scope pos) (some (.Name y py)) spos.line X.env = pure true) (hi : VI X G true tg iter it) (ok' : BlkOk X.N X.env.scope scope own)
    (hg : ∀ (s : Shared) (H : Hp) (C : Addr) (cl : List (Str × Addr)) (fp : List Addr), PG (X.blk s H scope (compEnvC scope cl C X.env) fp) tg (g.raw X.K)) (ht : ∀ (s : Shared) (H : Hp) (C : Addr) (cl : List (Str × Addr)) (fp : List Addr) (G' : Gd), G'.i0 = G.i0 → VTs (X.blk s H scope (compEnvC scope cl C X.env) fp) G' ifs tt)
    (he : ∀ (s : Shared) (H : Hp) (C : Addr) (cl : List (Str × Addr)) (fp : List Addr) (G' : Gd), G'.i0 = G.i0 → VE (X.blk s H scope (compEnvC scope cl C X.env) fp) G' elt te) (hv : ∀ i ∈ g.names, i ∈ own.map (·.2)) (hs : ∀ x, foldedSetIterable iter X.env x = pure x := by intro _; rfl) :
    VS X G (.Assign [.Name y py] (.ListComp elt [⟨tg, iter, ifs, 0⟩] scope pos) spos) (sSet i (eFz (fLc it g tt te (own.map (·.2))))) := vs_setLc (nw := false) hc hN hy hyl hsw hi ok' hg ht he hv hs
theorem call_isiX : CallR X (.builtin "isinstance") (fun xs H Q => (fun xs H Q => rIsi X.K xs H Q ∨ rIsiT X.K xs H Q) xs H Q ∨ rIsiK X.K xs H Q) := (call_isi.or call_isiT).or call_isiK
end
end VL
set_option Elab.async false
set_option linter.all false
set_option maxRecDepth 100000
set_option maxHeartbeats 4000000
namespace VL
open PySem PySem.Spec L2 RT RZ PyProof.Rows
end VL
set_option Elab.async false
set_option linter.all false
set_option maxRecDepth 100000
set_option maxHeartbeats 4000000
namespace VL
open PySem PySem.Spec L2 RT RZ PyProof.Rows
def uins (x : Int) : List Int → List Int
  | [] => [x]
  | y :: ys => if x < y then x :: y :: ys else if x = y then y :: ys else y :: uins x ys
def usort : List Int → List Int
  | [] => []
  | x :: xs => uins x (usort xs)
section
variable {X : Cx} {G : Gd} {a e : Expr} {p p2 q pos : Pos} {ta : TE'}
def rgLF (_ : Mem) : List Sv → Option (List D)
  | [.d (.int j)] => gd (-(2 ^ 62) ≤ j ∧ j ≤ 16777216) (rgL 0 j.toNat)
  | [.d (.int i), .d (.int j)] => gd ((0 ≤ i ∧ i ≤ 16777216) ∧ (-(2 ^ 62) ≤ j ∧ j ≤ 16777216)) (rgL i (j - i).toNat)
  | _ => none
theorem rgV_of {K : PySem.W.Frag} {N : Bool → Addr → Prop} {H : Hp} {ι : Ix} (i j : Int) : RDs K N H ι (rgL i (j - i).toNat) (rgV i j) := by
  unfold rgL rgV
  generalize List.range (j - i).toNat = l
  induction l with
  | nil => rfl
  | cons x l ih => exact ⟨_, _, rfl, rfl, ih⟩
theorem vf_listRg1 (hc : X.calm = true) (hg : Gl X "list") (hm : X.mg "list" = none) (hg2 : Gl X "range") (hm2 : X.mg "range" = none) (ha : VE X G a ta)
    (na : starEach [a] X.env = (false, eval a X.env) :: starEach [] X.env := by rfl) (na2 : starEach [.Call (.Name "range" p2) [a] [] q] X.env = (false, eval (.Call (.Name "range" p2) [a] [] q) X.env) :: starEach [] X.env := by rfl) :
    VF X G (.Call (.Name "list" p) [.Call (.Name "range" p2) [a] [] q] [] pos) (fN rgLF (aCons ta (aP []))) :=
  PE.weak (pe_listRg hc hg hm (prg_1 hg2 hm2 ha na) na2) fun σ H Q ⟨δ, M, ι, Q0, S, h, z⟩ => th1 S h fun x M1 ι1 H1 v q1 p1 k1 S1 r1 => by
    have q1 : ok (rgLF M1 [x]) fun ds => Q0 ds M1 := q1
    obtain ⟨ds, e, q1⟩ := ok_elim q1
    unfold rgLF at e
    split at e
    · rename_i j hj
      cases hj
      obtain ⟨hc, rfl⟩ := gd_some e
      cases (show _ = _ from r1)
      refine ⟨j, rfl, ⟨by omega, by omega, by omega, by omega, by omega⟩, fun p hp => z _ M1 ι1 H1 _ p q1 p1 k1 S1 (by simpa using rgV_of 0 j) (by rw [rgL_len, sizeLine_eq]; omega) hp⟩
    · rename_i hj; cases hj
    · cases e
theorem VF.aP1 {f : Mem → List Sv → Option (List D)} {u : PV} (h : VF X G e (fN f (aCons (eP u) (aP [])))) : VF X G e (fN f (aP [u])) := h.weak fun δ M Q h => by
  have h : ok (pArgs [u] δ M) fun xs => ok (f M xs) fun ds => Q ds M := h
  unfold pArgs at h
  rw [ok_bind] at h
  obtain ⟨d, e1, h⟩ := ok_elim h
  rw [ok_map] at h
  exact ok_of e1 h
end
end VL
set_option Elab.async false
set_option linter.all false
set_option maxRecDepth 100000
set_option maxHeartbeats 4000000
namespace VL
open PySem PySem.Spec L2 RT RZ PyProof.Rows
def iZq (t : TA') : TI' := fun δ M Q => t δ M fun xs M1 => match xs with
  | [a, b] => (match a, b with
    | .d (.tup as), .d (.tup bs) => Q (zipL as bs) gdT M1
    | a, b => ok (lstD M1 a) fun as => ok (lstD M1 b) fun bs => Q (zipL as bs) (fun M => gdS a as M ∧ gdS b bs M) M1)
  | _ => False
theorem zq_of {x y : Sv} {M : Mem} {Q : List D → (Mem → Prop) → Mem → Prop} (h : (match x, y with
    | .d (.tup as), .d (.tup bs) => Q (zipL as bs) gdT M
    | a, b => ok (lstD M a) fun as => ok (lstD M b) fun bs => Q (zipL as bs) (fun M => gdS a as M ∧ gdS b bs M) M)) :
    (∃ as bs, x = .d (.tup as) ∧ y = .d (.tup bs) ∧ Q (zipL as bs) gdT M) ∨ ∃ as bs, lstD M x = some as ∧ lstD M y = some bs ∧ Q (zipL as bs) (fun M => gdS x as M ∧ gdS y bs M) M := by
  split at h
  · exact .inl ⟨_, _, rfl, rfl, h⟩
  · obtain ⟨as, ea, h⟩ := ok_elim h
    obtain ⟨bs, eb, h⟩ := ok_elim h
    exact .inr ⟨as, bs, ea, eb, h⟩
/-- over a tuple -/
def iTq (t : TE') : TI' := fun δ M Q => t δ M fun s M1 => ok (tupD s) fun ds => Q ds gdT M1
section
variable {K : PySem.W.Frag} {X : Cx} {G : Gd} {e e2 tg : Expr} {pos p : Pos} {t : TE'}
theorem vi_zipQ {bd : Bool} {elts : List Expr} {kk : Nat} {tpos : Pos} {tA : TA'} (hg : Gl X "zip") (hm : X.mg "zip" = none) (ha : VA X G [e, e2] 2 tA) (hs : starEach [e, e2] X.env = (false, eval e X.env) :: starEach [e2] X.env := by rfl) (hpl : ((backTo pos (starEach [e2] X.env)).any fun x => x.1) = false := by rfl) :
    VI X G bd (.Tuple elts kk tpos) (.Call (.Name "zip" p) [e, e2] [] pos) (iZq tA) := by
  have hi := pi_zipA (tpos := tpos) (elts := elts) (kk := kk) (p := p) (pos := pos) hg hm ha hs hpl
  refine ⟨fun pins s σ H R I ⟨δ, M, ι, Q0, S, q, z⟩ => hi.run pins s σ H R I ?_⟩
  refine thA S q fun xs M1 ι1 H1 vs hl q1 p1 k1 S1 r1 => ?_
  obtain ⟨x, y, rfl⟩ : ∃ x y, xs = [x, y] := len2 hl
  obtain ⟨v, u, rfl, ra, rb⟩ := two_of r1
  rcases zq_of q1 with ⟨as, bs, rfl, rfl, q2⟩ | ⟨as, bs, ea, eb, q2⟩
  · obtain ⟨a1, rfl, ⟨xs, hq⟩, hl1, st⟩ := tup_stays ra
    obtain ⟨a2, rfl, ⟨ys, hq2⟩, hl2, st2⟩ := tup_stays rb
    refine ⟨a1, a2, xs, ys, rfl, .inr ⟨hq, hq2, z _ _ M1 ι1 H1 _ (fun _ => by unfold zipL; rw [List.length_map, List.length_zip]; omega) q2 p1 k1 S1 ?_⟩⟩
    intro G2 δ2 M2 ι2 σ2 H2 hn2 S2 e2 k2 hg
    obtain ⟨xs, qx, rx⟩ := st G2 ι2 H2 hn2 k2
    obtain ⟨ys, qy, ry⟩ := st2 G2 ι2 H2 hn2 k2
    refine ⟨⟨xs, ys, qx, qy, by have := rx.length; have := ry.length; simp only [zipL, List.length_map, List.length_zip]; omega⟩, fun i d hd => ?_⟩
    obtain ⟨d1, d2, h1, h2, rfl⟩ := zip_get hd
    obtain ⟨x, hx, rxx⟩ := rx.get h1
    obtain ⟨y, hy, ryy⟩ := ry.get h2
    refine ⟨⟨xs, ys, x, y, qx, qy, hx, hy⟩, fun v H3 hyl => ?_⟩
    obtain ⟨T, x1, y1, rfl, hT, rfl, h5, h6⟩ := hyl
    have h5 := h5 xs qx
    have h6 := h6 ys qy
    rw [hx] at h5; cases h5
    rw [hy] at h6; cases h6
    exact ⟨.inr ⟨T, _, hT, rfl⟩, fin_pair S2 hT rxx ryy⟩
  · obtain ⟨a1, rfl, ⟨xs, hq, _⟩, hl1, st⟩ := list_stays S1 ra ea
    obtain ⟨a2, rfl, ⟨ys, hq2, _⟩, hl2, st2⟩ := list_stays S1 rb eb
    refine ⟨a1, a2, xs, ys, rfl, .inl ⟨hq, hq2, z _ _ M1 ι1 H1 _ (fun _ => by unfold zipL; rw [List.length_map, List.length_zip]; omega) q2 p1 k1 S1 ?_⟩⟩
    intro G2 δ2 M2 ι2 σ2 H2 hn2 S2 e2 k2 hg
    obtain ⟨xs, qx, rx⟩ := st G2 δ2 M2 ι2 σ2 H2 hn2 S2 e2 k2 hg.1
    obtain ⟨ys, qy, ry⟩ := st2 G2 δ2 M2 ι2 σ2 H2 hn2 S2 e2 k2 hg.2
    refine ⟨⟨xs, ys, qx, qy, by have := rx.length; have := ry.length; simp only [zipL, List.length_map, List.length_zip]; omega⟩, fun i d hd => ?_⟩
    obtain ⟨d1, d2, h1, h2, rfl⟩ := zip_get hd
    obtain ⟨x, hx, rxx⟩ := rx.get h1
    obtain ⟨y, hy, ryy⟩ := ry.get h2
    refine ⟨⟨xs, ys, x, y, qx, qy, hx, hy⟩, fun v H3 hyl => ?_⟩
    obtain ⟨T, x1, y1, rfl, hT, rfl, h5, h6⟩ := hyl
    have h5 := h5 xs qx
    have h6 := h6 ys qy
    rw [hx] at h5; cases h5
    rw [hy] at h6; cases h6
    exact ⟨.inr ⟨T, _, hT, rfl⟩, fin_pair S2 hT rxx ryy⟩
end
end VL
set_option Elab.async false
set_option linter.all false
set_option maxRecDepth 100000
set_option maxHeartbeats 4000000
namespace VL
open PySem PySem.Spec L2 RT RZ
def cellK : Option Cell → Option (List (Key × D))
  | some (.dk kvs) => some kvs
  | _ => none
theorem cellK_some {c : Option Cell} {kvs : List (Key × D)} (h : cellK c = some kvs) : c = some (.dk kvs) := by
  cases c with
  | none => cases h
  | some c => cases c <;> first | (cases h; rfl) | cases h
def keyD : D → Option Key
  | .int i => some (.inl i)
  | .str s => some (.inr s)
  | _ => none
def valK (kvs : List (Key × D)) (k : Key) : Option D := (kvs.find? fun kv => decide (kv.1 = k)).map (·.2)
def putKD (kvs : List (Key × D)) (k : Key) (v : D) : List (Key × D) := if (kvs.any fun kv => decide (kv.1 = k)) = true then kvs.map (fun kv => if kv.1 = k then (kv.1, v) else kv) else kvs ++ [(k, v)]
def mrgK (kvs more : List (Key × D)) : List (Key × D) := more.foldl (fun acc kv => putKD acc kv.1 kv.2) kvs
section
variable {K : PySem.W.Frag} {X : Cx} {N : Bool → Addr → Prop} {H : Hp} {ι : Ix} {G : Gd} {a b e o i : Expr} {es : List Expr} {pos cpos apos p1' : Pos} {ta tb te to ti t : TE'} {tA : TA'}
theorem key_rd {d : D} {v : V} {k : Key} (e : keyD d = some k) (h : RD K N H ι d v) : v = kV k := by
  cases d <;> cases e <;> exact h
def RK (K : PySem.W.Frag) (N : Bool → Addr → Prop) (H : Hp) (ι : Ix) (kvs : List (Key × D)) (ws : List (Key × V)) : Prop := kvs.map (·.1) = ws.map (·.1) ∧ RDs K N H ι (kvs.map (·.2)) (ws.map (·.2))
theorem RK.inv {k : Key} {d : D} {kvs : List (Key × D)} {ws : List (Key × V)} (h : RK K N H ι ((k, d) :: kvs) ws) : ∃ v ws', ws = (k, v) :: ws' ∧ RD K N H ι d v ∧ RK K N H ι kvs ws' := by
  obtain ⟨h1, h2⟩ := h
  cases ws with
  | nil => cases h1
  | cons w ws =>
    simp only [List.map_cons, List.cons.injEq] at h1
    obtain ⟨x, r, e, g1, g2⟩ := h2
    simp only [List.map_cons, List.cons.injEq] at e
    obtain ⟨rfl, rfl⟩ := e
    exact ⟨w.2, ws, by rw [h1.1], g1, h1.2, g2⟩
theorem RK.nil : RK K N H ι [] [] := ⟨rfl, rfl⟩
theorem RK.cons {k : Key} {d : D} {v : V} {kvs : List (Key × D)} {ws : List (Key × V)} (r : RD K N H ι d v) (h : RK K N H ι kvs ws) : RK K N H ι ((k, d) :: kvs) ((k, v) :: ws) :=
  ⟨by simp [h.1], v, _, rfl, r, h.2⟩
theorem RK.nil_inv {ws : List (Key × V)} (h : RK K N H ι [] ws) : ws = [] := by
  have := h.1
  cases ws with
  | nil => rfl
  | cons w ws => simp at this
theorem RK.length {kvs : List (Key × D)} {ws : List (Key × V)} (h : RK K N H ι kvs ws) : kvs.length = ws.length := by
  have := congrArg List.length h.1
  simpa using this
theorem RK.val : ∀ {kvs : List (Key × D)} {ws : List (Key × V)}, RK K N H ι kvs ws → ∀ k, (valK kvs k = none ∧ valV ws k = none) ∨ ∃ d v, valK kvs k = some d ∧ valV ws k = some v ∧ RD K N H ι d v
  | [], ws, h, k => by
    rw [h.nil_inv]; exact .inl ⟨rfl, rfl⟩
  | (j, d) :: kvs, ws, h, k => by
    obtain ⟨v, ws', rfl, r, h'⟩ := h.inv
    by_cases e : j = k
    · refine .inr ⟨d, v, by simp [valK, e], by simp [valV, e], r⟩
    · rcases RK.val h' k with ⟨h1, h2⟩ | ⟨d', v', h1, h2, r'⟩
      · refine .inl ⟨?_, ?_⟩
        · simp only [valK, List.find?_cons, e, decide_false]; exact h1
        · simp only [valV, List.find?_cons, e, decide_false]; exact h2
      · refine .inr ⟨d', v', ?_, ?_, r'⟩
        · simp only [valK, List.find?_cons, e, decide_false]; exact h1
        · simp only [valV, List.find?_cons, e, decide_false]; exact h2
theorem RK.any {kvs : List (Key × D)} {ws : List (Key × V)} (h : RK K N H ι kvs ws) (k : Key) : (kvs.any fun kv => decide (kv.1 = k)) = ws.any fun kv => decide (kv.1 = k) := by
  have e1 : (kvs.any fun kv => decide (kv.1 = k)) = (kvs.map (·.1)).any fun j => decide (j = k) := by rw [List.any_map]; rfl
  have e2 : (ws.any fun kv => decide (kv.1 = k)) = (ws.map (·.1)).any fun j => decide (j = k) := by rw [List.any_map]; rfl
  rw [e1, e2, h.1]
theorem RK.repl {k : Key} {d : D} {v : V} (r : RD K N H ι d v) : ∀ {kvs : List (Key × D)} {ws : List (Key × V)}, RK K N H ι kvs ws → RK K N H ι (kvs.map fun kv => if kv.1 = k then (kv.1, d) else kv) (ws.map fun kv => if kv.1 = k then (kv.1, v) else kv)
  | [], ws, h => by rw [h.nil_inv]; exact RK.nil
  | (j, d') :: kvs, ws, h => by
    obtain ⟨v', ws', rfl, r', h'⟩ := h.inv
    simp only [List.map_cons]
    by_cases e : j = k
    · simp only [e, if_true]; exact RK.cons r (RK.repl r h')
    · simp only [e, if_false]; exact RK.cons r' (RK.repl r h')
theorem RK.snoc {k : Key} {d : D} {v : V} (r : RD K N H ι d v) : ∀ {kvs : List (Key × D)} {ws : List (Key × V)}, RK K N H ι kvs ws → RK K N H ι (kvs ++ [(k, d)]) (ws ++ [(k, v)])
  | [], ws, h => by rw [h.nil_inv]; exact RK.cons r RK.nil
  | (j, d') :: kvs, ws, h => by
    obtain ⟨v', ws', rfl, r', h'⟩ := h.inv
    exact RK.cons r' (RK.snoc r h')
theorem RK.put {k : Key} {d : D} {v : V} {kvs : List (Key × D)} {ws : List (Key × V)} (h : RK K N H ι kvs ws) (r : RD K N H ι d v) : RK K N H ι (putKD kvs k d) (putK ws k v) := by
  unfold putKD putK
  rw [h.any k]
  by_cases q : (ws.any fun kv => decide (kv.1 = k)) = true
  · rw [if_pos q, if_pos q]; exact RK.repl r h
  · rw [if_neg q, if_neg q]; exact RK.snoc r h
theorem RK.merge : ∀ {more : List (Key × D)} {ms : List (Key × V)} {kvs : List (Key × D)} {ws : List (Key × V)}, RK K N H ι kvs ws → RK K N H ι more ms → RK K N H ι (mrgK kvs more) (mergeK ws ms)
  | [], ms, kvs, ws, h, hm => by rw [hm.nil_inv]; exact h
  | (j, d) :: more, ms, kvs, ws, h, hm => by
    obtain ⟨v, ms', rfl, r, hm'⟩ := hm.inv
    show RK K N H ι (mrgK (putKD kvs j d) more) (mergeK (putK ws j v) ms')
    exact RK.merge (h.put r) hm'
theorem RK.mono {N' : Bool → Addr → Prop} {H' : Hp} {ι' : Ix} {kvs : List (Key × D)} {ws : List (Key × V)} (k : Kp ι H ι' H') (hn : ∀ b a o, H a = some o → N b a → N' b a) (h : RK K N H ι kvs ws) : RK K N' H' ι' kvs ws := ⟨h.1, h.2.mono k hn⟩
def rDIn (neg : Bool) : R2 := fun x y H Q => ∃ a o, y = .ref a ∧ DGet H a x o ∧ Q (.bl (if neg then !o.isSome else o.isSome)) H
theorem op_din (hu : X.A.units + 1 < cLine) : OpR X (compareOp .In) (rDIn false) := by
  intro pins s σ H x y v u Q I rx ry ⟨a, o, e, g, q⟩
  subst e
  cases (show u = Value.ref a from ry)
  exact d_in hu I g rx fun s' I' => ⟨.bl _, H, I', rfl, q⟩
theorem op_dnin (hu : X.A.units + 1 < cLine) : OpR X (compareOp .NotIn) (rDIn true) := by
  intro pins s σ H x y v u Q I rx ry ⟨a, o, e, g, q⟩
  subst e
  cases (show u = Value.ref a from ry)
  exact d_notIn hu I g rx fun s' I' => ⟨.bl _, H, I', rfl, q⟩
def rDGet : R2 := fun x y H Q => ∃ a v, x = .ref a ∧ DGet H a y (some v) ∧ Q v H
def eDkN : TE' := fun _ M Q => Q (.ref M.length) (M ++ [.dk []])
theorem ve_dnew : VE X G (.Dict [] [] pos) eDkN :=
  PE.weak pe_dnewK fun σ H Q ⟨δ, M, ι, Q0, S, q, z⟩ => fun p hp =>
    z _ _ _ _ _ q (Ex.app _ _) (Kp.named hp) (S.named (c := .dk []) hp ⟨[], upd_same, rfl, rfl⟩) ⟨p, rfl, .inl (by rw [S.mem.len]; simp)⟩
def stK (o i : Sv) (d : D) (M : Mem) (Q : Mem → Prop) : Prop := match o, i with
  | .ref n, .d k => ok (cellK M[n]?) fun kvs => ok (keyD k) fun k => kvs.length < sizeLine ∧ Q (M.set n (.dk (putKD kvs k d)))
  | _, _ => False
def sSubK (te to ti : TE') : TS' := fun E δ M => te δ M fun s M1 => ok (dataS s) fun d => to δ M1 fun o M2 => ti δ M2 fun i M3 => stK o i d M3 fun M4 => E.nx δ M4
theorem vs_subK (hu : X.A.units + 1 < cLine) (he : VE X G e te) (ho : VE X G o to) (hi : VE X G i ti) (hs : swapsWithSole [.Subscript o i p1'] e pos.line X.env = pure false := by rfl) (hw : swappedStores [.Subscript o i p1'] e X.env = pure none := by rfl)
    (h1 : (assignEach [.Subscript o i p1'] X.env).map (·.2) = [assign (.Subscript o i p1') X.env] := by rfl)
    (ha : ∀ v, assign (.Subscript o i p1') X.env v = (do
      let ov ← holding [v] (eval o X.env)
      let iv ← holding [v, ov] (eval i X.env)
      standAt p1'
      holding [v, ov, iv] (setItem ov iv v)
      release [v, ov, iv] []) := by intro _; rfl) : VS X G (.Assign [.Subscript o i p1'] e pos) (sSubK te to ti) :=
  PS.weak (ps_asg he (pg_sub ho hi (set_dict hu) ha) hs hw h1) fun E σ H ⟨δ, M, ι, E0, S, q, z⟩ => th1 S q fun s M1 ι1 H1 v q1 p1 k1 S1 r1 => by
    obtain ⟨d, e9, q1⟩ := ok_elim q1
    refine th1 S1 q1 fun x M2 ι2 H2 u q2 p2 k2 S2 r2 => th1 S2 q2 fun y M3 ι3 H3 w q3 p3 k3 S3 r3 => ?_
    have r1' := r1.mono (k2.trans k3) (p2.trans p3) (fun _ _ _ _ z => z)
    have r2' := r2.mono k3 p3 (fun _ _ _ _ z => z)
    unfold stK at q3
    split at q3
    · rename_i n k
      obtain ⟨kvs, e1, q3⟩ := ok_elim q3
      obtain ⟨k', e2, hl, q3⟩ := ok_elim q3
      obtain ⟨a, rfl, hn, ws, hH, r⟩ := S3.mem.at r2' (cellK_some e1) (fun z => nomatch z)
      have hv := key_rd e2 (show RD X.K G.N H3 ι3 k w from r3)
      subst hv
      cases s with
      | d x =>
        cases e9
        have hm := List.mem_of_getElem? hn
        have r' : RK X.K G.N H3 ι3 kvs ws := r
        have k : Kp ι3 H3 ι3 (upd H3 a (.dK (putK ws k' v))) := Kp.turned hm
        refine ⟨a, _, rfl, DPut.k hH (by rw [← r'.length]; exact hl), ?_⟩
        exact z.nx _ _ _ _ _ q3 ((p1.trans p2).trans p3) (((k1.trans k2).trans k3).trans k) (S3.turned hn ⟨_, upd_same, (r'.put (show RD _ _ _ _ _ _ from r1')).mono k fun _ _ _ _ z => z⟩)
      | ref n => cases e9
      | bor n => cases e9
    · exact q3.elim
end
end VL
set_option Elab.async false
set_option linter.all false
set_option maxRecDepth 100000
set_option maxHeartbeats 4000000
namespace VL
open PySem PySem.Spec L2 RT RZ
/-- a plain list of these items -/
def PlnL (h : Heap) (l : Addr) (vs : List Value) : Prop := ∃ n, h.get? l = some { cls := .type "list", data := .seq vs.toArray n }
theorem PlnL.keep {h h' : Heap} {l : Addr} {vs : List Value} (p : PlnL h l vs) (k : ∀ b o, h.get? b = some o → h'.get? b = some o) : PlnL h' l vs := let ⟨n, e⟩ := p; ⟨n, k _ _ e⟩
end VL
set_option Elab.async false
set_option linter.all false
set_option maxRecDepth 100000
set_option maxHeartbeats 4000000
namespace VL
open PySem PySem.Spec L2 RT RZ
end VL
set_option Elab.async false
set_option linter.all false
set_option maxRecDepth 100000
set_option maxHeartbeats 4000000
namespace VL
open PySem PySem.Spec L2 RT RZ
end VL
set_option Elab.async false
set_option linter.all false
set_option maxRecDepth 100000
set_option maxHeartbeats 4000000
namespace VL
open PySem PySem.Spec L2 RT RZ PyProof.Rows
end VL
set_option Elab.async false
set_option linter.all false
set_option maxRecDepth 100000
set_option maxHeartbeats 4000000
namespace VL
open PySem PySem.Spec L2 RT RZ PyProof.Rows
theorem sSeq_app {a b : TS'} {E : Ends'} {δ : DS} {M : Mem} : sSeq a b E δ M = a ⟨fun δ' M' => b E δ' M', E.rt, E.bk, E.ct⟩ δ M := Eq.trans (Eq.refl _) (Eq.refl _)
variable {K : PySem.W.Frag} {X : Cx} {G : Gd} {e tg : Expr} {pos p : Pos} {t : TE'}
end VL
set_option Elab.async false
set_option linter.all false
set_option maxRecDepth 100000
set_option maxHeartbeats 4000000
namespace VL
open PySem PySem.Spec L2 RT RZ PyProof.Rows
section
variable {X : Cx} {K : PySem.W.Frag}
theorem tups_of {G : Gd} {H : Hp} {ι : Ix} {ds : List D} {ns : List Int} {v : V} (h : RD K G.N H ι (.tup ds) v) (e : intsOf ds = some ns) : ∃ a, v = .ref a ∧ SqT K H a (ns.map V.int) := by
  obtain ⟨a, xs, rfl, q, _, r⟩ := h
  rw [intsOf_some e] at r
  rw [RDs.ints r] at q
  exact ⟨a, rfl, tup_sq q⟩
end
end VL
set_option Elab.async false
set_option linter.all false
set_option maxRecDepth 100000
set_option maxHeartbeats 4000000
namespace VL
open PySem PySem.Spec L2 RT RZ PyProof.Rows
end VL
set_option Elab.async false
set_option linter.all false
set_option maxRecDepth 100000
set_option maxHeartbeats 4000000
namespace VL
open PySem PySem.Spec L2 RT RZ PyProof.Rows
theorem ints_at : ∀ {us : List Value} {ns : List Int}, us.length = ns.length → (∀ (j : Nat) (v : Value), us[j]? = some v → ∃ i t, ns[j]? = some i ∧ v = Value.int i t) → IntsAre us ns
  | [], [], _, _ => .nil
  | u :: us, n :: ns, hl, h => by
    obtain ⟨i, t, e1, e2⟩ := h 0 u rfl
    have e1' : n = i := Option.some.inj e1
    subst e1'
    subst e2
    exact .cons _ t (ints_at (by simpa using hl) fun j v e => by simpa using h (j + 1) v (by simpa using e))
  | [], _ :: _, hl, _ => by simp at hl
  | _ :: _, [], hl, _ => by simp at hl
/-- sorted(d), keys that are ints -/
def rSortedDI : List V → Hp → VK → Prop := fun xs H Q => ∃ (a : Addr) (kvs : List (Key × V)) (ns : List Int), xs = [.ref a] ∧ Rd H a (.dK kvs) ∧ kvs.map (·.1) = ns.map Sum.inl ∧
  ∀ (ms : List Int) (p : Addr), ms.Perm ns → ms.Pairwise (· ≤ ·) → H p = none → Q (.ref p) (upd H p (.lst (ms.map V.int)))
section
variable {X : Cx} {K : PySem.W.Frag}
theorem cr_sortedDI (hcalm : X.calm = true) : CallR X (.builtin "sorted") rSortedDI := by
  intro pins s σ H xs us Q I r q
  obtain ⟨a, kvs, ks, ex, hd, hks, q⟩ := q
  subst ex
  obtain ⟨u, eu, rx⟩ := vals1 r
  subst eu
  cases rx
  obtain ⟨z, lo, vs, rel, dd⟩ := dk_rd I.hok hd
  obtain ⟨ep, hat⟩ := dd.dictAt
  have hkeys : vs.map (·.1) = ks.map Sum.inl := rel.keys.symm.trans hks
  have hl : vs.length = ks.length := by
    have e := congrArg List.length hkeys
    rw [List.length_map, List.length_map] at e
    exact e
  have h16 : vs.length ≤ sizeLine := by rw [← rel.length]; exact z
  refine Calls.call_function_entry PyProof.Rows.kind_sorted PyProof.Rows.plain_sorted PyProof.Rows.entry_sorted (PyProof.Rows.args_sorted1 _) ?_
  unfold Builtin.«sorted»
  refine wpAny_bind (m := checkCount "sorted" 1 1 _) (wpAny_pure ?_)
  refine wpAny_bind (PySem.W.kdu_collect (A := X.A.in1) (PySem.W.kdl_dict (knd := mixKind X.prog X.w) (kvs := vs) (ep := ep) lo) (I.ok.hd hcalm) hat h16 fun h' tk acc hk hacc => ?_)
  have hal : acc.toList.length = ks.length := by rw [Array.length_toList, hacc.1, hl]
  have hS : IntsAre acc.toList ks := ints_at hal fun j v e => by
    obtain ⟨k, x, e1, e2⟩ := hacc.2 j v (by rw [← Array.getElem?_toList]; exact e)
    have e3 : (vs.map (·.1))[j]? = some k := by rw [List.getElem?_map, e1]; all_goals rfl
    rw [hkeys, List.getElem?_map] at e3
    cases e4 : ks[j]? with
    | none => rw [e4] at e3; cases e3
    | some y =>
      rw [e4] at e3
      have e5 : Sum.inl y = k := Option.some.inj e3
      subst e5
      obtain ⟨t, ev⟩ := Value.isInt_shape (k := y) (v := v) e2
      exact ⟨y, t, rfl, ev⟩
  have I1 : Inv X pins σ H { s with heap := h', toks := tk } := I.kept hk
  refine wpAny_bind (wpAny_newList ?_ (by rw [hal, ← hl]; exact h16))
  have hoL : (h'.push (seqObj "list" acc.toList.toArray 0)).get? h'.objs.size = some (seqObj "list" acc.toList.toArray 0) := Heap.get?_push_size _ rfl
  show wpAny _ _ _ _ _ { s with heap := h'.push (seqObj "list" acc.toList.toArray 0), toks := tk }
  refine wpAny_bind (wpAny_holding (wpAny_call_entry PyProof.Rows.slot_list_sort ⟨_, hoL, rfl⟩ PyProof.Rows.entry_list_sort
    (list_sort_treeAny (s := { s with heap := h'.push (seqObj "list" acc.toList.toArray 0), toks := tk }) hoL hS (by rw [hal, ← hl]; exact h16) fun out ms g1 g2 g3 => ⟨_, rfl, ?_⟩)
    (PyProof.Rows.args_list_sort _)))
  obtain ⟨e', he'⟩ := PyProof.Rows.sortedHeap_at (vs := acc.toList) (out := out) hoL
  have hlen : (ms.map V.int).length ≤ sizeLine := by
    rw [List.length_map, g2.length_eq, ← hl]
    exact h16
  refine wpAny_pure ⟨_, rfl, .ref h'.objs.size, upd H h'.objs.size (.lst (ms.map V.int)), I1.laid (t' := tk) (fun b u e => ?_) (Nat.le_refl _)
    (show ObjOk X.prog X.w _ _ _ (.lst (ms.map V.int)) from ⟨hlen, out.toList, e', vals_of_ints g1, by rw [Array.toArray_toList]; exact he'⟩), rfl, q ms _ g2 g3 (I1.hok.fresh (Nat.le_refl _))⟩
  have hb : b < h'.objs.size := Heap.lt_size e
  rw [PyProof.Rows.sortedHeap_old (Nat.ne_of_lt hb) (by rw [size_push']; exact Nat.lt_succ_of_lt hb)]
  exact Heap.get?_push_of_some _ e
end
/-- the keys, all ints -/
def keysI : List (Key × D) → Option (List Int)
  | [] => some []
  | (.inl i, _) :: kvs => (keysI kvs).map fun ns => i :: ns
  | (.inr _, _) :: _ => none
theorem keysI_some : ∀ {kvs : List (Key × D)} {ns : List Int}, keysI kvs = some ns → kvs.map (·.1) = ns.map Sum.inl
  | [], ns, h => by cases h; rfl
  | (.inl i, d) :: kvs, ns, h => by
    obtain ⟨ms, e, rfl⟩ := Option.map_eq_some_iff.mp (show (keysI kvs).map _ = some ns from h)
    rw [List.map_cons, List.map_cons, keysI_some e]
  | (.inr _, _) :: _, ns, h => by cases h
end VL
set_option Elab.async false
set_option linter.all false
set_option maxRecDepth 100000
set_option maxHeartbeats 4000000
namespace VL
open PySem PySem.Spec L2 RT RZ
end VL
set_option Elab.async false
set_option linter.all false
set_option maxRecDepth 100000
set_option maxHeartbeats 4000000
namespace VL
open PySem PySem.Spec L2 RT RZ PyProof.Rows
end VL
set_option Elab.async false
set_option linter.all false
set_option maxRecDepth 100000
set_option maxHeartbeats 4000000
namespace VL
open PySem PySem.Spec L2 RT RZ
end VL
set_option Elab.async false
set_option linter.all false
set_option maxRecDepth 100000
set_option maxHeartbeats 4000000
namespace VL
open PySem PySem.Spec L2 RT RZ
section
variable {X : Cx} {G : Gd} {e : Expr} {es : List Expr} {pos p : Pos} {x : Str} {k j n : Nat} {sp : SpD} {tA : TA'}
theorem ve_call0 (c : Ca X.prog X.w X.K X.mg X.base k x 0 sp) (hr : RoomG j X.A) (hk : k ≤ j) (hg : Gl X x)
    (hdb : (x == ("__debug__" : Str)) = false := by decide) : VE X G (.Call (.Name x p) [] [] pos) (eCall [] sp (aP [])) := by
  obtain ⟨f, fd, ps, F, hm, kp, b⟩ := c.ex
  refine PE.weak (pe_callg0 F (hr.mono hk) hg hm kp b .nil C8.pass0 hdb (E := C8.E0)) fun σ H Q ⟨δ, M, ι, Q0, S, q, z⟩ => ?_
  show lP X.K 0 sp [] H Q C8.E0
  have h1 : callS [] sp M [] (rvQ Q0) := q
  have r1 : RSs X.K G.N H ι [] [] := rfl
  refine call_in S r1 rfl h1 (fun y M' H' v q2 k2 S2 r2 => z _ M' ι H' v q2 (Ex.refl _) k2 S2 r2) fun rv cn M' H' a hcn q2 k2 S2 hl2 => ?_
  refine z (.ref M'.length) _ _ H' _ (rvQ_cell hcn q2) (Ex.app _ _) k2 S2 ⟨a, rfl, .inl ?_⟩
  rw [hl2, S.mem.len, List.getElem?_append_right (Nat.le_refl _)]; simp
end
end VL
set_option Elab.async false
set_option linter.all false
set_option maxRecDepth 100000
set_option maxHeartbeats 4000000
namespace VL
open PySem PySem.Spec L2 RT RZ
def sStop : TS' := fun _ _ _ => False
theorem vs_stop {X : Cx} {G : Gd} {s : Stmt} : VS X G s sStop := ⟨fun pins s σ H Q I ⟨_, _, _, _, _, q, _⟩ => q.elim⟩
end VL
set_option Elab.async false
set_option linter.all false
set_option maxRecDepth 100000
set_option maxHeartbeats 4000000
namespace VL
open PySem PySem.Spec L2 RT RZ PyProof.Rows
end VL
set_option Elab.async false
set_option linter.all false
set_option maxRecDepth 100000
set_option maxHeartbeats 4000000
namespace VL
open PySem PySem.Spec L2 RT RZ PyProof.Rows
end VL
set_option Elab.async false
set_option linter.all false
set_option maxRecDepth 100000
set_option maxHeartbeats 4000000
namespace VL
open PySem PySem.Spec L2 RT RZ PyProof.Rows
end VL
set_option Elab.async false
set_option linter.all false
set_option maxRecDepth 100000
set_option maxHeartbeats 1000000
namespace VL
open PySem PySem.Spec L2 RT RZ
end VL
set_option Elab.async false
set_option linter.all false
set_option maxRecDepth 100000
set_option maxHeartbeats 4000000
namespace VL
open PySem PySem.Spec L2
end VL
set_option Elab.async false
set_option linter.all false
set_option maxRecDepth 100000
set_option maxHeartbeats 1000000
namespace VL
open PySem PySem.Spec L2 RT RZ
end VL
set_option Elab.async false
set_option linter.all false
set_option maxRecDepth 100000
set_option maxHeartbeats 1000000
namespace VL
open PySem PySem.Spec L2 RT RZ
def sealL (m0 : Nat) : Mem → List Sv → Option (List Sv × Mem)
  | M, [] => some ([], M)
  | M, x :: xs => (sealD m0 M x).bind fun r => (sealL m0 r.2 xs).map fun q => (r.1 :: q.1, q.2)
def aSeal (m0 : Nat) (t : TA') : TA' := fun δ M Q => t δ M fun xs M1 => ok (sealL m0 M1 xs) fun r => Q r.1 r.2
section
variable {K : PySem.W.Frag} {X : Cx} {G : Gd} {es : List Expr} {tA : TA'} {δ : DS} {M : Mem} {ι : Ix} {σ : L2.St} {H : Hp}
theorem seal_rd {m0 : Nat} (hG : G.i0.length = m0) {d : Sv} {v : V} {r : Sv × Mem} (S : Sr K G δ M ι σ H) (rx : RS K G.N H ι d v) (e : sealD m0 M d = some r) :
    ∃ ι', Sr K G δ r.2 ι' σ H ∧ Ex ι ι' ∧ Kp ι H ι' H ∧ RS K G.N H ι' r.1 v := by
  cases d with
  | d x => cases e; exact ⟨ι, S, Ex.refl _, Kp.refl _ _, rx⟩
  | bor ds => cases e; exact ⟨ι, S, Ex.refl _, Kp.refl _ _, rx⟩
  | ref n =>
    by_cases hn : m0 ≤ n
    · rw [show sealD m0 M (.ref n) = (if m0 ≤ n then (cellL M[n]?).map fun ds => (.d (.lst ds), M.set n .gone) else none) from rfl, if_pos hn] at e
      obtain ⟨ds, e1, rfl⟩ := Option.map_eq_some_iff.mp e
      obtain ⟨a, rfl, ha, _⟩ := S.mem.at rx (cellL_some e1) (fun z => nomatch z)
      obtain ⟨S2, e2, k2, r2⟩ := S.seal ha (by omega) (cellL_some e1)
      exact ⟨_, S2, e2, k2, r2⟩
    · rw [show sealD m0 M (.ref n) = (if m0 ≤ n then (cellL M[n]?).map fun ds => (.d (.lst ds), M.set n .gone) else none) from rfl, if_neg hn] at e; cases e
theorem sealL_rd {m0 : Nat} (hG : G.i0.length = m0) : ∀ {xs : List Sv} {vs : List V} {M : Mem} {ι : Ix} {r : List Sv × Mem}, Sr K G δ M ι σ H → RSs K G.N H ι xs vs → sealL m0 M xs = some r →
    ∃ ι', Sr K G δ r.2 ι' σ H ∧ Ex ι ι' ∧ Kp ι H ι' H ∧ RSs K G.N H ι' r.1 vs ∧ r.1.length = xs.length
  | [], vs, M, ι, r, S, rx, e => by cases e; exact ⟨ι, S, Ex.refl _, Kp.refl _ _, rx, rfl⟩
  | x :: xs, vs, M, ι, r, S, rx, e => by
    obtain ⟨v, vr, rfl, r1, r2⟩ := rx
    obtain ⟨q1, e1, e⟩ := Option.bind_eq_some_iff.mp (show (sealD m0 M x).bind _ = some r from e)
    obtain ⟨q2, e2, rfl⟩ := Option.map_eq_some_iff.mp e
    obtain ⟨ι1, S1, p1, k1, z1⟩ := seal_rd hG S r1 e1
    obtain ⟨ι2, S2, p2, k2, z2, l2⟩ := sealL_rd hG S1 (r2.mono k1 p1 fun _ _ _ _ z => z) e2
    exact ⟨ι2, S2, p1.trans p2, k1.trans k2, ⟨v, vr, rfl, z1.mono k2 p2 fun _ _ _ _ z => z, z2⟩, by simp [l2]⟩
theorem VA.seal {m0 n : Nat} (hG : G.i0.length = m0) (h : VA X G es n tA) : VA X G es n (aSeal m0 tA) :=
  ⟨fun pos pins s σ H Q I ⟨δ, M, ι, Q0, S, q, z⟩ => h.run pos pins s σ H Q I ⟨δ, M, ι, _, S, q, fun xs M' ι' H' vs hl h1 p1 k1 S1 r1 => by
    obtain ⟨r, e, h1⟩ := ok_elim h1
    obtain ⟨ι2, S2, e2, k2, r2, l2⟩ := sealL_rd hG S1 r1 e
    exact z _ _ _ _ vs (by first | exact hl | (rw [l2]; exact hl)) h1 (p1.trans e2) (k1.trans k2) S2 r2⟩⟩
end
end VL
set_option Elab.async false
set_option linter.all false
set_option maxRecDepth 100000
set_option maxHeartbeats 2000000
namespace VL
open PySem PySem.Spec L2 RT RZ PyProof.Rows
mutual
/-- a value that is this key -/
def KeyV (K : PySem.W.Frag) (H : Hp) : NestedKey → V → Prop
  | .none, v => v = .non
  | .num i, v => v = .int i
  | .text _, _ => False
  | .tup ks, v => ∃ a xs, v = .ref a ∧ SqT K H a xs ∧ KeyVs K H ks xs
def KeyVs (K : PySem.W.Frag) (H : Hp) : List NestedKey → List V → Prop
  | [], xs => xs = []
  | k :: ks, xs => ∃ x r, xs = x :: r ∧ KeyV K H k x ∧ KeyVs K H ks r
end
def KeyT (K : PySem.W.Frag) (H : Hp) (k : NestedKey) (b : Addr) : Prop := KeyV K H k (.ref b) ∧ k.depth ≤ 8 ∧ nplain k = true
def DnAll (K : PySem.W.Frag) (H : Hp) (xs : List (NestedKey × Addr × V)) : Prop := ∀ x ∈ xs, KeyT K H x.1 x.2.1
def valNV (xs : List (NestedKey × Addr × V)) (k : NestedKey) : Option V := (xs.find? fun x => decide (x.1 = k)).map fun x => x.2.2
def putNV (xs : List (NestedKey × Addr × V)) (k : NestedKey) (b : Addr) (v : V) : List (NestedKey × Addr × V) :=
  if (xs.any fun x => decide (x.1 = k)) = true then xs.map (fun x => if x.1 = k then (x.1, x.2.1, v) else x) else xs ++ [(k, b, v)]
abbrev PN : List (NestedKey × Addr × V) → List (NestedKey × Addr × Value) → Prop := Paired (fun (p : NestedKey × Addr × V) (q : NestedKey × Addr × Value) => p.1 = q.1 ∧ p.2.1 = q.2.1 ∧ RelV p.2.2 q.2.2)
theorem PN.any {xs : List (NestedKey × Addr × V)} {ys : List (NestedKey × Addr × Value)} (r : PN xs ys) (k : NestedKey) : (xs.any fun x => decide (x.1 = k)) = (atKey ys k).isSome := by
  induction r with
  | nil => rfl
  | @cons p q ps qs h t ih =>
    rw [List.any_cons, ih]
    unfold atKey
    rw [List.find?_cons, h.1]
    by_cases e : q.1 = k
    · rw [decide_eq_true e]; rfl
    · rw [decide_eq_false e, Bool.false_or]
theorem PN.val {xs : List (NestedKey × Addr × V)} {ys : List (NestedKey × Addr × Value)} (r : PN xs ys) (k : NestedKey) : RelO (valNV xs k) ((atKey ys k).map (·.2)) := by
  induction r with
  | nil => trivial
  | @cons p q ps qs h t ih =>
    unfold valNV atKey at *
    rw [List.find?_cons, List.find?_cons, h.1]
    by_cases e : q.1 = k
    · rw [decide_eq_true e]; exact h.2.2
    · rw [decide_eq_false e]; exact ih
theorem PN.repl {xs : List (NestedKey × Addr × V)} {ys : List (NestedKey × Addr × Value)} (r : PN xs ys) (k : NestedKey) {v : V} {u : Value} (ru : RelV v u) : PN (xs.map fun x => if x.1 = k then (x.1, x.2.1, v) else x) (ys.map (putAt k u)) := by
  induction r with
  | nil => exact .nil
  | @cons p q ps qs h t ih =>
    rw [List.map_cons, List.map_cons]
    refine .cons ?_ ih
    unfold putAt
    by_cases e : q.1 = k
    · rw [if_pos (h.1.trans e), if_pos e]; exact ⟨h.1, h.2.1, ru⟩
    · rw [if_neg (fun z => e (h.1.symm.trans z)), if_neg e]; exact h
theorem PN.put {xs : List (NestedKey × Addr × V)} {ys : List (NestedKey × Addr × Value)} (r : PN xs ys) (k : NestedKey) (b : Addr) {v : V} {u : Value} (ru : RelV v u) : PN (putNV xs k b v) (storedH ys k b u) := by
  unfold putNV storedH
  rw [r.any k]
  by_cases q : (atKey ys k).isSome = true
  · rw [if_pos q, if_pos q]; exact r.repl k ru
  · rw [if_neg q, if_neg q]; exact Paired.snoc r ⟨rfl, rfl, ru⟩
end VL
set_option Elab.async false
set_option linter.all false
set_option maxRecDepth 100000
set_option maxHeartbeats 2000000
namespace VL
open PySem PySem.Spec L2 RT RZ
def valN (kvs : List (D × D)) (k : NestedKey) : Option D := (kvs.find? fun p => decide (nkD p.1 = some k)).map (·.2)
def putN (kvs : List (D × D)) (d : D) (k : NestedKey) (v : D) : List (D × D) := if (kvs.any fun p => decide (nkD p.1 = some k)) = true then kvs.map (fun p => if nkD p.1 = some k then (p.1, v) else p) else kvs ++ [(d, v)]
section
variable {K : PySem.W.Frag} {X : Cx} {N : Bool → Addr → Prop} {H : Hp} {ι : Ix} {G : Gd} {δ : DS} {M : Mem} {σ : L2.St}
mutual
theorem key_of_rd : ∀ (d : D) (v : V) (k : NestedKey), RD K N H ι d v → nk0 d = some k → KeyV K H k v ∧ nplain k = true
  | .non, v, k, h, e => by cases e; exact ⟨h, rfl⟩
  | .int i, v, k, h, e => by cases e; exact ⟨h, rfl⟩
  | .tup ds, v, k, h, e => by
    obtain ⟨ks, e1, rfl⟩ := Option.map_eq_some_iff.mp (show (nk0s ds).map NestedKey.tup = some k from e)
    obtain ⟨a, xs, rfl, q, _, r⟩ := h
    obtain ⟨h1, h2⟩ := keys_of_rd ds xs ks r e1
    exact ⟨⟨a, xs, rfl, tup_sq q, h1⟩, h2⟩
  | .bl _, _, _, _, e => by cases e
  | .str _, _, _, _, e => by cases e
  | .lst _, _, _, _, e => by cases e
  | .scr _, _, _, _, e => by cases e
  | .fn _, _, _, _, e => by cases e
  | .ty _, _, _, _, e => by cases e
  | .dn _ _, _, _, _, e => by cases e
  | .dk _ _, _, _, _, e => by cases e
  | .cls _, _, _, _, e => by cases e
  | .exc _ _, _, _, _, e => by cases e
theorem keys_of_rd : ∀ (ds : List D) (vs : List V) (ks : List NestedKey), RDs K N H ι ds vs → nk0s ds = some ks → KeyVs K H ks vs ∧ nplains ks = true
  | [], vs, ks, h, e => by cases e; exact ⟨h, rfl⟩
  | d :: ds, vs, ks, h, e => by
    obtain ⟨k, e1, e2⟩ := Option.bind_eq_some_iff.mp (show (nk0 d).bind _ = some ks from e)
    obtain ⟨ks', e3, rfl⟩ := Option.map_eq_some_iff.mp e2
    obtain ⟨x, r, rfl, h1, h2⟩ := h
    obtain ⟨g1, g2⟩ := key_of_rd d x k h1 e1
    obtain ⟨g3, g4⟩ := keys_of_rd ds r ks' h2 e3
    exact ⟨⟨x, r, rfl, g1, g3⟩, by show (nplain k && nplains ks') = true; rw [g2, g4]; rfl⟩
end
theorem nkD_some {d : D} {k : NestedKey} (e : nkD d = some k) : ∃ ds ks, d = .tup ds ∧ k = .tup ks ∧ nk0s ds = some ks ∧ (NestedKey.tup ks).depth ≤ 8 := by
  cases d with
  | tup ds =>
    obtain ⟨ks, e1, e2⟩ := Option.bind_eq_some_iff.mp (show (nk0s ds).bind _ = some k from e)
    by_cases h : (NestedKey.tup ks).depth ≤ 8
    · rw [if_pos h] at e2; cases e2; exact ⟨ds, ks, rfl, rfl, e1, h⟩
    · rw [if_neg h] at e2; cases e2
  | _ => cases e
theorem keyT_of {d : D} {v : V} {k : NestedKey} (e : nkD d = some k) (h : RD K N H ι d v) : ∃ b, v = .ref b ∧ KeyT K H k b := by
  obtain ⟨ds, ks, rfl, rfl, e1, hd⟩ := nkD_some e
  obtain ⟨h1, h2⟩ := key_of_rd (.tup ds) v (.tup ks) h (by show (nk0s ds).map _ = _; rw [e1]; rfl)
  obtain ⟨b, xs, rfl, _⟩ := id h1
  exact ⟨b, rfl, h1, hd, h2⟩
def RNk (K : PySem.W.Frag) (N : Bool → Addr → Prop) (H : Hp) (ι : Ix) (kvs : List (D × D)) (xs : List (NestedKey × Addr × V)) : Prop :=
  (kvs.map (·.1)).map nkD = xs.map (fun x => some x.1) ∧ RDs K N H ι (kvs.map (·.1)) (xs.map fun x => V.ref x.2.1) ∧ RDs K N H ι (kvs.map (·.2)) (xs.map fun x => x.2.2)
theorem RNk.nil_inv {xs : List (NestedKey × Addr × V)} (h : RNk K N H ι [] xs) : xs = [] := by
  have := h.1
  cases xs with
  | nil => rfl
  | cons x xs => simp at this
theorem RNk.nil : RNk K N H ι [] [] := ⟨rfl, rfl, rfl⟩
theorem RNk.inv {d v : D} {kvs : List (D × D)} {xs : List (NestedKey × Addr × V)} (h : RNk K N H ι ((d, v) :: kvs) xs) : ∃ k b x xs', xs = (k, b, x) :: xs' ∧ nkD d = some k ∧ RD K N H ι d (.ref b) ∧ RD K N H ι v x ∧ RNk K N H ι kvs xs' := by
  obtain ⟨h1, h2, h3⟩ := h
  cases xs with
  | nil => simp at h1
  | cons x xs =>
    simp only [List.map_cons, List.cons.injEq] at h1
    obtain ⟨y, r, e, g1, g2⟩ := h2
    simp only [List.map_cons, List.cons.injEq] at e
    obtain ⟨rfl, rfl⟩ := e
    obtain ⟨y2, r2, e2, g3, g4⟩ := h3
    simp only [List.map_cons, List.cons.injEq] at e2
    obtain ⟨rfl, rfl⟩ := e2
    exact ⟨x.1, x.2.1, x.2.2, xs, rfl, h1.1, g1, g3, h1.2, g2, g4⟩
theorem RNk.cons {d v : D} {k : NestedKey} {b : Addr} {x : V} {kvs : List (D × D)} {xs : List (NestedKey × Addr × V)} (e : nkD d = some k) (r1 : RD K N H ι d (.ref b)) (r2 : RD K N H ι v x) (h : RNk K N H ι kvs xs) : RNk K N H ι ((d, v) :: kvs) ((k, b, x) :: xs) :=
  ⟨by simp only [List.map_cons]; rw [e, h.1], ⟨_, _, rfl, r1, h.2.1⟩, ⟨_, _, rfl, r2, h.2.2⟩⟩
theorem RNk.length {kvs : List (D × D)} {xs : List (NestedKey × Addr × V)} (h : RNk K N H ι kvs xs) : kvs.length = xs.length := by
  have := congrArg List.length h.1
  simpa using this
theorem RNk.all : ∀ {kvs : List (D × D)} {xs : List (NestedKey × Addr × V)}, RNk K N H ι kvs xs → DnAll K H xs
  | [], xs, h => by rw [h.nil_inv]; intro x hx; cases hx
  | (d, v) :: kvs, xs, h => by
    obtain ⟨k, b, x, xs', rfl, e, r1, r2, h'⟩ := h.inv
    intro y hy
    rcases List.mem_cons.mp hy with rfl | hy
    · obtain ⟨b', eb, kt⟩ := keyT_of e r1
      cases eb
      exact kt
    · exact RNk.all h' y hy
theorem RNk.val : ∀ {kvs : List (D × D)} {xs : List (NestedKey × Addr × V)}, RNk K N H ι kvs xs → ∀ k, (valN kvs k = none ∧ valNV xs k = none) ∨ ∃ d v, valN kvs k = some d ∧ valNV xs k = some v ∧ RD K N H ι d v
  | [], xs, h, k => by rw [h.nil_inv]; exact .inl ⟨rfl, rfl⟩
  | (d, v) :: kvs, xs, h, k => by
    obtain ⟨j, b, x, xs', rfl, e, r1, r2, h'⟩ := h.inv
    by_cases q : j = k
    · exact .inr ⟨v, x, by simp [valN, e, q], by simp [valNV, q], r2⟩
    · have q2 : ¬ (nkD d = some k) := fun z => q (by rw [e] at z; exact Option.some.inj z)
      rcases RNk.val h' k with ⟨h1, h2⟩ | ⟨d', v', h1, h2, r'⟩
      · refine .inl ⟨?_, ?_⟩
        · simp only [valN, List.find?_cons, q2, decide_false]; exact h1
        · simp only [valNV, List.find?_cons, q, decide_false]; exact h2
      · refine .inr ⟨d', v', ?_, ?_, r'⟩
        · simp only [valN, List.find?_cons, q2, decide_false]; exact h1
        · simp only [valNV, List.find?_cons, q, decide_false]; exact h2
theorem RNk.any : ∀ {kvs : List (D × D)} {xs : List (NestedKey × Addr × V)}, RNk K N H ι kvs xs → ∀ k, (kvs.any fun p => decide (nkD p.1 = some k)) = xs.any fun x => decide (x.1 = k)
  | [], xs, h, k => by rw [h.nil_inv]; rfl
  | (d, v) :: kvs, xs, h, k => by
    obtain ⟨j, b, x, xs', rfl, e, r1, r2, h'⟩ := h.inv
    rw [List.any_cons, List.any_cons, RNk.any h' k]
    congr 1
    show decide (nkD d = some k) = decide (j = k)
    rw [e]
    simp
theorem RNk.repl {k : NestedKey} {d : D} {v : V} (r : RD K N H ι d v) : ∀ {kvs : List (D × D)} {xs : List (NestedKey × Addr × V)}, RNk K N H ι kvs xs →
    RNk K N H ι (kvs.map fun p => if nkD p.1 = some k then (p.1, d) else p) (xs.map fun x => if x.1 = k then (x.1, x.2.1, v) else x)
  | [], xs, h => by rw [h.nil_inv]; exact RNk.nil
  | (d', v') :: kvs, xs, h => by
    obtain ⟨j, b, x, xs', rfl, e, r1, r2, h'⟩ := h.inv
    rw [List.map_cons, List.map_cons]
    by_cases q : j = k
    · have q2 : nkD d' = some k := by rw [e, q]
      simp only [q2, q, if_true]
      exact RNk.cons (by rw [e, q]) r1 r (RNk.repl r h')
    · have q2 : ¬ (nkD d' = some k) := fun z => q (by rw [e] at z; exact Option.some.inj z)
      simp only [q2, q, if_false]
      exact RNk.cons e r1 r2 (RNk.repl r h')
theorem RNk.snoc {k : NestedKey} {b : Addr} {dk d : D} {v : V} (e : nkD dk = some k) (rk : RD K N H ι dk (.ref b)) (r : RD K N H ι d v) : ∀ {kvs : List (D × D)} {xs : List (NestedKey × Addr × V)}, RNk K N H ι kvs xs → RNk K N H ι (kvs ++ [(dk, d)]) (xs ++ [(k, b, v)])
  | [], xs, h => by rw [h.nil_inv]; exact RNk.cons e rk r RNk.nil
  | (d', v') :: kvs, xs, h => by
    obtain ⟨j, b', x, xs', rfl, e', r1, r2, h'⟩ := h.inv
    exact RNk.cons e' r1 r2 (RNk.snoc e rk r h')
theorem RNk.put {k : NestedKey} {b : Addr} {dk d : D} {v : V} {kvs : List (D × D)} {xs : List (NestedKey × Addr × V)} (h : RNk K N H ι kvs xs) (e : nkD dk = some k) (rk : RD K N H ι dk (.ref b)) (r : RD K N H ι d v) : RNk K N H ι (putN kvs dk k d) (putNV xs k b v) := by
  unfold putN putNV
  rw [h.any k]
  by_cases q : (xs.any fun x => decide (x.1 = k)) = true
  · rw [if_pos q, if_pos q]; exact RNk.repl r h
  · rw [if_neg q, if_neg q]; exact RNk.snoc e rk r h
theorem RNk.mono {N' : Bool → Addr → Prop} {H' : Hp} {ι' : Ix} {kvs : List (D × D)} {xs : List (NestedKey × Addr × V)} (k : Kp ι H ι' H') (hn : ∀ b a o, H a = some o → N b a → N' b a) (h : RNk K N H ι kvs xs) : RNk K N' H' ι' kvs xs :=
  ⟨h.1, h.2.1.mono k hn, h.2.2.mono k hn⟩
variable {a b e o i : Expr} {pos p1' : Pos} {ta tb te to ti : TE'}
end
end VL
set_option Elab.async false
set_option linter.all false
set_option maxRecDepth 100000
set_option maxHeartbeats 2000000
namespace VL
open PySem PySem.Spec L2 RT RZ PyProof.Rows
section
variable {K : PySem.W.Frag} {X : Cx} {N : Bool → Addr → Prop} {H : Hp} {ι : Ix} {G : Gd} {δ : DS} {M : Mem} {σ : L2.St} {a b e o i : Expr} {pos p1' : Pos} {ta tb te to ti t : TE'}
def tLockV (t : TE) : TE := fun σ H Q => t σ H fun v H1 => Q v H1 ∨ ∃ d u, H1 d = some u ∧ Mut (some u) ∧ ∀ od, Q v (upd H1 d (.frz od u))
theorem pe_lockV {t : TE} (h : PE X e t) : PE X e (tLockV t) := by
  refine ⟨fun pins s σ H Q I hw => thn (h.run pins s σ H _ I hw) fun v s1 ⟨x, H1, I1, r, q⟩ => ?_⟩
  rcases q with q | ⟨d, u, hd, mu, q⟩
  · exact ⟨x, H1, I1, r, q⟩
  · obtain ⟨od, I2⟩ := I1.lock hd mu
    exact ⟨x, _, I2, r, q od⟩
theorem Sr.frz {n : Nat} {a : Addr} {kvs : List (D × D)} (S : Sr K G δ M ι σ H) (hn : ι[n]? = some (some a)) (h0 : G.i0.length ≤ n) (hc : M[n]? = some (.dn kvs)) :
    ∃ xs, H a = some (DnO a xs) ∧ ∀ od, Sr K G δ (M.set n .gone) (ι.set n none) σ (upd H a (.frz od (DnO a xs))) ∧ Ex ι (ι.set n none) ∧ Kp ι H (ι.set n none) (upd H a (.frz od (DnO a xs))) ∧ RD K G.N (upd H a (.frz od (DnO a xs))) (ι.set n none) (.dn (kvs.map (·.1)) (kvs.map (·.2))) (.ref a) := by
  obtain ⟨xs, hH, h1, h2, h3⟩ := S.mem.cell n _ a hc hn
  have hmem : some a ∈ ι := List.mem_of_getElem? hn
  refine ⟨xs, hH, fun od => ?_⟩
  have kk : Kp ι H (ι.set n none) (upd H a (.frz od (DnO a xs))) := fun b o e h => ⟨by rw [upd_ne (fun z => h (by rw [z]; exact hmem))]; exact e, fun z => by
    rcases List.mem_or_eq_of_mem_set z with z | z
    · exact h z
    · cases z⟩
  have ee : Ex ι (ι.set n none) := fun m o e => by
    by_cases h : n = m
    · subst h
      exact .inr (List.getElem?_set_self (List.getElem?_eq_some_iff.mp e).1)
    · rw [List.getElem?_set_ne h]; exact .inl e
  have back : ∀ (m : Nat) (b : Addr), (ι.set n none)[m]? = some (some b) → n ≠ m ∧ ι[m]? = some (some b) := fun m b e => by
    by_cases h : n = m
    · subst h
      rw [List.getElem?_set_self (List.getElem?_eq_some_iff.mp hn).1] at e; cases e
    · rw [List.getElem?_set_ne h] at e; exact ⟨h, e⟩
  have hno : some a ∉ ι.set n none := fun z => by
    obtain ⟨m, hm⟩ := List.getElem?_of_mem z
    obtain ⟨h1, h2⟩ := back m a hm
    exact h1 (S.mem.nod _ _ _ hn h2)
  refine ⟨⟨S.len, fun i d e => ?_, ⟨by simp [S.mem.len], fun m m' b e1 e2 => S.mem.nod _ _ _ (back m b e1).2 (back m' b e2).2, fun m c b e1 e2 => ?_, fun m e => ?_, fun m c e1 => ?_⟩, fun m b e => ?_, S.kp.trans kk, fun b hb h1 => ?_, S.bad, fun b hb => ⟨fun z => ?_, ?_⟩, S.obk.turn (by refine ObT.of hH ?_ ?_ <;> (intro C dx fs z; cases z))⟩, ee, kk,
    a, xs, od, rfl, upd_same, hno, h1, h2.mono kk fun _ _ _ _ z => z, h3.mono kk fun _ _ _ _ z => z⟩
  · obtain ⟨v, e1, r⟩ := S.slot i d e
    exact ⟨v, e1, r.mono kk ee fun _ _ _ _ z => z⟩
  · obtain ⟨h1, h2⟩ := back m b e2
    rw [List.getElem?_set_ne h1] at e1
    refine (S.mem.cell m c b e1 h2).mono kk ee (fun _ _ _ _ z => z) (upd_ne fun z => ?_)
    exact h1 (S.mem.nod _ _ _ (z ▸ hn) h2)
  · by_cases h : n = m
    · subst h; exact List.getElem?_set_self (List.getElem?_eq_some_iff.mp hc).1
    · rw [List.getElem?_set_ne h] at e ⊢; exact S.mem.gone m e
  · by_cases h : n = m
    · subst h
      rw [List.getElem?_set_self (List.getElem?_eq_some_iff.mp hc).1] at e1
      cases e1; trivial
    · rw [List.getElem?_set_ne h] at e1; exact S.mem.wf m c e1
  · rw [List.getElem?_set_ne (fun h => by have := (List.getElem?_eq_some_iff.mp e).1; omega)]; exact S.pre m b e
  · rcases List.mem_or_eq_of_mem_set hb with z | z
    · exact S.new b z h1
    · cases z
  · rcases List.mem_or_eq_of_mem_set z with z | z
    · exact (S.hid b hb).1 z
    · cases z
  · obtain ⟨o, ho⟩ := (S.hid b hb).2
    by_cases z : b = a
    · rw [z]; exact ⟨_, upd_same⟩
    · exact ⟨o, by rw [upd_ne z]; exact ho⟩
end
end VL
set_option Elab.async false
set_option linter.all false
set_option maxRecDepth 100000
set_option maxHeartbeats 4000000
namespace VL
open PySem PySem.Spec L2 RT RZ PyProof.Rows
end VL
set_option Elab.async false
set_option linter.all false
set_option maxRecDepth 100000
set_option maxHeartbeats 4000000
namespace VL
open PySem PySem.Spec L2 RT RZ PyProof.Rows
end VL
set_option Elab.async false
set_option linter.all false
set_option maxRecDepth 100000
set_option maxHeartbeats 1000000
namespace VL
open PySem PySem.Spec L2 RT RZ
end VL
set_option Elab.async false
set_option linter.all false
set_option maxRecDepth 100000
set_option maxHeartbeats 4000000
namespace VL
open PySem PySem.Spec L2 RT RZ PyProof.Rows
end VL
set_option Elab.async false
set_option linter.all false
set_option maxRecDepth 100000
set_option maxHeartbeats 1000000
namespace VL
open PySem PySem.Spec L2 RT RZ PyProof.Rows
/-- whether an error of class n is one of class m: all are FormErrors -/
def exT (n m : Str) : Bool := decide (n = m) || decide (m = "FormError")
structure ExF (K : PySem.W.Frag) (ns : List Str) : Prop where
  c : ∀ n ∈ ns, ExcC K (He.ga K n)
  k : ∀ n ∈ ns, ∀ m ∈ ns, PySem.W.kitOne K (.ref (He.ga K n)) (.ref (He.ga K m)) = some (exT n m)
  m : ∀ n ∈ ns, ∀ m ∈ ns, PySem.W.exmOne K (.ref (He.ga K n)) (.ref (He.ga K m)) = some (exT n m)
  v : ∀ n ∈ ns, PySem.W.kitOne K (.ref (He.ga K n)) (.type "ValueError") = some true
  s : ∀ n ∈ ns, PySem.W.subIn K (.ref (He.ga K n)) (.type "BaseException") = some true
  t : ∀ n ∈ ns, PySem.W.typeIn K (.ref (He.ga K n)) = some (.type "type")
def excCB (K : PySem.W.Frag) (D : Addr) : Bool :=
  decide (PySem.W.findIn K (.ref D) "__getattribute__" = some (some (.builtin "BaseException.__getattribute__"))) && (decide (PySem.W.findIn K (.ref D) "__getattr__" = some none) && (decide (PySem.W.subIn K (.ref D) (.type "BaseException") = some true) &&
  (PySem.W.hasDictIn K D && (decide (PySem.W.findIn K (.ref D) "__class__" = some (some (.builtin "object.__class__"))) && (decide (PySem.W.specialIn K (.builtin "object.__class__") "__get__" = some (some (.builtin "getset_descriptor.__get__"))) &&
  (decide (PySem.W.takesIn K (.builtin "object.__class__") = some true) && decide (PySem.W.mroIn K D (.type "object") = some true)))))))
theorem excCB_ok {K : PySem.W.Frag} {D : Addr} (h : excCB K D = true) : ExcC K D := by
  unfold excCB at h
  simp only [Bool.and_eq_true, decide_eq_true_eq] at h
  obtain ⟨h1, h2, h3, h4, h5, h6, h7, h8⟩ := h
  exact ⟨h1, h2, h3, h4, h5, h6, h7, h8⟩
def exFB (K : PySem.W.Frag) (ns : List Str) : Bool := ns.all fun n => excCB K (He.ga K n) && ((ns.all fun m => decide (PySem.W.kitOne K (.ref (He.ga K n)) (.ref (He.ga K m)) = some (exT n m)) && decide (PySem.W.exmOne K (.ref (He.ga K n)) (.ref (He.ga K m)) = some (exT n m))) &&
  (decide (PySem.W.kitOne K (.ref (He.ga K n)) (.type "ValueError") = some true) && (decide (PySem.W.subIn K (.ref (He.ga K n)) (.type "BaseException") = some true) && decide (PySem.W.typeIn K (.ref (He.ga K n)) = some (.type "type")))))
theorem exFB_ok {K : PySem.W.Frag} {ns : List Str} (h : exFB K ns = true) : ExF K ns := by
  unfold exFB at h
  simp only [List.all_eq_true, Bool.and_eq_true, decide_eq_true_eq] at h
  exact ⟨fun n hn => excCB_ok (h n hn).1, fun n hn m hm => ((h n hn).2.1 m hm).1, fun n hn m hm => ((h n hn).2.1 m hm).2, fun n hn => (h n hn).2.2.1, fun n hn => (h n hn).2.2.2.1, fun n hn => (h n hn).2.2.2.2⟩
theorem kv_cls {K : PySem.W.Frag} {n : Str} : KV K (.cls n) (.ref (He.ga K n)) := ⟨.ref _, rfl, fun _ _ _ => rfl⟩
/-- how an error in the air is told -/
def XR (K : PySem.W.Frag) (x : D) (cls : Value) (d : Option Addr) (H : Hp) : Prop := match x with
  | .exc n none => cls = .ref (He.ga K n) ∧ d = none
  | .exc n (some (f, i)) => cls = .ref (He.ga K n) ∧ ∃ dd, d = some dd ∧ H dd = some (.xd [(f, .int i)])
  | _ => False
abbrev XD := D → DS → Mem → Prop
def wX (K : PySem.W.Frag) (G : Gd) (xe : XD) : WX := fun cls d σ H => ∃ x δ M ι, xe x δ M ∧ Sr K G δ M ι σ H ∧ XR K x cls d H
/-- what xe wishes of errors is taken -/
abbrev TX (X : Cx) (G : Gd) (xe : XD) : Prop := Takes X (wX X.K G xe)
def xNo : XD := fun _ _ _ => False
theorem tx_no {X : Cx} {G : Gd} : TX X G xNo := fun _ _ ⟨_, _, _, _, _, _, _, _, _, _, _, _, _, _, _, _, _, _, _, _, w, _⟩ => w.elim
def sRaise (n : Str) (xe : XD) : TS' := fun _ δ M => xe (.exc n none) δ M
theorem vs_raise {X : Cx} {G : Gd} {xe : XD} {x m : Str} {j : Nat} {p p2 pos pos' : Pos} (hc : X.calm = true) (tk : TX X G xe) (q : (He.Fa.exc x).ok X.K = true) (gC : X.mg x = some (.ref (He.ga X.K x))) (hg : Gl X x)
    (hdb : (x == ("__debug__" : Str)) = false := by decide) : VS X G (.Raise (some (.Call (.Name x p) [.Constant (.str m) j p2] [] pos)) none pos') (sRaise x xe) := by
  obtain ⟨h1, h2, h3, h4⟩ := He.exc_ok q
  exact PS.weak (ps_raise hc tk (pmk_own PySem.F.excBase_ValueError h1 gC h2 (raises_own h3 h4) hg hdb)) fun D σ H ⟨δ, M, ι, E0, S, q, _⟩ => ⟨_, δ, M, ι, q, S, rfl, rfl⟩
abbrev SpX := List Sv → Mem → (Rv → Mem → Prop) → (D → Mem → Prop) → Prop
def lPx (K : PySem.W.Frag) (n : Nat) (sp : SpX) : Sp := fun vs H Q E => ∃ (as : List Sv) (M : Mem) (i0 : List Addr) (B : Addr → Prop) (Q0 : Rv → Mem → Prop) (X0 : D → Mem → Prop),
  as.length = n ∧ (∀ a, B a → ∃ o, H a = some o) ∧ RSs K (NB B) H (i0.map some) as vs ∧ RM K (NB B) H (i0.map some) M ∧ sp as M Q0 X0 ∧
  (∀ r M' v H', Q0 r M' → RR K (NB B) H H' (i0.map some) M' r v → Q v H') ∧
  ∀ x M' cls d H', X0 x M' → XR K x cls d H' → RM K (NB B) H' (i0.map some) M' → Kp (i0.map some) H (i0.map some) H' → ObI (i0.map some) H H' → E cls d H'
section
variable {X : Cx} {G : Gd} {k j n : Nat} {x : Str} {sp : SpX} {p pos : Pos} {e : Expr} {es : List Expr} {tA : TA'} {xe : XD}
theorem run_gX {CX : CXT} {f : Addr} {fd : FuncData} {ps : List Str} {sf : Sp} {E : L2.St → XK} {pins : List (Addr × Obj)} {σ : L2.St} {H : Hp} {s : Shared} {Q : VK} {us : List Value} {vs : List V} (F : FnG X.prog X.w X.K X.mg X.base CX k f fd ps sf) (hr : RoomG k X.A) (hb : Binds X.K fd ps [])
    (hx : PassesAt CX X σ (E σ)) (I : Inv X pins σ H s) (r : Vals vs us) (h : sf vs H Q (E σ)) : wpAny (model X.prog X.w) X.A (call (.ref f) us) (EP X pins σ Q) X.xe s := by
  have z := hb s us I.kIn (by rw [List.append_nil, ← r.length]; exact F.len _ _ _ _ h)
  rw [List.append_nil] at z
  refine wpAny_call (codeAny_mono (F.run X.A X.stack s H ⟨us, []⟩ us vs Q (E σ) hr I.env0 z r h) fun w t q => ?_)
  cases w with
  | error e => exact hx pins H s e t I q
  | ok fl => cases fl with
    | ret u => exact I.after q
    | next => exact q.elim
    | brk => exact q.elim
    | cont => exact q.elim
end
end VL
set_option Elab.async false
set_option linter.all false
set_option maxRecDepth 100000
set_option maxHeartbeats 1000000
namespace VL
open PySem PySem.Spec L2 RT RZ PyProof.Rows
section
variable {X : Cx} {pins : List (Addr × Obj)} {σ : L2.St} {H : Hp} {sI s' : Shared} {B : Heap} {a : Addr} {oe : Obj}
theorem exH_ok {P : Program} {w : World} {h : Heap} (e : h.get? a = some oe) : ObjOk P w H h a (ExH a oe) := ⟨e, e, ⟨oe, e⟩, fun _ _ q k => k oe q⟩
/-- back on the ground, the error's object tracked -/
theorem landed_t (I : Inv X pins σ H sI) (nb : ∀ b o, sI.heap.get? b = some o → b ∉ frs X.stack → B.get? b = some o) (st : B.StaysIn s'.heap) (nB : B.get? a = none) (nF : a ∉ frs X.stack) (up : sI.heap.UpToSlots s'.heap) (os : s'.os = sI.os) (ag : AllBare s'.gens)
    (ha : s'.heap.get? a = some oe) (hn : H a = none) : Inv X pins σ (upd H a (ExH a oe)) s' := by
  have ne : ∀ b o, sI.heap.get? b = some o → b ≠ a := fun b o e z => by
    have q := nb b o e (by rw [z]; exact nF)
    rw [z, nB] at q; cases q
  have fr : ∀ b ∈ frs X.stack, ∀ o, sI.heap.get? b = some o → ∃ sl, s'.heap.get? b = some { o with slots := sl } := fun b hb o e => by
    obtain ⟨_, u, q, hd⟩ := I.stack.mem hb
    rw [e] at q; cases q
    exact up b o e hd
  have un : Un (frs X.stack) [] H (upd H a (ExH a oe)) sI.heap s'.heap := {
    keep := fun b o e _ hb _ => st b o (nb b o e hb)
    slot := fun b o e _ hb _ => fr b hb o e
    free := fun b o e n _ => by rw [upd_ne (ne b o e)]; exact n
    there := fun b o e _ => by
      by_cases hb : b ∈ frs X.stack
      · obtain ⟨sl, q⟩ := fr b hb o e; exact ⟨_, q⟩
      · exact ⟨o, st b o (nb b o e hb)⟩
    tups := fun b xs e => by rw [upd_ne (ne_of_none e hn)]; exact e
    frzs := fun b u l e => by rw [upd_ne (ne_of_none e hn)]; exact e
    tbls := fun b ps e => ⟨#[], by rw [upd_ne (ne_of_none e hn), e]; simp⟩ }
  exact I.call' (ch := []) os un (HOk.laidN ((I.inGround nb).kept st) (fun _ _ e => e) hn (exH_ok ha)) ag (fun _ z => nomatch z)
/-- the state at an except suite's begin -/
theorem suite_t {s : Shared} (I : Inv X pins σ H s) (a : Addr) : Inv (X.suite a (X.pn ++ pins)) [] σ H s :=
  ⟨I.ok.suite _ _, I.os, I.bare, I.base, I.loc, I.cell, I.free, I.freeC, fun p hp => I.pin p (by rw [List.append_nil] at hp; exact hp), I.hok, I.len⟩
theorem unsuite_t {s : Shared} {pn' : List (Addr × Obj)} (I : Inv (X.suite a (X.pn ++ pins)) pn' σ H s) (ok : X.Ok) : Inv X pins σ H s :=
  ⟨ok, I.os, I.bare, I.base, I.loc, I.cell, I.free, I.freeC, fun p hp => I.pin p (List.mem_append_left _ hp), I.hok, I.len⟩
end
/-- what is wished behind a suite whose name goes -/
def endsB (i : Nat) (D : Ends) : Ends := { nx := fun σ H => D.nx (σ.set i none) H, rt := D.rt, bk := fun σ H => D.bk (σ.set i none) H, ct := fun σ H => D.ct (σ.set i none) H }
/-- what the clause 'except x as n' wishes of an error (without a dict of its own) of the body -/
def wAt (K : PySem.W.Frag) (c : Value) (i : Nat) (ts : TS) (Wout : WX) (D : Ends) : WX := fun cls d σ H =>
  ∃ b, PySem.W.exmOne K cls c = some b ∧ (b = true → d = none ∧ ∀ a oe vs, H a = none → oe.cls = cls → oe.dict = none → oe.data = .fields vs → ts (endsB i D) (σ.set i (some (.ref a))) (upd H a (ExH a oe))) ∧ (b = false → Wout cls d σ H)
section
variable {X : Cx} {x n : Str} {c : Value} {i : Nat} {body suite : List Stmt} {b₀ : Stmt} {np pos pos' : Pos} {tb : WX → TS} {ts : TS} {Wout : WX}
/-- the error comes to the clause -/
theorem catch_t {pins : List (Addr × Obj)} {D : Ends} {xe : Value → Shared → Prop} {u : Value} {s' : Shared} (okX : X.Ok) (hs : X.stack = X.env :: X.outer) (hf : X.env.frame = some X.env.locals) (hN : X.N.Nodup) (hi : X.N[i]? = some n) (hln : X.env.kindOf n = some .local)
    (hc : Names X x c) (tk : Takes X Wout) (hsu : ∀ (a : Addr) (pn : List (Addr × Obj)), PSs (X.suite a pn) (b₀ :: suite) ts) (xx : XE (X.tr (X.pn ++ pins) xe) (wAt X.K c i ts Wout D) u s') :
    wpAny (model X.prog X.w) X.A (noteFrame u X.env) (fun _ t1 => wpAny (model X.prog X.w) X.A (setFlight u none) (fun _ t2 => wpAny (model X.prog X.w) X.A (handleBy u X.env [.ExceptHandler (some (.Name x np)) (some n) (b₀ :: suite) pos']) (SP X pins D) X.xe t2) X.xe t1) X.xe s' := by
  obtain ⟨a, B, sI, ps, σ, H, cls, d, rfl, I', nb, up, sky, na, os, ag, b, hb1, hyes, hno⟩ := xx
  have I : Inv X pins σ H sI := I'.ofTry okX
  have frX : X.A.frames = some (X.env :: X.outer) := okX.frames.trans (congrArg some hs)
  have skX : Sky B (X.env :: X.outer) a (Zc cls d) X.env.locals s'.heap := by rw [← hs]; exact sky
  refine Sky.land Zc.steady frX hf skX fun h3 f3 up3 => ?_
  have I3 : Inv X pins σ H { s' with heap := h3 } := I.landed nb f3.1 (up.trans up3) os ag
  obtain ⟨o3, v3, e3, z3, d3⟩ := f3.there
  have off : a ∉ frs (X.env :: X.outer) := fun hm => by
    obtain ⟨_, o', e', hnf⟩ := f3.2.2.1.mem hm
    rw [e3] at e'; cases e'
    exact hnf _ d3
  have offS : a ∉ frs X.stack := by rw [hs]; exact off
  have nL : a ≠ X.env.locals := fun z => off (List.mem_filterMap.mpr ⟨X.env, List.mem_cons_self, by rw [hf, z]⟩)
  have nO : a ∉ X.fs := fun hm => by
    obtain ⟨e, he, q⟩ := List.mem_filterMap.mp hm
    exact off (List.mem_filterMap.mpr ⟨e, List.mem_cons_of_mem _ he, q⟩)
  have P3 := I3.suite e3 d3 na nL nO
  refine wpAny_handleBy_cons (codeAny_handlers_test ?_) (by intro q; cases q)
  have LC : PySem.W.Looks (model X.prog X.w) h3 (typeOf (.ref a)) cls := fun A Q E s k q => wpAny_typeOf_ref (k _ _ e3) (by rw [z3.1]; exact q)
  have LB := PySem.W.exm_one (M := model X.prog X.w) I3.kIn LC hb1
  have named : ∀ {Q E : Value → Shared → Prop}, Q c { s' with heap := h3 } → wpAny (model X.prog X.w) (X.A.mark (some (.ref a))) (eval (.Name x np) X.env) Q E { s' with heap := h3 } := fun {Q E} q => by
    obtain ⟨g1, g2, g3 | ⟨g3, g4, g5⟩⟩ := hc
    · exact ld_glob (X := X.suite a ((a, o3) :: (X.pn ++ pins))) P3 g1 g3 q g2
    · exact ld_blt (X := X.suite a ((a, o3) :: (X.pn ++ pins))) P3 g1 g3 g4 q g5 g2
  refine named (LB.here ?_)
  cases b with
  | true =>
    obtain ⟨rfl, hgo⟩ := hyes rfl
    refine codeAny_handlers_suite_as (HandSPX.lands_againZ f3 fun h4 f4 up4 => ?_)
    obtain ⟨o4, v4, e4, z4, d4⟩ := f4.there
    have I4 : Inv X pins σ (upd H a (ExH a o4)) { s' with heap := h4 } := landed_t I nb f4.1 f4.2.1 offS ((up.trans up3).trans up4) os ag e4 na
    refine store_ok (X := X.suite a (X.pn ++ pins)) (v := .ref a) (suite_t I4 a) hN hi (.inl hln) rfl (fun s5 I5 => ?_) (.inr hln)
    refine wpAny_mono ((hsu a (X.pn ++ pins)).run [] s5 _ _ _ I5 (hgo a o4 v4 na z4.1 z4.2 d4)) (fun f s6 q => ?_) (fun _ _ z => z.elim)
    have go : ∀ {σ6 : L2.St} {H6 : Hp} {R : Shared → Prop}, Inv (X.suite a (X.pn ++ pins)) [] σ6 H6 s6 → (∀ s7, Inv X pins (σ6.set i none) H6 s7 → R s7) →
        wpAny (model X.prog X.w) X.A (do bindName X.env n .none; unbindBehindTheSuite X.env n pos') (fun _ s7 => R s7) X.xe s6 := fun {σ6 H6 R} J r => gone_ok (unsuite_t J okX) hN hi hln r
    cases f with
    | next => obtain ⟨σ6, H6, J, q⟩ := q; exact go J fun _ K7 => ⟨_, _, K7, q⟩
    | brk => obtain ⟨σ6, H6, J, q⟩ := q; exact go J fun _ K7 => ⟨_, _, K7, q⟩
    | cont => obtain ⟨σ6, H6, J, q⟩ := q; exact go J fun _ K7 => ⟨_, _, K7, q⟩
    | ret w => obtain ⟨v6, σ6, H6, J, r, q⟩ := q; exact go J fun _ K7 => ⟨_, _, _, K7, r, q⟩
  | false =>
    show wpAny _ X.A (handleBy (.ref a) X.env []) _ _ _
    refine wpAny_handleBy_nil ?_
    obtain ⟨_, _, _, o5, v5, T, oT, tv, e5, _, d5, h1, _⟩ := id f3
    unfold PySem.passOn
    refine wpAny_bind (wpAny_field e5 d5 h1 ?_)
    rw [if_neg (show ¬ ((Value.ref T == Value.none) = true) from by simp)]
    have on : wpAny (model X.prog X.w) X.A (setFlight (.ref a) X.env.frame) (fun _ t => wpAny (model X.prog X.w) X.A (throw (.ref a) : Sem Flow) (SP X pins D) X.xe t) X.xe { s' with heap := h3 } := by
      rw [hf]
      exact HandSPX.setFlight_upZ f3 fun h4 hh4 up4 => wpAny_throw (tk _ _ ⟨a, B, sI, pins, σ, H, cls, d, rfl, I, nb, (up.trans up3).trans up4, .inr (.inr (by rw [hs]; exact hh4)), na, os, ag, hno rfl⟩)
    first
      | exact wpAny_bind (wpAny_pure (wpAny_bind on))
      | exact wpAny_bind on
theorem ps_try_t (hs : X.stack = X.env :: X.outer) (hf : X.env.frame = some X.env.locals) (hN : X.N.Nodup) (hi : X.N[i]? = some n) (hln : X.env.kindOf n = some .local) (hc : Names X x c) (tk : Takes X Wout)
    (hb : ∀ (W : WX) (pn : List (Addr × Obj)) (xe : Value → Shared → Prop), Takes (X.tr pn xe) W → PassesOwn (model X.prog X.w) X.A X.env xe → PSs (X.tr pn xe) body (tb W)) (hsu : ∀ (a : Addr) (pn : List (Addr × Obj)), PSs (X.suite a pn) (b₀ :: suite) ts) :
    PS X (.Try body [.ExceptHandler (some (.Name x np)) (some n) (b₀ :: suite) pos'] [] [] pos) (fun D σ H => tb (wAt X.K c i ts Wout D) D σ H) := by
  refine ⟨fun pins s σ H D I h => wpAny_Try_except ?_⟩
  refine wpAny_mono ((hb (wAt X.K c i ts Wout D) (X.pn ++ pins) (fun e s₁ => wpAny (model X.prog X.w) X.A (noteFrame e X.env) (fun _ s₂ => wpAny (model X.prog X.w) X.A (setFlight e none) (fun _ s₃ =>
    wpAny (model X.prog X.w) X.A (handleBy e X.env [.ExceptHandler (some (.Name x np)) (some n) (b₀ :: suite) pos']) (SP X pins D) X.xe s₃) X.xe s₂) X.xe s₁) (fun u t xx => catch_t I.ok hs hf hN hi hln hc tk hsu xx) PassesOwn.looking).run [] s σ H D (I.toTry _) h) (fun f s1 q => ?_) (fun _ _ z => z)
  cases f with
  | next => obtain ⟨σ', H', J, q⟩ := q; exact wpAny_execs_nil ⟨σ', H', J.ofTry I.ok, q⟩
  | brk => obtain ⟨σ', H', J, q⟩ := q; exact ⟨σ', H', J.ofTry I.ok, q⟩
  | cont => obtain ⟨σ', H', J, q⟩ := q; exact ⟨σ', H', J.ofTry I.ok, q⟩
  | ret u => obtain ⟨v, σ', H', J, r, q⟩ := q; exact ⟨v, σ', H', J.ofTry I.ok, r, q⟩
end
end VL
set_option Elab.async false
set_option linter.all false
set_option maxRecDepth 100000
set_option maxHeartbeats 1000000
namespace VL
open PySem PySem.Spec L2 RT RZ PyProof.Rows
def liveM (M : Mem) : Bool := M.all fun c => match c with
  | .gone => false
  | _ => true
/-- the ends of an except suite: its name goes -/
def endsS (i : Nat) (E : Ends') : Ends' := { nx := fun δ M => E.nx (δ.set i none) M, rt := E.rt, bk := fun δ M => E.bk (δ.set i none) M, ct := fun δ M => E.ct (δ.set i none) M }
/-- what a clause 'except m as n' (slot i) wishes of errors -/
def xTry (i : Nat) (ns : List Str) (m : Str) (ts : TS') (E : Ends') (xe : XD) : XD := fun x δ M => match x with
  | .exc n f => n ∈ ns ∧ if exT n m = true then f = none ∧ ts (endsS i E) (δ.set i (some (.d (.exc n none)))) M else xe (.exc n f) δ M
  | _ => False
def sTry (i : Nat) (ns : List Str) (m : Str) (tb : Nat → XD → TS') (ts : TS') (xe : XD) : TS' := fun E δ M => liveM M = true ∧ tb M.length (xTry i ns m ts E xe) E δ M
section
variable {K : PySem.W.Frag} {G : Gd} {δ δ' : DS} {M M' : Mem} {ι ι' : Ix} {σ σ' : L2.St} {H H' : Hp}
theorem live_ix (S : Sr K G δ M ι σ H) (h : liveM M = true) : ∃ l : List Addr, ι = l.map some := by
  have hn : ∀ n : Nat, ι[n]? ≠ some none := fun n e => by
    have q := S.mem.gone n e
    unfold liveM at h
    have z := List.all_eq_true.mp h _ (List.mem_of_getElem? q)
    cases z
  have go : ∀ ι : Ix, (∀ n : Nat, ι[n]? ≠ some none) → ∃ l : List Addr, ι = l.map some := by
    intro ι
    induction ι with
    | nil => exact fun _ => ⟨[], rfl⟩
    | cons a ι ih =>
      intro h
      obtain ⟨l, rfl⟩ := ih fun n e => h (n + 1) (by simpa using e)
      cases a with
      | none => exact absurd rfl (h 0)
      | some a => exact ⟨a :: l, rfl⟩
  exact go ι hn
/-- the ground of a try's body: all names there are kept -/
abbrev gdX (G : Gd) (l : List Addr) (H : Hp) : Gd := ⟨H, l, G.B, G.Hd⟩
theorem Sr.toT {l : List Addr} (S : Sr K G δ M (l.map some) σ H) : Sr K (gdX G l H) δ M (l.map some) σ H :=
  ⟨S.len, S.slot, S.mem, fun n a e => by rw [List.getElem?_map, show l[n]? = some a from e]; rfl, Kp.refl _ _, fun a ha hn => absurd (by simpa using ha) hn, fun a ha => by
    obtain ⟨o, ho⟩ := S.bad a ha
    by_cases h0 : a ∈ G.i0
    · obtain ⟨j, hj⟩ := List.getElem?_of_mem h0
      rcases S.kind (List.mem_of_getElem? (S.pre j a hj)) with ⟨ys, e⟩ | ⟨ys, e⟩ | ⟨ys, e⟩ | ⟨C, dx, fs, e⟩ <;> exact ⟨_, e⟩
    · exact ⟨o, (S.kp a o ho (by simpa using h0)).1⟩, S.hid, ObK.refl _ _⟩
theorem Sr.ofT {l : List Addr} (S : Sr K G δ M (l.map some) σ H) (S' : Sr K (gdX G l H) δ' M' ι' σ' H') : Sr K G δ' M' ι' σ' H' ∧ Ex (l.map some) ι' ∧ Kp (l.map some) H ι' H' := by
  have ex : Ex (l.map some) ι' := fun n o e => by
    rw [List.getElem?_map] at e
    cases q : l[n]? with
    | none => rw [q] at e; cases e
    | some a => rw [q] at e; cases e; exact .inl (S'.pre n a q)
  refine ⟨⟨S'.len, S'.slot, S'.mem, fun n a e => ?_, S.kp.trans S'.kp, fun a ha hn => ?_, S.bad, S'.hid, S.obk.trans fun a ha => S'.obk a (by
    obtain ⟨n, hn⟩ := List.getElem?_of_mem ha
    have := List.mem_of_getElem? (S.pre n a hn)
    simpa using this)⟩, ex, S'.kp⟩
  · have e1 := S.pre n a e
    rw [List.getElem?_map] at e1
    cases q : l[n]? with
    | none => rw [q] at e1; cases e1
    | some b => rw [q] at e1; cases e1; exact S'.pre n _ q
  · by_cases hl : a ∈ l
    · exact S.new a (by simpa using hl) hn
    · have z := S'.new a ha hl
      cases q : G.He a with
      | none => rfl
      | some u =>
        have := (S.kp a u q (by simpa using hn)).1
        rw [show H a = none from z] at this; cases this
theorem Sr.unset (S : Sr K G δ M ι σ H) (i : Nat) : Sr K G (δ.set i none) M ι (σ.set i none) H := by
  refine ⟨by simp [S.len], fun j d e => ?_, S.mem, S.pre, S.kp, S.new, S.bad, S.hid, S.obk⟩
  by_cases h : i = j
  · subst h
    by_cases hl : i < δ.length
    · rw [List.getElem?_set_self hl] at e; cases e
    · rw [List.getElem?_eq_none (by simpa using hl)] at e; cases e
  · rw [List.getElem?_set_ne h] at e
    obtain ⟨v, e1, r⟩ := S.slot j d e
    exact ⟨v, by rw [List.getElem?_set_ne h]; exact e1, r⟩
end
theorem vs_try {X : Cx} {G : Gd} {i : Nat} {ns : List Str} {m n : Str} {body suite : List Stmt} {b₀ : Stmt} {np pos pos' : Pos} {tb : Nat → XD → TS'} {ts : TS'} {xe : XD} (hs : X.stack = X.env :: X.outer) (hf : X.env.frame = some X.env.locals) (hN : X.N.Nodup)
    (hi : X.N[i]? = some n) (hln : X.env.kindOf n = some .local) (hg : Gl X m) (gm : X.mg m = some (.ref (He.ga X.K m))) (F : ExF X.K ns) (hm : m ∈ ns) (tk : TX X G xe)
    (hb : ∀ (pn : List (Addr × Obj)) (ye : Value → Shared → Prop) (G' : Gd) (xd : XD), TX (X.tr pn ye) G' xd → PassesOwn (model X.prog X.w) X.A X.env ye → VSs (X.tr pn ye) G' body (tb G'.i0.length xd))
    (hsu : ∀ (a : Addr) (pn : List (Addr × Obj)), VSs (X.suite a pn) G (b₀ :: suite) ts) (hdb : (m == ("__debug__" : Str)) = false := by decide) :
    VS X G (.Try body [.ExceptHandler (some (.Name m np)) (some n) (b₀ :: suite) pos'] [] [] pos) (sTry i ns m tb ts xe) := by
  refine PS.weak (ps_try_t (ts := lS X.K G ts) (tb := fun W D σ H => ∃ (G' : Gd) (xd : XD), (∀ c d σ H, wX X.K G' xd c d σ H → W c d σ H) ∧ lS X.K G' (tb G'.i0.length xd) D σ H) hs hf hN hi hln ⟨hg, hdb, .inl gm⟩ tk
    (fun W pn ye tw po => ⟨fun pins s σ H D I ⟨G', xd, hw, h⟩ => (hb pn ye G' xd (Takes.imp tw hw) po).run pins s σ H D I h⟩) hsu) fun D σ H ⟨δ, M, ι, E0, S, ⟨hl, q⟩, z⟩ => ?_
  obtain ⟨l, rfl⟩ := live_ix S hl
  have hlen : M.length = l.length := by rw [S.mem.len]; simp
  refine ⟨gdX G l H, xTry i ns m ts E0 xe, fun c d σ' H' ⟨x, δ', M', ι', hx, S', r⟩ => ?_, δ, M, l.map some, E0, S.toT, by rw [← show M.length = (gdX G l H).i0.length from hlen]; exact q, ?_⟩
  · obtain ⟨S2, e2, k2⟩ := S.ofT S'
    unfold xTry at hx
    split at hx
    · rename_i n f
      obtain ⟨hn, hx⟩ := hx
      have hc : c = .ref (He.ga X.K n) := by cases f with
        | none => exact r.1
        | some p => exact r.1
      subst hc
      refine ⟨exT n m, F.m n hn m hm, fun ht => ?_, fun ht => ?_⟩
      · rw [if_pos ht] at hx
        obtain ⟨rfl, hx⟩ := hx
        refine ⟨r.2, fun a oe vs ha hc hd hv => ?_⟩
        have S3 := S2.laid (o := ExH a oe) ha
        have rd : RS X.K G.N (upd H' a (ExH a oe)) ι' (.d (.exc n none)) (.ref a) := ⟨a, oe, vs, rfl, upd_same, S2.mem.fresh ha, hc, hv, hd⟩
        refine ⟨_, M', ι', endsS i E0, S3.set (i := i) rd, hx, ?_⟩
        have kk : Kp (l.map some) H ι' (upd H' a (ExH a oe)) := k2.trans (Kp.laid ha)
        exact ⟨fun δ4 M4 ι4 σ4 H4 q p k S4 => z.nx _ _ ι4 _ _ q (e2.trans p) (kk.trans k) (S4.unset i), z.rt,
          fun δ4 M4 ι4 σ4 H4 q p k S4 => z.bk _ _ ι4 _ _ q (e2.trans p) (kk.trans k) (S4.unset i), fun δ4 M4 ι4 σ4 H4 q p k S4 => z.ct _ _ ι4 _ _ q (e2.trans p) (kk.trans k) (S4.unset i)⟩
      · rw [if_neg (by rw [ht]; exact Bool.false_ne_true)] at hx
        exact ⟨_, δ', M', ι', hx, S2, r⟩
    · exact hx.elim
  · exact ⟨fun δ4 M4 ι4 σ4 H4 q p k S4 => z.nx _ _ ι4 _ _ q p k (S.ofT S4).1, fun d δ4 M4 ι4 σ4 H4 v q S4 r => z.rt d δ4 M4 ι4 σ4 H4 v q (S.ofT S4).1 r,
      fun δ4 M4 ι4 σ4 H4 q p k S4 => z.bk _ _ ι4 _ _ q p k (S.ofT S4).1, fun δ4 M4 ι4 σ4 H4 q p k S4 => z.ct _ _ ι4 _ _ q p k (S.ofT S4).1⟩
def rIsX' (K : PySem.W.Frag) : List V → Hp → VK → Prop := fun xs H Q => ∃ (a C : Addr) (oe : Obj) (vs : Array Value) (c : V) (b : Bool), xs = [.ref a, c] ∧ H a = some (ExH a oe) ∧ oe.cls = .ref C ∧ oe.dict = none ∧ oe.data = .fields vs ∧ ExcC K C ∧
  ((∃ u, ClsV c u ∧ PySem.W.kitOne K (.ref C) u = some b) ∨ ∃ tp cs us, c = .ref tp ∧ SqT K H tp cs ∧ Paired ClsV cs us ∧ PySem.W.kitAny K (.ref C) us = some b) ∧ Q (.bl b) H
theorem call_isXc {X : Cx} : CallR X (.builtin "isinstance") (rIsX' X.K) := by
  intro pins s σ H xs us Q I r h
  obtain ⟨a, C, oe, vs, c, b, rfl, hH, h1, h2, h3, hC, hc, q⟩ := h
  obtain ⟨u1, u2, rfl, r1, r2⟩ := vals2 r
  cases (show u1 = Value.ref a from r1)
  have hget : s.heap.get? a = some oe := (show ObjOk X.prog X.w H s.heap a (.frz oe _) from I.hok a _ hH).1
  have J : PySem.W.InstAt s.heap a oe C none := by
    obtain ⟨oc, od, dt, sl⟩ := oe
    dsimp only at h1 h2 h3
    subst h1 h2 h3
    exact ⟨hget, rfl, rfl, trivial⟩
  have Z := PySem.W.handS_kitx_exc (x := a) (ox := oe) hC.hg hC.hk hC.hs hC.hd hC.ha hC.hn hC.ht hC.hm
  rcases hc with ⟨u, k, e⟩ | ⟨tp, cs, ws, rfl, hT, k, e⟩
  · have e2 := k.eq r2
    subst e2
    exact PySem.W.kia_one Z I.kIn J e (fun z => nomatch z) fun tk => ⟨.bl b, H, I.tok tk, rfl, q⟩
  · cases (show u2 = Value.ref tp from r2)
    obtain ⟨its, rv, ⟨o, g1, g2, n, g3⟩, _⟩ := I.tuple hT
    have e3 := ClsV.all k rv
    subst e3
    obtain ⟨oc, od, dt, sl⟩ := o
    simp only at g2 g3
    subst g2 g3
    exact PySem.W.kia_tup Z I.kIn J g1 e (fun z => nomatch z) fun tk => ⟨.bl b, H, I.tok tk, rfl, q⟩
def clsOf : List D → Option (List Str)
  | [] => some []
  | .cls n :: ds => (clsOf ds).map fun ns => n :: ns
  | _ => none
def isxD (ns : List Str) (_ : Mem) : List Sv → Option Sv
  | [.d (.exc n none), .d (.cls m)] => gd (n ∈ ns ∧ m ∈ ns) (.d (.bl (exT n m)))
  | [.d (.exc n none), .d (.ty t)] => gd (n ∈ ns ∧ t = "ValueError") (.d (.bl true))
  | [.d (.exc n none), .d (.tup cs)] => (clsOf cs).bind fun ms => gd (n ∈ ns ∧ ∀ m ∈ ms, m ∈ ns) (.d (.bl (ms.any fun m => exT n m)))
  | _ => none
section
variable {K : PySem.W.Frag} {N : Bool → Addr → Prop} {H : Hp} {ι : Ix}
theorem clsOf_rd : ∀ {cs : List D} {ms : List Str} {xs : List V}, clsOf cs = some ms → RDs K N H ι cs xs → Paired ClsV xs (ms.map fun m => Value.ref (He.ga K m))
  | [], ms, xs, e, r => by cases e; cases (show _ = _ from r); exact .nil
  | .cls n :: ds, ms, xs, e, r => by
    obtain ⟨x, t, rfl, r1, r2⟩ := r
    unfold clsOf at e
    obtain ⟨ns, e1, rfl⟩ := Option.map_eq_some_iff.mp e
    cases (show _ = _ from r1)
    exact .cons (.own _) (clsOf_rd e1 r2)
  | .non :: _, _, _, e, _ => by cases e
  | .bl _ :: _, _, _, e, _ => by cases e
  | .int _ :: _, _, _, e, _ => by cases e
  | .str _ :: _, _, _, e, _ => by cases e
  | .tup _ :: _, _, _, e, _ => by cases e
  | .lst _ :: _, _, _, e, _ => by cases e
  | .scr _ :: _, _, _, e, _ => by cases e
  | .fn _ :: _, _, _, e, _ => by cases e
  | .ty _ :: _, _, _, e, _ => by cases e
  | .dn _ _ :: _, _, _, e, _ => by cases e
  | .dk _ _ :: _, _, _, e, _ => by cases e
  | .exc _ _ :: _, _, _, e, _ => by cases e
theorem kit_anyX {ns : List Str} (F : ExF K ns) {n : Str} (hn : n ∈ ns) : ∀ {ms : List Str}, (∀ m ∈ ms, m ∈ ns) → PySem.W.kitAny K (.ref (He.ga K n)) (ms.map fun m => Value.ref (He.ga K m)) = some (ms.any fun m => exT n m)
  | [], _ => rfl
  | m :: ms, h => by
    show (match PySem.W.kitOne K (.ref (He.ga K n)) (.ref (He.ga K m)) with
      | some true => some true
      | some false => PySem.W.kitAny K (.ref (He.ga K n)) (ms.map fun m => Value.ref (He.ga K m))
      | none => none) = _
    rw [F.k n hn m (h m List.mem_cons_self), List.any_cons]
    cases exT n m with
    | true => rfl
    | false => exact kit_anyX F hn fun m hm => h m (List.mem_cons_of_mem _ hm)
theorem rd_isxc {ns : List Str} (F : ExF K ns) : RdN K (rIsX' K) (isxD ns) := by
  intro G δ M ι σ H xs vs d S rx e Q z
  have two : ∀ {n : Str} {y : D}, RSs K G.N H ι [.d (.exc n none), .d y] vs → ∃ a oe v us, vs = [.ref a, v] ∧ H a = some (ExH a oe) ∧ oe.cls = .ref (He.ga K n) ∧ oe.data = .fields us ∧ oe.dict = none ∧ RD K G.N H ι y v := fun {n y} r => by
    obtain ⟨v, t, rfl, h1, v2, t2, rfl, h2, h3⟩ := r
    cases (show _ = _ from h3)
    obtain ⟨a, oe, us, rfl, q, _, c, dd, x⟩ := h1
    exact ⟨a, oe, v2, us, rfl, q, c, dd, x, h2⟩
  unfold isxD at e
  split at e
  · rename_i n m
    obtain ⟨⟨h1, h2⟩, rfl⟩ := gd_some e
    obtain ⟨a, oe, v, us, rfl, q1, q2, q3, q4, r⟩ := two rx
    cases (show _ = _ from r)
    exact ⟨a, _, oe, us, _, _, rfl, q1, q2, q4, q3, F.c n h1, .inl ⟨_, .own _, F.k n h1 m h2⟩, fin_same S z rfl⟩
  · rename_i n t
    obtain ⟨⟨h1, rfl⟩, rfl⟩ := gd_some e
    obtain ⟨a, oe, v, us, rfl, q1, q2, q3, q4, r⟩ := two rx
    cases (show _ = _ from r)
    exact ⟨a, _, oe, us, _, _, rfl, q1, q2, q4, q3, F.c n h1, .inl ⟨_, .ty _, F.v n h1⟩, fin_same S z rfl⟩
  · rename_i n cs
    cases e1 : clsOf cs with
    | none => rw [e1] at e; cases e
    | some ms =>
      rw [e1] at e
      obtain ⟨⟨h1, h2⟩, rfl⟩ := gd_some (show gd _ _ = some d from e)
      obtain ⟨a, oe, v, us, rfl, q1, q2, q3, q4, r⟩ := two rx
      obtain ⟨tp, ys, rfl, qt, _, ry⟩ := r
      exact ⟨a, _, oe, us, _, _, rfl, q1, q2, q4, q3, F.c n h1, .inr ⟨tp, ys, _, rfl, tup_sq qt, clsOf_rd e1 ry, kit_anyX F h1 h2⟩, fin_same S z rfl⟩
  · cases e
end
theorem bt_ValueError : bootBuiltins "ValueError" = some (.type "ValueError") := by decide +kernel
def exAll : List Str := ["FormError", "NoFilling", "NoWeight", "TooGreat", "BadWord", "NoClaim", "Settled", "NotSettled", "BadText", "BadRow"]
abbrev AlX : Type := AlV × Bool
def obsX (fa : List He.Fa) (fn : List He.DefD) (cs : List (Str × D)) (ns : List Str) (K : PySem.W.Frag) : AlX := (obsV fa fn cs K, exFB K ns)
def obsXG (n : Nat) (fa : List He.Fa) (fn : List He.DefD) (cs : List (Str × D)) (ns : List Str) (g : Addr → Option Obj) : AlX := obsX fa fn cs ns (He.frG g (He.asD g n))
def SaysX (fa : List He.Fa) (fn : List He.DefD) (cs : List (Str × D)) (ns : List Str) (K : PySem.W.Frag) : Prop := obsX fa fn cs ns K = ((He.valD fn, true), true)
theorem SaysX.v {fa : List He.Fa} {fn : List He.DefD} {cs : List (Str × D)} {ns : List Str} {K : PySem.W.Frag} (c : SaysX fa fn cs ns K) : SaysV fa fn cs K := congrArg (fun z : AlX => z.1) c
theorem SaysX.x {fa : List He.Fa} {fn : List He.DefD} {cs : List (Str × D)} {ns : List Str} {K : PySem.W.Frag} (c : SaysX fa fn cs ns K) : ExF K ns := exFB_ok (congrArg (fun z : AlX => z.2) c)
def hookX (n : Nat) (fa : List He.Fa) (fn : List He.DefD) (cs : List (Str × D)) (ns : List Str) : PySem.W.Hook where
  α := AlX
  obs := fun s => obsXG n fa fn cs ns s.heap.get?
  val := fun _ => ((He.valD fn, true), true)
  says := fun _ h => ∃ K : PySem.W.Frag, K.In h ∧ SaysX fa fn cs ns K
  of := fun _ _ e => ⟨_, He.frG_in, e⟩
  keeps := fun _ _ _ ⟨K, hK, c⟩ k => ⟨K, PySem.W.Frag.In.keeps hK k, c⟩
theorem obsXG_eq {n : Nat} {fa : List He.Fa} {fn : List He.DefD} {cs : List (Str × D)} {ns : List Str} {g : Addr → Option Obj} {s : Shared} (h : ∀ a, g a = s.heap.get? a) : obsXG n fa fn cs ns g = (hookX n fa fn cs ns).obs s := by
  have e : g = s.heap.get? := funext h
  rw [e] <;> rfl
end VL
set_option Elab.async false
set_option linter.all false
set_option maxRecDepth 100000
set_option maxHeartbeats 1000000
namespace VL
open PySem PySem.Spec L2 RT RZ PyProof.Rows
end VL
set_option Elab.async false
set_option linter.all false
set_option maxRecDepth 100000
set_option maxHeartbeats 1000000
namespace VL
open PySem PySem.Spec L2 RT RZ PyProof.Rows HT
end VL
set_option Elab.async false
set_option linter.all false
set_option maxRecDepth 100000
set_option maxHeartbeats 1000000
namespace VL
open PySem PySem.Spec L2 RT RZ PyProof.Rows HT
end VL
set_option Elab.async false
set_option linter.all false
set_option maxRecDepth 100000
set_option maxHeartbeats 2000000
set_option Elab.async false
set_option linter.all false
set_option maxRecDepth 100000
set_option maxHeartbeats 2000000
namespace ZL
open PySem PySem.Calls PyProof.Rows PySem.Spec
def ZS (h : Heap) (z TI TO i1 i2 : Addr) (St1 St2 : Nat → Heap → Prop) (S : Addr) (i : Nat) : Prop :=
  IsTupOf2 h TI (.ref i1) (.ref i2) ∧ St1 i h ∧ St2 i h ∧ ((IsZip h z TI TO .none ∧ ∃ a b, IsTupOf2 h TO a b) ∨ ∃ T f oT, IsZipHeld h z TI TO T f ∧ h.get? T = some oT ∧ T ≠ z ∧ T ≠ i1 ∧ T ≠ i2 ∧ T ≠ S)
structure PairsAt (P1 P2 : Nat → Value → Prop) (lo : Addr) (h : Heap) (as : List Addr) : Prop where
  rise : as.Pairwise (· < ·)
  above : ∀ a ∈ as, lo < a
  pairs : ∀ (j : Nat) (a : Addr), as[j]? = some a → ∃ x y, P1 j x ∧ P2 j y ∧ h.get? a = some { cls := .type "tuple", data := .seq #[x, y] }
theorem PairsAt.there {P1 P2 : Nat → Value → Prop} {lo : Addr} {h : Heap} {as : List Addr} (g : PairsAt P1 P2 lo h as) {a : Addr} (ha : a ∈ as) : a < h.objs.size := by
  obtain ⟨j, hj⟩ := List.mem_iff_getElem?.mp ha
  obtain ⟨_, _, _, _, e⟩ := g.pairs j a hj
  exact Heap.lt_size e
theorem PairsAt.keep {P1 P2 : Nat → Value → Prop} {lo : Addr} {h h' : Heap} {as : List Addr} (g : PairsAt P1 P2 lo h as) (hk : ∀ b o, lo < b → h.get? b = some o → h'.get? b = some o) : PairsAt P1 P2 lo h' as :=
  ⟨g.rise, g.above, fun j a hj => let ⟨x, y, p, q, e⟩ := g.pairs j a hj; ⟨x, y, p, q, hk a _ (g.above a (List.mem_of_getElem? hj)) e⟩⟩
section
variable {prog : Program} {w : World} {A : Around} {E : Value → Shared → Prop} {s : Shared} {z TI TO i1 i2 S : Addr} {fp1 fp2 : List Addr} {n1 n2 i : Nat} {P1 P2 : Nat → Value → Prop} {St1 St2 : Nat → Heap → Prop}
theorem ZS.keep {h h' : Heap} (Z : ZipSep2 z TI TO i1 i2 fp1 fp2) (D1 : Draws prog w A i1 fp1 n1 P1 St1) (D2 : Draws prog w A i2 fp2 n2 P2 St2) (hlt : ∀ b ∈ z :: TI :: TO :: (fp1 ++ fp2), b < S) (g : ZS h z TI TO i1 i2 St1 St2 S i)
    (hk : ∀ b o, b ≠ S → h.get? b = some o → h'.get? b = some o) : ZS h' z TI TO i1 i2 St1 St2 S i := by
  have ne : ∀ b ∈ z :: TI :: TO :: (fp1 ++ fp2), b ≠ S := fun b hb => Nat.ne_of_lt (hlt b hb)
  obtain ⟨hTI, st1, st2, hz⟩ := g
  refine ⟨hk _ _ (ne _ (by simp)) hTI, D1.frame _ _ _ st1 fun b hb o e => hk b o (ne b (by simp [hb])) e, D2.frame _ _ _ st2 fun b hb o e => hk b o (ne b (by simp [hb])) e, ?_⟩
  rcases hz with ⟨hz, a, b, hTO⟩ | ⟨T, f, oT, hz, hT, r1, r2, r3, r4⟩
  · exact .inl ⟨hk _ _ (ne _ (by simp)) hz, a, b, hk _ _ (ne _ (by simp)) hTO⟩
  · exact .inr ⟨T, f, oT, hk _ _ (ne _ (by simp)) hz, hk _ _ r4 hT, r1, r2, r3, r4⟩
end
end ZL
set_option Elab.async false
set_option linter.all false
set_option maxRecDepth 100000
set_option maxHeartbeats 2000000
namespace VL
open PySem PySem.Spec L2 RT RZ PyProof.Rows
end VL
set_option Elab.async false
set_option linter.all false
set_option maxRecDepth 100000
set_option maxHeartbeats 1000000
namespace VL
open PySem PySem.Spec L2 RT RZ PyProof.Rows HT
/-- what is known of classes: plain ones, none of which has these names -/
def ObC (K : PySem.W.Frag) (cs : List (Str × List Str)) : Prop := ∀ p ∈ cs, Cls K (He.ga K p.1) ∧ ∀ f ∈ p.2, NoAttr K (He.ga K p.1) f
def svI : D ⊕ Nat → Sv
  | .inl d => .d d
  | .inr n => .ref n
theorem RI.sv {K : PySem.W.Frag} {N : Bool → Addr → Prop} {H : Hp} {ι : Ix} {x : D ⊕ Nat} {v : V} (h : RI K N H ι x v) : RS K N H ι (svI x) v := by
  cases x with
  | inl d => exact h
  | inr n => exact h
theorem RIs.look {K : PySem.W.Frag} {N : Bool → Addr → Prop} {H : Hp} {ι : Ix} {f : Str} {y : D ⊕ Nat} : ∀ {fs : List Str} {its : List (D ⊕ Nat)} {xs : List V}, RIs K N H ι its xs → (fs.zip its).lookup f = some y → ∃ v, (fs.zip xs).lookup f = some v ∧ RI K N H ι y v
  | [], its, xs, _, e => by cases its <;> cases e
  | g :: fs, [], xs, _, e => by cases e
  | g :: fs, d :: its, xs, h, e => by
    obtain ⟨x, r, rfl, h1, h2⟩ := h
    rw [List.zip_cons_cons, List.lookup_cons] at e ⊢
    by_cases hg : (f == g) = true
    · rw [hg] at e ⊢
      cases e
      exact ⟨x, rfl, h1⟩
    · rw [Bool.not_eq_true] at hg
      rw [hg] at e ⊢
      exact RIs.look h2 e
/-- the field of an object -/
def fldD (cs : List (Str × List Str)) (f : Str) (M : Mem) : Sv → Option Sv
  | .ref n => match M[n]? with
    | some (.nd (.ob c fs) its) => (cs.lookup c).bind fun gs => if f ∈ gs then ((fs.zip its).lookup f).map svI else none
    | _ => none
  | _ => none
def eFld (cs : List (Str × List Str)) (f : Str) (t : TE') : TE' := fun δ M Q => t δ M fun x M1 => ok (fldD cs f M1 x) fun y => Q y M1
def poFld (cs : List (Str × List Str)) (f : Str) (p : PV) : PV := fun δ M => (p δ M).bind (fldD cs f M)
theorem look_mem {α : Type} {c : Str} {g : α} : ∀ {cs : List (Str × α)}, cs.lookup c = some g → (c, g) ∈ cs
  | [], e => by cases e
  | p :: cs, e => by
    obtain ⟨a, b⟩ := p
    rw [List.lookup_cons] at e
    by_cases h : (c == a) = true
    · rw [h] at e
      cases e
      rw [beq_iff_eq] at h
      rw [h]; exact List.mem_cons_self
    · rw [Bool.not_eq_true] at h
      rw [h] at e
      exact List.mem_cons_of_mem _ (look_mem e)
section
variable {X : Cx} {G : Gd} {e : Expr} {te : TE'} {pos : Pos} {cs : List (Str × List Str)} {f : Str}
theorem ve_fld (hC : ObC X.K cs) (he : VE X G e te) (hb : attributeBase e f X.env (eval e X.env) = eval e X.env := by rfl) : VE X G (.Attribute e f pos) (eFld cs f te) :=
  PE.weak (pe_fld he hb) fun σ H Q ⟨δ, M, ι, Q0, S, h, z⟩ => th1 S h fun x M1 ι1 H1 v q1 p1 k1 S1 r1 => by
    have q1 : ok (fldD cs f M1 x) fun y => Q0 y M1 := q1
    obtain ⟨y, e, q1⟩ := ok_elim q1
    unfold fldD at e
    split at e
    · rename_i n _
      split at e
      · rename_i c fs its hM
        obtain ⟨gs, hg, e⟩ := Option.bind_eq_some_iff.mp e
        split at e
        · rename_i hf
          obtain ⟨it, hl, rfl⟩ := Option.map_eq_some_iff.mp e
          obtain ⟨a, rfl, ha, xs, ⟨dx, hH, hdx, hn, hlen⟩, _, r⟩ := S1.mem.at r1 hM (fun z => nomatch z)
          obtain ⟨w, hw, rw_⟩ := r.look hl
          obtain ⟨hc, hnf⟩ := hC _ (look_mem hg)
          exact ⟨a, _, dx, _, w, rfl, hH, hc, hnf f hf, hw, z _ M1 ι1 H1 w q1 p1 k1 S1 rw_.sv⟩
        · cases e
      · cases e
    · cases e
end
end VL
set_option Elab.async false
set_option linter.all false
set_option maxRecDepth 100000
set_option maxHeartbeats 4000000
namespace VL
open PySem PySem.Spec L2 RT RZ PyProof.Rows HT
def refsI : List (D ⊕ Nat) → List Nat
  | [] => []
  | .inl _ :: r => refsI r
  | .inr n :: r => n :: refsI r
/-- as handS; with an object its cells are lent, ahead of it -/
def handO (M : Mem) : List Bool → List Sv → List Nat → Option (List Sv × List Nat)
  | [], [], ns => some ([], ns)
  | true :: ms, .ref n :: xs, ns => if n ∈ ns then none else match M[n]? with
    | some (.nd _ its) => if (refsI its).Nodup ∧ (∀ r ∈ refsI its, r ∉ ns ∧ (cellA M[r]?).isSome = true) then (handO M ms xs (ns ++ (refsI its ++ [n]))).map fun r => (.ref (ns.length + (refsI its).length) :: r.1, r.2) else none
    | c => (cellA c).bind fun _ => (handO M ms xs (ns ++ [n])).map fun r => (.ref ns.length :: r.1, r.2)
  | false :: ms, .ref n :: xs, ns => (cellL M[n]?).bind fun ds => (handO M ms xs ns).bind fun r => if n ∈ r.2 then none else some (.bor ds :: r.1, r.2)
  | false :: ms, x :: xs, ns => (handO M ms xs ns).map fun r => (x :: r.1, r.2)
  | _, _, _ => none
def reI (ns : List Nat) : D ⊕ Nat → D ⊕ Nat
  | .inl d => .inl d
  | .inr n => .inr (ns.idxOf n)
def reC (ns : List Nat) : Cell → Cell
  | .nd k its => .nd k (its.map (reI ns))
  | c => c
def cellsO (M : Mem) (ns : List Nat) : Mem := ns.map fun n => reC ns (M[n]?.getD .gone)
/-- an object's names stay; its data is the callee's -/
def mrgI : D ⊕ Nat → D ⊕ Nat → D ⊕ Nat
  | .inl _, .inl d => .inl d
  | o, _ => o
def mrgC : Cell → Cell → Cell
  | .nd k its, .nd _ its' => .nd k (List.zipWith mrgI its its')
  | .nd k its, _ => .nd k its
  | _, c => c
def backO : List Nat → Mem → Mem → Mem
  | n :: ns, c :: cs, M => backO ns cs (M.set n (mrgC (M[n]?.getD .gone) c))
  | _, _, M => M
theorem backO_len : ∀ (ns : List Nat) (cs M : Mem), (backO ns cs M).length = M.length
  | [], cs, M => by cases cs <;> rfl
  | n :: ns, [], M => rfl
  | n :: ns, c :: cs, M => by simp [backO, backO_len ns cs]
theorem backO_ne : ∀ (ns : List Nat) (cs M : Mem) (m : Nat), m ∉ ns → (backO ns cs M)[m]? = M[m]?
  | [], cs, M, m, _ => by cases cs <;> rfl
  | n :: ns, [], M, m, _ => rfl
  | n :: ns, c :: cs, M, m, h => by
    simp only [List.mem_cons, not_or] at h
    simp only [backO]
    rw [backO_ne ns cs _ m h.2, List.getElem?_set_ne (fun z => h.1 z.symm)]
theorem backO_at : ∀ (ns : List Nat) (cs M : Mem) (j m : Nat) (c : Cell), ns.Nodup → ns[j]? = some m → cs[j]? = some c → m < M.length → (backO ns cs M)[m]? = some (mrgC (M[m]?.getD .gone) c)
  | [], _, _, _, _, _, _, h, _, _ => by simp at h
  | _ :: _, [], _, _, _, _, _, _, h, _ => by simp at h
  | n :: ns, d :: cs, M, 0, m, c, nd, h1, h2, hl => by
    simp at h1 h2; subst h1 h2
    simp only [backO]
    rw [backO_ne ns cs _ _ (List.nodup_cons.mp nd).1, List.getElem?_set_self hl]
  | n :: ns, d :: cs, M, j + 1, m, c, nd, h1, h2, hl => by
    have hne : n ≠ m := fun z => by
      subst z
      exact (List.nodup_cons.mp nd).1 (List.mem_of_getElem? (by simpa using h1))
    simp only [backO]
    rw [backO_at ns cs _ j m c (List.nodup_cons.mp nd).2 (by simpa using h1) (by simpa using h2) (by simpa using hl), List.getElem?_set_ne hne]
/-- what is lent: alive, once, the cells of an object ahead of it -/
structure Lent (M : Mem) (ι : Ix) (ns : List Nat) : Prop where
  nd : ns.Nodup
  al : ∀ n ∈ ns, ∃ a, ι[n]? = some (some a)
  bf : ∀ (p n : Nat) (k : Kd) (its : List (D ⊕ Nat)), ns[p]? = some n → M[n]? = some (.nd k its) → ∀ j ∈ refsI its, ∃ q, q < p ∧ ns[q]? = some j
theorem Lent.nil {M : Mem} {ι : Ix} : Lent M ι [] := ⟨List.nodup_nil, fun _ h => by simp at h, fun p n k its h => by simp at h⟩
section
variable {K : PySem.W.Frag} {G : Gd} {δ : DS} {M : Mem} {ι : Ix} {σ : L2.St} {H : Hp} {i0 : List Addr}
theorem Lent.sub {ns : List Nat} (L : Lent M ι ns) (hi : i0.map some = ns.map (fun n => (ι[n]?).join)) : ∀ b ∈ i0, some b ∈ ι := fun b hb => by
  have : some b ∈ i0.map some := by simpa using hb
  rw [hi] at this
  obtain ⟨m, hm1, hm2⟩ := List.mem_map.mp this
  obtain ⟨c, hb⟩ := L.al m hm1
  rw [hb] at hm2; cases hm2
  exact List.mem_of_getElem? hb
theorem Lent.one {ns : List Nat} {n : Nat} {a : Addr} (L : Lent M ι ns) (hn : n ∉ ns) (ha : ι[n]? = some (some a)) (hf : ∀ k its, M[n]? ≠ some (.nd k its)) : Lent M ι (ns ++ [n]) := by
  refine ⟨?_, fun m hm => ?_, fun p m k its hp hm j hj => ?_⟩
  · rw [List.nodup_append]; refine ⟨L.nd, by simp, fun x hx y hy => ?_⟩
    simp only [List.mem_singleton] at hy; subst hy; rintro rfl; exact hn hx
  · rcases List.mem_append.mp hm with hm | hm
    · exact L.al m hm
    · simp only [List.mem_singleton] at hm; subst hm; exact ⟨a, ha⟩
  · by_cases hl : p < ns.length
    · rw [List.getElem?_append_left hl] at hp
      obtain ⟨q, hq, e⟩ := L.bf p m k its hp hm j hj
      exact ⟨q, hq, by rw [List.getElem?_append_left (by omega)]; exact e⟩
    · rw [List.getElem?_append_right (by omega)] at hp
      have := List.mem_of_getElem? hp
      rw [List.mem_singleton.mp this] at hm
      exact absurd hm (hf k its)
theorem Lent.many {ns rs : List Nat} (L : Lent M ι ns) (nd : rs.Nodup) (h : ∀ r ∈ rs, r ∉ ns ∧ (∃ a, ι[r]? = some (some a)) ∧ ∀ k its, M[r]? ≠ some (.nd k its)) : Lent M ι (ns ++ rs) := by
  induction rs generalizing ns with
  | nil => simpa using L
  | cons r rs ih =>
    obtain ⟨h1, ⟨a, h2⟩, h3⟩ := h r List.mem_cons_self
    have L2 := L.one h1 h2 h3
    have := ih L2 (List.nodup_cons.mp nd).2 fun q hq => by
      obtain ⟨g1, g2, g3⟩ := h q (List.mem_cons_of_mem _ hq)
      refine ⟨fun hm => ?_, g2, g3⟩
      rcases List.mem_append.mp hm with hm | hm
      · exact g1 hm
      · rw [List.mem_singleton.mp hm] at hq
        exact (List.nodup_cons.mp nd).1 hq
    rw [List.append_assoc] at this
    exact this
theorem Lent.obj {ns : List Nat} {n : Nat} {a : Addr} {k : Kd} {its : List (D ⊕ Nat)} (L : Lent M ι ns) (hn : n ∉ ns) (ha : ι[n]? = some (some a)) (hM : M[n]? = some (.nd k its)) (nd : (refsI its).Nodup)
    (h : ∀ r ∈ refsI its, r ∉ ns ∧ (∃ a, ι[r]? = some (some a)) ∧ ∀ k its, M[r]? ≠ some (.nd k its)) : Lent M ι (ns ++ (refsI its ++ [n])) := by
  have L2 := L.many nd h
  have hn2 : n ∉ ns ++ refsI its := fun hm => by
    rcases List.mem_append.mp hm with hm | hm
    · exact hn hm
    · exact (h n hm).2.2 _ _ hM
  rw [← List.append_assoc]
  refine ⟨?_, fun m hm => ?_, fun p m k' its' hp hm j hj => ?_⟩
  · rw [List.nodup_append]; refine ⟨L2.nd, by simp, fun x hx y hy => ?_⟩
    simp only [List.mem_singleton] at hy; subst hy; rintro rfl; exact hn2 hx
  · rcases List.mem_append.mp hm with hm | hm
    · exact L2.al m hm
    · simp only [List.mem_singleton] at hm; subst hm; exact ⟨a, ha⟩
  · by_cases hl : p < (ns ++ refsI its).length
    · rw [List.getElem?_append_left hl] at hp
      obtain ⟨q, hq, e⟩ := L2.bf p m k' its' hp hm j hj
      exact ⟨q, hq, by rw [List.getElem?_append_left (by omega)]; exact e⟩
    · rw [List.getElem?_append_right (by omega)] at hp
      have := List.mem_of_getElem? hp
      rw [List.mem_singleton.mp this, hM] at hm
      cases hm
      obtain ⟨q, hq⟩ := List.getElem?_of_mem (show j ∈ ns ++ refsI its from List.mem_append_right _ hj)
      have hql := (List.getElem?_eq_some_iff.mp hq).1
      exact ⟨q, by omega, by rw [List.getElem?_append_left hql]; exact hq⟩
end
end VL
set_option Elab.async false
set_option linter.all false
set_option maxRecDepth 100000
set_option maxHeartbeats 4000000
namespace VL
open PySem PySem.Spec L2 RT RZ PyProof.Rows HT
section
variable {K : PySem.W.Frag} {G : Gd} {δ : DS} {M : Mem} {ι : Ix} {σ : L2.St} {H : Hp} {i0 : List Addr}
theorem flat_of {r : Nat} (h : (cellA M[r]?).isSome = true) : ∀ k its, M[r]? ≠ some (.nd k its) := fun k its e => by
  rw [e] at h; cases h
theorem alive_of (S : Sr K G δ M ι σ H) {r : Nat} (h : (cellA M[r]?).isSome = true) : ∃ a, ι[r]? = some (some a) := by
  obtain ⟨u, hu⟩ := Option.isSome_iff_exists.mp h
  obtain ⟨c, hc, hg⟩ := cellA_some hu
  have hM := (List.getElem?_eq_some_iff.mp hc).1
  have hi : r < ι.length := by rw [← S.mem.len]; exact hM
  cases e : ι[r] with
  | some a => exact ⟨a, by rw [List.getElem?_eq_getElem hi, e]⟩
  | none =>
    have := S.mem.gone r (by rw [List.getElem?_eq_getElem hi, e])
    rw [hc] at this
    exact absurd (Option.some.inj this) hg
theorem hand_ofO (S : Sr K G δ M ι σ H) : ∀ (ms : List Bool) (xs : List Sv) (vs : List V) (ns : List Nat) (as : List Sv) (ns' : List Nat), handO M ms xs ns = some (as, ns') → RSs K G.N H ι xs vs → Lent M ι ns →
    Lent M ι ns' ∧ (∃ r, ns' = ns ++ r) ∧ (∀ i0, i0.map some = ns'.map (fun n => (ι[n]?).join) → RSs K (NB (Bc G ι i0)) H (i0.map some) as vs) ∧ as.length = xs.length
  | [], [], vs, ns, as, ns', e, r, L => by
    cases e
    exact ⟨L, ⟨[], by simp⟩, fun i0 _ => r, rfl⟩
  | true :: ms, .ref n :: xs, vs, ns, as, ns', e, r, L => by
    unfold handO at e
    split at e
    · cases e
    rename_i hn
    obtain ⟨v, r', rfl, r1, r2⟩ := r
    split at e
    · rename_i k its hM
      split at e
      · rename_i hq
        obtain ⟨⟨as1, ns1⟩, e2, e⟩ := Option.map_eq_some_iff.mp e
        cases e
        obtain ⟨a, rfl, ha, _⟩ := S.mem.at r1 hM (fun z => nomatch z)
        have L1 := L.obj hn ha hM hq.1 fun q hq' => ⟨(hq.2 q hq').1, alive_of S (hq.2 q hq').2, flat_of (hq.2 q hq').2⟩
        obtain ⟨h1, ⟨q, h3⟩, h4, h5⟩ := hand_ofO S ms xs r' _ as1 ns1 e2 r2 L1
        refine ⟨h1, ⟨refsI its ++ [n] ++ q, by rw [h3]; simp⟩, fun i0 hi => ⟨_, _, rfl, ⟨a, rfl, .inl ?_⟩, h4 i0 hi⟩, by simp [h5]⟩
        have e9 : ns1[ns.length + (refsI its).length]? = some n := by
          rw [h3, List.append_assoc, List.getElem?_append_right (by omega), List.append_assoc, List.getElem?_append_right (by omega)]
          simp
        rw [hi, List.getElem?_map, e9]
        simp [ha]
      · cases e
    · rename_i hnm
      obtain ⟨ds, e1, e⟩ := Option.bind_eq_some_iff.mp e
      obtain ⟨⟨as1, ns1⟩, e2, e⟩ := Option.map_eq_some_iff.mp e
      cases e
      obtain ⟨cx, hx1, hx2⟩ := cellA_some e1
      obtain ⟨a, rfl, ha, _⟩ := S.mem.at r1 hx1 hx2
      have L1 := L.one hn ha fun k its q => hnm k its q
      obtain ⟨h1, ⟨q, h3⟩, h4, h5⟩ := hand_ofO S ms xs r' _ as1 ns1 e2 r2 L1
      refine ⟨h1, ⟨n :: q, by rw [h3]; simp⟩, fun i0 hi => ⟨_, _, rfl, ⟨a, rfl, .inl ?_⟩, h4 i0 hi⟩, by simp [h5]⟩
      rw [hi, h3, List.getElem?_map, List.append_assoc, List.getElem?_append_right (Nat.le_refl _)]
      simp [ha]
  | false :: ms, .ref n :: xs, vs, ns, as, ns', e, r, L => by
    unfold handO at e
    obtain ⟨ds, e1, e⟩ := Option.bind_eq_some_iff.mp e
    obtain ⟨⟨as1, ns1⟩, e2, e⟩ := Option.bind_eq_some_iff.mp e
    split at e
    · cases e
    rename_i hn
    cases e
    obtain ⟨v, r', rfl, r1, r2⟩ := r
    obtain ⟨a, rfl, ha, ys, q1, l1, rd⟩ := S.mem.at r1 (cellL_some e1) (fun z => nomatch z)
    obtain ⟨h1, h3, h4, h5⟩ := hand_ofO S ms xs r' ns as1 ns1 e2 r2 L
    refine ⟨h1, h3, fun i0 hi => ⟨_, _, rfl, ⟨a, ys, rfl, q1, ?_, ⟨fun z => z, fun z => nomatch z⟩, l1, RDs.dn (h1.sub hi) rd⟩, h4 i0 hi⟩, by simp [h5]⟩
    rw [hi]
    intro hm
    obtain ⟨m, hm1, hm2⟩ := List.mem_map.mp hm
    obtain ⟨b, hb⟩ := h1.al m hm1
    rw [hb] at hm2
    cases hm2
    exact hn (S.mem.nod _ _ _ hb ha ▸ hm1)
  | false :: ms, .d x :: xs, vs, ns, as, ns', e, r, L => by
    obtain ⟨⟨as1, ns1⟩, e2, e⟩ := Option.map_eq_some_iff.mp (show (handO M ms xs ns).map _ = _ from e)
    cases e
    obtain ⟨v, r', rfl, r1, r2⟩ := r
    obtain ⟨h1, h3, h4, h5⟩ := hand_ofO S ms xs r' ns as1 ns1 e2 r2 L
    exact ⟨h1, h3, fun i0 hi => ⟨_, _, rfl, RD.dn (h1.sub hi) r1, h4 i0 hi⟩, by simp [h5]⟩
  | false :: ms, .bor ds :: xs, vs, ns, as, ns', e, r, L => by
    obtain ⟨⟨as1, ns1⟩, e2, e⟩ := Option.map_eq_some_iff.mp (show (handO M ms xs ns).map _ = _ from e)
    cases e
    obtain ⟨v, r', rfl, r1, r2⟩ := r
    obtain ⟨h1, h3, h4, h5⟩ := hand_ofO S ms xs r' ns as1 ns1 e2 r2 L
    refine ⟨h1, h3, fun i0 hi => ?_, by simp [h5]⟩
    obtain ⟨a, ys, rfl, q1, n1, _, l1, rd⟩ := r1
    exact ⟨_, _, rfl, ⟨a, ys, rfl, q1, fun hm => n1 (h1.sub hi a (by simpa using hm)), ⟨fun z => z, fun z => nomatch z⟩, l1, RDs.dn (h1.sub hi) rd⟩, h4 i0 hi⟩
  | true :: ms, .d x :: xs, _, _, _, _, e, _, _ => by cases e
  | true :: ms, .bor x :: xs, _, _, _, _, e, _, _ => by cases e
  | [], _ :: _, _, _, _, _, e, _, _ => by cases e
  | true :: _, [], _, _, _, _, e, _, _ => by cases e
  | false :: _, [], _, _, _, _, e, _, _ => by cases e
end
end VL
set_option Elab.async false
set_option linter.all false
set_option maxRecDepth 100000
set_option maxHeartbeats 4000000
namespace VL
open PySem PySem.Spec L2 RT RZ PyProof.Rows HT
theorem SameF.names : ∀ {a b : List (Str × V)}, SameF a b → a.map (·.1) = b.map (·.1)
  | _, _, .nil => rfl
  | _, _, .cons h t => by rw [List.map_cons, List.map_cons, h.1, SameF.names t]
theorem obz_snd {α β : Type} : ∀ {fs : List α} {xs : List β}, fs.length = xs.length → (fs.zip xs).map (·.2) = xs
  | [], [], _ => rfl
  | [], _ :: _, h => by cases h
  | _ :: _, [], h => by cases h
  | f :: fs, x :: xs, h => by rw [List.zip_cons_cons, List.map_cons, obz_snd (Nat.succ.inj h)]
theorem obz_fst {α β : Type} : ∀ {fs : List α} {xs : List β}, fs.length = xs.length → (fs.zip xs).map (·.1) = fs
  | [], [], _ => rfl
  | [], _ :: _, h => by cases h
  | _ :: _, [], h => by cases h
  | f :: fs, x :: xs, h => by rw [List.zip_cons_cons, List.map_cons, obz_fst (Nat.succ.inj h)]
theorem SameF.tails : ∀ {fs fs' : List Str} {xs xs' : List V}, fs.length = xs.length → fs'.length = xs'.length → SameF (fs.zip xs) (fs'.zip xs') → fs = fs' ∧ Paired (fun x y => x = y ∨ ∃ i j, x = V.int i ∧ y = V.int j) xs xs' := by
  intro fs fs' xs xs' h1 h2 s
  have hn := s.names
  rw [obz_fst h1, obz_fst h2] at hn
  refine ⟨hn, ?_⟩
  have : Paired (fun x y => x = y ∨ ∃ i j, x = V.int i ∧ y = V.int j) ((fs.zip xs).map (·.2)) ((fs'.zip xs').map (·.2)) := by
    generalize fs.zip xs = a at s
    generalize fs'.zip xs' = b at s
    clear hn h1 h2
    induction a generalizing b with
    | nil => cases s; exact .nil
    | cons p a ih =>
      cases s with
      | cons h t => exact .cons h.2 (ih _ t)
  rw [obz_snd h1, obz_snd h2] at this
  exact this
section
variable {K : PySem.W.Frag} {G : Gd} {δ : DS} {M : Mem} {ι : Ix} {σ : L2.St} {H : Hp} {i0 : List Addr}
/-- an object's items behind a call: its names, the callee's data -/
theorem mrg_of {H' : Hp} {r : Ix} (S : Sr K G δ M ι σ H) (k : Kp (i0.map some) H (i0.map some ++ r) H') (kk : Kp ι H (ι ++ r) H') : ∀ {its its' : List (D ⊕ Nat)} {xs xs' : List V}, Paired (fun x y => x = y ∨ ∃ i j, x = V.int i ∧ y = V.int j) xs xs' →
    RIs K G.N H ι its xs → RIs K (NB (Bc G ι i0)) H' (i0.map some ++ r) its' xs' → RIs K G.N H' (ι ++ r) (List.zipWith mrgI its its') xs'
  | [], its', xs, xs', p, h1, h2 => by
    cases (show _ = _ from h1)
    cases p
    cases its' with
    | nil => rfl
    | cons d ds => obtain ⟨x, r, e, _⟩ := h2; cases e
  | d :: its, its', xs, xs', p, h1, h2 => by
    obtain ⟨x, t, rfl, r1, t1⟩ := h1
    cases p with
    | cons h t2 =>
      cases its' with
      | nil => cases (show _ = _ from h2)
      | cons d' its' =>
        obtain ⟨y, u, e, r2, t3⟩ := h2
        cases e
        refine ⟨_, _, rfl, ?_, mrg_of S k kk t2 t1 t3⟩
        cases d with
        | inr n =>
          obtain ⟨a, rfl, q⟩ := r1
          rcases h with rfl | ⟨i, j, e, _⟩
          · refine ⟨a, rfl, ?_⟩
            rcases q with q | q
            · exact .inl (by rw [List.getElem?_append_left (List.getElem?_eq_some_iff.mp q).1]; exact q)
            · exact .inr (by rw [List.getElem?_append_left (List.getElem?_eq_some_iff.mp q).1]; exact q)
          · cases e
        | inl d =>
          cases d' with
          | inl d' => exact RD.up S k r2
          | inr n =>
            obtain ⟨a, rfl, q⟩ := r2
            rcases h with rfl | ⟨i, j, _, e⟩
            · exact RD.mono kk (fun _ _ _ _ z => z) d _ r1
            · cases e
theorem mrg_refs {t : Nat} : ∀ {its0 its : List (D ⊕ Nat)}, Sum.inr t ∈ List.zipWith mrgI its0 its → Sum.inr t ∈ its0
  | [], _, h => by simp at h
  | _ :: _, [], h => by simp at h
  | d0 :: its0, d :: its, h => by
    rw [List.zipWith_cons_cons, List.mem_cons] at h
    rcases h with h | h
    · cases d0 with
      | inr t' => rw [show mrgI (Sum.inr t') d = .inr t' from rfl] at h; rw [h]; exact List.mem_cons_self
      | inl d0 => cases d with
        | inl d => cases h
        | inr d => cases h
    · exact List.mem_cons_of_mem _ (mrg_refs h)
theorem Sr.afterO {H' : Hp} {ns : List Nat} {Mc cs : Mem} {r : List Addr} (S : Sr K G δ M ι σ H) (L : Lent M ι ns) (hi : i0.map some = ns.map (fun n => (ι[n]?).join))
    (hl : Mc.length = i0.length) (hcs : cs.length = r.length) (hr : ∀ a ∈ r, H a = none)
    (m : RM K (NB (Bc G ι i0)) H' (i0.map some ++ r.map some) (Mc ++ cs)) (k : Kp (i0.map some) H (i0.map some ++ r.map some) H') (ob : ObI (i0.map some) H H') (hfl : ∀ c ∈ cs, ∀ kd its, c ≠ .nd kd its) : Sr K G δ (backO ns Mc M ++ cs) (ι ++ r.map some) σ H' := by
  have hsub := L.sub hi
  have hn : ∀ a, some a ∉ ι → some a ∉ i0.map some := fun a hn h => hn (hsub a (by simpa using h))
  have hrr : ∀ a o, H a = some o → some a ∉ r.map some := fun a o e h => by
    have h : a ∈ r := by simpa using h
    rw [hr a h] at e; cases e
  have kk : Kp ι H (ι ++ r.map some) H' := fun a o e n => ⟨(k a o e (hn a n)).1, fun h => by
    rcases List.mem_append.mp h with h | h
    · exact n h
    · exact hrr a o e h⟩
  have hin : ∀ (n : Nat) (a : Addr), ι[n]? = some (some a) → n ∉ ns → some a ∉ i0.map some := fun n a h hno z => by
    rw [hi] at z
    obtain ⟨m, hm1, hm2⟩ := List.mem_map.mp z
    obtain ⟨c, hb⟩ := L.al m hm1
    rw [hb] at hm2; cases hm2
    exact hno (S.mem.nod _ _ _ hb h ▸ hm1)
  have hfr : ∀ a ∈ r, some a ∉ ι := fun a ha => S.mem.fresh (hr a ha)
  have hbl : (backO ns Mc M).length = ι.length := by rw [backO_len]; exact S.mem.len
  have hil : i0.length = ns.length := by have := congrArg List.length hi; simpa using this
  have up : ∀ c a, (∀ kd its, c ≠ .nd kd its) → RC K (NB (Bc G ι i0)) H' (i0.map some ++ r.map some) c a → RC K G.N H' (ι ++ r.map some) c a := fun c a hf q => by
    cases c with
    | nd kd its => exact absurd rfl (hf kd its)
    | gone => exact q.elim
    | lst ds => obtain ⟨xs, q1, l, r⟩ := q; exact ⟨xs, q1, l, RDs.up S k r⟩
    | dk kvs => obtain ⟨xs, q1, l, r⟩ := q; exact ⟨xs, q1, l, RDs.up S k r⟩
    | dn kvs => obtain ⟨xs, q1, l, r1, r2⟩ := q; exact ⟨xs, q1, l, RDs.up S k r1, RDs.up S k r2⟩
  /- a lent cell behind the call -/
  have low : ∀ (j n : Nat) (a : Addr), ns[j]? = some n → ι[n]? = some (some a) → ∀ c0 c, M[n]? = some c0 → Mc[j]? = some c → RC K G.N H' (ι ++ r.map some) (mrgC c0 c) a ∧ (mrgC c0 c).wf n := fun j n a hj ha c0 c h0 hc => by
    have hji : (i0.map some)[j]? = some (some a) := by rw [hi, List.getElem?_map, hj]; simp [ha]
    have hjl := (List.getElem?_eq_some_iff.mp hc).1
    have hjn : j < i0.length := by omega
    have q := m.cell j c a (by rw [List.getElem?_append_left hjl]; exact hc) (by rw [List.getElem?_append_left (by simpa using hjn)]; exact hji)
    have q0 := S.mem.cell n c0 a h0 ha
    have hai : a ∈ i0 := by have := List.mem_of_getElem? hji; simpa using this
    obtain ⟨ob1, ob2⟩ := ob i0 rfl a hai
    cases c with
    | nd kd its =>
      cases kd with
      | ob c fs =>
        obtain ⟨xs, ⟨dx, q1, q2, q3, q4⟩, l1, r1⟩ := q
        obtain ⟨f0, e0⟩ := ob2 _ _ _ q1
        cases c0 with
        | gone => exact q0.elim
        | lst ds => obtain ⟨ys, q5, _⟩ := q0; rw [q5] at e0; cases e0
        | dk ds => obtain ⟨ys, q5, _⟩ := q0; rw [q5] at e0; cases e0
        | dn ds => obtain ⟨ys, q5, _⟩ := q0; rw [q5] at e0; cases e0
        | nd kd0 its0 =>
          cases kd0 with
          | ob c0 fs0 =>
            obtain ⟨ys, ⟨dx0, p1, p2, p3, p4⟩, l2, r2⟩ := q0
            obtain ⟨fs', g1, g2⟩ := ob1 _ _ _ p1
            rw [q1] at g1
            injection g1 with g1
            injection g1 with gc gd gf
            rw [← gf] at g2
            obtain ⟨hf, ht⟩ := SameF.tails p4 q4 g2
            have hmg := mrg_of S k kk ht r2 r1
            have hlen : (List.zipWith mrgI its0 its).length ≤ sizeLine := by rw [List.length_zipWith]; omega
            refine ⟨⟨xs, ⟨dx0, by rw [q1, gc, gd, hf], (kk dx0 _ p2 p3).1, (kk dx0 _ p2 p3).2, by rw [hf]; exact q4⟩, hlen, hmg⟩, fun t ht => ?_⟩
            have w0 := S.mem.wf n _ h0
            refine w0 t ?_
            exact mrg_refs ht
    | _ =>
      have hfc : ∀ kd its, c0 ≠ .nd kd its := fun kd its e => by
        subst e
        cases kd with
        | ob c0 fs0 =>
          obtain ⟨ys, ⟨dx0, p1, _⟩, _⟩ := q0
          obtain ⟨fs', g1, _⟩ := ob1 _ _ _ p1
          first
            | exact q.elim
            | (obtain ⟨zs, q5, _⟩ := q; rw [q5] at g1; cases g1)
      cases c0 with
      | nd kd its => exact absurd rfl (hfc kd its)
      | _ => exact ⟨up _ _ (fun kd its z => by cases z) q, trivial⟩
  have obk : ObK G.i0 H H' := fun a ha => by
    obtain ⟨n, hn0⟩ := List.getElem?_of_mem ha
    have hp := S.pre n a hn0
    by_cases h0 : a ∈ i0
    · exact ob i0 rfl a h0
    · obtain ⟨u, hu⟩ := S.i0there a ha
      have e9 := (k a u hu (by simpa using h0)).1
      rw [show H' a = H a from e9.trans hu.symm]
      exact ⟨fun C dx fs e => ⟨fs, e, SameF.refl fs⟩, fun C dx fs e => ⟨fs, e⟩⟩
  have hjc : ∀ (j n : Nat), ns[j]? = some n → ∃ c, Mc[j]? = some c := fun j n hj => by
    have := (List.getElem?_eq_some_iff.mp hj).1
    exact ⟨_, List.getElem?_eq_getElem (by omega)⟩
  refine ⟨S.len, fun i d e => ?_, ⟨by simp [hbl, hcs], fun n m' a e1 e2 => ?_, fun n c a e1 e2 => ?_, fun n e => ?_, fun n c e1 => ?_⟩, fun n a e => ?_, S.kp.trans kk, fun a ha h0 => ?_, S.bad, fun a ha => ?_, S.obk.trans obk⟩
  · obtain ⟨v, e1, r⟩ := S.slot i d e
    exact ⟨v, e1, r.mono kk (Ex.app _ _) (fun _ _ _ _ z => z)⟩
  · rw [List.getElem?_append] at e1 e2
    split at e1 <;> split at e2
    · exact S.mem.nod n m' a e1 e2
    · exact absurd (List.mem_of_getElem? e1) (hfr a (by simpa using List.mem_of_getElem? e2))
    · exact absurd (List.mem_of_getElem? e2) (hfr a (by simpa using List.mem_of_getElem? e1))
    · have := m.nod (i0.length + (n - ι.length)) (i0.length + (m' - ι.length)) a (by rw [List.getElem?_append_right (by simp)]; simpa using e1) (by rw [List.getElem?_append_right (by simp)]; simpa using e2)
      omega
  · rw [List.getElem?_append, hbl] at e1
    rw [List.getElem?_append] at e2
    split at e1
    · rename_i hlt
      rw [if_pos hlt] at e2
      by_cases hno : n ∈ ns
      · obtain ⟨j, hj⟩ := List.getElem?_of_mem hno
        obtain ⟨cc, hcc⟩ := hjc j n hj
        have hl : n < M.length := by rw [S.mem.len]; exact hlt
        rw [backO_at ns Mc M j n _ L.nd hj hcc hl, List.getElem?_eq_getElem hl] at e1
        cases e1
        exact (low j n a hj e2 _ _ (List.getElem?_eq_getElem hl) hcc).1
      · rw [backO_ne ns Mc M n hno] at e1
        have q := S.mem.cell n c a e1 e2
        obtain ⟨o, ho⟩ := q.has
        exact q.mono kk (Ex.app _ _) (fun _ _ _ _ z => z) (by rw [(k a o ho (hin n a e2 hno)).1, ho])
    · rename_i hlt
      rw [if_neg hlt] at e2
      exact up _ _ (hfl c (List.mem_of_getElem? e1)) (m.cell (i0.length + (n - ι.length)) _ a (by rw [List.getElem?_append_right (by omega)]; rw [hl]; simpa using e1) (by rw [List.getElem?_append_right (by simp)]; simpa using e2))
  · rw [List.getElem?_append] at e
    split at e
    · rename_i hlt
      rw [List.getElem?_append_left (by rw [hbl]; exact hlt), backO_ne ns Mc M n fun hno => ?_]
      · exact S.mem.gone n e
      · obtain ⟨c, hb⟩ := L.al n hno
        rw [hb] at e; cases e
    · have := List.mem_of_getElem? e
      simp at this
  · rw [List.getElem?_append, hbl] at e1
    split at e1
    · rename_i hlt
      by_cases hno : n ∈ ns
      · obtain ⟨j, hj⟩ := List.getElem?_of_mem hno
        obtain ⟨cc, hcc⟩ := hjc j n hj
        have hl : n < M.length := by rw [S.mem.len]; exact hlt
        obtain ⟨a, ha⟩ := L.al n hno
        rw [backO_at ns Mc M j n _ L.nd hj hcc hl, List.getElem?_eq_getElem hl] at e1
        cases e1
        exact (low j n a hj ha _ _ (List.getElem?_eq_getElem hl) hcc).2
      · rw [backO_ne ns Mc M n hno] at e1
        exact S.mem.wf n c e1
    · have hf := hfl c (List.mem_of_getElem? e1)
      cases c with
      | nd kd its => exact absurd rfl (hf kd its)
      | _ => trivial
  · have e1 := S.pre n a e
    rw [List.getElem?_append_left (List.getElem?_eq_some_iff.mp e1).1]; exact e1
  · rcases List.mem_append.mp ha with z | z
    · exact S.new a z h0
    · have z : a ∈ r := by simpa using z
      cases q : G.He a with
      | none => rfl
      | some u =>
        have := (S.kp a u q (by simpa using h0)).1
        rw [hr a z] at this; cases this
  · obtain ⟨u, q⟩ := (S.hid a ha).2
    exact ⟨(kk a u q (S.hid a ha).1).2, u, (kk a u q (S.hid a ha).1).1⟩
end
end VL
set_option Elab.async false
set_option linter.all false
set_option maxRecDepth 100000
set_option maxHeartbeats 4000000
namespace VL
open PySem PySem.Spec L2 RT RZ PyProof.Rows HT
section
variable {K : PySem.W.Frag} {G : Gd} {δ : DS} {M : Mem} {ι : Ix} {σ : L2.St} {H : Hp} {i0 : List Addr}
theorem at_idx {ns : List Nat} {t : Nat} (h : t ∈ ns) : ns[ns.idxOf t]? = some t := by
  have hl := List.idxOf_lt_length_of_mem h
  rw [List.getElem?_eq_getElem hl, List.getElem_idxOf hl]
theorem RIs.re {ns : List Nat} (L : Lent M ι ns) (hi : i0.map some = ns.map (fun n => (ι[n]?).join)) : ∀ {its : List (D ⊕ Nat)} {xs : List V}, (∀ t ∈ refsI its, t ∈ ns) → RIs K G.N H ι its xs → RIs K (NB (Bc G ι i0)) H (i0.map some) (its.map (reI ns)) xs
  | [], _, _, h => h
  | .inl d :: its, xs, hl, h => by
    obtain ⟨x, r, rfl, h1, h2⟩ := h
    exact ⟨x, r, rfl, RD.dn (L.sub hi) h1, RIs.re L hi hl h2⟩
  | .inr t :: its, xs, hl, h => by
    obtain ⟨x, r, rfl, ⟨a, e, q⟩, h2⟩ := h
    have ht : t ∈ ns := hl t List.mem_cons_self
    obtain ⟨b, hb⟩ := L.al t ht
    have hab : a = b := by
      rcases q with q | q
      · rw [hb] at q; cases q; rfl
      · rw [hb] at q; cases q
    refine ⟨x, r, rfl, ⟨a, e, .inl ?_⟩, RIs.re L hi (fun q hq => hl q (List.mem_cons_of_mem _ hq)) h2⟩
    rw [hi, List.getElem?_map, at_idx ht]
    simp [hb, hab]
theorem re_refs {ns : List Nat} {j : Nat} : ∀ {its : List (D ⊕ Nat)}, Sum.inr j ∈ its.map (reI ns) → ∃ t ∈ refsI its, j = ns.idxOf t
  | [], h => by simp at h
  | .inl d :: its, h => by
    rw [List.map_cons, List.mem_cons] at h
    rcases h with h | h
    · cases h
    · exact re_refs (its := its) h
  | .inr t :: its, h => by
    rw [List.map_cons, List.mem_cons] at h
    rcases h with h | h
    · exact ⟨t, List.mem_cons_self, by cases h; rfl⟩
    · obtain ⟨q, hq, e⟩ := re_refs (its := its) h
      exact ⟨q, List.mem_cons_of_mem _ hq, e⟩
theorem call_genO {ms : List Bool} {xs as : List Sv} {vs : List V} {ns : List Nat} (S : Sr K G δ M ι σ H) (r : RSs K G.N H ι xs vs) (e : handO M ms xs [] = some (as, ns)) :
    as.length = xs.length ∧ ∃ (i0 : List Addr) (B : Addr → Prop), (∀ a, B a → ∃ o, H a = some o) ∧ RSs K (NB B) H (i0.map some) as vs ∧ RM K (NB B) H (i0.map some) (cellsO M ns) ∧
      (∀ x M' v H', RR K (NB B) H H' (i0.map some) M' (.d x) v → Kp ι H ι H' ∧ Sr K G δ (backO ns M' M) ι σ H' ∧ RD K G.N H' ι x v) ∧
      ∀ rv c M' v H', rv.cell = some c → RR K (NB B) H H' (i0.map some) M' rv v → ∃ a, v = .ref a ∧ Kp ι H (ι ++ [some a]) H' ∧ Sr K G δ (backO ns M' M ++ [c]) (ι ++ [some a]) σ H' ∧ (backO ns M' M).length = M.length := by
  obtain ⟨L, h3, hr, hl⟩ := hand_ofO S ms xs vs [] as ns e r Lent.nil
  obtain ⟨i0, hi⟩ : ∃ i0 : List Addr, i0.map some = ns.map (fun n => (ι[n]?).join) := by
    have al := L.al
    clear e hr hl h3 L
    induction ns with
    | nil => exact ⟨[], rfl⟩
    | cons n ns ih =>
      obtain ⟨i0, hi⟩ := ih fun m hm => al m (List.mem_cons_of_mem _ hm)
      obtain ⟨a, ha⟩ := al n List.mem_cons_self
      exact ⟨a :: i0, by simp [hi, ha]⟩
  have hsub := L.sub hi
  have hni : ∀ a, some a ∉ ι → some a ∉ i0.map some := fun a n h => n (hsub a (by simpa using h))
  have hget : ∀ (j : Nat) (a : Addr), (i0.map some)[j]? = some (some a) → ∃ n, ns[j]? = some n ∧ ι[n]? = some (some a) := fun j a e => by
    rw [hi, List.getElem?_map] at e
    cases q : ns[j]? with
    | none => rw [q] at e; cases e
    | some n =>
      rw [q] at e
      obtain ⟨b, hb⟩ := L.al n (List.mem_of_getElem? q)
      simp [hb] at e
      exact ⟨n, rfl, by rw [hb, e]⟩
  have hcell : ∀ (j : Nat) (c : Cell), (cellsO M ns)[j]? = some c → ∃ n c0, ns[j]? = some n ∧ M[n]? = some c0 ∧ c = reC ns c0 := fun j c e1 => by
    unfold cellsO at e1
    rw [List.getElem?_map, Option.map_eq_some_iff] at e1
    obtain ⟨n, h1, rfl⟩ := e1
    obtain ⟨a, ha⟩ := L.al n (List.mem_of_getElem? h1)
    have hM : n < M.length := by rw [S.mem.len]; exact (List.getElem?_eq_some_iff.mp ha).1
    exact ⟨n, M[n], h1, List.getElem?_eq_getElem hM, by rw [List.getElem?_eq_getElem hM]; rfl⟩
  refine ⟨hl, i0, Bc G ι i0, fun a ha => ?_, hr i0 hi, ⟨?_, fun j l a e1 e2 => ?_, fun j c a e1 e2 => ?_, fun j e => ?_, fun j c e1 => ?_⟩, fun x M' v H' rr => ?_, fun rv cn M' v H' hcn rr => ?_⟩
  · rcases ha with ha | ha | ⟨ha, _⟩
    · obtain ⟨o, ho⟩ := S.bad a ha
      by_cases h0 : a ∈ G.i0
      · exact S.i0there a h0
      · exact ⟨o, (S.kp a o ho (by simpa using h0)).1⟩
    · exact (S.hid a ha).2
    · exact S.mem.there ha
  · rw [hi]; simp [cellsO]
  · obtain ⟨n, h1, h2⟩ := hget j a e1
    obtain ⟨m, h3, h4⟩ := hget l a e2
    have e3 := S.mem.nod _ _ _ h2 h4
    subst e3
    exact nodup_ix L.nd h1 h3
  · obtain ⟨n, c0, h1, h2, rfl⟩ := hcell j c e1
    obtain ⟨n', h3, h4⟩ := hget j a e2
    rw [h1] at h3; cases h3
    have q := S.mem.cell n c0 a h2 h4
    cases c0 with
    | gone => exact q.elim
    | lst ds => obtain ⟨xs, q1, l, r⟩ := q; exact ⟨xs, q1, l, RDs.dn hsub r⟩
    | dk kvs => obtain ⟨xs, q1, l, r⟩ := q; exact ⟨xs, q1, l, RDs.dn hsub r⟩
    | dn kvs => obtain ⟨xs, q1, l, r1, r2⟩ := q; exact ⟨xs, q1, l, RDs.dn hsub r1, RDs.dn hsub r2⟩
    | nd kd its =>
      obtain ⟨xs, q1, l, r⟩ := q
      refine ⟨xs, ?_, by rw [List.length_map]; exact l, RIs.re L hi (fun t ht => ?_) r⟩
      · cases kd with
        | ob c fs =>
          obtain ⟨dx, p1, p2, p3, p4⟩ := q1
          exact ⟨dx, p1, p2, hni dx p3, p4⟩
      · obtain ⟨q, _, hq⟩ := L.bf j n kd its h1 h2 t ht
        exact List.mem_of_getElem? hq
  · rw [List.getElem?_map] at e
    cases q : i0[j]? with
    | none => rw [q] at e; cases e
    | some b => rw [q] at e; cases e
  · obtain ⟨n, c0, h1, h2, rfl⟩ := hcell j c e1
    cases c0 with
    | nd kd its =>
      intro t ht
      obtain ⟨u, hu, rfl⟩ := re_refs ht
      obtain ⟨q, hq, hqe⟩ := L.bf j n kd its h1 h2 u hu
      have := nodup_ix L.nd (at_idx (List.mem_of_getElem? hqe)) hqe
      omega
    | _ => trivial
  · obtain ⟨rd, rm, k, ob⟩ := rr
    have hl : M'.length = i0.length := by rw [rm.len]; simp
    have S2 := S.afterO (r := []) (cs := []) L hi hl rfl (fun a h => by simp at h) (by simpa using rm) (by simpa using k) ob (by simp)
    have rd2 := RD.up (r := []) S (by simpa using k) (by simpa using rd)
    simp only [List.map_nil, List.append_nil] at S2 rd2
    exact ⟨fun a o e n => ⟨(k a o e (hni a n)).1, n⟩, S2, rd2⟩
  · obtain ⟨a, rfl, ha, rm, k, ob⟩ := (RR.of hcn).mpr rr
    have hl : M'.length = i0.length := by have := rm.len; simp at this; exact this
    have S2 := S.afterO (r := [a]) (cs := [cn]) L hi hl rfl (fun b h => by simp at h; subst h; exact ha) (by simpa using rm) (by simpa using k) ob (by
      cases rv with
      | d x => cases hcn
      | new ds => cases hcn; simp
      | newK kvs => cases hcn; simp)
    refine ⟨a, rfl, fun b o e n => ⟨(k b o e (hni b n)).1, fun h => ?_⟩, by simpa using S2, backO_len _ _ _⟩
    rcases List.mem_append.mp h with h | h
    · exact n h
    · simp at h; subst h; rw [ha] at e; cases e
def callO (ms : List Bool) (sp : SpD) (M : Mem) (xs : List Sv) (Q : Rv → Mem → Prop) : Prop :=
  ok (handO M ms xs []) fun r => sp r.1 (cellsO M r.2) fun v Mc => Q v (backO r.2 Mc M)
theorem call_inO {n : Nat} {sp : SpD} {ms : List Bool} {xs : List Sv} {vs : List V} {Q0 : Rv → Mem → Prop} {Q : VK} {E : XK} (S : Sr K G δ M ι σ H) (r : RSs K G.N H ι xs vs) (hn : xs.length = n) (h : callO ms sp M xs Q0)
    (z1 : ∀ x M' H' v, Q0 (.d x) M' → Kp ι H ι H' → Sr K G δ M' ι σ H' → RD K G.N H' ι x v → Q v H')
    (z2 : ∀ rv c M' H' a, rv.cell = some c → Q0 rv M' → Kp ι H (ι ++ [some a]) H' → Sr K G δ (M' ++ [c]) (ι ++ [some a]) σ H' → M'.length = M.length → Q (.ref a) H') : lP K n sp vs H Q E := by
  obtain ⟨⟨as, ns⟩, e, h⟩ := ok_elim h
  obtain ⟨hl, i0, B, hB, ra, rm, c1, c2⟩ := call_genO S r e
  refine ⟨as, cellsO M ns, i0, B, _, hl.trans hn, hB, ra, rm, h, fun rv M' v H' q rr => ?_⟩
  cases rv with
  | d x =>
    obtain ⟨k, S2, rd⟩ := c1 x M' v H' rr
    exact z1 x _ H' v q k S2 rd
  | new ds =>
    obtain ⟨a, rfl, k, S2, hl2⟩ := c2 _ _ M' v H' rfl rr
    exact z2 _ _ _ H' a rfl q k S2 hl2
  | newK kvs =>
    obtain ⟨a, rfl, k, S2, hl2⟩ := c2 _ _ M' v H' rfl rr
    exact z2 _ _ _ H' a rfl q k S2 hl2
end
end VL
set_option Elab.async false
set_option linter.all false
set_option maxRecDepth 100000
set_option maxHeartbeats 2000000
namespace VL
open PySem PySem.Spec L2 RT RZ PyProof.Rows HT
section
variable {X : Cx} {CX : CXT} {k : Nat} {f C : Addr} {fd : FuncData} {ps : List Str} {sp : Sp} {dvs : List V} {ds : List Value} {E : XK} {x m : Str} {p pos apos : Pos} {e o : Expr} {es : List Expr} {ta : TE} {t : TA}
/-- o.m(e, ..) -/
theorem pe_methg {pl : Sem Bool} (he : PE X o ta) (c : Cls X.K C) (hm : Meth X.K C m f) (F : FnG X.prog X.w X.K X.mg X.base CX k f fd ps sp) (hr : RoomG k X.A) (hb : Binds X.K fd ps ds) (hd : Vals dvs ds) (hx : Passes CX X E) (ha : PA X (e :: es) t)
    (hst : starEach (e :: es) X.env = (false, eval e X.env) :: starEach es X.env := by rfl) (hpl : (backTo pos (starEach es X.env)).any (·.1) = false := by rfl)
    (ht : eval (.Call (.Attribute o m apos) (e :: es) [] pos) X.env = (do
      let ov ← eval o X.env
      standAt apos.atName
      let (f, first) ← holding [ov] (getMethod ov m pl)
      callWith pos f first (backTo pos (starEach (e :: es) X.env)) (backToKw pos (keywordEach [] X.env))) := by rfl) :
    PE X (.Call (.Attribute o m apos) (e :: es) [] pos) (tMeth C m sp dvs E ta t) := by
  refine ⟨fun pins s σ H Q I h => ?_⟩
  refine PySem.W.methodCall_KW (pl := pl) (thn (he.run pins s σ H _ I h) fun u s1 ⟨x, H1, I1, rx, a, dx, fs, ex, ea, l, q⟩ => ?_) ht
  subst ex
  obtain rfl : u = Value.ref a := rx
  refine getmeth_ok I1 ea c hm l ?_
  refine PySem.W.callWith_K (first := [.ref a]) (h₀ := X.base) I.ok.mod.kin hm.kp (thn (ha.run pos pins s1 σ H1 _ I1 q) fun us s2 ⟨vs, H2, I2, r, q2⟩ => ⟨I2.kIn, ?_⟩) hst hpl
  exact run_g (us := .ref a :: us) (vs := .ref a :: vs) F hr hb hd hx I2 (.cons rfl r) q2
theorem pe_methg0 {pl : Sem Bool} (he : PE X o ta) (c : Cls X.K C) (hm : Meth X.K C m f) (F : FnG X.prog X.w X.K X.mg X.base CX k f fd ps sp) (hr : RoomG k X.A) (hb : Binds X.K fd ps ds) (hd : Vals dvs ds) (hx : Passes CX X E)
    (ht : eval (.Call (.Attribute o m apos) [] [] pos) X.env = (do
      let ov ← eval o X.env
      standAt apos.atName
      let (f, first) ← holding [ov] (getMethod ov m pl)
      callWith pos f first (backTo pos (starEach [] X.env)) (backToKw pos (keywordEach [] X.env))) := by rfl) :
    PE X (.Call (.Attribute o m apos) [] [] pos) (tMeth C m sp dvs E ta tNil) := by
  refine ⟨fun pins s σ H Q I h => ?_⟩
  refine PySem.W.methodCall_KW (pl := pl) (thn (he.run pins s σ H _ I h) fun u s1 ⟨x, H1, I1, rx, a, dx, fs, ex, ea, l, q⟩ => ?_) ht
  subst ex
  obtain rfl : u = Value.ref a := rx
  refine getmeth_ok I1 ea c hm l ?_
  exact PySem.W.callWith_K0 (first := [.ref a]) I1.kIn hm.kp (run_g (us := [.ref a]) (vs := [.ref a]) F hr hb hd hx I1 (.cons rfl .nil) q)
end
/-- a method that may be called -/
structure CaM (P : Program) (w : World) (K : PySem.W.Frag) (mg : Str → Option Value) (base : Heap) (k : Nat) (c m : Str) (n : Nat) (sp : SpD) : Prop where
  cl : Cls K (He.ga K c)
  ex : ∃ (f : Addr) (fd : FuncData) (ps : List Str), FnG P w K mg base C8.CX0 k f fd ps (lP K n sp) ∧ Meth K (He.ga K c) m f ∧ Binds K fd ps []
/-- whether this is an object of the class, with no field of the method's name -/
def isOb (c m : Str) (M : Mem) : Sv → Bool
  | .ref n => match M[n]? with
    | some (.nd (.ob c' fs) _) => decide (c' = c) && !fs.contains m
    | _ => false
  | _ => false
def eCallO (ms : List Bool) (sp : SpD) (tA : TA') : TE' := fun δ M Q => tA δ M fun xs M1 => callO ms sp M1 xs (rvQ Q)
def eMeth (c m : Str) (ms : List Bool) (sp : SpD) (to : TE') (tA : TA') : TE' := fun δ M Q => to δ M fun x M1 => isOb c m M1 x = true ∧ tA δ M1 fun xs M2 => callO ms sp M2 (x :: xs) (rvQ Q)
theorem look_none {m : Str} : ∀ {fs : List Str} {xs : List V}, fs.contains m = false → (fs.zip xs).lookup m = none
  | [], xs, _ => by cases xs <;> rfl
  | _ :: _, [], _ => rfl
  | f :: fs, x :: xs, h => by
    rw [List.contains_cons, Bool.or_eq_false_iff] at h
    rw [List.zip_cons_cons, List.lookup_cons, h.1]
    exact look_none h.2
section
variable {X : Cx} {G : Gd} {k j n : Nat} {c m x : Str} {sp : SpD} {p pos apos : Pos} {e o : Expr} {es : List Expr} {tA : TA'} {to : TE'}
theorem ob_of {δ : DS} {M : Mem} {ι : Ix} {σ : L2.St} {H : Hp} {d : Sv} {v : V} (S : Sr X.K G δ M ι σ H) (r : RS X.K G.N H ι d v) (h : isOb c m M d = true) : ∃ a dx fs, v = .ref a ∧ H a = some (.ins (He.ga X.K c) dx fs) ∧ fs.lookup m = none := by
  unfold isOb at h
  split at h
  · split at h
    · rename_i c' fs its hM
      rw [Bool.and_eq_true, decide_eq_true_eq, Bool.not_eq_true'] at h
      obtain ⟨rfl, hf⟩ := h
      obtain ⟨a, rfl, ha, xs, ⟨dx, hH, hdx, hn, hlen⟩, _, r⟩ := S.mem.at r hM (fun z => nomatch z)
      exact ⟨a, dx, _, rfl, hH, look_none hf⟩
    · cases h
  · cases h
theorem ve_callO (ms : List Bool) (c : Ca X.prog X.w X.K X.mg X.base k x n sp) (hr : RoomG j X.A) (hk : k ≤ j) (hg : Gl X x) (ha : VA X G (e :: es) n tA)
    (hdb : (x == ("__debug__" : Str)) = false := by decide) (he : starEach (e :: es) X.env = (false, eval e X.env) :: starEach es X.env := by rfl) (hpl : (backTo pos (starEach es X.env)).any (·.1) = false := by rfl) :
    VE X G (.Call (.Name x p) (e :: es) [] pos) (eCallO ms sp tA) := by
  obtain ⟨f, fd, ps, F, hm, kp, b⟩ := c.ex
  refine PE.weak (pe_callg F (hr.mono hk) hg hm kp b .nil C8.pass0 ha hdb he hpl (E := C8.E0)) fun σ H Q ⟨δ, M, ι, Q0, S, q, z⟩ => ?_
  refine thA S q fun xs M1 ι1 H1 vs hl h1 p1 k1 S1 r1 => ?_
  show lP X.K n sp (vs ++ []) H1 Q _
  rw [List.append_nil]
  refine call_inO S1 r1 hl h1 (fun y M' H' v q2 k2 S2 r2 => z _ M' ι1 H' v q2 p1 (k1.trans k2) S2 r2) fun rv cn M' H' a hcn q2 k2 S2 hl2 => ?_
  refine z (.ref M'.length) _ _ H' _ (rvQ_cell hcn q2) (p1.trans (Ex.app _ _)) (k1.trans k2) S2 ⟨a, rfl, .inl ?_⟩
  rw [hl2, S1.mem.len, List.getElem?_append_right (Nat.le_refl _)]; simp
theorem ve_meth {pl : Sem Bool} (ms : List Bool) (cm : CaM X.prog X.w X.K X.mg X.base k c m (n + 1) sp) (hr : RoomG j X.A) (hk : k ≤ j) (ho : VE X G o to) (ha : VA X G (e :: es) n tA)
    (hst : starEach (e :: es) X.env = (false, eval e X.env) :: starEach es X.env := by rfl) (hpl : (backTo pos (starEach es X.env)).any (·.1) = false := by rfl)
    (ht : eval (.Call (.Attribute o m apos) (e :: es) [] pos) X.env = (do
      let ov ← eval o X.env
      standAt apos.atName
      let (f, first) ← holding [ov] (getMethod ov m pl)
      callWith pos f first (backTo pos (starEach (e :: es) X.env)) (backToKw pos (keywordEach [] X.env))) := by rfl) :
    VE X G (.Call (.Attribute o m apos) (e :: es) [] pos) (eMeth c m ms sp to tA) := by
  obtain ⟨f, fd, ps, F, hm, b⟩ := cm.ex
  refine PE.weak (pe_methg (pl := pl) ho cm.cl hm F (hr.mono hk) b .nil C8.pass0 ha hst hpl ht (E := C8.E0)) fun σ H Q ⟨δ, M, ι, Q0, S, q, z⟩ => ?_
  refine th1 S q fun x M1 ι1 H1 v q1 p1 k1 S1 r1 => ?_
  obtain ⟨hob, q1⟩ := q1
  obtain ⟨a, dx, fs, rfl, hH, hlk⟩ := ob_of S1 r1 hob
  refine ⟨a, dx, fs, rfl, hH, hlk, ?_⟩
  refine thA S1 q1 fun xs M2 ι2 H2 vs hl h1 p2 k2 S2 r2 => ?_
  show lP X.K (n + 1) sp (.ref a :: (vs ++ [])) H2 Q _
  rw [List.append_nil]
  have r3 : RSs X.K G.N H2 ι2 (x :: xs) (.ref a :: vs) := ⟨_, _, rfl, r1.mono k2 p2 (fun _ _ _ _ z => z), r2⟩
  refine call_inO S2 r3 (by simp [hl]) h1 (fun y M' H' v q3 k3 S3 r4 => z _ M' ι2 H' v q3 (p1.trans p2) ((k1.trans k2).trans k3) S3 r4) fun rv cn M' H' b hcn q3 k3 S3 hl2 => ?_
  refine z (.ref M'.length) _ _ H' _ (rvQ_cell hcn q3) ((p1.trans p2).trans (Ex.app _ _)) ((k1.trans k2).trans k3) S3 ⟨b, rfl, .inl ?_⟩
  rw [hl2, S2.mem.len, List.getElem?_append_right (Nat.le_refl _)]; simp
theorem ve_meth0 {pl : Sem Bool} (cm : CaM X.prog X.w X.K X.mg X.base k c m 1 sp) (hr : RoomG j X.A) (hk : k ≤ j) (ho : VE X G o to)
    (ht : eval (.Call (.Attribute o m apos) [] [] pos) X.env = (do
      let ov ← eval o X.env
      standAt apos.atName
      let (f, first) ← holding [ov] (getMethod ov m pl)
      callWith pos f first (backTo pos (starEach [] X.env)) (backToKw pos (keywordEach [] X.env))) := by rfl) :
    VE X G (.Call (.Attribute o m apos) [] [] pos) (eMeth c m [true] sp to (aP [])) := by
  obtain ⟨f, fd, ps, F, hm, b⟩ := cm.ex
  refine PE.weak (pe_methg0 (pl := pl) ho cm.cl hm F (hr.mono hk) b .nil C8.pass0 ht (E := C8.E0)) fun σ H Q ⟨δ, M, ι, Q0, S, q, z⟩ => ?_
  refine th1 S q fun x M1 ι1 H1 v q1 p1 k1 S1 r1 => ?_
  obtain ⟨hob, q1⟩ := q1
  obtain ⟨a, dx, fs, rfl, hH, hlk⟩ := ob_of S1 r1 hob
  refine ⟨a, dx, fs, rfl, hH, hlk, ?_⟩
  show lP X.K 1 sp [.ref a] H1 Q C8.E0
  have h1 : callO [true] sp M1 [x] (rvQ Q0) := q1
  have r3 : RSs X.K G.N H1 ι1 [x] [.ref a] := ⟨_, _, rfl, r1, rfl⟩
  refine call_inO S1 r3 rfl h1 (fun y M' H' v q3 k3 S3 r4 => z _ M' ι1 H' v q3 p1 (k1.trans k3) S3 r4) fun rv cn M' H' b hcn q3 k3 S3 hl2 => ?_
  refine z (.ref M'.length) _ _ H' _ (rvQ_cell hcn q3) (p1.trans (Ex.app _ _)) (k1.trans k3) S3 ⟨b, rfl, .inl ?_⟩
  rw [hl2, S1.mem.len, List.getElem?_append_right (Nat.le_refl _)]; simp
end
end VL
set_option Elab.async false
set_option linter.all false
set_option maxRecDepth 100000
set_option maxHeartbeats 2000000
namespace VL
open PySem PySem.Spec L2 RT RZ PyProof.Rows HT
def putI (f : Str) (i : Int) : List Str → List (D ⊕ Nat) → Option (List (D ⊕ Nat))
  | g :: fs, d :: its => if g = f then (match d with
    | .inl (.int _) => some (.inl (.int i) :: its)
    | _ => none) else (putI f i fs its).map fun r => d :: r
  | _, _ => none
theorem putI_ok {K : PySem.W.Frag} {N : Bool → Addr → Prop} {H : Hp} {ι : Ix} {f : Str} {i : Int} : ∀ {fs : List Str} {its its' : List (D ⊕ Nat)} {xs : List V}, RIs K N H ι its xs → putI f i fs its = some its' →
    ∃ xs', putF f (.int i) (fs.zip xs) = fs.zip xs' ∧ RIs K N H ι its' xs' ∧ SameF (fs.zip xs) (fs.zip xs') ∧ xs'.length = xs.length ∧ ∀ t, Sum.inr t ∈ its' → Sum.inr t ∈ its
  | [], its, its', xs, _, e => by unfold putI at e; cases e
  | _ :: _, [], its', xs, _, e => by unfold putI at e; cases e
  | g :: fs, d :: its, its', xs, h, e => by
    obtain ⟨x, r, rfl, h1, h2⟩ := h
    unfold putI at e
    by_cases hg : g = f
    · rw [if_pos hg] at e
      split at e
      · rename_i j
        cases e
        cases (show x = .int j from h1)
        refine ⟨.int i :: r, ?_, ⟨_, _, rfl, rfl, h2⟩, .cons ⟨rfl, .inr ⟨j, i, rfl, rfl⟩⟩ (SameF.refl _), rfl, fun t ht => ?_⟩
        · show (if g = f then _ else _) = _
          rw [if_pos hg]; rfl
        · rcases List.mem_cons.mp ht with ht | ht
          · cases ht
          · exact List.mem_cons_of_mem _ ht
      · cases e
    · rw [if_neg hg] at e
      obtain ⟨its2, e2, rfl⟩ := Option.map_eq_some_iff.mp e
      obtain ⟨xs', q1, q2, q3, q4, q5⟩ := putI_ok h2 e2
      refine ⟨x :: xs', ?_, ⟨_, _, rfl, h1, q2⟩, .cons ⟨rfl, .inl rfl⟩ q3, by simp [q4], fun t ht => ?_⟩
      · show (if g = f then _ else _) = _
        rw [if_neg hg]
        exact congrArg ((g, x) :: ·) q1
      · rcases List.mem_cons.mp ht with ht | ht
        · rw [ht]; exact List.mem_cons_self
        · exact List.mem_cons_of_mem _ (q5 t ht)
/-- the memory, an object's int field laid anew -/
def fldPut (cs : List (Str × List Str)) (f : Str) (M : Mem) : Sv → Sv → Option Mem
  | .d (.int i), .ref n => match M[n]? with
    | some (.nd (.ob c fs) its) => (cs.lookup c).bind fun gs => if f ∈ gs ∧ fs.length < 1000 then (putI f i fs its).map fun its' => M.set n (.nd (.ob c fs) its') else none
    | _ => none
  | _, _ => none
def sFldI (cs : List (Str × List Str)) (f : Str) (te to : TE') : TS' := fun E δ M => te δ M fun y M1 => to δ M1 fun x M2 => ok (fldPut cs f M2 y x) fun M3 => E.nx δ M3
section
variable {X : Cx} {G : Gd} {e o : Expr} {te to : TE'} {pos pos' : Pos} {cs : List (Str × List Str)} {f : Str}
theorem vs_fldI (hC : ObC X.K cs) (he : VE X G e te) (ho : VE X G o to) (hs : swapsWith e (some (.Attribute o f pos')) pos.line X.env = pure false := by rfl) : VS X G (.Assign [.Attribute o f pos'] e pos) (sFldI cs f te to) := by
  refine PS.weak (ps_fld ho he hs) fun D σ H ⟨δ, M, ι, E0, S, h, z⟩ => ?_
  refine th1 S h fun y M1 ι1 H1 v q1 p1 k1 S1 r1 => th1 S1 q1 fun x M2 ι2 H2 u q2 p2 k2 S2 r2 => ?_
  obtain ⟨M3, e1, q3⟩ := ok_elim q2
  unfold fldPut at e1
  split at e1
  · rename_i i n _ _
    split at e1
    · rename_i c fs its hM
      obtain ⟨gs, hg, e1⟩ := Option.bind_eq_some_iff.mp e1
      split at e1
      · rename_i hf
        obtain ⟨its', hp, rfl⟩ := Option.map_eq_some_iff.mp e1
        obtain ⟨a, rfl, ha, xs, ⟨dx, hH, hdx, hnx, hlen⟩, hl, r⟩ := S2.mem.at r2 hM (fun z => nomatch z)
        obtain ⟨hc, hnf⟩ := hC _ (look_mem hg)
        cases (show _ = _ from r1)
        obtain ⟨xs', g1, g2, g3, g4, g5⟩ := putI_ok r hp
        have hm := List.mem_of_getElem? ha
        have k : Kp ι2 H2 ι2 (upd H2 a (.ins (He.ga X.K c) dx (fs.zip xs'))) := Kp.turned hm
        have hda : dx ≠ a := fun z => hnx (by rw [z]; exact hm)
        refine ⟨a, _, dx, _, rfl, hH, hc, hnf f hf.1, ?_, ?_⟩
        · rw [List.length_zip]; omega
        · rw [g1]
          refine z.nx _ _ ι2 _ _ q3 (p1.trans p2) ((k1.trans k2).trans k) (S2.turned ha ⟨xs', ⟨dx, upd_same, by rw [upd_ne hda]; exact hdx, hnx, by rw [g4]; exact hlen⟩, ?_, g2.mono k (Ex.refl _) fun _ _ _ _ z => z⟩ (fun t ht => S2.mem.wf _ _ hM t (g5 t ht)) ⟨fun C dx2 fs2 q => ?_, fun C dx2 fs2 q => ?_⟩)
          · have e8 := g2.length
            have e9 := r.length
            omega
          · rw [hH] at q; cases q
            exact ⟨_, rfl, g3⟩
          · cases q
            exact ⟨_, hH⟩
      · cases e1
    · cases e1
  · cases e1
end
end VL
set_option Elab.async false
set_option linter.all false
set_option maxRecDepth 100000
set_option maxHeartbeats 2000000
namespace VL
open PySem PySem.Spec L2 RT RZ PyProof.Rows HT
theorem RoomG.make {k : Nat} {A : Around} (r : RoomG (k + 1) A) (C : Addr) (us : List Value) (kw : List (Str × Value)) : RoomG k (A.under (.builtin "type.__call__" ⟨.ref C :: us, kw⟩)) :=
  ⟨r.rm.make C us kw, by
    have h := r.gs
    simp only [Around.under, h]
    first
      | rfl
      | (simp [pushGuards, Code.guards]; done)⟩
section
variable {X : Cx} {CX : CXT} {k : Nat} {f C : Addr} {fd : FuncData} {ps : List Str} {sp : Sp} {dvs : List V} {ds : List Value} {E : XK} {x m : Str} {p pos apos : Pos} {e o : Expr} {es : List Expr} {ta : TE} {t : TA}
theorem run_makeg {pins : List (Addr × Obj)} {σ : L2.St} {H : Hp} {s : Shared} {Q : VK} {us : List Value} {vs : List V} (M : Mk X.K C f) (F : FnG X.prog X.w X.K X.mg X.base CX k f fd ps sp) (hr : RoomG (k + 1) X.A) (hb : Binds X.K fd ps ds) (hd : Vals dvs ds)
    (hx : Passes CX X E) (I : Inv X pins σ H s) (r : Vals vs us)
    (h : ∀ x dx, H x = none → H dx = none → dx ≠ x → sp (.ref x :: (vs ++ dvs)) (upd (upd H dx (.own x)) x (.ins C dx [])) (fun v H2 => v = .non ∧ Q (.ref x) H2) E) :
    wpAny (model X.prog X.w) X.A (call (.ref C) us) (EP X pins σ Q) X.xe s := by
  have hq := h (s.heap.objs.size + 1) s.heap.objs.size (I.hok.fresh (Nat.le_succ _)) (I.hok.fresh (Nat.le_refl _)) (Nat.ne_of_lt (Nat.lt_succ_self _))
  have I2 := Inv.made (C := C) I
  have r2 : Vals (V.ref (s.heap.objs.size + 1) :: (vs ++ dvs)) (Value.ref (s.heap.objs.size + 1) :: (us ++ ds)) := .cons rfl (r.append hd)
  have hl : (Value.ref (s.heap.objs.size + 1) :: us ++ ds).length = ps.length := by
    have e := r2.length
    rw [F.len _ _ _ _ hq] at e
    exact e.symm
  refine wpAny_call (make_map (f := f) I.kIn M.makes M.init (beq_iff_eq.mp M.fn) (codeAny_mono (F.run _ X.stack _ _ ⟨Value.ref (s.heap.objs.size + 1) :: us, []⟩ (Value.ref (s.heap.objs.size + 1) :: (us ++ ds)) _ _ E (hr.make C us [])
    (I2.env0.make C us []) (hb _ (Value.ref (s.heap.objs.size + 1) :: us) I2.kIn hl) r2 hq) fun r s' hq' => ?_))
  cases r with
  | error e => exact hx pins σ _ _ e s' I2 hq'
  | ok fl =>
    cases fl with
    | ret u =>
      obtain ⟨v, H', I3, rv, ev, q3⟩ := I2.after hq'
      subst ev
      exact ⟨rv, ⟨V.ref (s.heap.objs.size + 1), H', I3, rfl, q3⟩⟩
    | next => exact False.elim hq'
    | brk => exact False.elim hq'
    | cont => exact False.elim hq'
theorem pe_makeg (M : Mk X.K C f) (F : FnG X.prog X.w X.K X.mg X.base CX k f fd ps sp) (hr : RoomG (k + 1) X.A) (hg : Gl X x) (hm : X.mg x = some (.ref C)) (hb : Binds X.K fd ps ds) (hd : Vals dvs ds) (hx : Passes CX X E)
    (ha : PA X (e :: es) t) (hdb : (x == ("__debug__" : Str)) = false := by decide) (he : starEach (e :: es) X.env = (false, eval e X.env) :: starEach es X.env := by rfl) (hpl : (backTo pos (starEach es X.env)).any (·.1) = false := by rfl) :
    PE X (.Call (.Name x p) (e :: es) [] pos) (tMake C sp dvs E t) := by
  refine ⟨fun pins s σ H Q I h => ?_⟩
  refine wpAny_Call_Name_kw (ld_glob I hg hm ?_ hdb)
  refine PySem.W.callWith_K (h₀ := X.base) I.ok.mod.kin M.kp (thn (ha.run pos pins s σ H _ I h) fun us s1 ⟨vs, H1, I1, r, q⟩ => ⟨I1.kIn, ?_⟩) he hpl
  exact run_makeg M F hr hb hd hx I1 r q
end
end VL
set_option Elab.async false
set_option linter.all false
set_option maxRecDepth 100000
set_option maxHeartbeats 2000000
namespace VL
open PySem PySem.Spec L2 RT RZ PyProof.Rows HT
section
variable {K : PySem.W.Frag} {G : Gd} {δ : DS} {M : Mem} {ι : Ix} {σ : L2.St} {H : Hp} {x dx C : Addr} {fs fs' : List (Str × V)}
/-- data does not hang on what is an instance -/
theorem RD.insT {N : Bool → Addr → Prop} {H H' : Hp} {ι ι' : Ix} (hx : H x = some (.ins C dx fs)) (hk : ∀ a o, a ≠ x → H a = some o → H' a = some o) (hi : ∀ a, a ≠ x → some a ∉ ι → some a ∉ ι') : ∀ {d : D} {v : V}, RD K N H ι d v → RD K N H' ι' d v := fun {d v} h =>
  RD.go (fun a xs q n => have ne : a ≠ x := fun z => by rw [z, hx] at q; cases q
    ⟨hk a _ ne q, hi a ne n⟩) (fun a o l q n => have ne : a ≠ x := fun z => by rw [z, hx] at q; cases q
    ⟨hk a _ ne q, hi a ne n⟩) (fun a xs q n z => have ne : a ≠ x := fun z => by rw [z, hx] at q; cases q
    ⟨hk a _ ne q, hi a ne n, z⟩) d v h
theorem RDs.insT {N : Bool → Addr → Prop} {H H' : Hp} {ι ι' : Ix} (hx : H x = some (.ins C dx fs)) (hk : ∀ a o, a ≠ x → H a = some o → H' a = some o) (hi : ∀ a, a ≠ x → some a ∉ ι → some a ∉ ι') : ∀ {d : List D} {v : List V}, RDs K N H ι d v → RDs K N H' ι' d v := fun {d v} h =>
  RDs.go (fun a xs q n => have ne : a ≠ x := fun z => by rw [z, hx] at q; cases q
    ⟨hk a _ ne q, hi a ne n⟩) (fun a o l q n => have ne : a ≠ x := fun z => by rw [z, hx] at q; cases q
    ⟨hk a _ ne q, hi a ne n⟩) (fun a xs q n z => have ne : a ≠ x := fun z => by rw [z, hx] at q; cases q
    ⟨hk a _ ne q, hi a ne n, z⟩) d v h
theorem RIs.insT {N : Bool → Addr → Prop} {H H' : Hp} {ι ι' : Ix} (hx : H x = some (.ins C dx fs)) (hk : ∀ a o, a ≠ x → H a = some o → H' a = some o) (hi : ∀ a, a ≠ x → some a ∉ ι → some a ∉ ι') (ex : Ex ι ι') : ∀ {its : List (D ⊕ Nat)} {v : List V}, RIs K N H ι its v → RIs K N H' ι' its v
  | [], _, h => h
  | .inl d :: its, v, h => by
    obtain ⟨y, r, e, h1, h2⟩ := h
    exact ⟨y, r, e, RD.insT hx hk hi h1, RIs.insT hx hk hi ex h2⟩
  | .inr n :: its, v, h => by
    obtain ⟨y, r, e, ⟨a, e2, q⟩, h2⟩ := h
    refine ⟨y, r, e, ⟨a, e2, ?_⟩, RIs.insT hx hk hi ex h2⟩
    rcases q with q | q
    · exact ex n _ q
    · rcases ex n _ q with z | z <;> exact .inr z
/-- the state, over a heap and names that differ at one instance alone -/
theorem Sr.insT {H' : Hp} {ι' : Ix} {M' : Mem} (S : Sr K G δ M ι σ H) (hx : H x = some (.ins C dx fs)) (h0 : G.He x = none) (hn : some x ∉ ι) (hk : ∀ a o, a ≠ x → H a = some o → H' a = some o) (hi : ∀ a, a ≠ x → some a ∉ ι → some a ∉ ι') (ex : Ex ι ι')
    (m : RM K G.N H' ι' M') (pre : ∀ (n : Nat) (a : Addr), G.i0[n]? = some a → ι'[n]? = some (some a)) (nw : ∀ a, some a ∈ ι' → a ∉ G.i0 → G.He a = none) (hd : ∀ a, G.Hd a → some a ∉ ι' ∧ ∃ o, H' a = some o) : Sr K G δ M' ι' σ H' := by
  have hi0 : ∀ a ∈ G.i0, a ≠ x := fun a ha z => by
    obtain ⟨n, hn2⟩ := List.getElem?_of_mem ha
    exact hn (by rw [← z]; exact List.mem_of_getElem? (S.pre n a hn2))
  refine ⟨S.len, fun i d e => ?_, m, pre, fun a o e n => ?_, nw, S.bad, hd, S.obk.trans fun a ha => ?_⟩
  · obtain ⟨v, e1, r⟩ := S.slot i d e
    refine ⟨v, e1, ?_⟩
    cases d with
    | d y => exact RD.insT hx hk hi r
    | ref n =>
      obtain ⟨a, e2, q⟩ := r
      refine ⟨a, e2, ?_⟩
      rcases q with q | q
      · exact ex n _ q
      · rcases ex n _ q with z | z <;> exact .inr z
    | bor ds =>
      obtain ⟨a, xs, e2, q, n, z, l, r⟩ := r
      have ne : a ≠ x := fun z => by rw [z, hx] at q; cases q
      exact ⟨a, xs, e2, hk a _ ne q, hi a ne n, z, l, RDs.insT hx hk hi r⟩
  · have ne : a ≠ x := fun z => by rw [z, h0] at e; cases e
    obtain ⟨q1, q2⟩ := S.kp a o e n
    exact ⟨hk a o ne q1, hi a ne q2⟩
  · obtain ⟨u, hu⟩ := S.i0there a ha
    have e9 := hk a u (hi0 a ha) hu
    rw [show H' a = H a from e9.trans hu.symm]
    exact ⟨fun C dx fs e => ⟨fs, e, SameF.refl fs⟩, fun C dx fs e => ⟨fs, e⟩⟩
theorem RC.insT {H' : Hp} {ι' : Ix} {c : Cell} {a : Addr} (hx : H x = some (.ins C dx fs)) (ha : a ≠ x) (hk : ∀ a o, a ≠ x → H a = some o → H' a = some o) (hi : ∀ a, a ≠ x → some a ∉ ι → some a ∉ ι') (ex : Ex ι ι') (h : RC K G.N H ι c a) : RC K G.N H' ι' c a := by
  cases c with
  | gone => exact h.elim
  | lst ds => obtain ⟨xs, q, l, r⟩ := h; exact ⟨xs, hk a _ ha q, l, RDs.insT hx hk hi r⟩
  | dk kvs => obtain ⟨ws, q, z, r⟩ := h; exact ⟨ws, hk a _ ha q, z, RDs.insT hx hk hi r⟩
  | dn kvs => obtain ⟨xs, q, z, r1, r2⟩ := h; exact ⟨xs, hk a _ ha q, z, RDs.insT hx hk hi r1, RDs.insT hx hk hi r2⟩
  | nd kd its =>
    obtain ⟨xs, q, l, r⟩ := h
    refine ⟨xs, ?_, l, RIs.insT hx hk hi ex r⟩
    cases kd with
    | ob c fs =>
      obtain ⟨dy, q1, q2, q3, q4⟩ := q
      have ne : dy ≠ x := fun z => by rw [z, hx] at q2; cases q2
      exact ⟨dy, hk a _ ha q1, hk dy _ ne q2, hi dy ne q3, q4⟩
/-- a field more of an object that is being made -/
theorem Sr.insU (S : Sr K G δ M ι σ H) (hx : H x = some (.ins C dx fs)) (hn : some x ∉ ι) (h0 : G.He x = none) : Sr K G δ M ι σ (upd H x (.ins C dx fs')) := by
  have hk : ∀ a o, a ≠ x → H a = some o → upd H x (.ins C dx fs') a = some o := fun a o ne e => by rw [upd_ne ne]; exact e
  refine S.insT hx h0 hn hk (fun _ _ n => n) (Ex.refl _) ⟨S.mem.len, S.mem.nod, fun n c a e1 e2 => ?_, S.mem.gone, S.mem.wf⟩ S.pre S.new fun a ha => ⟨(S.hid a ha).1, ?_⟩
  · exact (S.mem.cell n c a e1 e2).insT hx (fun z => hn (by rw [← z]; exact List.mem_of_getElem? e2)) hk (fun _ _ n => n) (Ex.refl _)
  · by_cases z : a = x
    · exact ⟨_, by rw [z]; exact upd_same⟩
    · obtain ⟨o, e⟩ := (S.hid a ha).2
      exact ⟨o, hk a o z e⟩
/-- the object, made, gets a name -/
theorem Sr.nameX {c : Cell} (S : Sr K G δ M ι σ H) (hx : H x = some (.ins C dx fs)) (hn : some x ∉ ι) (h0 : G.He x = none) (hh : ¬ G.Hd x) (hc : RC K G.N H (ι ++ [some x]) c x) (hw : c.wf M.length) : Sr K G δ (M ++ [c]) (ι ++ [some x]) σ H := by
  have hi : ∀ a, a ≠ x → some a ∉ ι → some a ∉ ι ++ [some x] := fun a ne n h => by
    rcases List.mem_append.mp h with h | h
    · exact n h
    · simp at h; exact ne h
  refine S.insT hx h0 hn (fun _ _ _ e => e) hi (Ex.app _ _) ⟨by simp [S.mem.len], fun n m a e1 e2 => ?_, fun n c' a e1 e2 => ?_, fun n e => ?_, fun n c' e1 => ?_⟩ (fun n a e => ?_) (fun a ha h1 => ?_) fun a ha => ⟨fun h => ?_, (S.hid a ha).2⟩
  · have at1 : ∀ n a, (ι ++ [some x])[n]? = some (some a) → (n < ι.length ∧ ι[n]? = some (some a)) ∨ (n = ι.length ∧ a = x) := fun n a e => by
      by_cases h : n < ι.length
      · rw [List.getElem?_append_left h] at e; exact .inl ⟨h, e⟩
      · rw [List.getElem?_append_right (by omega)] at e
        cases q : n - ι.length with
        | zero => rw [q] at e; exact .inr ⟨by omega, by simpa using e.symm⟩
        | succ j => rw [q] at e; simp at e
    rcases at1 n a e1 with ⟨_, h1⟩ | ⟨h1, rfl⟩ <;> rcases at1 m a e2 with ⟨_, h2⟩ | ⟨h2, h3⟩
    · exact S.mem.nod n m a h1 h2
    · subst h3; exact absurd (List.mem_of_getElem? h1) hn
    · exact absurd (List.mem_of_getElem? h2) hn
    · omega
  · by_cases h : n < M.length
    · rw [List.getElem?_append_left h] at e1
      rw [List.getElem?_append_left (by rw [← S.mem.len]; exact h)] at e2
      exact (S.mem.cell n c' a e1 e2).insT hx (fun z => hn (by rw [← z]; exact List.mem_of_getElem? e2)) (fun _ _ _ e => e) hi (Ex.app _ _)
    · have h1 : n = M.length := by
        have := (List.getElem?_eq_some_iff.mp e1).1
        simp at this; omega
      subst h1
      rw [List.getElem?_append_right (Nat.le_refl _)] at e1
      rw [List.getElem?_append_right (by rw [S.mem.len]; exact Nat.le_refl _)] at e2
      simp [S.mem.len] at e1 e2
      subst e1 e2
      exact hc
  · by_cases h : n < ι.length
    · rw [List.getElem?_append_left h] at e
      rw [List.getElem?_append_left (by rw [S.mem.len]; exact h)]
      exact S.mem.gone n e
    · rw [List.getElem?_append_right (by omega)] at e
      cases q : n - ι.length with
      | zero => rw [q] at e; simp at e
      | succ j => rw [q] at e; simp at e
  · by_cases h : n < M.length
    · rw [List.getElem?_append_left h] at e1
      exact S.mem.wf n c' e1
    · have h1 : n = M.length := by
        have := (List.getElem?_eq_some_iff.mp e1).1
        simp at this; omega
      subst h1
      rw [List.getElem?_append_right (Nat.le_refl _)] at e1
      simp at e1
      subst e1
      exact hw
  · have e1 := S.pre n a e
    rw [List.getElem?_append_left (List.getElem?_eq_some_iff.mp e1).1]; exact e1
  · rcases List.mem_append.mp ha with z | z
    · exact S.new a z h1
    · simp at z; rw [z]; exact h0
  · rcases List.mem_append.mp h with z | z
    · exact (S.hid a ha).1 z
    · simp at z; exact hh (by rw [← z]; exact ha)
end
end VL
set_option Elab.async false
set_option linter.all false
set_option maxRecDepth 100000
set_option maxHeartbeats 2000000
namespace VL
open PySem PySem.Spec L2 RT RZ PyProof.Rows HT
/-- an object at x is being made; self is slot 0 -/
structure Mkg (K : PySem.W.Frag) (G : Gd) (δ : DS) (M : Mem) (ι : Ix) (σ : L2.St) (H : Hp) (x dx C : Addr) (fs : List Str) (its : List (D ⊕ Nat)) (xs : List V) : Prop where
  S : Sr K G δ M ι σ H
  self : σ[0]? = some (some (.ref x))
  hx : H x = some (.ins C dx (fs.zip xs))
  hd : H dx = some (.own x)
  nx : some x ∉ ι
  nd : some dx ∉ ι
  h0 : G.He x = none
  hh : ¬ G.Hd x
  len : fs.length = xs.length
  r : RIs K G.N H ι its xs
abbrev NS' := (Mem → List Str → List (D ⊕ Nat) → Prop) → DS → Mem → List Str → List (D ⊕ Nat) → Prop
def lN (K : PySem.W.Frag) (G : Gd) (C : Addr) (t : NS') : TS := fun D σ H => ∃ δ M ι x dx fs its xs E0, Mkg K G δ M ι σ H x dx C fs its xs ∧ t E0 δ M fs its ∧
  ∀ M' ι' H' fs' its' xs', E0 M' fs' its' → Ex ι ι' → Mkg K G δ M' ι' σ H' x dx C fs' its' xs' → (∀ a o, a ≠ x → H a = some o → some a ∉ ι → H' a = some o ∧ some a ∉ ι') → D.nx σ H'
def itS : Sv → Option (D ⊕ Nat)
  | .d d => some (.inl d)
  | .ref n => some (.inr n)
  | .bor _ => none
def nSet (f : Str) (te : TE') : NS' := fun E δ M fs its => te δ M fun y M1 => ok (itS y) fun it => (f ∉ fs ∧ fs.length < 1000) ∧ E M1 (fs ++ [f]) (its ++ [it])
def nSeq (a b : NS') : NS' := fun E δ M fs its => a (fun M1 fs1 its1 => b E δ M1 fs1 its1) δ M fs its
theorem RIs.app {K : PySem.W.Frag} {N : Bool → Addr → Prop} {H : Hp} {ι : Ix} {it : D ⊕ Nat} {v : V} (h : RI K N H ι it v) : ∀ {its : List (D ⊕ Nat)} {xs : List V}, RIs K N H ι its xs → RIs K N H ι (its ++ [it]) (xs ++ [v])
  | [], xs, g => by cases (show _ = _ from g); exact ⟨v, [], rfl, h, rfl⟩
  | d :: its, xs, g => by
    obtain ⟨y, r, rfl, g1, g2⟩ := g
    exact ⟨y, r ++ [v], rfl, g1, RIs.app h g2⟩
theorem itS_ri {K : PySem.W.Frag} {N : Bool → Addr → Prop} {H : Hp} {ι : Ix} {y : Sv} {it : D ⊕ Nat} {v : V} (e : itS y = some it) (h : RS K N H ι y v) : RI K N H ι it v := by
  cases y with
  | d d => cases e; exact h
  | ref n => cases e; exact h
  | bor ds => cases e
theorem putF_new {f : Str} {v : V} : ∀ {fs : List Str} {xs : List V}, f ∉ fs → fs.length = xs.length → putF f v (fs.zip xs) = (fs ++ [f]).zip (xs ++ [v])
  | [], [], _, _ => rfl
  | [], _ :: _, _, h => by cases h
  | _ :: _, [], _, h => by cases h
  | g :: fs, x :: xs, hn, h => by
    have hg : ¬ g = f := fun z => hn (by rw [z]; exact List.mem_cons_self)
    show (if g = f then _ else _) = _
    rw [if_neg hg]
    exact congrArg ((g, x) :: ·) (putF_new (fun z => hn (List.mem_cons_of_mem _ z)) (Nat.succ.inj h))
section
variable {X : Cx} {G : Gd} {e : Expr} {te : TE'} {p p' pos : Pos} {f s : Str} {C : Addr} {st : Stmt} {ss : List Stmt} {a b : NS'}
theorem vn_set (hcl : Cls X.K C) (hna : NoAttr X.K C f) (hN : X.N[0]? = some s) (hv : Vis X.env.scope s) (he : VE X G e te) (hs : swapsWith e (some (.Attribute (.Name s p) f p')) pos.line X.env = pure false := by rfl)
    (hdb : (s == ("__debug__" : Str)) = false := by decide) (hcd : (s == ("__classdict__" : Str)) = false := by decide) : PS X (.Assign [.Attribute (.Name s p) f p'] e pos) (lN X.K G C (nSet f te)) := by
  refine PS.weak (ps_fld (pe_var hN hv hdb hcd) he hs) fun D σ H ⟨δ, M, ι, x, dx, fs, its, xs, E0, m, q, z⟩ => ?_
  refine th1 m.S q fun y M1 ι1 H1 v q1 p1 k1 S1 r1 => ?_
  obtain ⟨it, e1, ⟨hf, hl⟩, q1⟩ := ok_elim q1
  obtain ⟨hx1, nx1⟩ := k1 x _ m.hx m.nx
  obtain ⟨hd1, nd1⟩ := k1 dx _ m.hd m.nd
  have hne : dx ≠ x := fun w => by rw [w, hx1] at hd1; cases hd1
  refine ⟨.ref x, m.self, x, C, dx, fs.zip xs, rfl, hx1, hcl, hna, by rw [List.length_zip]; omega, ?_⟩
  rw [putF_new hf m.len]
  have hk : ∀ a o, a ≠ x → H1 a = some o → upd H1 x (.ins C dx ((fs ++ [f]).zip (xs ++ [v]))) a = some o := fun a o ne e => by rw [upd_ne ne]; exact e
  refine z M1 ι1 _ (fs ++ [f]) (its ++ [it]) (xs ++ [v]) q1 p1 ⟨S1.insU hx1 nx1 m.h0, m.self, upd_same, by rw [upd_ne hne]; exact hd1, nx1, nd1, m.h0, m.hh, by simp [m.len], ?_⟩ fun a o ne ea na => ?_
  · exact RIs.insT hx1 hk (fun _ _ n => n) (Ex.refl _) (RIs.app (itS_ri e1 r1) (m.r.mono k1 p1 fun _ _ _ _ z => z))
  · obtain ⟨g1, g2⟩ := k1 a o ea na
    exact ⟨hk a o ne g1, g2⟩
theorem vn_one (h : PS X st (lN X.K G C a)) : PSs X [st] (lN X.K G C a) := pss_one h
theorem vn_cons (h : PS X st (lN X.K G C a)) (h2 : PSs X ss (lN X.K G C b)) : PSs X (st :: ss) (lN X.K G C (nSeq a b)) :=
  PSs.weak (pss_cons h h2) fun D σ H ⟨δ, M, ι, x, dx, fs, its, xs, E0, m, q, z⟩ =>
    ⟨δ, M, ι, x, dx, fs, its, xs, _, m, q, fun M' ι' H' fs' its' xs' q1 ex m1 k1 => ⟨δ, M', ι', x, dx, fs', its', xs', E0, m1, q1, fun M2 ι2 H2 fs2 its2 xs2 q2 ex2 m2 k2 =>
      z M2 ι2 H2 fs2 its2 xs2 q2 (ex.trans ex2) m2 fun a o ne ea na => by
        obtain ⟨g1, g2⟩ := k1 a o ne ea na
        exact k2 a o ne g1 g2⟩⟩
end
end VL
set_option Elab.async false
set_option linter.all false
set_option maxRecDepth 100000
set_option maxHeartbeats 4000000
namespace VL
open PySem PySem.Spec L2 RT RZ PyProof.Rows HT
section
variable {K : PySem.W.Frag} {G : Gd} {δ : DS} {M : Mem} {ι : Ix} {σ : L2.St} {H : Hp} {i0 : List Addr}
theorem Sr.afterR {H' : Hp} {ns : List Nat} {Mc cs : Mem} {r : Ix} (S : Sr K G δ M ι σ H) (L : Lent M ι ns) (hi : i0.map some = ns.map (fun n => (ι[n]?).join))
    (hl : Mc.length = i0.length) (hcs : cs.length = r.length) (hr : ∀ a, some a ∈ r → H a = none)
    (m : RM K (NB (Bc G ι i0)) H' (i0.map some ++ r) (Mc ++ cs)) (k : Kp (i0.map some) H (i0.map some ++ r) H') (ob : ObI (i0.map some) H H') (hfl : ∀ c ∈ cs, ∀ kd its, c ≠ .nd kd its) : Sr K G δ (backO ns Mc M ++ cs) (ι ++ r) σ H' := by
  have hsub := L.sub hi
  have hn : ∀ a, some a ∉ ι → some a ∉ i0.map some := fun a hn h => hn (hsub a (by simpa using h))
  have hrr : ∀ a o, H a = some o → some a ∉ r := fun a o e h => by
    rw [hr a h] at e; cases e
  have kk : Kp ι H (ι ++ r) H' := fun a o e n => ⟨(k a o e (hn a n)).1, fun h => by
    rcases List.mem_append.mp h with h | h
    · exact n h
    · exact hrr a o e h⟩
  have hin : ∀ (n : Nat) (a : Addr), ι[n]? = some (some a) → n ∉ ns → some a ∉ i0.map some := fun n a h hno z => by
    rw [hi] at z
    obtain ⟨m, hm1, hm2⟩ := List.mem_map.mp z
    obtain ⟨c, hb⟩ := L.al m hm1
    rw [hb] at hm2; cases hm2
    exact hno (S.mem.nod _ _ _ hb h ▸ hm1)
  have hfr : ∀ a, some a ∈ r → some a ∉ ι := fun a ha => S.mem.fresh (hr a ha)
  have hbl : (backO ns Mc M).length = ι.length := by rw [backO_len]; exact S.mem.len
  have hil : i0.length = ns.length := by have := congrArg List.length hi; simpa using this
  have up : ∀ c a, (∀ kd its, c ≠ .nd kd its) → RC K (NB (Bc G ι i0)) H' (i0.map some ++ r) c a → RC K G.N H' (ι ++ r) c a := fun c a hf q => by
    cases c with
    | nd kd its => exact absurd rfl (hf kd its)
    | gone => exact q.elim
    | lst ds => obtain ⟨xs, q1, l, r⟩ := q; exact ⟨xs, q1, l, RDs.up S k r⟩
    | dk kvs => obtain ⟨xs, q1, l, r⟩ := q; exact ⟨xs, q1, l, RDs.up S k r⟩
    | dn kvs => obtain ⟨xs, q1, l, r1, r2⟩ := q; exact ⟨xs, q1, l, RDs.up S k r1, RDs.up S k r2⟩
  /- a lent cell behind the call -/
  have low : ∀ (j n : Nat) (a : Addr), ns[j]? = some n → ι[n]? = some (some a) → ∀ c0 c, M[n]? = some c0 → Mc[j]? = some c → RC K G.N H' (ι ++ r) (mrgC c0 c) a ∧ (mrgC c0 c).wf n := fun j n a hj ha c0 c h0 hc => by
    have hji : (i0.map some)[j]? = some (some a) := by rw [hi, List.getElem?_map, hj]; simp [ha]
    have hjl := (List.getElem?_eq_some_iff.mp hc).1
    have hjn : j < i0.length := by omega
    have q := m.cell j c a (by rw [List.getElem?_append_left hjl]; exact hc) (by rw [List.getElem?_append_left (by simpa using hjn)]; exact hji)
    have q0 := S.mem.cell n c0 a h0 ha
    have hai : a ∈ i0 := by have := List.mem_of_getElem? hji; simpa using this
    obtain ⟨ob1, ob2⟩ := ob i0 rfl a hai
    cases c with
    | nd kd its =>
      cases kd with
      | ob c fs =>
        obtain ⟨xs, ⟨dx, q1, q2, q3, q4⟩, l1, r1⟩ := q
        obtain ⟨f0, e0⟩ := ob2 _ _ _ q1
        cases c0 with
        | gone => exact q0.elim
        | lst ds => obtain ⟨ys, q5, _⟩ := q0; rw [q5] at e0; cases e0
        | dk ds => obtain ⟨ys, q5, _⟩ := q0; rw [q5] at e0; cases e0
        | dn ds => obtain ⟨ys, q5, _⟩ := q0; rw [q5] at e0; cases e0
        | nd kd0 its0 =>
          cases kd0 with
          | ob c0 fs0 =>
            obtain ⟨ys, ⟨dx0, p1, p2, p3, p4⟩, l2, r2⟩ := q0
            obtain ⟨fs', g1, g2⟩ := ob1 _ _ _ p1
            rw [q1] at g1
            injection g1 with g1
            injection g1 with gc gd gf
            rw [← gf] at g2
            obtain ⟨hf, ht⟩ := SameF.tails p4 q4 g2
            have hmg := mrg_of S k kk ht r2 r1
            have hlen : (List.zipWith mrgI its0 its).length ≤ sizeLine := by rw [List.length_zipWith]; omega
            refine ⟨⟨xs, ⟨dx0, by rw [q1, gc, gd, hf], (kk dx0 _ p2 p3).1, (kk dx0 _ p2 p3).2, by rw [hf]; exact q4⟩, hlen, hmg⟩, fun t ht => ?_⟩
            have w0 := S.mem.wf n _ h0
            refine w0 t ?_
            exact mrg_refs ht
    | _ =>
      have hfc : ∀ kd its, c0 ≠ .nd kd its := fun kd its e => by
        subst e
        cases kd with
        | ob c0 fs0 =>
          obtain ⟨ys, ⟨dx0, p1, _⟩, _⟩ := q0
          obtain ⟨fs', g1, _⟩ := ob1 _ _ _ p1
          first
            | exact q.elim
            | (obtain ⟨zs, q5, _⟩ := q; rw [q5] at g1; cases g1)
      cases c0 with
      | nd kd its => exact absurd rfl (hfc kd its)
      | _ => exact ⟨up _ _ (fun kd its z => by cases z) q, trivial⟩
  have obk : ObK G.i0 H H' := fun a ha => by
    obtain ⟨n, hn0⟩ := List.getElem?_of_mem ha
    have hp := S.pre n a hn0
    by_cases h0 : a ∈ i0
    · exact ob i0 rfl a h0
    · obtain ⟨u, hu⟩ := S.i0there a ha
      have e9 := (k a u hu (by simpa using h0)).1
      rw [show H' a = H a from e9.trans hu.symm]
      exact ⟨fun C dx fs e => ⟨fs, e, SameF.refl fs⟩, fun C dx fs e => ⟨fs, e⟩⟩
  have hjc : ∀ (j n : Nat), ns[j]? = some n → ∃ c, Mc[j]? = some c := fun j n hj => by
    have := (List.getElem?_eq_some_iff.mp hj).1
    exact ⟨_, List.getElem?_eq_getElem (by omega)⟩
  refine ⟨S.len, fun i d e => ?_, ⟨by simp [hbl, hcs], fun n m' a e1 e2 => ?_, fun n c a e1 e2 => ?_, fun n e => ?_, fun n c e1 => ?_⟩, fun n a e => ?_, S.kp.trans kk, fun a ha h0 => ?_, S.bad, fun a ha => ?_, S.obk.trans obk⟩
  · obtain ⟨v, e1, r⟩ := S.slot i d e
    exact ⟨v, e1, r.mono kk (Ex.app _ _) (fun _ _ _ _ z => z)⟩
  · rw [List.getElem?_append] at e1 e2
    split at e1 <;> split at e2
    · exact S.mem.nod n m' a e1 e2
    · exact absurd (List.mem_of_getElem? e1) (hfr a (List.mem_of_getElem? e2))
    · exact absurd (List.mem_of_getElem? e2) (hfr a (List.mem_of_getElem? e1))
    · have := m.nod (i0.length + (n - ι.length)) (i0.length + (m' - ι.length)) a (by rw [List.getElem?_append_right (by simp)]; simpa using e1) (by rw [List.getElem?_append_right (by simp)]; simpa using e2)
      omega
  · rw [List.getElem?_append, hbl] at e1
    rw [List.getElem?_append] at e2
    split at e1
    · rename_i hlt
      rw [if_pos hlt] at e2
      by_cases hno : n ∈ ns
      · obtain ⟨j, hj⟩ := List.getElem?_of_mem hno
        obtain ⟨cc, hcc⟩ := hjc j n hj
        have hl : n < M.length := by rw [S.mem.len]; exact hlt
        rw [backO_at ns Mc M j n _ L.nd hj hcc hl, List.getElem?_eq_getElem hl] at e1
        cases e1
        exact (low j n a hj e2 _ _ (List.getElem?_eq_getElem hl) hcc).1
      · rw [backO_ne ns Mc M n hno] at e1
        have q := S.mem.cell n c a e1 e2
        obtain ⟨o, ho⟩ := q.has
        exact q.mono kk (Ex.app _ _) (fun _ _ _ _ z => z) (by rw [(k a o ho (hin n a e2 hno)).1, ho])
    · rename_i hlt
      rw [if_neg hlt] at e2
      exact up _ _ (hfl c (List.mem_of_getElem? e1)) (m.cell (i0.length + (n - ι.length)) _ a (by rw [List.getElem?_append_right (by omega)]; rw [hl]; simpa using e1) (by rw [List.getElem?_append_right (by simp)]; simpa using e2))
  · rw [List.getElem?_append] at e
    split at e
    · rename_i hlt
      rw [List.getElem?_append_left (by rw [hbl]; exact hlt), backO_ne ns Mc M n fun hno => ?_]
      · exact S.mem.gone n e
      · obtain ⟨c, hb⟩ := L.al n hno
        rw [hb] at e; cases e
    · rename_i hlt
      have := m.gone (i0.length + (n - ι.length)) (by rw [List.getElem?_append_right (by simp)]; simpa using e)
      rw [List.getElem?_append_right (by omega)] at this
      rw [List.getElem?_append_right (by rw [hbl]; omega), hbl]
      rw [hl] at this
      simpa using this
  · rw [List.getElem?_append, hbl] at e1
    split at e1
    · rename_i hlt
      by_cases hno : n ∈ ns
      · obtain ⟨j, hj⟩ := List.getElem?_of_mem hno
        obtain ⟨cc, hcc⟩ := hjc j n hj
        have hl : n < M.length := by rw [S.mem.len]; exact hlt
        obtain ⟨a, ha⟩ := L.al n hno
        rw [backO_at ns Mc M j n _ L.nd hj hcc hl, List.getElem?_eq_getElem hl] at e1
        cases e1
        exact (low j n a hj ha _ _ (List.getElem?_eq_getElem hl) hcc).2
      · rw [backO_ne ns Mc M n hno] at e1
        exact S.mem.wf n c e1
    · have hf := hfl c (List.mem_of_getElem? e1)
      cases c with
      | nd kd its => exact absurd rfl (hf kd its)
      | _ => trivial
  · have e1 := S.pre n a e
    rw [List.getElem?_append_left (List.getElem?_eq_some_iff.mp e1).1]; exact e1
  · rcases List.mem_append.mp ha with z | z
    · exact S.new a z h0
    · cases q : G.He a with
      | none => rfl
      | some u =>
        have := (S.kp a u q (by simpa using h0)).1
        rw [hr a z] at this; cases this
  · obtain ⟨u, q⟩ := (S.hid a ha).2
    exact ⟨(kk a u q (S.hid a ha).1).2, u, (kk a u q (S.hid a ha).1).1⟩
end
end VL
set_option Elab.async false
set_option linter.all false
set_option maxRecDepth 100000
set_option maxHeartbeats 4000000
namespace VL
open PySem PySem.Spec L2 RT RZ PyProof.Rows HT
abbrev SpI := List Sv → Mem → (Mem → List Str → List (D ⊕ Nat) → Prop) → Prop
structure MadeI (K : PySem.W.Frag) (B : Addr → Prop) (H0 H' : Hp) (i0 : List Addr) (ι' : Ix) (M' : Mem) (x dx C : Addr) (fs : List Str) (its : List (D ⊕ Nat)) (xs : List V) : Prop where
  m : RM K (NB B) H' ι' M'
  pre : ∀ (n : Nat) (a : Addr), i0[n]? = some a → ι'[n]? = some (some a)
  kp : Kp (i0.map some) H0 ι' H'
  nw : ∀ a, some a ∈ ι' → a ∉ i0 → H0 a = none
  ob : ObK i0 H0 H'
  hx : H' x = some (.ins C dx (fs.zip xs))
  hd : H' dx = some (.own x)
  nx : some x ∉ ι'
  nd : some dx ∉ ι'
  len : fs.length = xs.length
  r : RIs K (NB B) H' ι' its xs
def lPi (K : PySem.W.Frag) (c : Str) (n : Nat) (sp : SpI) : Sp := fun vs H Q _ => ∃ (as : List Sv) (M : Mem) (i0 : List Addr) (B : Addr → Prop) (Q0 : Mem → List Str → List (D ⊕ Nat) → Prop) (H0 : Hp) (x dx : Addr) (ws : List V),
  vs = .ref x :: ws ∧ as.length = n ∧ H = upd (upd H0 dx (.own x)) x (.ins (He.ga K c) dx []) ∧ H0 x = none ∧ H0 dx = none ∧ dx ≠ x ∧ (∀ a, B a → ∃ o, H0 a = some o) ∧ RSs K (NB B) H0 (i0.map some) as ws ∧ RM K (NB B) H0 (i0.map some) M ∧ sp as M Q0 ∧
  ∀ M' ι' H' fs its xs, Q0 M' fs its → MadeI K B H0 H' i0 ι' M' x dx (He.ga K c) fs its xs → Q .non H'
/-- a class that may be made -/
structure CaI (P : Program) (w : World) (K : PySem.W.Frag) (mg : Str → Option Value) (base : Heap) (k : Nat) (c : Str) (n : Nat) (sp : SpI) : Prop where
  gl : mg c = some (.ref (He.ga K c))
  ex : ∃ (f : Addr) (fd : FuncData) (ps : List Str), FnG P w K mg base C8.CX0 k f fd ps (lPi K c n sp) ∧ Mk K (He.ga K c) f ∧ Binds K fd ps []
def startI (n : Nat) (as : List Sv) : DS := none :: startD (n - 1) as
section
variable {X : Cx} {K : PySem.W.Frag}
theorem init_at {Ns : List Str} {body : List Stmt} {t : NS'} {ws : List V} {Q : VK} {as : List Sv} {M : Mem} {i0 : List Addr} {B : Addr → Prop} {Q0 : Mem → List Str → List (D ⊕ Nat) → Prop} {H0 : Hp} {x dx : Addr} {C : Addr}
    (hb : PSs X body (lN X.K (gnd H0 i0 B) C t)) (hx : H0 x = none) (hd : H0 dx = none) (hne : dx ≠ x) (hB : ∀ a, B a → ∃ o, H0 a = some o) (ra : RSs X.K (NB B) H0 (i0.map some) as ws) (rm : RM X.K (NB B) H0 (i0.map some) M)
    (hp : t Q0 (startI Ns.length as) M [] [])
    (z : ∀ M' ι' H' fs its xs, Q0 M' fs its → MadeI X.K B H0 H' i0 ι' M' x dx C fs its xs → Q .non H') (hN : 1 ≤ Ns.length) :
    ∃ t', PSs X body t' ∧ t' { nx := fun _ H' => Q .non H', rt := Q } (L2.start Ns (.ref x :: ws)) (upd (upd H0 dx (.own x)) x (.ins C dx [])) := by
  have hl := ra.length
  have S0 : Sr X.K (gnd H0 i0 B) (startI Ns.length as) M (i0.map some) (L2.start Ns (.ref x :: ws)) H0 := by
    refine ⟨?_, fun i d e => ?_, rm, fun n a e => ?_, Kp.refl _ _, fun a ha hn => ?_, hB, fun a ha => ha.elim, ObK.refl _ _⟩
    · unfold startI startD L2.start
      simp [hl]
      omega
    · cases i with
      | zero => cases e
      | succ i =>
        have e1 := startD_at (show (startD (Ns.length - 1) as)[i]? = some (some d) from by simpa [startI] using e)
        obtain ⟨v, e2, r2⟩ := ra.get e1
        refine ⟨v, ?_, r2⟩
        unfold L2.start
        rw [List.getElem?_append_left (by simp; exact (List.getElem?_eq_some_iff.mp e2).1), List.getElem?_map, List.getElem?_cons_succ, e2]; rfl
    · rw [List.getElem?_map, e]; rfl
    · exact absurd (by simpa using ha) hn
  have S1 := S0.laid (p := dx) (o := .own x) hd
  have hx1 : upd H0 dx (.own x) x = none := by rw [upd_ne (Ne.symm hne)]; exact hx
  have S2 := S1.laid (p := x) (o := .ins C dx []) hx1
  have nx : some x ∉ i0.map some := S0.mem.fresh hx
  have nd : some dx ∉ i0.map some := S0.mem.fresh hd
  refine ⟨_, hb, startI Ns.length as, M, i0.map some, x, dx, [], [], [], Q0, ⟨S2, ?_, upd_same, by rw [upd_ne hne, upd_same], nx, nd, hx, fun h => h, rfl, rfl⟩, hp, fun M' ι' H' fs its xs q ex m k => ?_⟩
  · unfold L2.start
    rw [List.getElem?_append_left (by simp)]; rfl
  · exact z M' ι' H' fs its xs q ⟨m.S.mem, m.S.pre, m.S.kp, m.S.new, m.S.obk, m.hx, m.hd, m.nx, m.nd, m.len, m.r⟩
end
end VL
set_option Elab.async false
set_option linter.all false
set_option maxRecDepth 100000
set_option maxHeartbeats 4000000
namespace VL
open PySem PySem.Spec L2 RT RZ PyProof.Rows HT
section
variable {K : PySem.W.Frag} {G : Gd} {δ : DS} {M : Mem} {ι : Ix} {σ : L2.St} {H : Hp} {i0 : List Addr}
theorem lend_of {ms : List Bool} {xs as : List Sv} {vs : List V} {ns : List Nat} (S : Sr K G δ M ι σ H) (r : RSs K G.N H ι xs vs) (e : handO M ms xs [] = some (as, ns)) :
    as.length = xs.length ∧ Lent M ι ns ∧ ∃ i0 : List Addr, i0.map some = ns.map (fun n => (ι[n]?).join) ∧ (∀ a, Bc G ι i0 a → ∃ o, H a = some o) ∧ RSs K (NB (Bc G ι i0)) H (i0.map some) as vs ∧ RM K (NB (Bc G ι i0)) H (i0.map some) (cellsO M ns) := by
  obtain ⟨L, h3, hr, hl⟩ := hand_ofO S ms xs vs [] as ns e r Lent.nil
  obtain ⟨i0, hi⟩ : ∃ i0 : List Addr, i0.map some = ns.map (fun n => (ι[n]?).join) := by
    have al := L.al
    clear e hr hl h3 L
    induction ns with
    | nil => exact ⟨[], rfl⟩
    | cons n ns ih =>
      obtain ⟨i0, hi⟩ := ih fun m hm => al m (List.mem_cons_of_mem _ hm)
      obtain ⟨a, ha⟩ := al n List.mem_cons_self
      exact ⟨a :: i0, by simp [hi, ha]⟩
  have hsub := L.sub hi
  have hni : ∀ a, some a ∉ ι → some a ∉ i0.map some := fun a n h => n (hsub a (by simpa using h))
  have hget : ∀ (j : Nat) (a : Addr), (i0.map some)[j]? = some (some a) → ∃ n, ns[j]? = some n ∧ ι[n]? = some (some a) := fun j a e => by
    rw [hi, List.getElem?_map] at e
    cases q : ns[j]? with
    | none => rw [q] at e; cases e
    | some n =>
      rw [q] at e
      obtain ⟨b, hb⟩ := L.al n (List.mem_of_getElem? q)
      simp [hb] at e
      exact ⟨n, rfl, by rw [hb, e]⟩
  have hcell : ∀ (j : Nat) (c : Cell), (cellsO M ns)[j]? = some c → ∃ n c0, ns[j]? = some n ∧ M[n]? = some c0 ∧ c = reC ns c0 := fun j c e1 => by
    unfold cellsO at e1
    rw [List.getElem?_map, Option.map_eq_some_iff] at e1
    obtain ⟨n, h1, rfl⟩ := e1
    obtain ⟨a, ha⟩ := L.al n (List.mem_of_getElem? h1)
    have hM : n < M.length := by rw [S.mem.len]; exact (List.getElem?_eq_some_iff.mp ha).1
    exact ⟨n, M[n], h1, List.getElem?_eq_getElem hM, by rw [List.getElem?_eq_getElem hM]; rfl⟩
  refine ⟨hl, L, i0, hi, fun a ha => ?_, hr i0 hi, ⟨?_, fun j l a e1 e2 => ?_, fun j c a e1 e2 => ?_, fun j e => ?_, fun j c e1 => ?_⟩⟩
  · rcases ha with ha | ha | ⟨ha, _⟩
    · obtain ⟨o, ho⟩ := S.bad a ha
      by_cases h0 : a ∈ G.i0
      · exact S.i0there a h0
      · exact ⟨o, (S.kp a o ho (by simpa using h0)).1⟩
    · exact (S.hid a ha).2
    · exact S.mem.there ha
  · rw [hi]; simp [cellsO]
  · obtain ⟨n, h1, h2⟩ := hget j a e1
    obtain ⟨m, h3, h4⟩ := hget l a e2
    have e3 := S.mem.nod _ _ _ h2 h4
    subst e3
    exact nodup_ix L.nd h1 h3
  · obtain ⟨n, c0, h1, h2, rfl⟩ := hcell j c e1
    obtain ⟨n', h3, h4⟩ := hget j a e2
    rw [h1] at h3; cases h3
    have q := S.mem.cell n c0 a h2 h4
    cases c0 with
    | gone => exact q.elim
    | lst ds => obtain ⟨xs, q1, l, r⟩ := q; exact ⟨xs, q1, l, RDs.dn hsub r⟩
    | dk kvs => obtain ⟨xs, q1, l, r⟩ := q; exact ⟨xs, q1, l, RDs.dn hsub r⟩
    | dn kvs => obtain ⟨xs, q1, l, r1, r2⟩ := q; exact ⟨xs, q1, l, RDs.dn hsub r1, RDs.dn hsub r2⟩
    | nd kd its =>
      obtain ⟨xs, q1, l, r⟩ := q
      refine ⟨xs, ?_, by rw [List.length_map]; exact l, RIs.re L hi (fun t ht => ?_) r⟩
      · cases kd with
        | ob c fs =>
          obtain ⟨dx, p1, p2, p3, p4⟩ := q1
          exact ⟨dx, p1, p2, hni dx p3, p4⟩
      · obtain ⟨q, _, hq⟩ := L.bf j n kd its h1 h2 t ht
        exact List.mem_of_getElem? hq
  · rw [List.getElem?_map] at e
    cases q : i0[j]? with
    | none => rw [q] at e; cases e
    | some b => rw [q] at e; cases e
  · obtain ⟨n, c0, h1, h2, rfl⟩ := hcell j c e1
    cases c0 with
    | nd kd its =>
      intro t ht
      obtain ⟨u, hu, rfl⟩ := re_refs ht
      obtain ⟨q, hq, hqe⟩ := L.bf j n kd its h1 h2 u hu
      have := nodup_ix L.nd (at_idx (List.mem_of_getElem? hqe)) hqe
      omega
    | _ => trivial
/-- names of new cells, as the caller counts them -/
def shI (k n : Nat) : D ⊕ Nat → D ⊕ Nat
  | .inl d => .inl d
  | .inr j => .inr (j - k + n)
theorem RIs.sh {H' : Hp} {r : Ix} (S : Sr K G δ M ι σ H) (kp : Kp (i0.map some) H (i0.map some ++ r) H') (kk : ∀ a o, H' a = some o → some a ∉ ι ++ r → True) : ∀ {its : List (D ⊕ Nat)} {xs : List V}, (∀ j, Sum.inr j ∈ its → i0.length ≤ j) → RIs K (NB (Bc G ι i0)) H' (i0.map some ++ r) its xs → RIs K G.N H' (ι ++ r) (its.map (shI i0.length ι.length)) xs
  | [], _, _, h => h
  | .inl d :: its, xs, hl, h => by
    obtain ⟨x, t, rfl, h1, h2⟩ := h
    exact ⟨x, t, rfl, RD.up S kp h1, RIs.sh S kp kk (fun j hj => hl j (List.mem_cons_of_mem _ hj)) h2⟩
  | .inr n :: its, xs, hl, h => by
    obtain ⟨x, t, rfl, ⟨a, e, q⟩, h2⟩ := h
    have hn := hl n List.mem_cons_self
    have at1 : (ι ++ r)[n - i0.length + ι.length]? = (i0.map some ++ r)[n]? := by
      rw [List.getElem?_append_right (by omega), List.getElem?_append_right (by simpa using hn)]
      congr 1
      simp
    refine ⟨x, t, rfl, ⟨a, e, ?_⟩, RIs.sh S kp kk (fun j hj => hl j (List.mem_cons_of_mem _ hj)) h2⟩
    rw [at1]; exact q
theorem made_back {ns : List Nat} {M' : Mem} {ι' : Ix} {H' : Hp} {x dx : Addr} {c : Str} {fs : List Str} {its : List (D ⊕ Nat)} {xs : List V} (S : Sr K G δ M ι σ H) (L : Lent M ι ns) (hi : i0.map some = ns.map (fun n => (ι[n]?).join)) (hx : H x = none) (hd : H dx = none) (hne : dx ≠ x)
    (mk : MadeI K (Bc G ι i0) H H' i0 ι' M' x dx (He.ga K c) fs its xs) (hits : ∀ j, Sum.inr j ∈ its → ns.length ≤ j ∧ j < M'.length) (hsz : its.length ≤ sizeLine) (hfl : ∀ cc ∈ M'.drop ns.length, ∀ kd it, cc ≠ .nd kd it) :
    ∃ ι2 : Ix, Ex ι ι2 ∧ Kp ι H ι2 H' ∧ Sr K G δ (backO ns (M'.take ns.length) M ++ M'.drop ns.length ++ [.nd (.ob c fs) (its.map (shI ns.length M.length))]) ι2 σ H' ∧ ι2[M.length + (M'.length - ns.length)]? = some (some x) := by
  have hil : i0.length = ns.length := by have := congrArg List.length hi; simpa using this
  have hlen : M'.length = ι'.length := mk.m.len
  have hpre : ι'.take i0.length = i0.map some := by
    apply List.ext_getElem?
    intro n
    rw [List.getElem?_take, List.getElem?_map]
    split
    · rename_i h
      rw [List.getElem?_eq_getElem h]
      exact mk.pre n _ (List.getElem?_eq_getElem h)
    · rename_i h
      rw [List.getElem?_eq_none (by omega)]; rfl
  have hle : i0.length ≤ ι'.length := by
    by_cases h0 : i0.length = 0
    · omega
    · have := mk.pre (i0.length - 1) _ (List.getElem?_eq_getElem (by omega))
      have := (List.getElem?_eq_some_iff.mp this).1
      omega
  have eι : ι' = i0.map some ++ ι'.drop i0.length := by rw [← hpre, List.take_append_drop]
  have eM : M' = M'.take i0.length ++ M'.drop i0.length := (List.take_append_drop _ _).symm
  have hr : ∀ a, some a ∈ ι'.drop i0.length → H a = none := fun a ha => by
    refine mk.nw a (List.mem_of_mem_drop ha) fun h => ?_
    obtain ⟨n, hn⟩ := List.getElem?_of_mem h
    obtain ⟨q, hq⟩ := List.getElem?_of_mem ha
    rw [List.getElem?_drop] at hq
    have := mk.m.nod _ _ _ (mk.pre n a hn) hq
    have := (List.getElem?_eq_some_iff.mp hn).1
    omega
  have m2 : RM K (NB (Bc G ι i0)) H' (i0.map some ++ ι'.drop i0.length) (M'.take i0.length ++ M'.drop i0.length) := by rw [← eι, ← eM]; exact mk.m
  have k2 : Kp (i0.map some) H (i0.map some ++ ι'.drop i0.length) H' := by rw [← eι]; exact mk.kp
  have S2 := S.afterR (Mc := M'.take i0.length) (cs := M'.drop i0.length) (r := ι'.drop i0.length) L hi (by rw [List.length_take]; omega) (by rw [List.length_drop, List.length_drop]; omega) hr m2 k2 (ObI.of mk.ob) (by rw [hil]; exact hfl)
  have nxι : some x ∉ ι := S.mem.fresh hx
  have ndι : some dx ∉ ι := S.mem.fresh hd
  have nx2 : some x ∉ ι ++ ι'.drop i0.length := fun h => by
    rcases List.mem_append.mp h with h | h
    · exact nxι h
    · exact mk.nx (List.mem_of_mem_drop h)
  have nd2 : some dx ∉ ι ++ ι'.drop i0.length := fun h => by
    rcases List.mem_append.mp h with h | h
    · exact ndι h
    · exact mk.nd (List.mem_of_mem_drop h)
  have h0 : G.He x = none := by
    cases q : G.He x with
    | none => rfl
    | some u =>
      by_cases h : x ∈ G.i0
      · obtain ⟨v, hv⟩ := S.i0there x h
        rw [hx] at hv; cases hv
      · have := (S.kp x u q (by simpa using h)).1
        rw [hx] at this; cases this
  have hh : ¬ G.Hd x := fun h => by
    obtain ⟨o, q⟩ := (S.hid x h).2
    rw [hx] at q; cases q
  have hML : (backO ns (M'.take i0.length) M ++ M'.drop i0.length).length = M.length + (M'.length - i0.length) := by
    rw [List.length_append, backO_len, List.length_drop]
  have r2 : RIs K G.N H' (ι ++ ι'.drop i0.length) (its.map (shI i0.length ι.length)) xs := RIs.sh S k2 (fun _ _ _ _ => trivial) (fun j hj => by have := (hits j hj).1; omega) (by rw [← eι]; exact mk.r)
  have kx : Kp ι H (ι ++ ι'.drop i0.length ++ [some x]) H' := fun a o e n => by
    have ne : a ≠ x := fun w => by rw [w, hx] at e; cases e
    obtain ⟨g1, g2⟩ := mk.kp a o e (fun h => n (L.sub hi a (by simpa using h)))
    refine ⟨g1, fun h => ?_⟩
    rcases List.mem_append.mp h with h | h
    · rcases List.mem_append.mp h with h | h
      · exact n h
      · exact g2 (List.mem_of_mem_drop h)
    · simp at h; exact ne h
  have hi2 : ∀ a, a ≠ x → some a ∉ ι ++ ι'.drop i0.length → some a ∉ ι ++ ι'.drop i0.length ++ [some x] := fun a ne n h => by
    rcases List.mem_append.mp h with h | h
    · exact n h
    · simp at h; exact ne h
  have S3 := S2.nameX (c := .nd (.ob c fs) (its.map (shI i0.length ι.length))) mk.hx nx2 h0 hh
    ⟨xs, ⟨dx, mk.hx, mk.hd, hi2 dx hne nd2, mk.len⟩, by rw [List.length_map]; exact hsz, RIs.insT mk.hx (fun _ _ _ e => e) hi2 (Ex.app _ _) r2⟩ (fun t ht => by
      obtain ⟨y, hy, e⟩ := List.mem_map.mp ht
      cases y with
      | inl d => cases e
      | inr j =>
        cases e
        obtain ⟨g1, g2⟩ := hits j hy
        rw [hML, S.mem.len]; omega)
  rw [S.mem.len, ← hil]
  refine ⟨_, (Ex.app _ _).trans (Ex.app _ _), kx, S3, ?_⟩
  rw [List.getElem?_append_right (by rw [List.length_append, List.length_drop]; omega), List.length_append, List.length_drop]
  have : ι.length + (M'.length - i0.length) - (ι.length + (ι'.length - i0.length)) = 0 := by omega
  rw [this]; rfl
end
end VL
set_option Elab.async false
set_option linter.all false
set_option maxRecDepth 100000
set_option maxHeartbeats 4000000
namespace VL
open PySem PySem.Spec L2 RT RZ PyProof.Rows HT
def makeO (c : Str) (ms : List Bool) (sp : SpI) (M : Mem) (xs : List Sv) (Q : QD) : Prop :=
  ok (handO M ms xs []) fun r => sp r.1 (cellsO M r.2) fun M' fs its =>
    ((∀ j, Sum.inr j ∈ its → r.2.length ≤ j ∧ j < M'.length) ∧ its.length ≤ sizeLine ∧ ∀ cc ∈ M'.drop r.2.length, ∀ kd it, cc ≠ .nd kd it) ∧
    Q (.ref (M.length + (M'.length - r.2.length))) (backO r.2 (M'.take r.2.length) M ++ M'.drop r.2.length ++ [.nd (.ob c fs) (its.map (shI r.2.length M.length))])
def eMake (c : Str) (ms : List Bool) (sp : SpI) (tA : TA') : TE' := fun δ M Q => tA δ M fun xs M1 => makeO c ms sp M1 xs Q
section
variable {X : Cx} {G : Gd} {k j n : Nat} {c : Str} {sp : SpI} {p pos : Pos} {e : Expr} {es : List Expr} {tA : TA'} {δ : DS} {M : Mem} {ι : Ix} {σ : L2.St} {H : Hp}
theorem make_in {xs : List Sv} {vs : List V} {ms : List Bool} {Q0 : QD} {Q : VK} {E : XK} {x dx : Addr} (S : Sr X.K G δ M ι σ H) (r : RSs X.K G.N H ι xs vs) (hn : xs.length = n) (h : makeO c ms sp M xs Q0) (hx : H x = none) (hd : H dx = none) (hne : dx ≠ x)
    (z : ∀ y M' ι' H', Q0 (.ref y) M' → Ex ι ι' → Kp ι H ι' H' → Sr X.K G δ M' ι' σ H' → ι'[y]? = some (some x) → Q (.ref x) H') :
    lPi X.K c n sp (.ref x :: vs) (upd (upd H dx (.own x)) x (.ins (He.ga X.K c) dx [])) (fun v H2 => v = .non ∧ Q (.ref x) H2) E := by
  obtain ⟨⟨as, ns⟩, e, h⟩ := ok_elim h
  obtain ⟨hl, L, i0, hi, hB, ra, rm⟩ := lend_of S r e
  refine ⟨as, cellsO M ns, i0, Bc G ι i0, _, H, x, dx, vs, rfl, hl.trans hn, rfl, hx, hd, hne, hB, ra, rm, h, fun M' ι' H' fs its ys q mk => ⟨rfl, ?_⟩⟩
  obtain ⟨⟨q1, q2, q3⟩, q⟩ := q
  obtain ⟨ι2, ex, k2, S2, hy⟩ := made_back S L hi hx hd hne mk q1 q2 q3
  exact z _ _ ι2 H' q ex k2 S2 hy
theorem ve_make (ms : List Bool) (ci : CaI X.prog X.w X.K X.mg X.base k c n sp) (hr : RoomG j X.A) (hk : k + 1 ≤ j) (hg : Gl X c) (ha : VA X G (e :: es) n tA)
    (hdb : (c == ("__debug__" : Str)) = false := by decide) (he : starEach (e :: es) X.env = (false, eval e X.env) :: starEach es X.env := by rfl) (hpl : (backTo pos (starEach es X.env)).any (·.1) = false := by rfl) :
    VE X G (.Call (.Name c p) (e :: es) [] pos) (eMake c ms sp tA) := by
  obtain ⟨f, fd, ps, F, Mk_, b⟩ := ci.ex
  refine PE.weak (pe_makeg Mk_ F (hr.mono hk) hg ci.gl b .nil C8.pass0 ha hdb he hpl (E := C8.E0)) fun σ H Q ⟨δ, M, ι, Q0, S, q, z⟩ => ?_
  refine thA S q fun xs M1 ι1 H1 vs hl h1 p1 k1 S1 r1 => ?_
  intro x dx hx hd hne
  rw [List.append_nil]
  exact make_in S1 r1 hl h1 hx hd hne fun y M' ι' H' q2 ex k2 S2 hy => z (.ref y) M' ι' H' _ q2 (p1.trans ex) (k1.trans k2) S2 ⟨x, rfl, .inl hy⟩
end
/-- the rule for a class: from the rows of its __init__ -/
theorem ci_of {P : Program} {w : World} {K : PySem.W.Frag} {mg : Str → Option Value} {base : Heap} {c qual x : Str} {params : Arguments} {body : List Stmt} {scope : Scope} {f : Addr} {fd : FuncData} {Ns ps : List Str} {k m0 : Nat} {sp : SpI} {t : NS'}
    (F : FunD K x qual params body scope [] [] f fd) (gl : mg c = some (.ref (He.ga K c))) (mk : Mk K (He.ga K c) f) (b : Binds K fd ps []) (S : FnScope Ns ps scope) (hps : ps.length = n + 1) (hN : 1 ≤ Ns.length) (hm0 : ∀ as M Q0, sp as M Q0 → M.length = m0)
    (hb : ∀ (cdv : Value) (A : Around) (outer : List Env) (s : Shared) (H : Hp) (E : XK) (G : Gd), RoomG k (A.deeper (PyProof.Rows.envOfC qual scope s.heap.objs.size f cdv)) → G.i0.length = m0 → PSs (cxOf C8.CX0 P w K mg base Ns qual scope f cdv A outer s H E).nox body (lN K G (He.ga K c) t))
    (hp : ∀ as M Q0, as.length = n → sp as M Q0 → t Q0 (startI Ns.length as) M [] []) : CaI P w K mg base (k + 1) c n sp := by
  refine ⟨gl, f, fd, ps, ?_, mk, b⟩
  refine fn_g F S (fun vs H Q E ⟨as, M, i0, B, Q0, H0, y, dx, ws, e, hn, _, _, _, _, _, ra, _⟩ => by rw [e, hps, List.length_cons, ← ra.length, hn]) fun cdv A outer s H vs Q E hr ⟨as, M, i0, B, Q0, H0, y, dx, ws, e, hn, eH, hx, hd, hne, hB, ra, rm, hs, z⟩ => ?_
  subst e eH
  have hlen : M.length = i0.length := by rw [rm.len]; simp
  obtain ⟨t', h1, h2⟩ := init_at (X := (cxOf C8.CX0 P w K mg base Ns qual scope f cdv A outer s _ E).nox) (Ns := Ns) (hb cdv A outer s _ E (gnd H0 i0 B) hr (hlen.symm.trans (hm0 _ _ _ hs))) hx hd hne hB ra rm (hp as M Q0 hn hs) z hN
  exact ⟨t', h1.nox, h2⟩
end VL
set_option Elab.async false
set_option linter.all false
set_option maxRecDepth 100000
set_option maxHeartbeats 2000000
namespace VL
open PySem PySem.Spec L2 RT RZ PyProof.Rows HT
theorem cm_of {P : Program} {w : World} {K : PySem.W.Frag} {mg : Str → Option Value} {base : Heap} {c m x qual : Str} {params : Arguments} {body : List Stmt} {scope : Scope} {f : Addr} {fd : FuncData} {Ns ps : List Str} {k m0 : Nat} {sp : SpD} {t : TS'}
    (F : FunD K x qual params body scope [] [] f fd) (cl : Cls K (He.ga K c)) (hm : Meth K (He.ga K c) m f) (b : Binds K fd ps []) (S : FnScope Ns ps scope) (hm0 : ∀ as M Q0, sp as M Q0 → M.length = m0)
    (hb : ∀ (cdv : Value) (A : Around) (outer : List Env) (s : Shared) (H : Hp) (E : XK) (G : Gd), RoomG k (A.deeper (PyProof.Rows.envOfC qual scope s.heap.objs.size f cdv)) → G.i0.length = m0 → VSs (cxOf C8.CX0 P w K mg base Ns qual scope f cdv A outer s H E).nox G body t)
    (hp : ∀ as M Q0, as.length = ps.length → sp as M Q0 → t (endsF M.length Q0) (startD Ns.length as) M) : CaM P w K mg base (k + 1) c m ps.length sp := by
  refine ⟨cl, f, fd, ps, ?_, hm, b⟩
  refine fn_g F S (fun vs H Q E ⟨as, M, i0, B, Q0, hn, hB, ra, h⟩ => by rw [← ra.length, hn]) fun cdv A outer s H vs Q E hr h => ?_
  obtain ⟨t', h1, h2⟩ := body_ok (X := (cxOf C8.CX0 P w K mg base Ns qual scope f cdv A outer s H E).nox) (Ns := Ns) m0 rfl (fun G hG => hb cdv A outer s H E G hr hG) hm0 hp h
  exact ⟨t', h1.nox, h2⟩
end VL
set_option Elab.async false
set_option linter.all false
set_option maxRecDepth 100000
set_option maxHeartbeats 2000000
namespace VL
open PySem PySem.Spec L2 RT RZ PyProof.Rows HT
/-- the j-th row of a class -/
def methS (s : Stmt) (j : Nat) : Stmt := match s with
  | .ClassDef _ _ _ body _ _ _ _ _ _ _ => body.getD j s
  | _ => s
section
variable {X : Cx} {G : Gd} {e : Expr} {p : PV} {pos : Pos} {cs : List (Str × List Str)} {f : Str}
theorem fldP {δ : DS} {M : Mem} {Q : QD} : eFld cs f (eP p) δ M Q = eP (poFld cs f p) δ M Q := by
  unfold eFld eP poFld
  cases p δ M <;> rfl
theorem ve_fldP (hC : ObC X.K cs) (he : VE X G e (eP p)) (hb : attributeBase e f X.env (eval e X.env) = eval e X.env := by rfl) : VE X G (.Attribute e f pos) (eP (poFld cs f p)) := by
  have h := ve_fld (pos := pos) hC he hb
  have e1 : eFld cs f (eP p) = eP (poFld cs f p) := by
    funext δ M Q
    exact fldP
  rw [e1] at h
  exact h
end
end VL
set_option Elab.async false
set_option linter.all false
set_option maxRecDepth 100000
set_option maxHeartbeats 4000000
namespace VL
open PySem PySem.Spec L2 RT RZ PyProof.Rows
end VL
set_option Elab.async false
set_option linter.all false
set_option maxRecDepth 100000
set_option maxHeartbeats 2000000
namespace VL
open PySem PySem.Spec L2 RT RZ PyProof.Rows
end VL
set_option Elab.async false
set_option linter.all false
set_option maxRecDepth 100000
set_option maxHeartbeats 2000000
namespace VL
open PySem PySem.Spec L2 RT RZ PyProof.Rows
section
variable {K : PySem.W.Frag} {X : Cx} {N : Bool → Addr → Prop} {H : Hp} {ι : Ix} {G : Gd} {δ : DS} {M : Mem} {σ : L2.St} {a b e o i : Expr} {es : List Expr} {pos p1' : Pos} {ta tb te to ti t : TE'}
def kvAt (M : Mem) : Sv → Option (List (Key × D))
  | .ref n => cellK M[n]?
  | .d (.dk ks ds) => some (ks.zip ds)
  | _ => none
theorem zip_fstK {ks : List Key} {ds : List D} (h : ks.length = ds.length) : (ks.zip ds).map (·.1) = ks ∧ (ks.zip ds).map (·.2) = ds := by
  constructor
  · rw [List.map_fst_zip (by omega)]
  · rw [List.map_snd_zip (by omega)]
theorem kv_at {s : Sv} {v : V} {kvs : List (Key × D)} (S : Sr K G δ M ι σ H) (r : RS K G.N H ι s v) (e : kvAt M s = some kvs) : ∃ a ws, v = .ref a ∧ Rd H a (.dK ws) ∧ RK K G.N H ι kvs ws := by
  cases s with
  | ref n =>
    obtain ⟨a, rfl, hn, ws, hH, hk⟩ := S.mem.at r (cellK_some (show cellK M[n]? = some kvs from e)) (fun z => nomatch z)
    exact ⟨a, ws, rfl, .inl hH, hk⟩
  | bor ds => cases e
  | d d =>
    cases d with
    | dk ks ds =>
      cases (show some (ks.zip ds) = some kvs from e)
      obtain ⟨a, ws, o, rfl, q, _, h1, h2⟩ := r
      have l := h2.length
      have l1 : ks.length = ds.length := by rw [h1, l]; simp
      obtain ⟨z1, z2⟩ := zip_fstK l1
      exact ⟨a, ws, rfl, .inr ⟨o, q⟩, z1.trans h1, by rw [z2]; exact h2⟩
    | _ => cases e
theorem DGet.rd {H : Hp} {a : Addr} {kvs : List (Key × V)} {k : Key} (e : Rd H a (.dK kvs)) : DGet H a (kV k) (valV kvs k) := .inl ⟨kvs, k, e, rfl, rfl⟩
def inKA (M : Mem) (x y : Sv) : Option Bool := match x with
  | .d k => (kvAt M y).bind fun kvs => (keyD k).map fun k => (valK kvs k).isSome
  | _ => none
def dinA (M : Mem) (x y : Sv) : Option Sv := (inKA M x y).map blS
def dninA (M : Mem) (x y : Sv) : Option Sv := (inKA M x y).map fun b => blS (!b)
theorem inKA_rd {neg : Bool} {x y : Sv} {v u : V} {c : Bool} {Q : VK} (S : Sr K G δ M ι σ H) (rx : RS K G.N H ι x v) (ry : RS K G.N H ι y u) (e : inKA M x y = some c) (q : Q (.bl (if neg then !c else c)) H) : rDIn neg v u H Q := by
  cases x with
  | d k =>
    obtain ⟨kvs, e1, e2⟩ := Option.bind_eq_some_iff.mp (show (kvAt M y).bind _ = some c from e)
    obtain ⟨k', e3, e4⟩ := Option.map_eq_some_iff.mp e2
    obtain ⟨a, ws, rfl, hH, hk⟩ := kv_at S ry e1
    have hv := key_rd e3 (show RD K G.N H ι k v from rx)
    subst hv
    refine ⟨a, _, rfl, DGet.rd hH, ?_⟩
    have : (valV ws k').isSome = c := by
      rcases hk.val k' with ⟨h1, h2⟩ | ⟨d, v, h1, h2, _⟩
      · rw [h2, ← e4, h1]; rfl
      · rw [h2, ← e4, h1]; rfl
    rw [this]; exact q
  | _ => cases e
theorem rd_dinA : Rd2 K (rDIn false) dinA := by
  intro G δ M ι σ H x y v u d S rx ry e Q z
  obtain ⟨c, e1, rfl⟩ := Option.map_eq_some_iff.mp (show (inKA M x y).map _ = some d from e)
  exact inKA_rd S rx ry e1 (fin_same S z rfl)
theorem rd_dninA : Rd2 K (rDIn true) dninA := by
  intro G δ M ι σ H x y v u d S rx ry e Q z
  obtain ⟨c, e1, rfl⟩ := Option.map_eq_some_iff.mp (show (inKA M x y).map _ = some d from e)
  exact inKA_rd S rx ry e1 (fin_same S z rfl)
def dgetA (M : Mem) (x y : Sv) : Option Sv := match y with
  | .d k => (kvAt M x).bind fun kvs => (keyD k).bind fun k => (valK kvs k).map .d
  | _ => none
theorem rd_dgetA : Rd2 K rDGet dgetA := by
  intro G δ M ι σ H x y v u d S rx ry e Q z
  unfold dgetA at e
  split at e
  · rename_i k
    obtain ⟨kvs, e1, e2⟩ := Option.bind_eq_some_iff.mp e
    obtain ⟨k', e3, e4⟩ := Option.bind_eq_some_iff.mp e2
    obtain ⟨d', e5, rfl⟩ := Option.map_eq_some_iff.mp e4
    obtain ⟨a, ws, rfl, hH, hk⟩ := kv_at S rx e1
    have hv := key_rd e3 (show RD K G.N H ι k u from ry)
    subst hv
    rcases hk.val k' with ⟨h1, h2⟩ | ⟨d, w, h1, h2, r⟩
    · rw [h1] at e5; cases e5
    · rw [h1] at e5; cases e5
      exact ⟨a, w, rfl, by rw [← h2]; exact DGet.rd hH, fin_same S z r⟩
  · cases e
theorem ve_dgetA (hu : X.A.units + 1 < cLine) (ha : VE X G a ta) (hb : VE X G b tb) (hs : NoSl b := by exact fun _ _ => rfl) : VE X G (.Subscript a b pos) (eo2 dgetA ta tb) :=
  PE.weak (pe_dget hu ha hb hs) fun σ H Q h => fin2 rd_dgetA h
def eDictC (t : TE') : TE' := fun δ M Q => t δ M fun s M1 => ok (kvAt M1 s) fun kvs => Q (.ref M1.length) (M1 ++ [.dk kvs])
theorem ve_dictC {p : Pos} (hg : Gl X "dict") (hm : X.mg "dict" = none) (h : VE X G e t) (he : starEach [e] X.env = (false, eval e X.env) :: starEach [] X.env := by rfl) (hpl : (backTo pos (starEach [] X.env)).any (·.1) = false := by rfl) :
    VE X G (.Call (.Name "dict" p) [e] [] pos) (eDictC t) := by
  have ha := va_cons (n := 0) h va_nil (hs := he)
  refine PE.weak (pe_callTy call_dictD hg hm rfl ha (he := he) (hpl := hpl)) fun σ H Q ⟨δ, M, ι, Q0, S, q, z⟩ => ?_
  refine thA S (show aCons t aNil δ M (fun xs M1 => match xs with | [s] => ok (kvAt M1 s) fun kvs => Q0 (.ref M1.length) (M1 ++ [.dk kvs]) | _ => False) from q) fun xs M1 ι1 H1 vs hl q1 p1 k1 S1 r1 => ?_
  cases xs with
  | nil => exact q1.elim
  | cons s xs =>
    cases xs with
    | cons _ _ => exact q1.elim
    | nil =>
      obtain ⟨kvs, e1, q1⟩ := ok_elim q1
      obtain ⟨y, rfl, ry⟩ := one_of r1
      obtain ⟨a, ws, rfl, hH, hk⟩ := kv_at S1 ry e1
      refine ⟨a, ws, rfl, hH, fun p hp => ?_⟩
      have kk : Kp ι1 H1 (ι1 ++ [some p]) (upd H1 p (.dK ws)) := Kp.named hp
      have hk' := hk.mono kk fun _ _ _ _ z => z
      exact z _ _ _ _ _ q1 (p1.trans (Ex.app _ _)) (k1.trans kk) (S1.named (c := .dk kvs) hp ⟨_, upd_same, hk'.1, hk'.2⟩) ⟨p, rfl, .inl (by rw [S1.mem.len]; simp)⟩
def kDs : List (Key × D) → List D := fun kvs => kvs.map fun kv => match kv.1 with | .inl i => .int i | .inr s => .str s
theorem kDs_rd : ∀ {kvs : List (Key × D)} {ws : List (Key × V)}, kvs.map (·.1) = ws.map (·.1) → RDs K N H ι (kDs kvs) (ws.map fun kv => kV kv.1)
  | [], [], _ => rfl
  | [], _ :: _, h => by cases h
  | _ :: _, [], h => by cases h
  | (k, d) :: kvs, (k', w) :: ws, h => by
    simp only [List.map_cons, List.cons.injEq] at h
    refine ⟨kV k', _, rfl, ?_, kDs_rd h.2⟩
    obtain ⟨rfl, _⟩ := h
    cases k <;> rfl
def listDF (M : Mem) : List Sv → Option (List D)
  | [s] => (kvAt M s).bind fun kvs => gd (kvs.length ≤ 1000000) (kDs kvs)
  | _ => none
theorem rd_listD : RdF K (fun xs H Q => ∃ (a : Addr) (kvs : List (Key × V)), xs = [.ref a] ∧ Rd H a (.dK kvs) ∧ ∀ p, H p = none → Q (.ref p) (upd H p (.lst (kvs.map fun kv => kV kv.1)))) listDF := by
  intro G δ M ι σ H xs vs ds S rx e Q z
  unfold listDF at e
  split at e
  · rename_i s
    obtain ⟨v, rfl, r⟩ := one_of rx
    obtain ⟨kvs, e1, e2⟩ := Option.bind_eq_some_iff.mp e
    obtain ⟨hl, rfl⟩ := gd_some e2
    obtain ⟨a, ws, rfl, hH, hk⟩ := kv_at S r e1
    refine ⟨a, ws, rfl, hH, fun p hp => z _ p (kDs_rd hk.1) ?_ hp⟩
    unfold kDs
    rw [List.length_map, sizeLine_eq]; omega
  · cases e
def sortDA (M : Mem) : List Sv → Option (List D)
  | [s] => (kvAt M s).bind fun kvs => (keysI kvs).bind fun ns => gd (ns.length ≤ 1000000) ((sortI ns).map .int)
  | _ => none
theorem rd_sortDA : RdF K rSortedDI sortDA := by
  intro G δ M ι σ H xs vs ds S rx e Q z
  unfold sortDA at e
  split at e
  · obtain ⟨v, rfl, r⟩ := one_of rx
    rename_i s
    obtain ⟨kvs, e1, e2⟩ := Option.bind_eq_some_iff.mp e
    obtain ⟨ns, e3, e4⟩ := Option.bind_eq_some_iff.mp e2
    obtain ⟨hl, rfl⟩ := gd_some e4
    obtain ⟨a, ws, rfl, hH, hk⟩ := kv_at S r e1
    refine ⟨a, ws, ns, rfl, hH, ?_, fun ms p hp ho hf => ?_⟩
    · rw [← keysI_some e3]; exact hk.1.symm
    · rw [sortI_eq hp ho]
      exact z _ p (RDs.of_ints _) (by rw [List.length_map, sortI_len, sizeLine_eq]; omega) hf
  · cases e
theorem Sr.frzK {n : Nat} {a : Addr} {kvs : List (Key × D)} (S : Sr K G δ M ι σ H) (hn : ι[n]? = some (some a)) (h0 : G.i0.length ≤ n) (hc : M[n]? = some (.dk kvs)) :
    ∃ xs, H a = some (.dK xs) ∧ ∀ od, Sr K G δ (M.set n .gone) (ι.set n none) σ (upd H a (.frz od (.dK xs))) ∧ Ex ι (ι.set n none) ∧ Kp ι H (ι.set n none) (upd H a (.frz od (.dK xs))) ∧ RD K G.N (upd H a (.frz od (.dK xs))) (ι.set n none) (.dk (kvs.map (·.1)) (kvs.map (·.2))) (.ref a) := by
  obtain ⟨xs, hH, h1, h3⟩ := S.mem.cell n _ a hc hn
  have hmem : some a ∈ ι := List.mem_of_getElem? hn
  refine ⟨xs, hH, fun od => ?_⟩
  have kk : Kp ι H (ι.set n none) (upd H a (.frz od (.dK xs))) := fun b o e h => ⟨by rw [upd_ne (fun z => h (by rw [z]; exact hmem))]; exact e, fun z => by
    rcases List.mem_or_eq_of_mem_set z with z | z
    · exact h z
    · cases z⟩
  have ee : Ex ι (ι.set n none) := fun m o e => by
    by_cases h : n = m
    · subst h
      exact .inr (List.getElem?_set_self (List.getElem?_eq_some_iff.mp e).1)
    · rw [List.getElem?_set_ne h]; exact .inl e
  have back : ∀ (m : Nat) (b : Addr), (ι.set n none)[m]? = some (some b) → n ≠ m ∧ ι[m]? = some (some b) := fun m b e => by
    by_cases h : n = m
    · subst h
      rw [List.getElem?_set_self (List.getElem?_eq_some_iff.mp hn).1] at e; cases e
    · rw [List.getElem?_set_ne h] at e; exact ⟨h, e⟩
  have hno : some a ∉ ι.set n none := fun z => by
    obtain ⟨m, hm⟩ := List.getElem?_of_mem z
    obtain ⟨h1, h2⟩ := back m a hm
    exact h1 (S.mem.nod _ _ _ hn h2)
  refine ⟨⟨S.len, fun i d e => ?_, ⟨by simp [S.mem.len], fun m m' b e1 e2 => S.mem.nod _ _ _ (back m b e1).2 (back m' b e2).2, fun m c b e1 e2 => ?_, fun m e => ?_, fun m c e1 => ?_⟩, fun m b e => ?_, S.kp.trans kk, fun b hb h1 => ?_, S.bad, fun b hb => ⟨fun z => ?_, ?_⟩, S.obk.turn (by refine ObT.of hH ?_ ?_ <;> (intro C dx fs z; cases z))⟩, ee, kk,
    a, xs, od, rfl, upd_same, hno, h1, h3.mono kk fun _ _ _ _ z => z⟩
  · obtain ⟨v, e1, r⟩ := S.slot i d e
    exact ⟨v, e1, r.mono kk ee fun _ _ _ _ z => z⟩
  · obtain ⟨h1, h2⟩ := back m b e2
    rw [List.getElem?_set_ne h1] at e1
    refine (S.mem.cell m c b e1 h2).mono kk ee (fun _ _ _ _ z => z) (upd_ne fun z => ?_)
    exact h1 (S.mem.nod _ _ _ (z ▸ hn) h2)
  · by_cases h : n = m
    · subst h; exact List.getElem?_set_self (List.getElem?_eq_some_iff.mp hc).1
    · rw [List.getElem?_set_ne h] at e ⊢; exact S.mem.gone m e
  · by_cases h : n = m
    · subst h
      rw [List.getElem?_set_self (List.getElem?_eq_some_iff.mp hc).1] at e1
      cases e1; trivial
    · rw [List.getElem?_set_ne h] at e1; exact S.mem.wf m c e1
  · rw [List.getElem?_set_ne (fun h => by have := (List.getElem?_eq_some_iff.mp e).1; omega)]; exact S.pre m b e
  · rcases List.mem_or_eq_of_mem_set hb with z | z
    · exact S.new b z h1
    · cases z
  · rcases List.mem_or_eq_of_mem_set z with z | z
    · exact (S.hid b hb).1 z
    · cases z
  · obtain ⟨o, ho⟩ := (S.hid b hb).2
    by_cases z : b = a
    · rw [z]; exact ⟨_, upd_same⟩
    · exact ⟨o, by rw [upd_ne z]; exact ho⟩
/-- the value, its dict changing no more -/
def sealK (m0 : Nat) (M : Mem) : Sv → Option (Sv × Mem)
  | .ref n => if m0 ≤ n then (cellK M[n]?).map fun kvs => (.d (.dk (kvs.map (·.1)) (kvs.map (·.2))), M.set n .gone) else none
  | x => some (x, M)
def eSealK (m0 : Nat) (t : TE') : TE' := fun δ M Q => t δ M fun d M1 => ok (sealK m0 M1 d) fun r => Q r.1 r.2
theorem VE.sealK {m0 : Nat} (hG : G.i0.length = m0) (h : VE X G e t) : VE X G e (eSealK m0 t) :=
  PE.weak (pe_lockV h) fun σ H Q ⟨δ, M, ι, Q0, S, q, z⟩ => ⟨δ, M, ι, _, S, q, fun d M' ι' H' v h1 p1 k1 S1 r1 => by
    obtain ⟨r, e, h1⟩ := ok_elim h1
    cases d with
    | d x => cases e; exact .inl (z _ _ ι' H' v h1 p1 k1 S1 r1)
    | bor ds => cases e; exact .inl (z _ _ ι' H' v h1 p1 k1 S1 r1)
    | ref n =>
      have e0 : VL.sealK m0 M' (.ref n) = (if m0 ≤ n then (cellK M'[n]?).map fun kvs => (.d (.dk (kvs.map (·.1)) (kvs.map (·.2))), M'.set n .gone) else none) := rfl
      rw [e0] at e
      by_cases hn : m0 ≤ n
      · rw [if_pos hn] at e
        obtain ⟨kvs, e1, rfl⟩ := Option.map_eq_some_iff.mp e
        obtain ⟨a, rfl, ha, _⟩ := S1.mem.at r1 (cellK_some e1) (fun z => nomatch z)
        obtain ⟨xs, hH, f⟩ := S1.frzK ha (by omega) (cellK_some e1)
        refine .inr ⟨a, _, hH, trivial, fun od => ?_⟩
        obtain ⟨S2, e2, k2, r2⟩ := f od
        exact z _ _ _ _ _ h1 (p1.trans e2) (k1.trans k2) S2 r2
      · rw [if_neg hn] at e; cases e⟩
end
end VL
set_option Elab.async false
set_option linter.all false
set_option maxRecDepth 100000
set_option maxHeartbeats 2000000
namespace VL
open PySem PySem.Spec L2 RT RZ PyProof.Rows HT
def dropKD (kvs : List (Key × D)) (k : Key) : List (Key × D) := kvs.filter fun kv => decide (kv.1 ≠ k)
section
variable {K : PySem.W.Frag} {X : Cx} {N : Bool → Addr → Prop} {H : Hp} {ι : Ix} {G : Gd} {δ : DS} {M : Mem} {σ : L2.St}
theorem RK.drop {k : Key} : ∀ {kvs : List (Key × D)} {ws : List (Key × V)}, RK K N H ι kvs ws → RK K N H ι (dropKD kvs k) (dropK ws k)
  | [], ws, h => by rw [h.nil_inv]; exact RK.nil
  | (j, d) :: kvs, ws, h => by
    obtain ⟨v, ws', rfl, r, h'⟩ := h.inv
    have ih := RK.drop (k := k) h'
    unfold dropKD dropK at ih ⊢
    by_cases e : j = k
    · rw [List.filter_cons_of_neg (by simp [e]), List.filter_cons_of_neg (by simp [e])]; exact ih
    · rw [List.filter_cons_of_pos (by simp [e]), List.filter_cons_of_pos (by simp [e])]; exact RK.cons r ih
def rDPop : V → List V → Hp → VK → Prop := fun x xs H Q => ∃ (a : Addr) (ws : List (Key × V)) (k : Key) (v : V), x = .ref a ∧ xs = [kV k] ∧ H a = some (.dK ws) ∧ valV ws k = some v ∧ Q v (upd H a (.dK (dropK ws k)))
theorem mt_dpop : MtR X "dict.pop" rDPop := by
  intro pins s σ H x xs v us Q I rx rxs ⟨a, ws, k, w, ex, exs, hH, hv, q⟩
  subst ex exs
  cases rx
  obtain ⟨u, eu, ru⟩ := vals1 rxs
  subst eu
  exact d_pop I hH ru hv (.inl rfl) fun w' s' I' r' => ⟨w, _, I', r', q⟩
def mDPop : Mt := fun o xs M Q => match o, xs with
  | .ref n, [.d kd] => ok (cellK M[n]?) fun kvs => ok (keyD kd) fun k => ok (valK kvs k) fun d => Q (.d d) (M.set n (.dk (dropKD kvs k)))
  | _, _ => False
theorem rd_dpop : RdMt K rDPop mDPop := by
  intro G δ M ι σ H o xs v vs Q0 S ro rx h Q z
  unfold mDPop at h
  split at h
  · rename_i n kd
    obtain ⟨kvs, e1, h⟩ := ok_elim h
    obtain ⟨k, e2, h⟩ := ok_elim h
    obtain ⟨d, e3, q⟩ := ok_elim h
    obtain ⟨a, rfl, hn, ws, hH, hk⟩ := S.mem.at ro (cellK_some e1) (fun z => nomatch z)
    obtain ⟨y, rfl, ry⟩ := one_of rx
    have hv := key_rd e2 (show RD K G.N H ι kd y from ry)
    subst hv
    have hk : RK K G.N H ι kvs ws := hk
    rcases hk.val k with ⟨h1, h2⟩ | ⟨d', w, h1, h2, r⟩
    · rw [h1] at e3; cases e3
    · rw [h1] at e3; cases e3
      have k9 : Kp ι H ι (upd H a (.dK (dropK ws k))) := Kp.turned (List.mem_of_getElem? hn)
      exact ⟨a, ws, k, w, rfl, rfl, hH, h2, z _ _ ι _ _ q (Ex.refl _) k9 (S.turned hn ⟨_, upd_same, hk.drop.mono k9 fun _ _ _ _ z => z⟩) ((show RS K G.N H ι (.d d) w from r).mono k9 (Ex.refl _) fun _ _ _ _ z => z)⟩
  · exact h.elim
def rUpdD : V → List V → Hp → VK → Prop := fun x xs H Q => ∃ (a b : Addr) (ws ms : List (Key × V)), x = .ref a ∧ xs = [.ref b] ∧ a ≠ b ∧ H a = some (.dK ws) ∧ Rd H b (.dK ms) ∧ ws.length + ms.length ≤ sizeLine ∧ Q .non (upd H a (.dK (mergeK ws ms)))
theorem mt_updD : MtR X "dict.update" rUpdD := by
  intro pins s σ H x xs v us Q I rx rxs ⟨a, b, ws, ms, ex, exs, hne, hH, hb, hz, q⟩
  subst ex exs
  cases rx
  obtain ⟨u, eu, ru⟩ := vals1 rxs
  subst eu
  cases ru
  obtain ⟨z, hda, vs, rel, dd⟩ := dk_of I.hok hH
  obtain ⟨z2, hdb, vs2, rel2, dd2⟩ := dk_rd I.hok hb
  refine call_meetsIn PySem.F.slot_dict_update dd.typeIs PySem.F.entry_dict_update (PySem.F.args_dict_update_2 _ _) (meets_dict_update (mixKind X.prog X.w) a b hne hdb) ⟨vs, vs2, dd, dd2, by rw [← rel.length, ← rel2.length]; exact hz, fun h' hm _ hs => ?_⟩
  have hlm : (mergeK ws ms).length ≤ sizeLine := Nat.le_trans (length_mergeK ms ws) hz
  have he : ∃ q, h'.get? a = some q := let ⟨q, _, _, hq, _⟩ := hm; ⟨q, hq⟩
  exact ⟨.non, _, d_write I (by rw [hH]; exact True.intro) hs he (dk_new hlm hda (L2.KV.merge rel2 rel) hm), rfl, q⟩
def mUpdD : Mt := fun o xs M Q => match o, xs with
  | .ref n, [.ref m] => n ≠ m ∧ ok (cellK M[n]?) fun kvs => ok (cellK M[m]?) fun more => kvs.length + more.length ≤ sizeLine ∧ Q (.d .non) (M.set n (.dk (mrgK kvs more)))
  | _, _ => False
theorem rd_updD : RdMt K rUpdD mUpdD := by
  intro G δ M ι σ H o xs v vs Q0 S ro rx h Q z
  unfold mUpdD at h
  split at h
  · rename_i n m
    obtain ⟨hnm, h⟩ := h
    obtain ⟨kvs, e1, h⟩ := ok_elim h
    obtain ⟨more, e2, hl, q⟩ := ok_elim h
    obtain ⟨a, rfl, hn, ws, hH, hk⟩ := S.mem.at ro (cellK_some e1) (fun z => nomatch z)
    obtain ⟨y, rfl, ry⟩ := one_of rx
    obtain ⟨b, rfl, hm, ms, hB, hkm⟩ := S.mem.at ry (cellK_some e2) (fun z => nomatch z)
    have hk : RK K G.N H ι kvs ws := hk
    have hkm : RK K G.N H ι more ms := hkm
    have k9 : Kp ι H ι (upd H a (.dK (mergeK ws ms))) := Kp.turned (List.mem_of_getElem? hn)
    exact ⟨a, b, ws, ms, rfl, rfl, fun e => hnm (S.mem.nod n m _ hn (e ▸ hm)), hH, .inl hB, by rw [← hk.length, ← hkm.length]; exact hl,
      z _ _ ι _ _ q (Ex.refl _) k9 (S.turned hn ⟨_, upd_same, (RK.merge hk hkm).mono k9 fun _ _ _ _ z => z⟩) rfl⟩
  · exact h.elim
/-- the pairs of a display -/
def tPs : List (Str × TE') → DS → Mem → (List (Key × D) → Mem → Prop) → Prop
  | [], _, M, Q => Q [] M
  | (x, t) :: r, δ, M, Q => t δ M fun s M1 => ok (dataS s) fun d => tPs r δ M1 fun kvs M2 => Q ((.inr x, d) :: kvs) M2
def eDispK (ts : List (Str × TE')) : TE' := fun δ M Q => tPs ts δ (M ++ [.dk []]) fun kvs M2 => ok (cellK M2[M.length]?) fun e => e = [] ∧ Q (.ref M.length) (M2.set M.length (.dk (mrgK [] kvs)))
/-- the trees of the pairs -/
def lPs (K : PySem.W.Frag) (G : Gd) : List (Str × TE') → List (TE × TE)
  | [] => []
  | (x, t) :: r => (tC (.str x), lE K G t) :: lPs K G r
/-- a display's pairs, over the trees -/
theorem tPs_run : ∀ {ts : List (Str × TE')} {M : Mem} {ι : Ix} {H : Hp} {Q0 : List (Key × D) → Mem → Prop} {Q : List (V × V) → Hp → Prop}, Sr K G δ M ι σ H → tPs ts δ M Q0 →
    (∀ kvs M' ι' H' ws, Q0 kvs M' → kvs.length = ts.length → Ex ι ι' → Kp ι H ι' H' → Sr K G δ M' ι' σ H' → RK K G.N H' ι' kvs ws → Q (ws.map fun kv => (kV kv.1, kv.2)) H') → tPairs (lPs K G ts) σ H Q
  | [], M, ι, H, Q0, Q, S, h, z => z [] M ι H [] h rfl (Ex.refl _) (Kp.refl _ _) S RK.nil
  | (x, t) :: r, M, ι, H, Q0, Q, S, h, z => by
    show lE K G t σ H fun y H2 => tPairs (lPs K G r) σ H2 fun ps H3 => Q ((.str x, y) :: ps) H3
    refine th1 S h fun s M1 ι1 H1 v q1 p1 k1 S1 r1 => ?_
    obtain ⟨d, e, q1⟩ := ok_elim q1
    refine tPs_run S1 q1 fun kvs M2 ι2 H2 ws q2 hl p2 k2 S2 r2 => ?_
    have r3 : RS K G.N H2 ι2 s v := r1.mono k2 p2 fun _ _ _ _ z => z
    cases s with
    | d y =>
      cases e
      exact z _ M2 ι2 H2 ((.inr x, v) :: ws) q2 (by simp [hl]) (p1.trans p2) (k1.trans k2) S2 (RK.cons r3 r2)
    | ref n => cases e
    | bor n => cases e
/-- what is seen of a display's text -/
structure VPs (X : Cx) (G : Gd) (pos : Pos) (keys : List (Option Expr)) (values : List Expr) (ts : List (Str × TE')) : Prop where
  run : PPs X pos keys values (lPs X.K G ts)
theorem vps_nil {pos : Pos} : VPs X G pos [] [] [] := ⟨pps_nil⟩
theorem vps_cons {pos p : Pos} {x : Str} {j : Nat} {v : Expr} {ks : List (Option Expr)} {vs : List Expr} {t : TE'} {r : List (Str × TE')} (hv : VE X G v t) (h : VPs X G pos ks vs r) : VPs X G pos (some (.Constant (.str x) j p) :: ks) (v :: vs) ((x, t) :: r) := ⟨pps_cons pe_str hv h.run⟩
theorem ve_dispK {pos : Pos} {keys : List (Option Expr)} {values : List Expr} {ts : List (Str × TE')} (h : VPs X G pos keys values ts) (hall : keys.all (·.isSome) = true := by rfl) (hl : keys.length = values.length := by rfl) (h0 : keys ≠ [] := by exact fun h => by cases h)
    (h15 : keys.length ≤ 15 := by decide) (ht : ts.length ≤ 15 := by decide) : VE X G (.Dict keys values pos) (eDispK ts) :=
  PE.weak (pe_disp h.run hall hl h0 h15) fun σ H Q ⟨δ, M, ι, Q0, S, q, z⟩ => fun p hp => by
    have S1 := S.named (c := .dk []) (o := .dK []) hp ⟨[], upd_same, rfl, rfl⟩
    have kk : Kp ι H (ι ++ [some p]) (upd H p (.dK [])) := Kp.named hp
    refine tPs_run S1 q fun kvs M2 ι2 H2 ws q2 hkl p2 k2 S2 r2 => ?_
    obtain ⟨e, e1, rfl, q2⟩ := ok_elim q2
    have r0 : RS X.K G.N (upd H p (.dK [])) (ι ++ [some p]) (.ref M.length) (.ref p) := ⟨p, rfl, .inl (by rw [S.mem.len]; simp)⟩
    obtain ⟨a, ea, hn, ys, hH, hk⟩ := S2.mem.at (r0.mono k2 p2 fun _ _ _ _ z => z) (cellK_some e1) (fun z => nomatch z)
    cases ea
    have hy : ys = [] := RK.nil_inv (show RK X.K G.N H2 ι2 [] ys from hk)
    subst hy
    refine ⟨hH, ws, rfl, by rw [← r2.length, hkl]; exact ht, ?_⟩
    have k9 : Kp ι2 H2 ι2 (upd H2 p (.dK (mergeK [] ws))) := Kp.turned (List.mem_of_getElem? hn)
    have p9 : Ex ι ι2 := (Ex.app _ _).trans p2
    refine z (.ref M.length) _ ι2 _ _ q2 p9 ((kk.trans k2).trans k9) (S2.turned hn ⟨_, upd_same, (RK.merge RK.nil r2).mono k9 fun _ _ _ _ z => z⟩) ⟨p, rfl, .inl hn⟩
end
def sFldA (cs : List (Str × List Str)) (f : Str) (j : Int) (to : TE') : TS' := fun E δ M => to δ M fun x M1 => match fldD cs f M1 x with
  | some (.d (.int i)) => ok (fldPut cs f M1 (.d (.int (i + j))) x) fun M3 => E.nx δ M3
  | _ => False
section
variable {X : Cx} {G : Gd} {o : Expr} {to : TE'} {pos pos' p : Pos} {cs : List (Str × List Str)} {f : Str} {j : Int} {jj : Nat}
theorem vs_fldA (hC : ObC X.K cs) (ho : VE X G o to) : VS X G (.AugAssign (.Attribute o f pos') .Add (.Constant (.int j) jj p) pos) (sFldA cs f j to) := by
  refine PS.weak (ps_fldaug ho pe_int in_add) fun D σ H ⟨δ, M, ι, E0, S, h, z⟩ => ?_
  refine th1 S h fun x M1 ι1 H1 u q1 p1 k1 S1 r1 => ?_
  split at q1
  · rename_i i e
    obtain ⟨M3, e1, q3⟩ := ok_elim q1
    unfold fldPut at e1
    split at e1
    · rename_i i' n hx
      cases hx
      split at e1
      · rename_i c fs its hM
        obtain ⟨gs, hg, e1⟩ := Option.bind_eq_some_iff.mp e1
        split at e1
        · rename_i hf
          obtain ⟨its', hp, rfl⟩ := Option.map_eq_some_iff.mp e1
          unfold fldD at e
          simp only [hM, hg, Option.bind_some, if_pos hf.1] at e
          obtain ⟨it, hl9, e9⟩ := Option.map_eq_some_iff.mp e
          obtain ⟨a, rfl, ha, xs, ⟨dx, hH, hdx, hnx, hlen⟩, hl, r⟩ := S1.mem.at r1 hM (fun z => nomatch z)
          obtain ⟨w, hw, rw_⟩ := r.look hl9
          have rw2 := rw_.sv
          rw [e9] at rw2
          cases (show w = .int i from rw2)
          obtain ⟨hc, hnf⟩ := hC _ (look_mem hg)
          obtain ⟨xs', g1, g2, g3, g4, g5⟩ := putI_ok r hp
          have hm := List.mem_of_getElem? ha
          have k : Kp ι1 H1 ι1 (upd H1 a (.ins (He.ga X.K c) dx (fs.zip xs'))) := Kp.turned hm
          have hda : dx ≠ a := fun z => hnx (by rw [z]; exact hm)
          refine ⟨a, _, dx, _, .int i, rfl, hH, hc, hnf f hf.1, hw, i, j, rfl, rfl, dx, _, hH, ?_, ?_⟩
          · rw [List.length_zip]; omega
          · rw [g1]
            refine z.nx _ _ ι1 _ _ q3 p1 (k1.trans k) (S1.turned ha ⟨xs', ⟨dx, upd_same, by rw [upd_ne hda]; exact hdx, hnx, by rw [g4]; exact hlen⟩, ?_, g2.mono k (Ex.refl _) fun _ _ _ _ z => z⟩ (fun t ht => S1.mem.wf _ _ hM t (g5 t ht)) ⟨fun C dx2 fs2 q => ?_, fun C dx2 fs2 q => ?_⟩)
            · have e8 := g2.length
              have e9 := r.length
              omega
            · rw [hH] at q; cases q
              exact ⟨_, rfl, g3⟩
            · cases q
              exact ⟨_, hH⟩
        · cases e1
      · cases e1
    · cases e1
  · exact q1.elim
end
end VL
set_option Elab.async false
set_option linter.all false
set_option maxRecDepth 100000
set_option maxHeartbeats 4000000
namespace VL
open PySem PySem.Spec L2 RT RZ PyProof.Rows HT
open L2.DX (itemsO itemsO_ok takeT)
section
variable {X : Cx}
/-- pairs of an int and something -/
def IsIP (h : Heap) (v : Value) (n : Int) : Prop := ∃ a o t u k, v = .ref a ∧ h.get? a = some o ∧ o.cls = .type "tuple" ∧ o.data = .seq #[.int n t, u] k
theorem IsIP.keeps {h h' : Heap} {v : Value} {n : Int} (p : IsIP h v n) (k : ∀ b o, h.get? b = some o → o.cls = .type "tuple" → h'.get? b = some o) : IsIP h' v n := by
  obtain ⟨a, o, t, u, m, e, ho, hc, hd⟩ := p
  exact ⟨a, o, t, u, m, e, k _ _ ho hc, hc, hd⟩
end
end VL
set_option Elab.async false
set_option linter.all false
set_option maxRecDepth 100000
set_option maxHeartbeats 4000000
namespace VL
open PySem PySem.Spec L2 RT RZ
/-- a list that was not there at the start -/
abbrev NF (H : Hp) (ι : Ix) : Bool → Addr → Prop := fun b a => b = true → ∀ o, H a = some o → some a ∈ ι
section
variable {K : PySem.W.Frag} {G : Gd} {δ : DS} {M : Mem} {ι : Ix} {σ : L2.St} {H : Hp}
theorem NF.to {ι' : Ix} {H' : Hp} (k : Kp ι H ι' H') {b : Bool} {a : Addr} (h : NF H' ι' b a) : NF H ι b a := fun hb o e => by
  by_cases hi : some a ∈ ι
  · exact hi
  · obtain ⟨q, n⟩ := k a o e hi
    exact absurd (h hb o q) n
/-- all that is there stays -/
theorem Sr.grown {H' : Hp} (S : Sr K G δ M ι σ H) (k : ∀ a o, H a = some o → H' a = some o) : Sr K G δ M ι σ H' := by
  have kk : Kp ι H ι H' := fun a o e n => ⟨k a o e, n⟩
  refine ⟨S.len, fun i d e => ?_, ⟨S.mem.len, S.mem.nod, fun n c a e1 e2 => ?_, S.mem.gone, S.mem.wf⟩, S.pre, S.kp.trans kk, S.new, S.bad, fun a ha => ⟨(S.hid a ha).1, ?_⟩, ?_⟩
  · obtain ⟨v, e1, r⟩ := S.slot i d e
    exact ⟨v, e1, r.mono kk (Ex.refl _) (fun _ _ _ _ z => z)⟩
  · have q := S.mem.cell n c a e1 e2
    obtain ⟨o, ho⟩ := q.has
    exact q.mono kk (Ex.refl _) (fun _ _ _ _ z => z) (by rw [ho, k a o ho])
  · obtain ⟨u, q⟩ := (S.hid a ha).2
    exact ⟨u, k a u q⟩
  · intro a ha
    obtain ⟨u, hu⟩ := S.i0there a ha
    obtain ⟨o1, o2⟩ := S.obk a ha
    refine ⟨fun C dx fs e => ?_, fun C dx fs e => ?_⟩
    · obtain ⟨fs', e', s⟩ := o1 C dx fs e
      exact ⟨fs', k a _ e', s⟩
    · rw [k a u hu] at e
      exact o2 C dx fs (by rw [hu]; exact e)
end
end VL
set_option Elab.async false
set_option linter.all false
set_option maxRecDepth 100000
set_option maxHeartbeats 2000000
namespace VL
open PySem PySem.Spec L2 RT RZ PyProof.Rows HT
open L2.DX (itemsO)
/-- the pairs, rising -/
def soIt (kvs : List (Key × D)) (ns : List Int) : List D := (sortI ns).map fun n => .tup [.int n, (valK kvs (.inl n)).getD .non]
end VL
set_option Elab.async false
set_option linter.all false
set_option maxRecDepth 100000
set_option maxHeartbeats 2000000
namespace VL
open PySem PySem.Spec L2 RT RZ PyProof.Rows HT
section
variable {K : PySem.W.Frag} {X : Cx} {G : Gd} {a : Expr} {ta : TE'} {pos p : Pos}
def isNil (M : Mem) (x y : Sv) : Option Bool := match y with
  | .d (.lst []) => (lstD M x).map (·.isEmpty)
  | _ => none
def eqNilD (M : Mem) (x y : Sv) : Option Sv := (isNil M x y).map blS
def rEqN (K : PySem.W.Frag) : R2 := fun x y H Q => ∃ a b xs, x = .ref a ∧ y = .ref b ∧ SqL K H a xs ∧ SqL K H b [] ∧ Q (.bl xs.isEmpty) H
theorem op_eqN (hu : X.A.units < cLine) : OpR X (compareOp .Eq) (rEqN X.K) := by
  intro pins s σ H x y v u Q I rx ry ⟨a, b, xs, ex, ey, ha, hb, q⟩
  subst ex ey
  obtain rfl : v = Value.ref a := rx
  obtain rfl : u = Value.ref b := ry
  obtain ⟨its, r1, p1, _⟩ := I.list ha
  obtain ⟨its2, r2, p2, _⟩ := I.list hb
  cases r2
  cases r1 with
  | nil => exact SeqAt.RcAt.lists (e := fun _ => true) p1.isList p2.isList rfl hu (fun j h1 => absurd h1 (by simp)) X.prog X.w _ _ ⟨.bl true, H, I, rfl, q⟩
  | cons h t => exact SeqAt.RcAt.lists_lengths p1.isList p2.isList (by simp) hu X.prog X.w _ _ ⟨.bl false, H, I, rfl, q⟩
theorem rd_eqN : Rd2 K (rEqN K) eqNilD := by
  intro G δ M ι σ H x y v u d S rx ry e Q z
  obtain ⟨c, e1, rfl⟩ := Option.map_eq_some_iff.mp (show (isNil M x y).map _ = some d from e)
  unfold isNil at e1
  split at e1
  · obtain ⟨ds, e2, rfl⟩ := Option.map_eq_some_iff.mp e1
    obtain ⟨a, xs, rfl, hq, r⟩ := lst_of S rx e2
    obtain ⟨b, ys, rfl, q2, _, _, _, r2⟩ := ry
    cases (show ys = [] from r2)
    refine ⟨a, b, xs, rfl, rfl, hq, SqL.of q2, fin_same S z ?_⟩
    have := r.length
    cases ds <;> cases xs <;> first | rfl | (simp at this)
  · cases e1
def rDNil (ne : Bool) : R2 := fun x y H Q => ∃ a b ks, x = .ref a ∧ y = .ref b ∧ Rd H a (.dK ks) ∧ H b = some (.dK []) ∧ Q (.bl (if ne then !ks.isEmpty else ks.isEmpty)) H
theorem dnil_hits {A : Around} {s : Shared} {ks : List (Key × V)} {va vb : List (Key × Value)} (ra : L2.KV ks va) (rb : L2.KV [] vb) (hl : va.length = vb.length) : PySem.W.KeqHits A s vb va true := by
  have e : ks = [] := by
    have h1 := ra.length
    have h2 := rb.length
    rw [List.length_nil] at h2
    exact List.length_eq_zero_iff.mp (by rw [h1, hl, ← h2])
  subst e
  exact hits_all rb ra (fun p hp => by cases hp)
theorem dnil_len {ks : List (Key × V)} {va vb : List (Key × Value)} (ra : L2.KV ks va) (rb : L2.KV [] vb) : (va.length == vb.length && true) = ks.isEmpty := by
  have h1 := ra.length
  have h2 := rb.length
  cases ks with
  | nil => simp at h1 h2 ⊢; omega
  | cons k ks => simp at h1 h2 ⊢; omega
theorem op_dne (hu : X.A.units < cLine) : OpR X (compareOp .NotEq) (rDNil true) := by
  intro pins s σ H x y v u Q I rx ry ⟨a, b, ks, ex, ey, ha, hb, q⟩
  subst ex ey
  obtain rfl : v = Value.ref a := rx
  obtain rfl : u = Value.ref b := ry
  obtain ⟨_, ya, va, ra, da⟩ := dk_rd I.hok ha
  obtain ⟨_, yb, vb, rb, db⟩ := dk_of I.hok hb
  exact PySem.W.keq_ne (knd := mixKind X.prog X.w) (r := true) ya yb da db hu (fun hl => dnil_hits ra rb hl) (fin_bl I q (by rw [dnil_len ra rb]; rfl))
def dnilD (ne : Bool) (M : Mem) (x : Sv) : Option Sv := (kvAt M x).map fun kvs => blS (if ne then !kvs.isEmpty else kvs.isEmpty)
theorem fin_dnil {ne : Bool} {σ : L2.St} {H : Hp} {Q : VK} (h : lE X.K G (eo1 (dnilD ne) ta) σ H Q) : tOp (rDNil ne) (lE X.K G ta) tDNewK σ H Q := by
  obtain ⟨δ, M, ι, Q0, S, h, z⟩ := h
  refine th1 S h fun x M1 ι1 H1 v h1 p1 k1 S1 r1 => ?_
  obtain ⟨d, e, h1⟩ := ok_elim h1
  obtain ⟨kvs, e1, rfl⟩ := Option.map_eq_some_iff.mp (show (kvAt M1 x).map _ = some d from e)
  obtain ⟨a, ws, rfl, hH, hk⟩ := kv_at S1 r1 e1
  refine fun p hp => ⟨a, p, ws, rfl, rfl, ?_, upd_same, ?_⟩
  · rcases hH with hH | ⟨o, hH⟩
    · exact .inl (by rw [upd_ne (ne_of_none hH hp)]; exact hH)
    · exact .inr ⟨o, by rw [upd_ne (ne_of_none hH hp)]; exact hH⟩
  · refine z _ M1 ι1 _ _ h1 p1 (k1.trans (Kp.laid hp)) (S1.laid hp) ?_
    have := hk.length
    cases kvs <;> cases ws <;> first | rfl | (simp at this)
theorem vt_dne (hu : X.A.units < cLine) (ha : VE X G a ta) (hm : behindInMarks .NotEq (.Dict [] [] p) = false := by exact nomark _) : VT X G (.Compare a [.NotEq] [.Dict [] [] p] pos) (tTb (eo1 (dnilD true) ta)) := by
  have h := pt_cmpR (pos := pos) (op_dne hu) ha pe_dnewK hm
  exact ⟨fun pins s σ H Q I q => h.run pins s σ H Q I (fin_dnil (fin_tb q))⟩
theorem VT.pureB1 {f : Mem → Sv → Option Sv} {v : PV} (h : VT X G a (tTb (eo1 f (eP v)))) : VT X G a (cP (bB (po1 f v))) := h.weak fun δ M Q h => by
  unfold cP bB po1 at h
  rw [ok_bind] at h
  obtain ⟨d, q1, h⟩ := ok_elim h
  obtain ⟨x, q2, q3⟩ := Option.bind_eq_some_iff.mp q1
  exact ok_of q2 (ok_of q3 h)
end
end VL
set_option Elab.async false
set_option linter.all false
set_option maxRecDepth 100000
set_option maxHeartbeats 2000000
namespace VL
open PySem PySem.Spec L2 RT RZ PyProof.Rows HT
def kDa : Key → D
  | .inl i => .int i
  | .inr s => .str s
theorem kDa_rd {K : PySem.W.Frag} {N : Bool → Addr → Prop} {H : Hp} {ι : Ix} (k : Key) : RD K N H ι (kDa k) (kV k) := by cases k <;> rfl
def iVk (t : TE') : TI' := fun δ M Q => t δ M fun s M1 => match s with
  | .d (.dk ks ds) => ks.length ≤ sizeLine ∧ Q ds (fun _ => True) M1
  | _ => False
def iIk (t : TE') : TI' := fun δ M Q => t δ M fun s M1 => match s with
  | .d (.dk ks ds) => ks.length ≤ sizeLine ∧ Q ((ks.zip ds).map fun p => .tup [kDa p.1, p.2]) (fun _ => True) M1
  | _ => False
section
variable {X : Cx} {G : Gd} {e : Expr} {t : TE'} {apos cpos : Pos}
theorem vi_valsK {bd : Bool} {tg : Expr} (h : VE X G e t) (hbase : attributeBase e "values" X.env (eval e X.env) = eval e X.env := by rfl) (hline : (apos.endLine == cpos.line) = true := by rfl) : VI X G bd tg (.Call (.Attribute e "values" apos) [] [] cpos) (iVk t) := by
  have hi := pi_values (tg := tg) (apos := apos) (cpos := cpos) h hbase hline
  refine ⟨fun pins s σ H R I ⟨δ, M, ι, Q0, S, q, z⟩ => hi.run pins s σ H R I ?_⟩
  refine th1 S q fun x M1 ι1 H1 v q1 p1 k1 S1 r1 => ?_
  split at q1
  · rename_i ks ds
    obtain ⟨hl, q1⟩ := q1
    obtain ⟨a, ws, o, rfl, hq, hno, h1, h2⟩ := r1
    have hlen : ds.length = ws.length := by
      have := h2.length
      simpa using this
    have hkl : ks.length = ws.length := by rw [h1, List.length_map]
    refine ⟨a, o, ws, rfl, hq, z ds _ M1 ι1 H1 _ (fun _ => by omega) q1 p1 k1 S1 ?_⟩
    intro G2 δ2 M2 ι2 σ2 H2 hn2 S2 e2 k2 hg
    have hq2 := k2 a _ hq hno
    refine ⟨⟨hq2.1, by omega⟩, fun i d hd => ?_⟩
    obtain ⟨v, hv, rv⟩ := h2.get hd
    have hil := (List.getElem?_eq_some_iff.mp hd).1
    refine ⟨⟨hq2.1, by omega⟩, fun x H3 y => ?_⟩
    obtain ⟨rfl, k, hkq⟩ := y
    rw [List.getElem?_map, hkq] at hv
    cases hv
    exact ⟨.inl rfl, S2, Kp.refl _ _, rv.mono k2 hn2⟩
  · exact q1.elim
theorem vi_itemsK {bd : Bool} {elts : List Expr} {kk : Nat} {tpos : Pos} (h : VE X G e t) (hbase : attributeBase e "items" X.env (eval e X.env) = eval e X.env := by rfl) (hline : (apos.endLine == cpos.line) = true := by rfl) : VI X G bd (.Tuple elts kk tpos) (.Call (.Attribute e "items" apos) [] [] cpos) (iIk t) := by
  have hi := pi_items (elts := elts) (kk := kk) (tpos := tpos) (apos := apos) (cpos := cpos) h hbase hline
  refine ⟨fun pins s σ H R I ⟨δ, M, ι, Q0, S, q, z⟩ => hi.run pins s σ H R I ?_⟩
  refine th1 S q fun x M1 ι1 H1 v q1 p1 k1 S1 r1 => ?_
  split at q1
  · rename_i ks ds
    obtain ⟨hl, q1⟩ := q1
    obtain ⟨a, ws, o, rfl, hq, hno, h1, h2⟩ := r1
    have hlen : ds.length = ws.length := by
      have := h2.length
      simpa using this
    have hkl : ks.length = ws.length := by rw [h1, List.length_map]
    refine ⟨a, o, ws, rfl, hq, z _ _ M1 ι1 H1 _ (fun _ => by rw [List.length_map, List.length_zip]; omega) q1 p1 k1 S1 ?_⟩
    intro G2 δ2 M2 ι2 σ2 H2 hn2 S2 e2 k2 hg
    have hq2 := k2 a _ hq hno
    refine ⟨⟨hq2.1, by rw [List.length_map, List.length_zip]; omega⟩, fun i d hd => ?_⟩
    rw [List.getElem?_map] at hd
    obtain ⟨⟨k, d0⟩, hz, rfl⟩ := Option.map_eq_some_iff.mp hd
    obtain ⟨hz1, hz2⟩ := List.getElem?_zip_eq_some.mp hz
    obtain ⟨v, hv, rv⟩ := h2.get hz2
    have hil := (List.getElem?_eq_some_iff.mp hz2).1
    refine ⟨⟨hq2.1, by omega⟩, fun x H3 y => ?_⟩
    obtain ⟨T, k', v', hkv, rfl, hT, rfl⟩ := y
    rw [List.getElem?_map, hkv] at hv
    cases hv
    have hk : k = k' := by
      rw [h1, List.getElem?_map, hkv] at hz1
      cases hz1; rfl
    subst hk
    exact ⟨.inr ⟨T, _, hT, rfl⟩, fin_pair S2 hT (kDa_rd k) (rv.mono k2 hn2)⟩
  · exact q1.elim
end
end VL
set_option Elab.async false
set_option linter.all false
set_option maxRecDepth 100000
set_option maxHeartbeats 4000000
namespace VL
open PySem PySem.Spec L2 RT RZ PyProof.Rows HT
def fitK (bs : List Int) : List (Key × D) → Option (List D)
  | [] => some []
  | (.inl i, .int j) :: r => (atI bs i).bind fun b => (fitK bs r).map fun l => .bl (decide (b = j)) :: l
  | _ => none
def intsT : Sv → Option (List Int)
  | .d (.tup ds) => intsOf ds
  | _ => none
def fldK (cs : List (Str × List Str)) (f : Str) (M : Mem) (o : Sv) : Option (List (Key × D)) := match fldD cs f M o with
  | some (.ref m) => cellK M[m]?
  | _ => none
def fFit (cs : List (Str × List Str)) (f : Str) (so sx : Nat) (sk sv : Nat) : TF' := fun δ M Q => ok (δ[so]?).join fun o => ok (δ[sx]?).join fun x => ok (fldK cs f M o) fun kvs => ok (intsT x) fun bs => ok (fitK bs kvs) fun ds => (kvs.length ≤ 1000000 ∧ sk < δ.length ∧ sv < δ.length) ∧ Q ds M
theorem fit_len {bs : List Int} : ∀ {kvs : List (Key × D)} {ds : List D}, fitK bs kvs = some ds → ds.length = kvs.length
  | [], ds, h => by cases h; rfl
  | (.inl i, .int j) :: r, ds, h => by
    obtain ⟨b, e1, h⟩ := Option.bind_eq_some_iff.mp (show (atI bs i).bind _ = some ds from h)
    obtain ⟨l, e2, rfl⟩ := Option.map_eq_some_iff.mp h
    simp [fit_len e2]
  | (.inr s, _) :: r, ds, h => by cases h
  | (.inl i, .non) :: r, ds, h => by cases h
  | (.inl i, .bl _) :: r, ds, h => by cases h
  | (.inl i, .str _) :: r, ds, h => by cases h
  | (.inl i, .tup _) :: r, ds, h => by cases h
  | (.inl i, .lst _) :: r, ds, h => by cases h
  | (.inl i, .scr _) :: r, ds, h => by cases h
  | (.inl i, .fn _) :: r, ds, h => by cases h
  | (.inl i, .ty _) :: r, ds, h => by cases h
  | (.inl i, .cls _) :: r, ds, h => by cases h
  | (.inl i, .exc _ _) :: r, ds, h => by cases h
  | (.inl i, .dn _ _) :: r, ds, h => by cases h
  | (.inl i, .dk _ _) :: r, ds, h => by cases h
theorem fit_at {bs : List Int} : ∀ {kvs : List (Key × D)} {ds : List D}, fitK bs kvs = some ds → ∀ {n : Nat} {p : Key × D}, kvs[n]? = some p → ∃ i j b, p = (.inl i, .int j) ∧ atI bs i = some b ∧ ds[n]? = some (.bl (decide (b = j)))
  | [], ds, h, n, p, hp => by simp at hp
  | q :: r, ds, h, n, p, hp => by
    obtain ⟨i, j, b, l, rfl, e1, e2, rfl⟩ : ∃ i j b l, q = (.inl i, .int j) ∧ atI bs i = some b ∧ fitK bs r = some l ∧ ds = .bl (decide (b = j)) :: l := by
      obtain ⟨k, d⟩ := q
      cases k with
      | inr s => cases h
      | inl i =>
        cases d with
        | int j =>
          obtain ⟨b, e1, h⟩ := Option.bind_eq_some_iff.mp (show (atI bs i).bind _ = some ds from h)
          obtain ⟨l, e2, rfl⟩ := Option.map_eq_some_iff.mp h
          exact ⟨i, j, b, l, rfl, e1, e2, rfl⟩
        | _ => cases h
    cases n with
    | zero => cases hp; exact ⟨i, j, b, rfl, e1, rfl⟩
    | succ n => exact fit_at e2 (n := n) (by simpa using hp)
theorem atI_map {α β : Type} (f : α → β) {xs : List α} {i : Int} {x : α} (h : atI xs i = some x) : atI (xs.map f) i = some (f x) := by
  unfold atI at h ⊢
  rw [List.length_map]
  obtain ⟨n, e, h⟩ := Option.bind_eq_some_iff.mp h
  rw [e, Option.bind_some, List.getElem?_map, h]; rfl
theorem SqT.keep {K : PySem.W.Frag} {H H' : Hp} {a t : Addr} {ws : List (Key × V)} {xs : List V} (ha : H a = some (.dK ws)) (kp : ∀ b o, b ≠ a → H b = some o → H' b = some o) (h : SqT K H t xs) : SqT K H' t xs := by
  rcases h with (h | ⟨o, h⟩) | h
  · exact .inl (.inl (kp _ _ (fun e => by rw [e, ha] at h; cases h) h))
  · exact .inl (.inr ⟨o, kp _ _ (fun e => by rw [e, ha] at h; cases h) h⟩)
  · exact .inr h
theorem rds_bls {K : PySem.W.Frag} {N : Bool → Addr → Prop} {H : Hp} {ι : Ix} : ∀ l : List Bool, RDs K N H ι (l.map D.bl) (l.map V.bl)
  | [] => rfl
  | b :: l => ⟨_, _, rfl, rfl, rds_bls l⟩
section
variable {X : Cx} {G : Gd}
theorem vf_fit {cs : List (Str × List Str)} {f x k v : Str} {so sx sk sv jj : Nat} {o : Expr} {p1 p2 p3 p4 p5 p6 p7 pos fpos apos cpos tpos : Pos} {scope : Scope} (hC : ObC X.K cs) (hc : X.calm = true) (hN : X.N.Nodup) (n1 : sx ≠ sk) (n2 : sx ≠ sv) (n3 : sk ≠ sv)
    (hvo : PE X o (tVar so)) (ok' : BlkOk X.N X.env.scope scope [(k, sk), (v, sv)])
    (hg : ∀ (s : Shared) (H : Hp) (C : Addr) (cl : List (Str × Addr)) (fp : List Addr), PG (X.blk s H scope (compEnvC scope cl C X.env) fp) (.Tuple [.Name k p6, .Name v p7] jj tpos) ((LcG.tp [sk, sv]).raw X.K))
    (hx : ∀ (s : Shared) (H : Hp) (C : Addr) (cl : List (Str × Addr)) (fp : List Addr), PE (X.blk s H scope (compEnvC scope cl C X.env) fp) (.Name x p1) (tVar sx))
    (hk : ∀ (s : Shared) (H : Hp) (C : Addr) (cl : List (Str × Addr)) (fp : List Addr), PE (X.blk s H scope (compEnvC scope cl C X.env) fp) (.Name k p2) (tVar sk))
    (hv : ∀ (s : Shared) (H : Hp) (C : Addr) (cl : List (Str × Addr)) (fp : List Addr), PE (X.blk s H scope (compEnvC scope cl C X.env) fp) (.Name v p4) (tVar sv))
    (hb : attributeBase o f X.env (eval o X.env) = eval o X.env := by rfl) (hbase : attributeBase (.Attribute o f fpos) "items" X.env (eval (.Attribute o f fpos) X.env) = eval (.Attribute o f fpos) X.env := by rfl) (hline : (apos.endLine == cpos.line) = true := by rfl)
    (hs : ∀ y, foldedSetIterable (.Call (.Attribute (.Attribute o f fpos) "items" apos) [] [] cpos) X.env y = pure y := by intro _; rfl) :
    VF X G (.ListComp (.Compare (.Subscript (.Name x p1) (.Name k p2) p3) [.Eq] [.Name v p4] p5) [⟨.Tuple [.Name k p6, .Name v p7] jj tpos, .Call (.Attribute (.Attribute o f fpos) "items" apos) [] [] cpos, [], 0⟩] scope pos) (fFit cs f so sx sk sv) := by
  have h := pe_lock (pe_lc (pos := pos) (own := [(k, sk), (v, sv)]) hc hN (pi_items (elts := [.Name k p6, .Name v p7]) (kk := jj) (tpos := tpos) (pe_fld (f := f) (pos := fpos) hvo hb) hbase hline) ok' hg (fun s H C cl fp => pts_nil) (fun s H C cl fp => pe_cmpR (pos := p5) op_eq (pe_ix (pos := p3) (r := rIx X.K) (ix_seq (X := X.blk s H scope (compEnvC scope cl C X.env) fp)) (hx s H C cl fp) (hk s H C cl fp) (fun _ _ => rfl)) (hv s H C cl fp) (nomark _)) hs)
  refine PE.weak h fun σ H Q q => ?_
  obtain ⟨δ, M, ι, Q0, S, q, z⟩ := q
  obtain ⟨so', e0, q⟩ := ok_elim q
  obtain ⟨xx, e1, q⟩ := ok_elim q
  obtain ⟨kvs, e2, q⟩ := ok_elim q
  obtain ⟨bs, e3, q⟩ := ok_elim q
  obtain ⟨ds, e4, ⟨hlen, hskl, hsvl⟩, q9⟩ := ok_elim q
  obtain ⟨vo, hvo', ro⟩ := S.slot so _ (Option.join_eq_some_iff.mp e0)
  obtain ⟨vx, hvx', rx⟩ := S.slot sx _ (Option.join_eq_some_iff.mp e1)
  -- the tuple
  obtain ⟨t, rfl, ht⟩ : ∃ t, vx = .ref t ∧ SqT X.K H t (bs.map V.int) := by
    unfold intsT at e3
    split at e3
    · exact tups_of rx e3
    · cases e3
  -- the object, its dict
  unfold fldK at e2
  split at e2
  · rename_i m hm
    unfold fldD at hm
    split at hm
    · rename_i n
      split at hm
      · rename_i c fs its hM
        obtain ⟨gs, hgs, hm⟩ := Option.bind_eq_some_iff.mp hm
        split at hm
        · rename_i hf
          obtain ⟨it, hl9, e9⟩ := Option.map_eq_some_iff.mp hm
          obtain ⟨b, rfl, hbn, xs, ⟨dx, hHb, hdx, hnx, hlx⟩, hli, ri⟩ := S.mem.at ro hM (fun z => nomatch z)
          obtain ⟨w, hw, rw_⟩ := ri.look hl9
          have rw2 := rw_.sv
          rw [e9] at rw2
          obtain ⟨a, rfl, han, ws, hHa, hk1, hk2⟩ := S.mem.at rw2 (cellK_some e2) (fun z => nomatch z)
          have hkk : RK X.K G.N H ι kvs ws := ⟨hk1, hk2⟩
          obtain ⟨hcl, hna⟩ := hC _ (look_mem hgs)
          have hba : b ≠ a := fun e => by subst e; rw [hHa] at hHb; cases hHb
          have hwl : ws.length = kvs.length := hkk.length.symm
          have hdl := fit_len e4
          refine ⟨a, .dK ws, hHa, trivial, fun od => ?_⟩
          have hHb2 : (upd H a (.frz od (.dK ws))) b = some (.ins (He.ga X.K c) dx (fs.zip xs)) := by rw [upd_ne hba]; exact hHb
          refine ⟨.ref b, hvo', b, _, dx, _, .ref a, rfl, hHb2, hcl, hna f hf, hw, a, od, ws, rfl, upd_same, fun Dd hD => ?_⟩
          have hDa : a ≠ Dd := fun e => by subst e; rw [upd_same] at hD; cases hD
          have hDH : H Dd = none := by rw [upd_ne (Ne.symm hDa)] at hD; exact hD
          let bl : List Bool := ds.map fun d => match d with
            | .bl b => b
            | _ => false
          have hbl : bl.length = ws.length := by show (ds.map _).length = _; rw [List.length_map]; omega
          let I : Nat → Nat → Hp → Prop := fun i m H' => m = ws.length - i ∧ i ≤ ws.length ∧ H' a = some (.frz od (.dK ws)) ∧ H' Dd = some (.lst ((bl.take i).map V.bl)) ∧ ∀ c u, c ≠ a → H c = some u → H' c = some u
          refine ⟨I, ⟨ws.length, by simp, Nat.zero_le _, by rw [upd_ne hDa, upd_same], by rw [upd_same]; rfl, fun c u hca hc9 => by
            have : c ≠ Dd := fun e => by rw [e, hDH] at hc9; cases hc9
            rw [upd_ne this, upd_ne hca]; exact hc9⟩, ?_⟩
          rintro i m' H' ⟨rfl, hi, hA, hDl, hkp⟩
          by_cases hil : i < ws.length
          · refine .inr ⟨⟨hA, hil⟩, fun H2 => I (i + 1) (ws.length - (i + 1)) H2, fun H2 e => ⟨ws.length - (i + 1), by omega, e⟩, fun y H2 hy => ?_⟩
            obtain ⟨T, k', v', hkv, rfl, hT, rfl⟩ := hy
            obtain ⟨⟨kk, dd⟩, hkd⟩ : ∃ p, kvs[i]? = some p := ⟨_, List.getElem?_eq_getElem (by omega)⟩
            obtain ⟨ki, vj, bb, ep, ea, ed⟩ := fit_at e4 hkd
            cases ep
            have hk' : k' = .inl ki := by
              have h1 : (kvs.map (·.1))[i]? = some (.inl ki) := by rw [List.getElem?_map, hkd]; rfl
              rw [hk1, List.getElem?_map, hkv] at h1
              cases h1; rfl
            have hv' : v' = .int vj := by
              have h1 : (kvs.map (·.2))[i]? = some (.int vj) := by rw [List.getElem?_map, hkd]; rfl
              obtain ⟨u, hu, ru⟩ := hk2.get h1
              rw [List.getElem?_map, hkv] at hu
              cases hu
              exact ru
            subst hk' hv'
            have hTa : T ≠ a := fun e => by rw [e, hA] at hT; cases hT
            have hTD : T ≠ Dd := fun e => by rw [e, hDl] at hT; cases hT
            have hT2 : (upd H' T (.tup [kV (.inl ki), .int vj])) T = some (.tup [.int ki, .int vj]) := upd_same
            have sl : σ.length = δ.length := S.len.symm
            have hw0 : wipe (wipe σ [sk, sv]) [sk, sv] = wipe σ [sk, sv] := wipe_wipe σ _
            refine ⟨T, [.int ki, .int vj], rfl, .inl (.inl hT2), rfl, .int ki, _, rfl, .int vj, _, rfl, rfl, ?_⟩
            have hwp : wipe (((wipe σ [sk, sv]).set sk (some (.int ki))).set sv (some (.int vj))) [sk, sv] = wipe σ [sk, sv] := by
              rw [wipe_set _ [sk, sv] _ (by simp), wipe_set _ [sk, sv] _ (by simp)]
              exact hw0
            have g1 : (((wipe σ [sk, sv]).set sk (some (.int ki))).set sv (some (.int vj)))[sx]? = some (some (.ref t)) := by
              rw [List.getElem?_set_ne (Ne.symm n2), List.getElem?_set_ne (Ne.symm n1), wipe_out (by simp [n1, n2])]
              exact hvx'
            have g2 : (((wipe σ [sk, sv]).set sk (some (.int ki))).set sv (some (.int vj)))[sk]? = some (some (V.int ki)) := by
              rw [List.getElem?_set_ne (Ne.symm n3), List.getElem?_set_self (by rw [wipe_length]; omega)]
            have g3 : (((wipe σ [sk, sv]).set sk (some (.int ki))).set sv (some (.int vj)))[sv]? = some (some (V.int vj)) := by
              rw [List.getElem?_set_self (by rw [List.length_set, wipe_length]; omega)]
            have hD2 : (upd H' T (.tup [kV (.inl ki), .int vj])) Dd = some (.lst ((bl.take i).map V.bl)) := by rw [upd_ne (Ne.symm hTD)]; exact hDl
            have hbi : bl[i]? = some (decide (bb = vj)) := by
              show (ds.map _)[i]? = _
              rw [List.getElem?_map, ed]; rfl
            refine ⟨hwp, .ref t, g1, .int ki, g2, .inr (.inl ⟨t, bs.map V.int, ki, .int bb, rfl, rfl, SqT.keep hHa (fun c u hc9 h9 => ?_) ht, atI_map V.int ea, .int vj, g3, rfl, _, hD2, ?_, rfl, hil, ?_, ?_, fun c u hca hc9 => ?_⟩)⟩
            · have : c ≠ T := fun e => by rw [e] at h9; rw [hkp T u (e ▸ hc9) h9] at hT; cases hT
              rw [upd_ne this]; exact hkp c u hc9 h9
            · rw [List.length_map, List.length_take, sizeLine_eq]; omega
            · rw [upd_ne hDa, upd_ne (Ne.symm hTa)]; exact hA
            · rw [upd_same, List.take_add_one, hbi, Option.toList_some, List.map_append]
              congr 3
              show [V.bl (decide (V.int bb = V.int vj))] = [V.bl (decide (bb = vj))]
              have : decide (V.int bb = V.int vj) = decide (bb = vj) := decide_eq_decide.mpr ⟨fun e => by injection e, fun e => by rw [e]⟩
              rw [this]
            · have h1 : c ≠ Dd := fun e => by rw [e, hDH] at hc9; cases hc9
              have h2 : c ≠ T := fun e => by rw [e] at hc9; rw [hkp T u (e ▸ hca) hc9] at hT; cases hT
              rw [upd_ne h1, upd_ne h2]; exact hkp c u hca hc9
          · have e : i = ws.length := by omega
            subst e
            refine .inl ⟨⟨hA, Nat.le_refl _⟩, hA, ?_⟩
            rw [← hbl, List.take_length] at hDl
            have eds : ds = bl.map D.bl := by
              apply List.ext_getElem?
              intro n
              by_cases hn : n < kvs.length
              · obtain ⟨i, j, b, _, _, ed⟩ := fit_at e4 (List.getElem?_eq_getElem hn)
                show _ = ((ds.map _).map _)[n]?
                rw [List.getElem?_map, List.getElem?_map, ed]; rfl
              · rw [List.getElem?_eq_none (by omega), List.getElem?_eq_none (by rw [List.length_map, hbl]; omega)]
            have eH : upd H' a (.dK ws) = upd (fun c => if c = Dd then none else upd H' a (.dK ws) c) Dd (.lst (bl.map V.bl)) := by
              funext c
              by_cases hc9 : c = Dd
              · rw [hc9, upd_same, upd_ne (Ne.symm hDa)]; exact hDl
              · rw [upd_ne hc9]
                show _ = if c = Dd then _ else _
                rw [if_neg hc9]
            have kk : ∀ c u, H c = some u → (fun c => if c = Dd then none else upd H' a (.dK ws) c : Hp) c = some u := fun c u h9 => by
              have h1 : c ≠ Dd := fun e => by rw [e, hDH] at h9; cases h9
              show (if c = Dd then _ else _) = _
              rw [if_neg h1]
              by_cases h2 : c = a
              · rw [h2, upd_same, ← hHa, ← h2]; exact h9
              · rw [upd_ne h2]; exact hkp c u h2 h9
            rw [eH]
            refine z ds M ι _ _ Dd q9 (Ex.refl _) (fun c u h9 n => ⟨kk c u h9, n⟩) (S.grown kk) ?_ ?_ (if_pos rfl)
            · have := rds_bls (K := X.K) (N := G.N) (H := fun c => if c = Dd then none else upd H' a (.dK ws) c) (ι := ι) bl
              rw [← eds] at this
              exact this
            · rw [sizeLine_eq]; omega
        · cases hm
      · cases hm
    · cases hm
  · cases e2
end
end VL
set_option Elab.async false
set_option linter.all false
set_option maxRecDepth 100000
set_option maxHeartbeats 2000000
namespace VL
open PySem PySem.Spec L2 RT RZ PyProof.Rows HT
end VL
set_option Elab.async false
set_option linter.all false
set_option maxRecDepth 100000
set_option maxHeartbeats 2000000
namespace VL
open PySem PySem.Spec L2 RT RZ PyProof.Rows HT
def tMethS (C : Addr) (m : Str) (sp : Sp) (E : L2.St → XK) (ta : TE) (t : TA) : TE := fun σ H Q => ta σ H fun x H1 => ∃ a dx fs, x = .ref a ∧ H1 a = some (.ins C dx fs) ∧ fs.lookup m = none ∧
  t σ H1 fun vs H2 => sp (x :: vs) H2 Q (E σ)
section
variable {X : Cx} {CX : CXT} {k : Nat} {f C : Addr} {fd : FuncData} {ps : List Str} {sp : Sp} {E : L2.St → XK} {x m : Str} {p pos apos : Pos} {e o : Expr} {es : List Expr} {ta : TE} {t : TA}
theorem pe_methgX {pl : Sem Bool} (he : PE X o ta) (c : Cls X.K C) (hm : Meth X.K C m f) (F : FnG X.prog X.w X.K X.mg X.base CX k f fd ps sp) (hr : RoomG k X.A) (hb : Binds X.K fd ps []) (hx : ∀ σ, PassesAt CX X σ (E σ)) (ha : PA X (e :: es) t)
    (hst : starEach (e :: es) X.env = (false, eval e X.env) :: starEach es X.env := by rfl) (hpl : (backTo pos (starEach es X.env)).any (·.1) = false := by rfl)
    (ht : eval (.Call (.Attribute o m apos) (e :: es) [] pos) X.env = (do
      let ov ← eval o X.env
      standAt apos.atName
      let (f, first) ← holding [ov] (getMethod ov m pl)
      callWith pos f first (backTo pos (starEach (e :: es) X.env)) (backToKw pos (keywordEach [] X.env))) := by rfl) :
    PE X (.Call (.Attribute o m apos) (e :: es) [] pos) (tMethS C m sp E ta t) := by
  refine ⟨fun pins s σ H Q I h => ?_⟩
  refine PySem.W.methodCall_KW (pl := pl) (thn (he.run pins s σ H _ I h) fun u s1 ⟨x, H1, I1, rx, a, dx, fs, ex, ea, l, q⟩ => ?_) ht
  subst ex
  obtain rfl : u = Value.ref a := rx
  refine getmeth_ok I1 ea c hm l ?_
  refine PySem.W.callWith_K (first := [.ref a]) (h₀ := X.base) I.ok.mod.kin hm.kp (thn (ha.run pos pins s1 σ H1 _ I1 q) fun us s2 ⟨vs, H2, I2, r, q2⟩ => ⟨I2.kIn, ?_⟩) hst hpl
  exact run_gX (us := .ref a :: us) (vs := .ref a :: vs) F hr hb (hx σ) I2 (.cons rfl r) q2
end
/-- a method that may be called, and may raise -/
structure CaMX (P : Program) (w : World) (K : PySem.W.Frag) (mg : Str → Option Value) (base : Heap) (k : Nat) (c m : Str) (n : Nat) (sp : SpX) : Prop where
  cl : Cls K (He.ga K c)
  ex : ∃ (f : Addr) (fd : FuncData) (ps : List Str), FnG P w K mg base (L2.CX P w) k f fd ps (lPx K n sp) ∧ Meth K (He.ga K c) m f ∧ Binds K fd ps []
def callOX (ms : List Bool) (sp : SpX) (δ : DS) (M : Mem) (xs : List Sv) (Q : Rv → Mem → Prop) (xe : XD) : Prop :=
  ok (handO M ms xs []) fun r => sp r.1 (cellsO M r.2) (fun v Mc => Q v (backO r.2 Mc M)) fun x Mc => xe x δ (backO r.2 Mc M)
def eMethX (c m : Str) (ms : List Bool) (sp : SpX) (xe : XD) (to : TE') (tA : TA') : TE' := fun δ M Q => to δ M fun x M1 => isOb c m M1 x = true ∧ tA δ M1 fun xs M2 => callOX ms sp δ M2 (x :: xs) (rvQ Q) xe
section
variable {X : Cx} {G : Gd} {k j n : Nat} {c m x : Str} {sp : SpX} {p pos apos : Pos} {e o : Expr} {es : List Expr} {tA : TA'} {to : TE'} {xe : XD}
theorem ve_methX {pl : Sem Bool} (ms : List Bool) (cm : CaMX X.prog X.w X.K X.mg X.base k c m (n + 1) sp) (hr : RoomG j X.A) (hk : k ≤ j) (ho : VE X G o to) (ha : VA X G (e :: es) n tA) (tk : TX X G xe)
    (hst : starEach (e :: es) X.env = (false, eval e X.env) :: starEach es X.env := by rfl) (hpl : (backTo pos (starEach es X.env)).any (·.1) = false := by rfl)
    (ht : eval (.Call (.Attribute o m apos) (e :: es) [] pos) X.env = (do
      let ov ← eval o X.env
      standAt apos.atName
      let (f, first) ← holding [ov] (getMethod ov m pl)
      callWith pos f first (backTo pos (starEach (e :: es) X.env)) (backToKw pos (keywordEach [] X.env))) := by rfl) :
    VE X G (.Call (.Attribute o m apos) (e :: es) [] pos) (eMethX c m ms sp xe to tA) := by
  obtain ⟨f, fd, ps, F, hm, b⟩ := cm.ex
  refine PE.weak (pe_methgX (pl := pl) ho cm.cl hm F (hr.mono hk) b (E := WE (wX X.K G xe)) (fun σ => passAt tk σ) ha hst hpl ht) fun σ H Q ⟨δ, M, ι, Q0, S, q, z⟩ => ?_
  refine th1 S q fun x M1 ι1 H1 v q1 p1 k1 S1 r1 => ?_
  obtain ⟨hob, q1⟩ := q1
  obtain ⟨a, dx, fs, rfl, hH, hlk⟩ := ob_of S1 r1 hob
  refine ⟨a, dx, fs, rfl, hH, hlk, ?_⟩
  refine thA S1 q1 fun xs M2 ι2 H2 vs hl h1 p2 k2 S2 r2 => ?_
  have r3 : RSs X.K G.N H2 ι2 (x :: xs) (.ref a :: vs) := ⟨_, _, rfl, r1.mono k2 p2 (fun _ _ _ _ z => z), r2⟩
  obtain ⟨⟨as, ns⟩, e, h1⟩ := ok_elim h1
  obtain ⟨hl2, i0, B, hB, ra, rm, c1, c2⟩ := call_genO S2 r3 e
  refine ⟨as, cellsO M2 ns, i0, B, _, _, hl2.trans (by simp [hl]), hB, ra, rm, h1, fun rv M' v H' q rr => ?_, fun y M' cls d H' q r m k ob => ?_⟩
  · cases rv with
    | d y =>
      obtain ⟨k3, S3, rd⟩ := c1 y M' v H' rr
      exact z _ _ ι2 H' v q (p1.trans p2) ((k1.trans k2).trans k3) S3 rd
    | new ds =>
      obtain ⟨a, rfl, k3, S3, hl2⟩ := c2 _ _ M' v H' rfl rr
      refine z (.ref (backO ns M' M2).length) _ _ H' _ q ((p1.trans p2).trans (Ex.app _ _)) ((k1.trans k2).trans k3) S3 ⟨a, rfl, .inl ?_⟩
      rw [hl2, S2.mem.len, List.getElem?_append_right (Nat.le_refl _)]; simp
    | newK kvs =>
      obtain ⟨a, rfl, k3, S3, hl2⟩ := c2 _ _ M' v H' rfl rr
      refine z (.ref (backO ns M' M2).length) _ _ H' _ q ((p1.trans p2).trans (Ex.app _ _)) ((k1.trans k2).trans k3) S3 ⟨a, rfl, .inl ?_⟩
      rw [hl2, S2.mem.len, List.getElem?_append_right (Nat.le_refl _)]; simp
  · obtain ⟨_, S3, _⟩ := c1 .non M' .non H' ⟨rfl, m, k, ob⟩
    exact ⟨y, δ, _, ι2, q, S3, r⟩
end
theorem cm_ofX {P : Program} {w : World} {K : PySem.W.Frag} {mg : Str → Option Value} {base : Heap} {c m x qual : Str} {params : Arguments} {body : List Stmt} {scope : Scope} {f : Addr} {fd : FuncData} {Ns ps : List Str} {k m0 : Nat} {sp : SpX} {t : XD → TS'}
    (F : FunD K x qual params body scope [] [] f fd) (cl : Cls K (He.ga K c)) (hm : Meth K (He.ga K c) m f) (b : Binds K fd ps []) (S : FnScope Ns ps scope) (hm0 : ∀ as M Q0 X0, sp as M Q0 X0 → M.length = m0)
    (hb : ∀ (cdv : Value) (A : Around) (outer : List Env) (s : Shared) (H : Hp) (E : XK) (G : Gd) (xe : XD), RoomG k (A.deeper (PyProof.Rows.envOfC qual scope s.heap.objs.size f cdv)) → G.i0.length = m0 →
      PassesOwn (model P w) (cxOf (L2.CX P w) P w K mg base Ns qual scope f cdv A outer s H E).A (cxOf (L2.CX P w) P w K mg base Ns qual scope f cdv A outer s H E).env (cxOf (L2.CX P w) P w K mg base Ns qual scope f cdv A outer s H E).xe →
      TX (cxOf (L2.CX P w) P w K mg base Ns qual scope f cdv A outer s H E) G xe → VSs (cxOf (L2.CX P w) P w K mg base Ns qual scope f cdv A outer s H E) G body (t xe))
    (hp : ∀ as M Q0 X0, as.length = ps.length → sp as M Q0 X0 → t (fun x _ M' => X0 x (M'.take M.length)) (endsF M.length Q0) (startD Ns.length as) M) : CaMX P w K mg base (k + 1) c m ps.length sp := by
  refine ⟨cl, f, fd, ps, ?_, hm, b⟩
  refine fn_g F S (fun vs H Q E ⟨as, M, i0, B, Q0, X0, hn, hB, ra, h⟩ => by rw [← ra.length, hn]) fun cdv A outer s H vs Q E hr ⟨as, M, i0, B, Q0, X0, hn, hB, ra, rm, hs, z, zx⟩ => ?_
  have hlen : M.length = i0.length := by rw [rm.len]; simp
  have tk : TX (cxOf (L2.CX P w) P w K mg base Ns qual scope f cdv A outer s H E) (gnd H i0 B) (fun x _ M' => X0 x (M'.take M.length)) :=
    Takes.imp (takes_of (E := E) (E₁ := fun u t => L2.CX P w outer H s E u t) rfl rfl rfl rfl) fun c d σ' H' ⟨y, δ, M', ι, q, S', r⟩ => by
      have e := pre_take S'
      have S2 := S'.gc i0.length (Nat.le_refl _)
      rw [show (gnd H i0 B).i0.length = i0.length from rfl] at e
      rw [e] at S2
      exact zx y _ c d H' q r (by rw [hlen]; exact S2.mem) S2.kp (ObI.of S2.obk)
  exact body_at (X := cxOf (L2.CX P w) P w K mg base Ns qual scope f cdv A outer s H E) (hb cdv A outer s H E (gnd H i0 B) _ hr (hlen.symm.trans (hm0 _ _ _ _ hs)) (passes_of (E₁ := fun u t => L2.CX P w outer H s E u t) rfl) tk) hB ra rm (hp as M Q0 X0 hn hs) z
end VL
set_option Elab.async false
set_option linter.all false
set_option maxRecDepth 100000
set_option maxHeartbeats 1000000
namespace Zk54
open PySem PySem.Spec L2 RT RZ VL
def top (i : Nat) : Stmt := PySem.Challenge.pw_countforms_k54_counts_of_books.main.body.getD i (.Pass ⟨0, 0, 0, 0⟩)
def c_PLAIN : D := (.tup [(.str "yes"), (.str "no")])
def clsT : List (Str × List Str) := [("Book", ["many", "order", "held", "bits", "came", "deeds"])]
abbrev s_inner_claims : Stmt := top 3
def N_inner_claims : List Str := ["claim"]
def t_inner_claims  : TS' :=
  (sSeq (sIf (cP (bOr (bB (po2 inD (po2 ixD (pV 0) (pC (.int 0))) (pC c_PLAIN))) (bB (po2 eqD (po2 ixD (pV 0) (pC (.int 0))) (pC (.str "name"))))))
  (sRet (eNw (fP (plLst []))))
  sNil)
  (sSeq (sIf (cP (bB (po2 inD (po2 ixD (pV 0) (pC (.int 0))) (poTup [(pC (.str "not")), (pC (.str "same"))]))))
  (sRet (eNw (fP (plN listF [(poSl (pV 0) (poI (pC (.int 1))) poNo)]))))
  sNil)
  (sRet (eNw (fP (plN listF [(po2 ixD (pV 0) (po1 negD (pC (.int 1))))]))))))
theorem sc_inner_claims : FnScope N_inner_claims ["claim"] (defScope s_inner_claims) := C8.fnScope_by (by decide +kernel)
theorem d_inner_claims {P : Program} {w : World} {K : PySem.W.Frag} {mg : Str → Option Value} {base : Heap} {f : Addr} {k : Nat} (m_list : mg "list" = none) {u_PLAIN : Value} (hm_PLAIN : mg "PLAIN" = some u_PLAIN) (kv_PLAIN : KV K c_PLAIN u_PLAIN) :
    ∀ (cdv : Value) (A : Around) (outer : List Env) (s : Shared) (H : Hp) (E : XK) (G : Gd), RoomG k (A.deeper (PyProof.Rows.envOfC "inner_claims" (defScope s_inner_claims) s.heap.objs.size f cdv)) → G.i0.length = 0 →
      VSs (cxOf C8.CX0 P w K mg base N_inner_claims "inner_claims" (defScope s_inner_claims) f cdv A outer s H E).nox G (defBody s_inner_claims) (t_inner_claims ) := by
  intro cdv A outer s H E G hr hG
  have hU : ∀ n : Nat, n ≤ 200 → (A.deeper (PyProof.Rows.envOfC "inner_claims" (defScope s_inner_claims) s.heap.objs.size f cdv)).units + n < cLine := fun n hn => by have := hr.rm.un; omega
  exact (vss_cons (vs_if (VW.vt (VW.pOr (vw_or (VT.pureB2 (vt_cmp (op_inX (hU 65 (by decide))) rd_in (VE.pure2 (ve_idx (ve_v 0) ve_int)) (ve_glob rfl hm_PLAIN kv_PLAIN) rfl)) (vw_or1 (VT.pureB2 (vt_cmp (op_eqX (hU 64 (by decide))) rd_eq (VE.pure2 (ve_idx (ve_v 0) ve_int)) ve_str (nomark _))))))) (vss_one (vs_ret (VF.nw (VF.pLst (vf_lst va_p0))))) vss_nil)
  (vss_cons (vs_if (VT.pureB2 (vt_cmp (op_inX (hU 65 (by decide))) rd_in (VE.pure2 (ve_idx (ve_v 0) ve_int)) (VE.pTup (ve_tup (va_p ve_str (va_p ve_str va_p0)))) rfl)) (vss_one (vs_ret (VF.nw (VF.pN (vf_callTy call_list_of rd_list rfl m_list bt_list (va_p (ve_slice (ve_v 0) (vo_some ve_int) vo_none) va_p0)))))) vss_nil)
  (vss_one (vs_ret (VF.nw (VF.pN (vf_callTy call_list_of rd_list rfl m_list bt_list (va_p (VE.pure2 (ve_idx (ve_v 0) (VE.pure1 (ve_neg ve_int)))) va_p0))))))))
abbrev s_holds : Stmt := top 4
def N_holds : List Str := ["claim", "filling", "word", "held", "one"]
def t_holds (sp_inner_claims : SpD) (sp_holds : SpD) : TS' :=
  (sSeq (sSet 2 (eP (po2 ixD (pV 0) (pC (.int 0)))))
  (sSeq (sIf (cP (bB (po2 inD (pV 2) (pC c_PLAIN))))
  (sRet (eP (po2 eqD (pV 2) (pC (.str "yes")))))
  sNil)
  (sSeq (sIf (cP (bB (po2 eqD (pV 2) (pC (.str "name")))))
  (sRet (eP (po2 eqD (po2 ixD (pV 1) (po2 ixD (pV 0) (pC (.int 1)))) (pC (.int 1)))))
  sNil)
  (sSeq (sSet 3 (eFz (fLc (iSq (eSeal 0 (eCall [false] sp_inner_claims (aP [(pV 0)])))) (.nm 4) tYs (eCall [false, false] sp_holds (aP [(pV 4), (pV 1)])) [4])))
  (sSeq (sIf (cP (bB (po2 eqD (pV 2) (pC (.str "not")))))
  (sRet (eP (poNt (po2 ixD (pV 3) (pC (.int 0))))))
  sNil)
  (sSeq (sIf (cP (bB (po2 eqD (pV 2) (pC (.str "same")))))
  (sRet (eP (po2 eqD (po2 ixD (pV 3) (pC (.int 0))) (po2 ixD (pV 3) (pC (.int 1))))))
  sNil)
  (sSeq (sIf (cP (bB (po2 eqD (pV 2) (pC (.str "and")))))
  (sRet (eP (poN allD [(pV 3)])))
  sNil)
  (sSeq (sIf (cP (bB (po2 eqD (pV 2) (pC (.str "or")))))
  (sRet (eP (poN anyD [(pV 3)])))
  sNil)
  (sRet (eP (po2 geD (poMt "list" countD (pV 3) [(pC (.bl true))]) (po2 ixD (pV 0) (pC (.int 1))))))))))))))
theorem nd_holds : N_holds.Nodup := by decide
theorem sc_holds : FnScope N_holds ["claim", "filling"] (defScope s_holds) := C8.fnScope_by (by decide +kernel)
theorem d_holds {P : Program} {w : World} {K : PySem.W.Frag} {mg : Str → Option Value} {base : Heap} {f : Addr} {k : Nat} (m_all : mg "all" = none) (m_any : mg "any" = none) {u_PLAIN : Value} (hm_PLAIN : mg "PLAIN" = some u_PLAIN) (kv_PLAIN : KV K c_PLAIN u_PLAIN) {sp_inner_claims : SpD} {k_inner_claims : Nat} (ca_inner_claims : Ca P w K mg base k_inner_claims "inner_claims" 1 sp_inner_claims) (hk_inner_claims : k_inner_claims ≤ k) {sp_holds : SpD} {k_holds : Nat} (ca_holds : Ca P w K mg base k_holds "holds" 2 sp_holds) (hk_holds : k_holds ≤ k) :
    ∀ (cdv : Value) (A : Around) (outer : List Env) (s : Shared) (H : Hp) (E : XK) (G : Gd), RoomG k (A.deeper (PyProof.Rows.envOfC "holds" (defScope s_holds) s.heap.objs.size f cdv)) → G.i0.length = 0 →
      VSs (cxOf C8.CX0 P w K mg base N_holds "holds" (defScope s_holds) f cdv A outer s H E).nox G (defBody s_holds) (t_holds sp_inner_claims sp_holds) := by
  intro cdv A outer s H E G hr hG
  have hU : ∀ n : Nat, n ≤ 200 → (A.deeper (PyProof.Rows.envOfC "holds" (defScope s_holds) s.heap.objs.size f cdv)).units + n < cLine := fun n hn => by have := hr.rm.un; omega
  exact (vss_cons (vs_set nd_holds rfl (by first | exact Or.inl rfl | exact Or.inr rfl) (VE.pure2 (ve_idx (ve_v 0) ve_int)))
  (vss_cons (vs_if (VT.pureB2 (vt_cmp (op_inX (hU 65 (by decide))) rd_in (ve_v 2) (ve_glob rfl hm_PLAIN kv_PLAIN) rfl)) (vss_one (vs_ret (VE.pure2 (ve_cmp (op_eqX (hU 64 (by decide))) rd_eq (ve_v 2) ve_str (nomark _))))) vss_nil)
  (vss_cons (vs_if (VT.pureB2 (vt_cmp (op_eqX (hU 64 (by decide))) rd_eq (ve_v 2) ve_str (nomark _))) (vss_one (vs_ret (VE.pure2 (ve_cmp (op_eqX (hU 64 (by decide))) rd_eq (VE.pure2 (ve_idx (ve_v 1) (VE.pure2 (ve_idx (ve_v 0) ve_int)))) ve_int (nomark _))))) vss_nil)
  (vss_cons (vs_setLcF (own := [("one", 4)]) rfl nd_holds rfl rfl rfl (vi_sq (VE.seal hG (ve_call [false] ca_inner_claims hr hk_inner_claims rfl (va_p (ve_v 0) va_p0)))) (blkOk_by (show blkC N_holds (defScope s_holds) _ _ = true by decide +kernel)) (fun s H C cl fp => pg_name nd_holds rfl (by first | exact Or.inl rfl | exact Or.inr rfl) (by first | exact Or.inr rfl | exact Or.inl rfl)) (fun s H C cl fp G hG' => vts_nil) (fun s H C cl fp G hG' => (ve_call [false, false] ca_holds hr hk_holds rfl (va_p (ve_v 4) (va_p (ve_v 1) va_p0)))) (by decide))
  (vss_cons (vs_if (VT.pureB2 (vt_cmp (op_eqX (hU 64 (by decide))) rd_eq (ve_v 2) ve_str (nomark _))) (vss_one (vs_ret (VE.pNt (ve_not (VE.pure2 (ve_idx (ve_v 3) ve_int)))))) vss_nil)
  (vss_cons (vs_if (VT.pureB2 (vt_cmp (op_eqX (hU 64 (by decide))) rd_eq (ve_v 2) ve_str (nomark _))) (vss_one (vs_ret (VE.pure2 (ve_cmp (op_eqX (hU 64 (by decide))) rd_eq (VE.pure2 (ve_idx (ve_v 3) ve_int)) (VE.pure2 (ve_idx (ve_v 3) ve_int)) (nomark _))))) vss_nil)
  (vss_cons (vs_if (VT.pureB2 (vt_cmp (op_eqX (hU 64 (by decide))) rd_eq (ve_v 2) ve_str (nomark _))) (vss_one (vs_ret (VE.pureN (ve_callB (cr_all rfl) rd_all rfl m_all bt_all (va_p (ve_v 3) va_p0))))) vss_nil)
  (vss_cons (vs_if (VT.pureB2 (vt_cmp (op_eqX (hU 64 (by decide))) rd_eq (ve_v 2) ve_str (nomark _))) (vss_one (vs_ret (VE.pureN (ve_callB (cr_any rfl) rd_any rfl m_any bt_any (va_p (ve_v 3) va_p0))))) vss_nil)
  (vss_one (vs_ret (VE.pure2 (ve_cmp op_ge rd_ge (VE.pMt (ve_mt F.plainAttrs_list F.slot_list_count rfl (mt_countD (hU 65 (by decide))) rd_count (ve_v 3) (va_p ve_bl va_p0))) (VE.pure2 (ve_idx (ve_v 0) ve_int)) (nomark _)))))))))))))
abbrev s_all_fillings : Stmt := top 5
def N_all_fillings : List Str := ["many", "found", "turn", "one"]
def t_all_fillings  : TS' :=
  (sSeq (sSet 1 (eP (pFz (plLst [(poTup [])]))))
  (sSeq (sFor (iRg false (aP [(pV 0)])) (gNm 2)
  (sSet 1 (eFz (f2 catF (eFz (fLc (iPq (pV 1)) (.nm 3) tYs (eP (po2 addD (poTup [(pC (.int 0))]) (pV 3))) [3])) (eFz (fLc (iPq (pV 1)) (.nm 3) tYs (eP (po2 addD (poTup [(pC (.int 1))]) (pV 3))) [3]))))))
  (sRet (eP (pV 1)))))
theorem nd_all_fillings : N_all_fillings.Nodup := by decide
theorem sc_all_fillings : FnScope N_all_fillings ["many"] (defScope s_all_fillings) := C8.fnScope_by (by decide +kernel)
theorem d_all_fillings {P : Program} {w : World} {K : PySem.W.Frag} {mg : Str → Option Value} {base : Heap} {f : Addr} {k : Nat} (m_range : mg "range" = none) :
    ∀ (cdv : Value) (A : Around) (outer : List Env) (s : Shared) (H : Hp) (E : XK) (G : Gd), RoomG k (A.deeper (PyProof.Rows.envOfC "all_fillings" (defScope s_all_fillings) s.heap.objs.size f cdv)) → G.i0.length = 0 →
      VSs (cxOf C8.CX0 P w K mg base N_all_fillings "all_fillings" (defScope s_all_fillings) f cdv A outer s H E).nox G (defBody s_all_fillings) (t_all_fillings ) := by
  intro cdv A outer s H E G hr hG
  have hU : ∀ n : Nat, n ≤ 200 → (A.deeper (PyProof.Rows.envOfC "all_fillings" (defScope s_all_fillings) s.heap.objs.size f cdv)).units + n < cLine := fun n hn => by have := hr.rm.un; omega
  exact (vss_cons (vs_set nd_all_fillings rfl (by first | exact Or.inl rfl | exact Or.inr rfl) (VF.pure (VF.pLst (vf_lst (va_p (VE.pTup (ve_tup va_p0)) va_p0)))))
  (vss_cons (vs_for (bd := false) PassesOwn.never rfl (vi_range1 rfl m_range (va_p (ve_v 0) va_p0)) (vg_name nd_all_fillings rfl (by first | exact Or.inl rfl | exact Or.inr rfl)) (vss_one (vs_set nd_all_fillings rfl (by first | exact Or.inl rfl | exact Or.inr rfl) (VF.fz (vf_cat (VF.fz (vf_lc (own := [("one", 3)]) rfl nd_all_fillings (vi_pq (ve_v 1)) (blkOk_by (show blkC N_all_fillings (defScope s_all_fillings) _ _ = true by decide +kernel)) (fun s H C cl fp => pg_name nd_all_fillings rfl (by first | exact Or.inl rfl | exact Or.inr rfl) (by first | exact Or.inr rfl | exact Or.inl rfl)) (fun s H C cl fp G hG' => vts_nil) (fun s H C cl fp G hG' => (VE.pure2 (ve_add (VE.pTup (ve_tup (va_p ve_int va_p0))) (ve_v 3)))) (by decide))) (VF.fz (vf_lc (own := [("one", 3)]) rfl nd_all_fillings (vi_pq (ve_v 1)) (blkOk_by (show blkC N_all_fillings (defScope s_all_fillings) _ _ = true by decide +kernel)) (fun s H C cl fp => pg_name nd_all_fillings rfl (by first | exact Or.inl rfl | exact Or.inr rfl) (by first | exact Or.inr rfl | exact Or.inl rfl)) (fun s H C cl fp G hG' => vts_nil) (fun s H C cl fp G hG' => (VE.pure2 (ve_add (VE.pTup (ve_tup (va_p ve_int va_p0))) (ve_v 3)))) (by decide))))))))
  (vss_one (vs_ret (ve_v 1)))))
abbrev s_Book____init__ : Stmt := methS (top 31) 0
def N_Book____init__ : List Str := ["self", "many", "order"]
def t_Book____init__  : NS' :=
  (nSeq (nSet "many" (eP (pV 1)))
  (nSeq (nSet "order" (eP (pFz (plN listF [(pV 2)]))))
  (nSeq (nSet "held" eDkN)
  (nSeq (nSet "bits" eDkN)
  (nSeq (nSet "came" (eP (pC (.int 0))))
  (nSet "deeds" (eNw (fP (plLst [])))))))))
theorem sc_Book____init__ : FnScope N_Book____init__ ["self", "many", "order"] (defScope s_Book____init__) := C8.fnScope_by (by decide +kernel)
theorem d_Book____init__ {P : Program} {w : World} {K : PySem.W.Frag} {mg : Str → Option Value} {base : Heap} {f : Addr} {k : Nat} (m_list : mg "list" = none) (hcl : Cls K (He.ga K "Book")) (hna_many : NoAttr K (He.ga K "Book") "many") (hna_order : NoAttr K (He.ga K "Book") "order") (hna_held : NoAttr K (He.ga K "Book") "held") (hna_bits : NoAttr K (He.ga K "Book") "bits") (hna_came : NoAttr K (He.ga K "Book") "came") (hna_deeds : NoAttr K (He.ga K "Book") "deeds") :
    ∀ (cdv : Value) (A : Around) (outer : List Env) (s : Shared) (H : Hp) (E : XK) (G : Gd), RoomG k (A.deeper (PyProof.Rows.envOfC "Book.__init__" (defScope s_Book____init__) s.heap.objs.size f cdv)) → G.i0.length = 0 →
      PSs (cxOf C8.CX0 P w K mg base N_Book____init__ "Book.__init__" (defScope s_Book____init__) f cdv A outer s H E).nox (defBody s_Book____init__) (lN K G (He.ga K "Book") (t_Book____init__ )) := by
  intro cdv A outer s H E G hr hG
  have hU : ∀ n : Nat, n ≤ 200 → (A.deeper (PyProof.Rows.envOfC "Book.__init__" (defScope s_Book____init__) s.heap.objs.size f cdv)).units + n < cLine := fun n hn => by have := hr.rm.un; omega
  exact (vn_cons (vn_set hcl hna_many rfl (by first | exact Or.inl rfl | exact Or.inr rfl) (ve_v 1))
  (vn_cons (vn_set hcl hna_order rfl (by first | exact Or.inl rfl | exact Or.inr rfl) (VF.pure (VF.pN (vf_callTy call_list_of rd_list rfl m_list bt_list (va_p (ve_v 2) va_p0)))))
  (vn_cons (vn_set hcl hna_held rfl (by first | exact Or.inl rfl | exact Or.inr rfl) ve_dnew)
  (vn_cons (vn_set hcl hna_bits rfl (by first | exact Or.inl rfl | exact Or.inr rfl) ve_dnew)
  (vn_cons (vn_set hcl hna_came rfl (by first | exact Or.inl rfl | exact Or.inr rfl) ve_int)
  (vn_one (vn_set hcl hna_deeds rfl (by first | exact Or.inl rfl | exact Or.inr rfl) (VF.nw (VF.pLst (vf_lst va_p0))))))))))
abbrev s_Book__come : Stmt := methS (top 31) 1
def N_Book__come : List Str := ["self", "claim", "number"]
def t_Book__come  : TS' :=
  (sSeq (sSet 2 (eP (poFld clsT "came" (pV 0))))
  (sSeq (sSubK (eP (pV 1)) (eP (poFld clsT "held" (pV 0))) (eP (pV 2)))
  (sSeq (sFldA clsT "came" 1 (eP (pV 0)))
  (sSeq (sDrop (eMt "list" mApp (eP (poFld clsT "deeds" (pV 0))) (aP [(poTup [(pC (.str "come")), (pV 2), (pC .non)])])))
  (sRet (eP (pV 2)))))))
theorem nd_Book__come : N_Book__come.Nodup := by decide
theorem sc_Book__come : FnScope N_Book__come ["self", "claim"] (defScope s_Book__come) := C8.fnScope_by (by decide +kernel)
theorem d_Book__come {P : Program} {w : World} {K : PySem.W.Frag} {mg : Str → Option Value} {base : Heap} {f : Addr} {k : Nat} (hC : ObC K clsT) :
    ∀ (cdv : Value) (A : Around) (outer : List Env) (s : Shared) (H : Hp) (E : XK) (G : Gd), RoomG k (A.deeper (PyProof.Rows.envOfC "Book.come" (defScope s_Book__come) s.heap.objs.size f cdv)) → G.i0.length = 4 →
      VSs (cxOf C8.CX0 P w K mg base N_Book__come "Book.come" (defScope s_Book__come) f cdv A outer s H E).nox G (defBody s_Book__come) (t_Book__come ) := by
  intro cdv A outer s H E G hr hG
  have hU : ∀ n : Nat, n ≤ 200 → (A.deeper (PyProof.Rows.envOfC "Book.come" (defScope s_Book__come) s.heap.objs.size f cdv)).units + n < cLine := fun n hn => by have := hr.rm.un; omega
  exact (vss_cons (vs_set nd_Book__come rfl (by first | exact Or.inl rfl | exact Or.inr rfl) (ve_fldP hC (ve_v 0)))
  (vss_cons (vs_subK (hU 1 (by decide)) (ve_v 1) (ve_fldP hC (ve_v 0)) (ve_v 2))
  (vss_cons (vs_fldA hC (ve_v 0))
  (vss_cons (vs_expr (ve_mt F.plainAttrs_list F.slot_list_append rfl mt_append rd_app (ve_fldP hC (ve_v 0)) (va_p (VE.pTup (ve_tup (va_p ve_str (va_p (ve_v 2) (va_p ve_non va_p0))))) va_p0)))
  (vss_one (vs_ret (ve_v 2)))))))
abbrev s_Book__go : Stmt := methS (top 31) 2
def N_Book__go : List Str := ["self", "number"]
def t_Book__go  : TS' :=
  (sSeq (sIf (cP (bB (po2 dninA (pV 1) (poFld clsT "held" (pV 0)))))
  sStop
  sNil)
  (sDrop (eMt "list" mApp (eP (poFld clsT "deeds" (pV 0))) (aCons (tTupE (aCons (eP (pC (.str "go"))) (aCons (eP (pV 1)) (aCons (eMt "dict" mDPop (eP (poFld clsT "held" (pV 0))) (aP [(pV 1)])) (aP []))))) (aP [])))))
theorem sc_Book__go : FnScope N_Book__go ["self", "number"] (defScope s_Book__go) := C8.fnScope_by (by decide +kernel)
theorem d_Book__go {P : Program} {w : World} {K : PySem.W.Frag} {mg : Str → Option Value} {base : Heap} {f : Addr} {k : Nat} (hC : ObC K clsT) :
    ∀ (cdv : Value) (A : Around) (outer : List Env) (s : Shared) (H : Hp) (E : XK) (G : Gd), RoomG k (A.deeper (PyProof.Rows.envOfC "Book.go" (defScope s_Book__go) s.heap.objs.size f cdv)) → G.i0.length = 4 →
      VSs (cxOf C8.CX0 P w K mg base N_Book__go "Book.go" (defScope s_Book__go) f cdv A outer s H E).nox G (defBody s_Book__go) (t_Book__go ) := by
  intro cdv A outer s H E G hr hG
  have hU : ∀ n : Nat, n ≤ 200 → (A.deeper (PyProof.Rows.envOfC "Book.go" (defScope s_Book__go) s.heap.objs.size f cdv)).units + n < cLine := fun n hn => by have := hr.rm.un; omega
  exact (vss_cons (vs_if (VT.pureB2 (vt_cmp (op_dnin (hU 1 (by decide))) rd_dninA (ve_v 1) (ve_fldP hC (ve_v 0)) rfl)) (vss_one vs_stop) vss_nil)
  (vss_one (vs_expr (ve_mt F.plainAttrs_list F.slot_list_append rfl mt_append rd_app (ve_fldP hC (ve_v 0)) (va_cons (ve_tup (va_cons ve_str (va_cons (ve_v 1) (va_cons (ve_mt F.plainAttrs_dict F.slot_dict_pop rfl mt_dpop rd_dpop (ve_fldP hC (ve_v 0)) (va_p (ve_v 1) va_p0)) va_p0)))) va_p0)))))
abbrev s_Book__settle : Stmt := methS (top 31) 3
def N_Book__settle : List Str := ["self", "name", "bit"]
def t_Book__settle  : TS' :=
  (sSeq (sIf (cP (bB (po2 dinA (pV 1) (poFld clsT "bits" (pV 0)))))
  sStop
  sNil)
  (sSeq (sSubK (eP (pV 2)) (eP (poFld clsT "bits" (pV 0))) (eP (pV 1)))
  (sDrop (eMt "list" mApp (eP (poFld clsT "deeds" (pV 0))) (aP [(poTup [(pC (.str "settle")), (pV 1), (pV 2)])])))))
theorem sc_Book__settle : FnScope N_Book__settle ["self", "name", "bit"] (defScope s_Book__settle) := C8.fnScope_by (by decide +kernel)
theorem d_Book__settle {P : Program} {w : World} {K : PySem.W.Frag} {mg : Str → Option Value} {base : Heap} {f : Addr} {k : Nat} (hC : ObC K clsT) :
    ∀ (cdv : Value) (A : Around) (outer : List Env) (s : Shared) (H : Hp) (E : XK) (G : Gd), RoomG k (A.deeper (PyProof.Rows.envOfC "Book.settle" (defScope s_Book__settle) s.heap.objs.size f cdv)) → G.i0.length = 4 →
      VSs (cxOf C8.CX0 P w K mg base N_Book__settle "Book.settle" (defScope s_Book__settle) f cdv A outer s H E).nox G (defBody s_Book__settle) (t_Book__settle ) := by
  intro cdv A outer s H E G hr hG
  have hU : ∀ n : Nat, n ≤ 200 → (A.deeper (PyProof.Rows.envOfC "Book.settle" (defScope s_Book__settle) s.heap.objs.size f cdv)).units + n < cLine := fun n hn => by have := hr.rm.un; omega
  exact (vss_cons (vs_if (VT.pureB2 (vt_cmp (op_din (hU 1 (by decide))) rd_dinA (ve_v 1) (ve_fldP hC (ve_v 0)) rfl)) (vss_one vs_stop) vss_nil)
  (vss_cons (vs_subK (hU 1 (by decide)) (ve_v 2) (ve_fldP hC (ve_v 0)) (ve_v 1))
  (vss_one (vs_expr (ve_mt F.plainAttrs_list F.slot_list_append rfl mt_append rd_app (ve_fldP hC (ve_v 0)) (va_p (VE.pTup (ve_tup (va_p ve_str (va_p (ve_v 1) (va_p (ve_v 2) va_p0))))) va_p0))))))
abbrev s_Book__free : Stmt := methS (top 31) 4
def N_Book__free : List Str := ["self", "name"]
def t_Book__free  : TS' :=
  (sSeq (sIf (cP (bB (po2 dninA (pV 1) (poFld clsT "bits" (pV 0)))))
  sStop
  sNil)
  (sDrop (eMt "list" mApp (eP (poFld clsT "deeds" (pV 0))) (aCons (tTupE (aCons (eP (pC (.str "free"))) (aCons (eP (pV 1)) (aCons (eMt "dict" mDPop (eP (poFld clsT "bits" (pV 0))) (aP [(pV 1)])) (aP []))))) (aP [])))))
theorem sc_Book__free : FnScope N_Book__free ["self", "name"] (defScope s_Book__free) := C8.fnScope_by (by decide +kernel)
theorem d_Book__free {P : Program} {w : World} {K : PySem.W.Frag} {mg : Str → Option Value} {base : Heap} {f : Addr} {k : Nat} (hC : ObC K clsT) :
    ∀ (cdv : Value) (A : Around) (outer : List Env) (s : Shared) (H : Hp) (E : XK) (G : Gd), RoomG k (A.deeper (PyProof.Rows.envOfC "Book.free" (defScope s_Book__free) s.heap.objs.size f cdv)) → G.i0.length = 4 →
      VSs (cxOf C8.CX0 P w K mg base N_Book__free "Book.free" (defScope s_Book__free) f cdv A outer s H E).nox G (defBody s_Book__free) (t_Book__free ) := by
  intro cdv A outer s H E G hr hG
  have hU : ∀ n : Nat, n ≤ 200 → (A.deeper (PyProof.Rows.envOfC "Book.free" (defScope s_Book__free) s.heap.objs.size f cdv)).units + n < cLine := fun n hn => by have := hr.rm.un; omega
  exact (vss_cons (vs_if (VT.pureB2 (vt_cmp (op_dnin (hU 1 (by decide))) rd_dninA (ve_v 1) (ve_fldP hC (ve_v 0)) rfl)) (vss_one vs_stop) vss_nil)
  (vss_one (vs_expr (ve_mt F.plainAttrs_list F.slot_list_append rfl mt_append rd_app (ve_fldP hC (ve_v 0)) (va_cons (ve_tup (va_cons ve_str (va_cons (ve_v 1) (va_cons (ve_mt F.plainAttrs_dict F.slot_dict_pop rfl mt_dpop rd_dpop (ve_fldP hC (ve_v 0)) (va_p (ve_v 1) va_p0)) va_p0)))) va_p0)))))
abbrev s_Book__undo : Stmt := methS (top 31) 5
def N_Book__undo : List Str := ["self", "word", "number", "thing"]
def t_Book__undo  : TS' :=
  (sSeq (sIf (cP (bB (po2 eqD (poN lenD [(poFld clsT "deeds" (pV 0))]) (pC (.int 0)))))
  (sRet (eP (pC (.bl false))))
  sNil)
  (sSeq (sAsg (eMt "list" mPop (eP (poFld clsT "deeds" (pV 0))) (aP [])) (gTp [1, 2, 3]))
  (sSeq (sIf (cP (bB (po2 eqD (pV 1) (pC (.str "come")))))
  (sSeq (sDrop (eMt "dict" mDPop (eP (poFld clsT "held" (pV 0))) (aP [(pV 2)])))
  (sFldI clsT "came" (eP (pV 2)) (eP (pV 0))))
  (sIf (cP (bB (po2 eqD (pV 1) (pC (.str "go")))))
  (sSubK (eP (pV 3)) (eP (poFld clsT "held" (pV 0))) (eP (pV 2)))
  (sIf (cP (bB (po2 eqD (pV 1) (pC (.str "settle")))))
  (sDrop (eMt "dict" mDPop (eP (poFld clsT "bits" (pV 0))) (aP [(pV 2)])))
  (sSubK (eP (pV 3)) (eP (poFld clsT "bits" (pV 0))) (eP (pV 2))))))
  (sRet (eP (pC (.bl true)))))))
theorem nd_Book__undo : N_Book__undo.Nodup := by decide
theorem sc_Book__undo : FnScope N_Book__undo ["self"] (defScope s_Book__undo) := C8.fnScope_by (by decide +kernel)
theorem d_Book__undo {P : Program} {w : World} {K : PySem.W.Frag} {mg : Str → Option Value} {base : Heap} {f : Addr} {k : Nat} (m_len : mg "len" = none) (hC : ObC K clsT) :
    ∀ (cdv : Value) (A : Around) (outer : List Env) (s : Shared) (H : Hp) (E : XK) (G : Gd), RoomG k (A.deeper (PyProof.Rows.envOfC "Book.undo" (defScope s_Book__undo) s.heap.objs.size f cdv)) → G.i0.length = 4 →
      VSs (cxOf C8.CX0 P w K mg base N_Book__undo "Book.undo" (defScope s_Book__undo) f cdv A outer s H E).nox G (defBody s_Book__undo) (t_Book__undo ) := by
  intro cdv A outer s H E G hr hG
  have hU : ∀ n : Nat, n ≤ 200 → (A.deeper (PyProof.Rows.envOfC "Book.undo" (defScope s_Book__undo) s.heap.objs.size f cdv)).units + n < cLine := fun n hn => by have := hr.rm.un; omega
  exact (vss_cons (vs_if (VT.pureB2 (vt_cmp (op_eqX (hU 64 (by decide))) rd_eq (VE.pureN (ve_callB call_lenX rd_len rfl m_len bt_len (va_p (ve_fldP hC (ve_v 0)) va_p0))) ve_int (nomark _))) (vss_one (vs_ret ve_bl)) vss_nil)
  (vss_cons (vs_asg (ve_mt0 F.plainAttrs_list F.slot_list_pop rfl mt_pop rd_pop (ve_fldP hC (ve_v 0))) (vg_tup rfl (vgs_cons nd_Book__undo rfl (by first | exact Or.inl rfl | exact Or.inr rfl) (vgs_cons nd_Book__undo rfl (by first | exact Or.inl rfl | exact Or.inr rfl) (vgs_cons nd_Book__undo rfl (by first | exact Or.inl rfl | exact Or.inr rfl) vgs_nil)))))
  (vss_cons (vs_if (VT.pureB2 (vt_cmp (op_eqX (hU 64 (by decide))) rd_eq (ve_v 1) ve_str (nomark _))) (vss_cons (vs_expr (ve_mt F.plainAttrs_dict F.slot_dict_pop rfl mt_dpop rd_dpop (ve_fldP hC (ve_v 0)) (va_p (ve_v 2) va_p0)))
  (vss_one (vs_fldI hC (ve_v 2) (ve_v 0)))) (vss_one (vs_if (VT.pureB2 (vt_cmp (op_eqX (hU 64 (by decide))) rd_eq (ve_v 1) ve_str (nomark _))) (vss_one (vs_subK (hU 1 (by decide)) (ve_v 3) (ve_fldP hC (ve_v 0)) (ve_v 2))) (vss_one (vs_if (VT.pureB2 (vt_cmp (op_eqX (hU 64 (by decide))) rd_eq (ve_v 1) ve_str (nomark _))) (vss_one (vs_expr (ve_mt F.plainAttrs_dict F.slot_dict_pop rfl mt_dpop rd_dpop (ve_fldP hC (ve_v 0)) (va_p (ve_v 2) va_p0)))) (vss_one (vs_subK (hU 1 (by decide)) (ve_v 3) (ve_fldP hC (ve_v 0)) (ve_v 2))))))))
  (vss_one (vs_ret ve_bl)))))
abbrev s_Book__fillings_of : Stmt := methS (top 31) 8
def N_Book__fillings_of : List Str := ["self", "numbers", "found", "filling", "fits", "name", "bit", "number"]
def t_Book__fillings_of (sp_all_fillings : SpD) (sp_holds : SpD) : TS' :=
  (sSeq (sSet 2 (eNw (fP (plLst []))))
  (sSeq (sFor (iSq (eSeal 4 (eCall [false] sp_all_fillings (aP [(poFld clsT "many" (pV 0))])))) (gNm 3)
  (sSeq (sSet 4 (eoN allD (aCons (eFz (fFit clsT "bits" 0 3 5 6)) (aP []))))
  (sIf (tAn (cP (bTr (pV 4))) (tTr (eoN allD (aCons (eFz (fLc (iPq (pV 1)) (.nm 7) tYs (eCall [false, false] sp_holds (aP [(po2 dgetA (poFld clsT "held" (pV 0)) (pV 7)), (pV 3)])) [7])) (aP [])))))
  (sDrop (eMt "list" mApp (eP (pV 2)) (aP [(pV 3)])))
  sNil)))
  (sRet (eP (pV 2)))))
theorem nd_Book__fillings_of : N_Book__fillings_of.Nodup := by decide
theorem sc_Book__fillings_of : FnScope N_Book__fillings_of ["self", "numbers"] (defScope s_Book__fillings_of) := C8.fnScope_by (by decide +kernel)
theorem d_Book__fillings_of {P : Program} {w : World} {K : PySem.W.Frag} {mg : Str → Option Value} {base : Heap} {f : Addr} {k : Nat} (m_all : mg "all" = none) (hC : ObC K clsT) {sp_all_fillings : SpD} {k_all_fillings : Nat} (ca_all_fillings : Ca P w K mg base k_all_fillings "all_fillings" 1 sp_all_fillings) (hk_all_fillings : k_all_fillings ≤ k) {sp_holds : SpD} {k_holds : Nat} (ca_holds : Ca P w K mg base k_holds "holds" 2 sp_holds) (hk_holds : k_holds ≤ k) :
    ∀ (cdv : Value) (A : Around) (outer : List Env) (s : Shared) (H : Hp) (E : XK) (G : Gd), RoomG k (A.deeper (PyProof.Rows.envOfC "Book.fillings_of" (defScope s_Book__fillings_of) s.heap.objs.size f cdv)) → G.i0.length = 4 →
      VSs (cxOf C8.CX0 P w K mg base N_Book__fillings_of "Book.fillings_of" (defScope s_Book__fillings_of) f cdv A outer s H E).nox G (defBody s_Book__fillings_of) (t_Book__fillings_of sp_all_fillings sp_holds) := by
  intro cdv A outer s H E G hr hG
  have hU : ∀ n : Nat, n ≤ 200 → (A.deeper (PyProof.Rows.envOfC "Book.fillings_of" (defScope s_Book__fillings_of) s.heap.objs.size f cdv)).units + n < cLine := fun n hn => by have := hr.rm.un; omega
  exact (vss_cons (vs_set nd_Book__fillings_of rfl (by first | exact Or.inl rfl | exact Or.inr rfl) (VF.nw (VF.pLst (vf_lst va_p0))))
  (vss_cons (vs_for (bd := false) PassesOwn.never rfl (vi_sq (VE.seal hG (ve_call [false] ca_all_fillings hr hk_all_fillings rfl (va_p (ve_fldP hC (ve_v 0)) va_p0)))) (vg_name nd_Book__fillings_of rfl (by first | exact Or.inl rfl | exact Or.inr rfl)) (vss_cons (vs_set nd_Book__fillings_of rfl (by first | exact Or.inl rfl | exact Or.inr rfl) (ve_callB (cr_all rfl) rd_all rfl m_all bt_all (va_cons (VF.fz (vf_fit (so := 0) (sx := 3) (sk := 5) (sv := 6) hC rfl nd_Book__fillings_of (by decide) (by decide) (by decide) (pe_var rfl (by first | exact Or.inl rfl | exact Or.inr (Or.inl rfl) | exact Or.inr (Or.inr rfl))) (blkOk_by (show blkC N_Book__fillings_of (defScope s_Book__fillings_of) _ _ = true by decide +kernel)) (fun s H C cl fp => pg_tup rfl (pgs_cons (pg_name nd_Book__fillings_of rfl (by first | exact Or.inl rfl | exact Or.inr rfl) (by first | exact Or.inr rfl | exact Or.inl rfl)) (pgs_cons (pg_name nd_Book__fillings_of rfl (by first | exact Or.inl rfl | exact Or.inr rfl) (by first | exact Or.inr rfl | exact Or.inl rfl)) pgs_nil))) (fun s H C cl fp => pe_var rfl (by first | exact Or.inl rfl | exact Or.inr (Or.inl rfl) | exact Or.inr (Or.inr rfl))) (fun s H C cl fp => pe_var rfl (by first | exact Or.inl rfl | exact Or.inr (Or.inl rfl) | exact Or.inr (Or.inr rfl))) (fun s H C cl fp => pe_var rfl (by first | exact Or.inl rfl | exact Or.inr (Or.inl rfl) | exact Or.inr (Or.inr rfl))))) va_p0)))
  (vss_one (vs_if (VW.vt (vw_and (VT.pure (vt_val (ve_v 4))) (vw_and1 (vt_val (ve_callB (cr_all rfl) rd_all rfl m_all bt_all (va_cons (VF.fz (vf_lc (own := [("number", 7)]) rfl nd_Book__fillings_of (vi_pq (ve_v 1)) (blkOk_by (show blkC N_Book__fillings_of (defScope s_Book__fillings_of) _ _ = true by decide +kernel)) (fun s H C cl fp => pg_name nd_Book__fillings_of rfl (by first | exact Or.inl rfl | exact Or.inr rfl) (by first | exact Or.inr rfl | exact Or.inl rfl)) (fun s H C cl fp G hG' => vts_nil) (fun s H C cl fp G hG' => (ve_call [false, false] ca_holds hr hk_holds rfl (va_p (VE.pure2 (ve_dgetA (hU 1 (by decide)) (ve_fldP hC (ve_v 0)) (ve_v 7))) (va_p (ve_v 3) va_p0)))) (by decide))) va_p0)))))) (vss_one (vs_expr (ve_mt F.plainAttrs_list F.slot_list_append rfl mt_append rd_app (ve_v 2) (va_p (ve_v 3) va_p0)))) vss_nil))))
  (vss_one (vs_ret (ve_v 2)))))
abbrev s_Book__fillings_left : Stmt := methS (top 31) 9
def N_Book__fillings_left : List Str := ["self"]
def t_Book__fillings_left (sp_Book__fillings_of : SpD) : TS' :=
  (sRet (eMeth "Book" "fillings_of" [true, false] sp_Book__fillings_of (eP (pV 0)) (aP [(pFz (plN listDF [(poFld clsT "held" (pV 0))]))])))
theorem sc_Book__fillings_left : FnScope N_Book__fillings_left ["self"] (defScope s_Book__fillings_left) := C8.fnScope_by (by decide +kernel)
theorem d_Book__fillings_left {P : Program} {w : World} {K : PySem.W.Frag} {mg : Str → Option Value} {base : Heap} {f : Addr} {k : Nat} (m_list : mg "list" = none) (hC : ObC K clsT) {sp_Book__fillings_of : SpD} {k_Book__fillings_of : Nat} (cm_Book__fillings_of : CaM P w K mg base k_Book__fillings_of "Book" "fillings_of" 2 sp_Book__fillings_of) (hk_Book__fillings_of : k_Book__fillings_of ≤ k) :
    ∀ (cdv : Value) (A : Around) (outer : List Env) (s : Shared) (H : Hp) (E : XK) (G : Gd), RoomG k (A.deeper (PyProof.Rows.envOfC "Book.fillings_left" (defScope s_Book__fillings_left) s.heap.objs.size f cdv)) → G.i0.length = 4 →
      VSs (cxOf C8.CX0 P w K mg base N_Book__fillings_left "Book.fillings_left" (defScope s_Book__fillings_left) f cdv A outer s H E).nox G (defBody s_Book__fillings_left) (t_Book__fillings_left sp_Book__fillings_of) := by
  intro cdv A outer s H E G hr hG
  have hU : ∀ n : Nat, n ≤ 200 → (A.deeper (PyProof.Rows.envOfC "Book.fillings_left" (defScope s_Book__fillings_left) s.heap.objs.size f cdv)).units + n < cLine := fun n hn => by have := hr.rm.un; omega
  exact (vss_one (vs_ret (ve_meth [true, false] cm_Book__fillings_of hr hk_Book__fillings_of (ve_v 0) (va_p (VF.pure (VF.pN (vf_callTy (call_listD rfl) rd_listD rfl m_list bt_list (va_p (ve_fldP hC (ve_v 0)) va_p0)))) va_p0))))
abbrev s_Book__count : Stmt := methS (top 31) 10
def N_Book__count : List Str := ["self"]
def t_Book__count (sp_Book__fillings_left : SpD) : TS' :=
  (sRet (eoN lenD (aCons (eMeth "Book" "fillings_left" [true] sp_Book__fillings_left (eP (pV 0)) (aP [])) (aP []))))
theorem sc_Book__count : FnScope N_Book__count ["self"] (defScope s_Book__count) := C8.fnScope_by (by decide +kernel)
theorem d_Book__count {P : Program} {w : World} {K : PySem.W.Frag} {mg : Str → Option Value} {base : Heap} {f : Addr} {k : Nat} (m_len : mg "len" = none) {sp_Book__fillings_left : SpD} {k_Book__fillings_left : Nat} (cm_Book__fillings_left : CaM P w K mg base k_Book__fillings_left "Book" "fillings_left" 1 sp_Book__fillings_left) (hk_Book__fillings_left : k_Book__fillings_left ≤ k) :
    ∀ (cdv : Value) (A : Around) (outer : List Env) (s : Shared) (H : Hp) (E : XK) (G : Gd), RoomG k (A.deeper (PyProof.Rows.envOfC "Book.count" (defScope s_Book__count) s.heap.objs.size f cdv)) → G.i0.length = 4 →
      VSs (cxOf C8.CX0 P w K mg base N_Book__count "Book.count" (defScope s_Book__count) f cdv A outer s H E).nox G (defBody s_Book__count) (t_Book__count sp_Book__fillings_left) := by
  intro cdv A outer s H E G hr hG
  have hU : ∀ n : Nat, n ≤ 200 → (A.deeper (PyProof.Rows.envOfC "Book.count" (defScope s_Book__count) s.heap.objs.size f cdv)).units + n < cLine := fun n hn => by have := hr.rm.un; omega
  exact (vss_one (vs_ret (ve_callB call_lenX rd_len rfl m_len bt_len (va_cons (ve_meth0 cm_Book__fillings_left hr hk_Book__fillings_left (ve_v 0)) va_p0))))
abbrev s_Book__nth : Stmt := methS (top 31) 13
abbrev s_Book__nthX : Stmt := methS (top 31) 13
def N_Book__nthX : List Str := ["self", "number", "left"]
def t_Book__nthX (sp_Book__fillings_left : SpD) (xe : XD) : TS' :=
  (sSeq (sSet 2 (eMeth "Book" "fillings_left" [true] sp_Book__fillings_left (eP (pV 0)) (aP [])))
  (sSeq (sIf (cP (bB (po2 geD (pV 1) (poN lenD [(pV 2)]))))
  (sRaise "NoFilling" xe)
  sNil)
  (sRet (eP (po2 ixD (pV 2) (pV 1))))))
theorem nd_Book__nthX : N_Book__nthX.Nodup := by decide
theorem sc_Book__nthX : FnScope N_Book__nthX ["self", "number"] (defScope s_Book__nthX) := C8.fnScope_by (by decide +kernel)
theorem d_Book__nthX {P : Program} {w : World} {K : PySem.W.Frag} {mg : Str → Option Value} {base : Heap} {f : Addr} {k : Nat} (m_len : mg "len" = none) (gx_NoFilling : mg "NoFilling" = some (.ref (He.ga K "NoFilling"))) (ex_NoFilling : (He.Fa.exc "NoFilling").ok K = true) {sp_Book__fillings_left : SpD} {k_Book__fillings_left : Nat} (cm_Book__fillings_left : CaM P w K mg base k_Book__fillings_left "Book" "fillings_left" 1 sp_Book__fillings_left) (hk_Book__fillings_left : k_Book__fillings_left ≤ k) :
    ∀ (cdv : Value) (A : Around) (outer : List Env) (s : Shared) (H : Hp) (E : XK) (G : Gd) (xe : XD), RoomG k (A.deeper (PyProof.Rows.envOfC "Book.nth" (defScope s_Book__nthX) s.heap.objs.size f cdv)) → G.i0.length = 4 → PassesOwn (model P w) (cxOf (L2.CX P w) P w K mg base N_Book__nthX "Book.nth" (defScope s_Book__nthX) f cdv A outer s H E).A (cxOf (L2.CX P w) P w K mg base N_Book__nthX "Book.nth" (defScope s_Book__nthX) f cdv A outer s H E).env (cxOf (L2.CX P w) P w K mg base N_Book__nthX "Book.nth" (defScope s_Book__nthX) f cdv A outer s H E).xe → TX (cxOf (L2.CX P w) P w K mg base N_Book__nthX "Book.nth" (defScope s_Book__nthX) f cdv A outer s H E) G xe →
      VSs (cxOf (L2.CX P w) P w K mg base N_Book__nthX "Book.nth" (defScope s_Book__nthX) f cdv A outer s H E) G (defBody s_Book__nthX) (t_Book__nthX sp_Book__fillings_left xe) := by
  intro cdv A outer s H E G xe hr hG po tk
  have hU : ∀ n : Nat, n ≤ 200 → (A.deeper (PyProof.Rows.envOfC "Book.nth" (defScope s_Book__nthX) s.heap.objs.size f cdv)).units + n < cLine := fun n hn => by have := hr.rm.un; omega
  exact (vss_cons (vs_set nd_Book__nthX rfl (by first | exact Or.inl rfl | exact Or.inr rfl) (ve_meth0 cm_Book__fillings_left hr hk_Book__fillings_left (ve_v 0)))
  (vss_cons (vs_if (VT.pureB2 (vt_cmp op_ge rd_ge (ve_v 1) (VE.pureN (ve_callB call_lenX rd_len rfl m_len bt_len (va_p (ve_v 2) va_p0))) (nomark _))) (vss_one (vs_raise rfl tk ex_NoFilling gx_NoFilling rfl)) vss_nil)
  (vss_one (vs_ret (VE.pure2 (ve_idx (ve_v 2) (ve_v 1)))))))
abbrev s__law_cell_at : Stmt := top 33
def N__law_cell_at : List Str := ["_law_script", "_law_k"]
def t__law_cell_at  : TS' :=
  (sRet (eP (poIf (bB (po2 ltD (pV 1) (poN lenD [(pV 0)]))) (po2 ixD (pV 0) (pV 1)) (pC (.int 0)))))
theorem sc__law_cell_at : FnScope N__law_cell_at ["_law_script", "_law_k"] (defScope s__law_cell_at) := C8.fnScope_by (by decide +kernel)
theorem d__law_cell_at {P : Program} {w : World} {K : PySem.W.Frag} {mg : Str → Option Value} {base : Heap} {f : Addr} {k : Nat} (m_len : mg "len" = none) :
    ∀ (cdv : Value) (A : Around) (outer : List Env) (s : Shared) (H : Hp) (E : XK) (G : Gd), RoomG k (A.deeper (PyProof.Rows.envOfC "_law_cell_at" (defScope s__law_cell_at) s.heap.objs.size f cdv)) → G.i0.length = 0 →
      VSs (cxOf C8.CX0 P w K mg base N__law_cell_at "_law_cell_at" (defScope s__law_cell_at) f cdv A outer s H E).nox G (defBody s__law_cell_at) (t__law_cell_at ) := by
  intro cdv A outer s H E G hr hG
  have hU : ∀ n : Nat, n ≤ 200 → (A.deeper (PyProof.Rows.envOfC "_law_cell_at" (defScope s__law_cell_at) s.heap.objs.size f cdv)).units + n < cLine := fun n hn => by have := hr.rm.un; omega
  exact (vss_one (vs_ret (VE.pIf (ve_if (VT.pureB2 (vt_cmp op_lt rd_lt (ve_v 1) (VE.pureN (ve_callB call_lenX rd_len rfl m_len bt_len (va_p (ve_v 0) va_p0))) (nomark _))) (VE.pure2 (ve_idx (ve_v 0) (ve_v 1))) ve_int))))
abbrev s__law_tape : Stmt := top 34
def N__law_tape : List Str := ["_law_script", "_law_k", "_law_cell"]
def t__law_tape (sp__law_cell_at : SpD) : TS' :=
  (sSeq (sSet 2 (eCall [false, false] sp__law_cell_at (aP [(pV 0), (pV 1)])))
  (sRet (eNw (fP (plLst [(po2 mulD (poN absD [(pV 2)]) (poN intD [(po2 geD (poN absD [(pV 2)]) (po2 powD (pC (.int 10)) (pC (.int 18))))])), (po2 modD (po2 mulD (po2 addD (po2 addD (po2 modD (pV 2) (pC (.int 2147483647))) (po2 mulD (po2 mulD (pC (.int 7753)) (pV 1)) (pV 1))) (pC (.int 41))) (pC (.int 48271))) (pC (.int 2147483629))), (pC (.int 0))])))))
theorem nd__law_tape : N__law_tape.Nodup := by decide
theorem sc__law_tape : FnScope N__law_tape ["_law_script", "_law_k"] (defScope s__law_tape) := C8.fnScope_by (by decide +kernel)
theorem d__law_tape {P : Program} {w : World} {K : PySem.W.Frag} {mg : Str → Option Value} {base : Heap} {f : Addr} {k : Nat} (m_abs : mg "abs" = none) (m_int : mg "int" = none) {sp__law_cell_at : SpD} {k__law_cell_at : Nat} (ca__law_cell_at : Ca P w K mg base k__law_cell_at "_law_cell_at" 2 sp__law_cell_at) (hk__law_cell_at : k__law_cell_at ≤ k) :
    ∀ (cdv : Value) (A : Around) (outer : List Env) (s : Shared) (H : Hp) (E : XK) (G : Gd), RoomG k (A.deeper (PyProof.Rows.envOfC "_law_tape" (defScope s__law_tape) s.heap.objs.size f cdv)) → G.i0.length = 0 →
      VSs (cxOf C8.CX0 P w K mg base N__law_tape "_law_tape" (defScope s__law_tape) f cdv A outer s H E).nox G (defBody s__law_tape) (t__law_tape sp__law_cell_at) := by
  intro cdv A outer s H E G hr hG
  have hU : ∀ n : Nat, n ≤ 200 → (A.deeper (PyProof.Rows.envOfC "_law_tape" (defScope s__law_tape) s.heap.objs.size f cdv)).units + n < cLine := fun n hn => by have := hr.rm.un; omega
  exact (vss_cons (vs_set nd__law_tape rfl (by first | exact Or.inl rfl | exact Or.inr rfl) (ve_call [false, false] ca__law_cell_at hr hk__law_cell_at rfl (va_p (ve_v 0) (va_p (ve_v 1) va_p0))))
  (vss_one (vs_ret (VF.nw (VF.pLst (vf_lst (va_p (VE.pure2 (ve_mul (VE.pureN (ve_callB call_abs rd_abs rfl m_abs bt_abs (va_p (ve_v 2) va_p0))) (VE.pureN (ve_callTy call_int1 rd_intC rfl m_int bt_int (va_p (VE.pure2 (ve_cmp op_ge rd_ge (VE.pureN (ve_callB call_abs rd_abs rfl m_abs bt_abs (va_p (ve_v 2) va_p0))) (VE.pure2 (ve_pow ve_int ve_int)) (nomark _))) va_p0))))) (va_p (VE.pure2 (ve_mod (VE.pure2 (ve_mul (VE.pure2 (ve_add (VE.pure2 (ve_add (VE.pure2 (ve_mod (ve_v 2) ve_int)) (VE.pure2 (ve_mul (VE.pure2 (ve_mul ve_int (ve_v 1))) (ve_v 1))))) ve_int)) ve_int)) ve_int)) (va_p ve_int va_p0)))))))))
abbrev s__law_take : Stmt := top 35
def N__law_take : List Str := ["_law_tape_here", "_law_many_here", "_law_prime", "_law_once", "_law_found"]
def t__law_take (sp__law_take : SpD) : TS' :=
  (sSeq (sIf (cP (bB (po2 gtD (po2 ixD (pV 0) (pC (.int 0))) (pC (.int 0)))))
  (sSeq (sSet 4 (eP (po2 modD (po2 ixD (pV 0) (pC (.int 0))) (pV 1))))
  (sSeq (sSub (eP (po2 fdivD (po2 ixD (pV 0) (pC (.int 0))) (pV 1))) (eP (pV 0)) (eP (pC (.int 0))))
  (sRet (eP (pV 4)))))
  sNil)
  (sSeq (sSub (eP (po2 addD (po2 ixD (pV 0) (pC (.int 2))) (pC (.int 1)))) (eP (pV 0)) (eP (pC (.int 2))))
  (sSeq (sSet 2 (eP (po2 ixD (pFz (plLst [(pC (.int 2147483587)), (pC (.int 2147483579)), (pC (.int 2147483563)), (pC (.int 2147483549)), (pC (.int 2147483543)), (pC (.int 2147483497)), (pC (.int 2147483489))])) (po2 modD (po2 ixD (pV 0) (pC (.int 2))) (pC (.int 7))))))
  (sSeq (sSet 3 (eP (po2 modD (po2 mulD (po2 addD (po2 ixD (pV 0) (pC (.int 1))) (po2 mulD (pC (.int 39373)) (po2 ixD (pV 0) (pC (.int 2))))) (po2 addD (pC (.int 48271)) (po2 ixD (pV 0) (pC (.int 2))))) (pV 2))))
  (sSeq (sSub (eP (po2 modD (po2 addD (po2 mulD (pV 3) (po2 addD (po2 modD (pV 3) (pC (.int 40009))) (pC (.int 7)))) (po2 ixD (pV 0) (pC (.int 2)))) (pC (.int 2147483629)))) (eP (pV 0)) (eP (pC (.int 1))))
  (sSeq (sSet 4 (eP (po2 fdivD (po2 modD (po2 mulD (po2 ixD (pV 0) (pC (.int 1))) (po2 addD (po2 modD (po2 ixD (pV 0) (pC (.int 1))) (pC (.int 1009))) (pC (.int 3)))) (pC (.int 998244353))) (pC (.int 7)))))
  (sRet (eIf (cP (bB (po2 ltD (pV 1) (po2 powD (pC (.int 10)) (pC (.int 6)))))) (eP (po2 modD (pV 4) (pV 1))) (eo2 modD (eo2 addD (eP (po2 mulD (pV 4) (pC (.int 99991)))) (eCall [true, false] sp__law_take (aP [(pV 0), (pC (.int 99991))]))) (eP (pV 1)))))))))))
theorem nd__law_take : N__law_take.Nodup := by decide
theorem sc__law_take : FnScope N__law_take ["_law_tape_here", "_law_many_here"] (defScope s__law_take) := C8.fnScope_by (by decide +kernel)
theorem d__law_take {P : Program} {w : World} {K : PySem.W.Frag} {mg : Str → Option Value} {base : Heap} {f : Addr} {k : Nat} {sp__law_take : SpD} {k__law_take : Nat} (ca__law_take : Ca P w K mg base k__law_take "_law_take" 2 sp__law_take) (hk__law_take : k__law_take ≤ k) :
    ∀ (cdv : Value) (A : Around) (outer : List Env) (s : Shared) (H : Hp) (E : XK) (G : Gd), RoomG k (A.deeper (PyProof.Rows.envOfC "_law_take" (defScope s__law_take) s.heap.objs.size f cdv)) → G.i0.length = 1 →
      VSs (cxOf C8.CX0 P w K mg base N__law_take "_law_take" (defScope s__law_take) f cdv A outer s H E).nox G (defBody s__law_take) (t__law_take sp__law_take) := by
  intro cdv A outer s H E G hr hG
  have hU : ∀ n : Nat, n ≤ 200 → (A.deeper (PyProof.Rows.envOfC "_law_take" (defScope s__law_take) s.heap.objs.size f cdv)).units + n < cLine := fun n hn => by have := hr.rm.un; omega
  exact (vss_cons (vs_if (VT.pureB2 (vt_cmp op_gt rd_gt (VE.pure2 (ve_idx (ve_v 0) ve_int)) ve_int (nomark _))) (vss_cons (vs_set nd__law_take rfl (by first | exact Or.inl rfl | exact Or.inr rfl) (VE.pure2 (ve_mod (VE.pure2 (ve_idx (ve_v 0) ve_int)) (ve_v 1))))
  (vss_cons (vs_sub (VE.pure2 (ve_fdiv (VE.pure2 (ve_idx (ve_v 0) ve_int)) (ve_v 1))) (ve_v 0) ve_int)
  (vss_one (vs_ret (ve_v 4))))) vss_nil)
  (vss_cons (vs_sub (VE.pure2 (ve_add (VE.pure2 (ve_idx (ve_v 0) ve_int)) ve_int)) (ve_v 0) ve_int)
  (vss_cons (vs_set nd__law_take rfl (by first | exact Or.inl rfl | exact Or.inr rfl) (VE.pure2 (ve_idx (VF.pure (VF.pLst (vf_lst (va_p ve_int (va_p ve_int (va_p ve_int (va_p ve_int (va_p ve_int (va_p ve_int (va_p ve_int va_p0)))))))))) (VE.pure2 (ve_mod (VE.pure2 (ve_idx (ve_v 0) ve_int)) ve_int)))))
  (vss_cons (vs_set nd__law_take rfl (by first | exact Or.inl rfl | exact Or.inr rfl) (VE.pure2 (ve_mod (VE.pure2 (ve_mul (VE.pure2 (ve_add (VE.pure2 (ve_idx (ve_v 0) ve_int)) (VE.pure2 (ve_mul ve_int (VE.pure2 (ve_idx (ve_v 0) ve_int)))))) (VE.pure2 (ve_add ve_int (VE.pure2 (ve_idx (ve_v 0) ve_int)))))) (ve_v 2))))
  (vss_cons (vs_sub (VE.pure2 (ve_mod (VE.pure2 (ve_add (VE.pure2 (ve_mul (ve_v 3) (VE.pure2 (ve_add (VE.pure2 (ve_mod (ve_v 3) ve_int)) ve_int)))) (VE.pure2 (ve_idx (ve_v 0) ve_int)))) ve_int)) (ve_v 0) ve_int)
  (vss_cons (vs_set nd__law_take rfl (by first | exact Or.inl rfl | exact Or.inr rfl) (VE.pure2 (ve_fdiv (VE.pure2 (ve_mod (VE.pure2 (ve_mul (VE.pure2 (ve_idx (ve_v 0) ve_int)) (VE.pure2 (ve_add (VE.pure2 (ve_mod (VE.pure2 (ve_idx (ve_v 0) ve_int)) ve_int)) ve_int)))) ve_int)) ve_int)))
  (vss_one (vs_ret (ve_if (VT.pureB2 (vt_cmp op_lt rd_lt (ve_v 1) (VE.pure2 (ve_pow ve_int ve_int)) (nomark _))) (VE.pure2 (ve_mod (ve_v 4) (ve_v 1))) (ve_mod (ve_add (VE.pure2 (ve_mul (ve_v 4) ve_int)) (ve_call [true, false] ca__law_take hr hk__law_take rfl (va_p (ve_v 0) (va_p ve_int va_p0)))) (ve_v 1)))))))))))
abbrev s__law_mixed : Stmt := top 36
def N__law_mixed : List Str := ["_law_tape_here", "_law_some", "_law_left_here", "_law_found"]
def t__law_mixed (sp__law_take : SpD) : TS' :=
  (sSeq (sPar 2 3 (aCons (eNw (fP (plN listF [(pV 1)]))) (aCons (eNw (fP (plLst []))) (aP []))))
  (sSeq (sWh (cP (bB (po2 neD (pV 2) (pFz (plLst [])))))
  (sDrop (eMt "list" mApp (eP (pV 3)) (aCons (eMt "list" mPopAt (eP (pV 2)) (aCons (eCall [true, false] sp__law_take (aP [(pV 0), (poN lenD [(pV 2)])])) (aP []))) (aP [])))))
  (sRet (eP (pV 3)))))
theorem nd__law_mixed : N__law_mixed.Nodup := by decide
theorem sc__law_mixed : FnScope N__law_mixed ["_law_tape_here", "_law_some"] (defScope s__law_mixed) := C8.fnScope_by (by decide +kernel)
theorem d__law_mixed {P : Program} {w : World} {K : PySem.W.Frag} {mg : Str → Option Value} {base : Heap} {f : Addr} {k : Nat} (m_list : mg "list" = none) (m_len : mg "len" = none) {sp__law_take : SpD} {k__law_take : Nat} (ca__law_take : Ca P w K mg base k__law_take "_law_take" 2 sp__law_take) (hk__law_take : k__law_take ≤ k) :
    ∀ (cdv : Value) (A : Around) (outer : List Env) (s : Shared) (H : Hp) (E : XK) (G : Gd), RoomG k (A.deeper (PyProof.Rows.envOfC "_law_mixed" (defScope s__law_mixed) s.heap.objs.size f cdv)) → G.i0.length = 1 →
      VSs (cxOf C8.CX0 P w K mg base N__law_mixed "_law_mixed" (defScope s__law_mixed) f cdv A outer s H E).nox G (defBody s__law_mixed) (t__law_mixed sp__law_take) := by
  intro cdv A outer s H E G hr hG
  have hU : ∀ n : Nat, n ≤ 200 → (A.deeper (PyProof.Rows.envOfC "_law_mixed" (defScope s__law_mixed) s.heap.objs.size f cdv)).units + n < cLine := fun n hn => by have := hr.rm.un; omega
  exact (vss_cons (vs_par rfl nd__law_mixed rfl rfl (by decide) rfl rfl (va_cons (VF.nw (VF.pN (vf_callTy call_list_of rd_list rfl m_list bt_list (va_p (ve_v 1) va_p0)))) (va_cons (VF.nw (VF.pLst (vf_lst va_p0))) va_p0)) rfl)
  (vss_cons (vs_while PassesOwn.never (VT.pureB2 (vt_cmp (op_neX (hU 64 (by decide))) rd_ne (ve_v 2) (VF.pure (VF.pLst (vf_lst va_p0))) (nomark _))) (vss_one (vs_expr (ve_mt F.plainAttrs_list F.slot_list_append rfl mt_append rd_app (ve_v 3) (va_cons (ve_mt F.plainAttrs_list F.slot_list_pop rfl mt_popAt rd_popAt (ve_v 2) (va_cons (ve_call [true, false] ca__law_take hr hk__law_take rfl (va_p (ve_v 0) (va_p (VE.pureN (ve_callB call_lenX rd_len rfl m_len bt_len (va_p (ve_v 2) va_p0))) va_p0))) va_p0)) va_p0)))))
  (vss_one (vs_ret (ve_v 3)))))
abbrev s__law_claim : Stmt := top 37
def N__law_claim : List Str := ["_law_tape_here", "_law_many_here", "_law_deep", "_law_way", "_law_claims", "_law_k", "_law_one", "_law_turn"]
def t__law_claim (sp__law_take : SpD) (sp__law_claim : SpD) : TS' :=
  (sSeq (sSet 3 (eCall [true, false] sp__law_take (aP [(pV 0), (pC (.int 12))])))
  (sSeq (sIf (cP (bOr (bB (po2 eqD (pV 2) (pC (.int 0)))) (bB (po2 ltD (pV 3) (pC (.int 3))))))
  (sSeq (sSet 5 (eCall [true, false] sp__law_take (aP [(pV 0), (poN maxD [(pC (.int 1)), (pV 1)])])))
  (sRet (eIf (cP (bAn (bB (po2 gtD (pV 1) (pC (.int 0)))) (bB (po2 neD (pV 3) (pC (.int 3)))))) (eP (poTup [(pC (.str "name")), (pV 5)])) (eo2 ixD (eP (pFz (plLst [(poTup [(pC (.str "yes"))]), (poTup [(pC (.str "no"))])]))) (eCall [true, false] sp__law_take (aP [(pV 0), (pC (.int 2))]))))))
  sNil)
  (sSeq (sIf (cP (bB (po2 eqD (pV 3) (pC (.int 3)))))
  (sRet (eo2 ixD (eP (pFz (plLst [(poTup [(pC (.str "yes"))]), (poTup [(pC (.str "no"))]), (poTup [(pC (.str "and")), (poTup [])]), (poTup [(pC (.str "or")), (poTup [])]), (poTup [(pC (.str "least")), (pC (.int 0)), (poTup [])])]))) (eCall [true, false] sp__law_take (aP [(pV 0), (pC (.int 5))]))))
  sNil)
  (sSeq (sIf (cP (bB (po2 eqD (pV 3) (pC (.int 4)))))
  (sRet (tTupE (aCons (eP (pC (.str "not"))) (aCons (eCall [true, false, false] sp__law_claim (aP [(pV 0), (pV 1), (po2 subD (pV 2) (pC (.int 1)))])) (aP [])))))
  sNil)
  (sSeq (sIf (cP (bB (po2 eqD (pV 3) (pC (.int 5)))))
  (sSeq (sSet 6 (eCall [true, false, false] sp__law_claim (aP [(pV 0), (pV 1), (po2 subD (pV 2) (pC (.int 1)))])))
  (sRet (tTupE (aCons (eP (pC (.str "same"))) (aCons (eP (pV 6)) (aCons (eCall [true, false, false] sp__law_claim (aP [(pV 0), (pV 1), (po2 subD (pV 2) (pC (.int 1)))])) (aP [])))))))
  sNil)
  (sSeq (sSet 4 (eo1 tupC (eFz (fLc (iRg true (aCons (eo2 addD (eP (pC (.int 1))) (eCall [true, false] sp__law_take (aP [(pV 0), (pC (.int 4))]))) (aP []))) (.nm 7) tYs (eCall [true, false, false] sp__law_claim (aP [(pV 0), (pV 1), (po2 subD (pV 2) (pC (.int 1)))])) [7]))))
  (sSeq (sIf (cP (bB (po2 gtD (pV 3) (pC (.int 9)))))
  (sRet (tTupE (aCons (eP (pC (.str "least"))) (aCons (eCall [true, false] sp__law_take (aP [(pV 0), (po2 addD (poN lenD [(pV 4)]) (pC (.int 2)))])) (aP [(pV 4)])))))
  sNil)
  (sRet (eP (poTup [(po2 ixD (pFz (plLst [(pC (.str "and")), (pC (.str "or"))])) (po2 modD (pV 3) (pC (.int 2)))), (pV 4)]))))))))))
theorem nd__law_claim : N__law_claim.Nodup := by decide
theorem sc__law_claim : FnScope N__law_claim ["_law_tape_here", "_law_many_here", "_law_deep"] (defScope s__law_claim) := C8.fnScope_by (by decide +kernel)
theorem d__law_claim {P : Program} {w : World} {K : PySem.W.Frag} {mg : Str → Option Value} {base : Heap} {f : Addr} {k : Nat} (m_max : mg "max" = none) (m_range : mg "range" = none) (m_tuple : mg "tuple" = none) (m_len : mg "len" = none) {sp__law_take : SpD} {k__law_take : Nat} (ca__law_take : Ca P w K mg base k__law_take "_law_take" 2 sp__law_take) (hk__law_take : k__law_take ≤ k) {sp__law_claim : SpD} {k__law_claim : Nat} (ca__law_claim : Ca P w K mg base k__law_claim "_law_claim" 3 sp__law_claim) (hk__law_claim : k__law_claim ≤ k) :
    ∀ (cdv : Value) (A : Around) (outer : List Env) (s : Shared) (H : Hp) (E : XK) (G : Gd), RoomG k (A.deeper (PyProof.Rows.envOfC "_law_claim" (defScope s__law_claim) s.heap.objs.size f cdv)) → G.i0.length = 1 →
      VSs (cxOf C8.CX0 P w K mg base N__law_claim "_law_claim" (defScope s__law_claim) f cdv A outer s H E).nox G (defBody s__law_claim) (t__law_claim sp__law_take sp__law_claim) := by
  intro cdv A outer s H E G hr hG
  have hU : ∀ n : Nat, n ≤ 200 → (A.deeper (PyProof.Rows.envOfC "_law_claim" (defScope s__law_claim) s.heap.objs.size f cdv)).units + n < cLine := fun n hn => by have := hr.rm.un; omega
  exact (vss_cons (vs_set nd__law_claim rfl (by first | exact Or.inl rfl | exact Or.inr rfl) (ve_call [true, false] ca__law_take hr hk__law_take rfl (va_p (ve_v 0) (va_p ve_int va_p0))))
  (vss_cons (vs_if (VW.vt (VW.pOr (vw_or (VT.pureB2 (vt_cmp (op_eqX (hU 64 (by decide))) rd_eq (ve_v 2) ve_int (nomark _))) (vw_or1 (VT.pureB2 (vt_cmp op_lt rd_lt (ve_v 3) ve_int (nomark _))))))) (vss_cons (vs_set nd__law_claim rfl (by first | exact Or.inl rfl | exact Or.inr rfl) (ve_call [true, false] ca__law_take hr hk__law_take rfl (va_p (ve_v 0) (va_p (VE.pureN (ve_callB (call_maxX rfl) rd_max rfl m_max bt_max (va_p ve_int (va_p (ve_v 1) va_p0)))) va_p0))))
  (vss_one (vs_ret (ve_if (VW.vt (VW.pAn (vw_and (VT.pureB2 (vt_cmp op_gt rd_gt (ve_v 1) ve_int (nomark _))) (vw_and1 (VT.pureB2 (vt_cmp (op_neX (hU 64 (by decide))) rd_ne (ve_v 3) ve_int (nomark _))))))) (VE.pTup (ve_tup (va_p ve_str (va_p (ve_v 5) va_p0)))) (ve_idx (VF.pure (VF.pLst (vf_lst (va_p (VE.pTup (ve_tup (va_p ve_str va_p0))) (va_p (VE.pTup (ve_tup (va_p ve_str va_p0))) va_p0))))) (ve_call [true, false] ca__law_take hr hk__law_take rfl (va_p (ve_v 0) (va_p ve_int va_p0)))))))) vss_nil)
  (vss_cons (vs_if (VT.pureB2 (vt_cmp (op_eqX (hU 64 (by decide))) rd_eq (ve_v 3) ve_int (nomark _))) (vss_one (vs_ret (ve_idx (VF.pure (VF.pLst (vf_lst (va_p (VE.pTup (ve_tup (va_p ve_str va_p0))) (va_p (VE.pTup (ve_tup (va_p ve_str va_p0))) (va_p (VE.pTup (ve_tup (va_p ve_str (va_p (VE.pTup (ve_tup va_p0)) va_p0)))) (va_p (VE.pTup (ve_tup (va_p ve_str (va_p (VE.pTup (ve_tup va_p0)) va_p0)))) (va_p (VE.pTup (ve_tup (va_p ve_str (va_p ve_int (va_p (VE.pTup (ve_tup va_p0)) va_p0))))) va_p0)))))))) (ve_call [true, false] ca__law_take hr hk__law_take rfl (va_p (ve_v 0) (va_p ve_int va_p0)))))) vss_nil)
  (vss_cons (vs_if (VT.pureB2 (vt_cmp (op_eqX (hU 64 (by decide))) rd_eq (ve_v 3) ve_int (nomark _))) (vss_one (vs_ret (ve_tup (va_cons ve_str (va_cons (ve_call [true, false, false] ca__law_claim hr hk__law_claim rfl (va_p (ve_v 0) (va_p (ve_v 1) (va_p (VE.pure2 (ve_sub (ve_v 2) ve_int)) va_p0)))) va_p0))))) vss_nil)
  (vss_cons (vs_if (VT.pureB2 (vt_cmp (op_eqX (hU 64 (by decide))) rd_eq (ve_v 3) ve_int (nomark _))) (vss_cons (vs_set nd__law_claim rfl (by first | exact Or.inl rfl | exact Or.inr rfl) (ve_call [true, false, false] ca__law_claim hr hk__law_claim rfl (va_p (ve_v 0) (va_p (ve_v 1) (va_p (VE.pure2 (ve_sub (ve_v 2) ve_int)) va_p0)))))
  (vss_one (vs_ret (ve_tup (va_cons ve_str (va_cons (ve_v 6) (va_cons (ve_call [true, false, false] ca__law_claim hr hk__law_claim rfl (va_p (ve_v 0) (va_p (ve_v 1) (va_p (VE.pure2 (ve_sub (ve_v 2) ve_int)) va_p0)))) va_p0))))))) vss_nil)
  (vss_cons (vs_set nd__law_claim rfl (by first | exact Or.inl rfl | exact Or.inr rfl) (ve_tupleOf rfl m_tuple (VF.fz (vf_lc (own := [("_law_turn", 7)]) rfl nd__law_claim (vi_range1 rfl m_range (va_cons (ve_add ve_int (ve_call [true, false] ca__law_take hr hk__law_take rfl (va_p (ve_v 0) (va_p ve_int va_p0)))) va_p0)) (blkOk_by (show blkC N__law_claim (defScope s__law_claim) _ _ = true by decide +kernel)) (fun s H C cl fp => pg_name nd__law_claim rfl (by first | exact Or.inl rfl | exact Or.inr rfl) (by first | exact Or.inr rfl | exact Or.inl rfl)) (fun s H C cl fp G hG' => vts_nil) (fun s H C cl fp G hG' => (ve_call [true, false, false] ca__law_claim hr hk__law_claim rfl (va_p (ve_v 0) (va_p (ve_v 1) (va_p (VE.pure2 (ve_sub (ve_v 2) ve_int)) va_p0))))) (by decide)))))
  (vss_cons (vs_if (VT.pureB2 (vt_cmp op_gt rd_gt (ve_v 3) ve_int (nomark _))) (vss_one (vs_ret (ve_tup (va_cons ve_str (va_cons (ve_call [true, false] ca__law_take hr hk__law_take rfl (va_p (ve_v 0) (va_p (VE.pure2 (ve_add (VE.pureN (ve_callB call_lenX rd_len rfl m_len bt_len (va_p (ve_v 4) va_p0))) ve_int)) va_p0))) (va_p (ve_v 4) va_p0)))))) vss_nil)
  (vss_one (vs_ret (VE.pTup (ve_tup (va_p (VE.pure2 (ve_idx (VF.pure (VF.pLst (vf_lst (va_p ve_str (va_p ve_str va_p0))))) (VE.pure2 (ve_mod (ve_v 3) ve_int)))) (va_p (ve_v 4) va_p0)))))))))))))
abbrev s__law_many : Stmt := top 38
def N__law_many : List Str := ["_law_tape_here", "_law_great"]
def t__law_many (sp__law_take : SpD) : TS' :=
  (sSeq (sSet 1 (eo2 eqD (eCall [true, false] sp__law_take (aP [(pV 0), (pC (.int 8))])) (eP (pC (.int 0)))))
  (sRet (eIf (cP (bTr (pV 1))) (eo2 addD (eP (pC (.int 7))) (eCall [true, false] sp__law_take (aP [(pV 0), (pC (.int 2))]))) (eCall [true, false] sp__law_take (aP [(pV 0), (pC (.int 7))])))))
theorem nd__law_many : N__law_many.Nodup := by decide
theorem sc__law_many : FnScope N__law_many ["_law_tape_here"] (defScope s__law_many) := C8.fnScope_by (by decide +kernel)
theorem d__law_many {P : Program} {w : World} {K : PySem.W.Frag} {mg : Str → Option Value} {base : Heap} {f : Addr} {k : Nat} {sp__law_take : SpD} {k__law_take : Nat} (ca__law_take : Ca P w K mg base k__law_take "_law_take" 2 sp__law_take) (hk__law_take : k__law_take ≤ k) :
    ∀ (cdv : Value) (A : Around) (outer : List Env) (s : Shared) (H : Hp) (E : XK) (G : Gd), RoomG k (A.deeper (PyProof.Rows.envOfC "_law_many" (defScope s__law_many) s.heap.objs.size f cdv)) → G.i0.length = 1 →
      VSs (cxOf C8.CX0 P w K mg base N__law_many "_law_many" (defScope s__law_many) f cdv A outer s H E).nox G (defBody s__law_many) (t__law_many sp__law_take) := by
  intro cdv A outer s H E G hr hG
  have hU : ∀ n : Nat, n ≤ 200 → (A.deeper (PyProof.Rows.envOfC "_law_many" (defScope s__law_many) s.heap.objs.size f cdv)).units + n < cLine := fun n hn => by have := hr.rm.un; omega
  exact (vss_cons (vs_set nd__law_many rfl (by first | exact Or.inl rfl | exact Or.inr rfl) (ve_cmp (op_eqX (hU 64 (by decide))) rd_eq (ve_call [true, false] ca__law_take hr hk__law_take rfl (va_p (ve_v 0) (va_p ve_int va_p0))) ve_int (nomark _)))
  (vss_one (vs_ret (ve_if (VT.pure (vt_val (ve_v 1))) (ve_add ve_int (ve_call [true, false] ca__law_take hr hk__law_take rfl (va_p (ve_v 0) (va_p ve_int va_p0)))) (ve_call [true, false] ca__law_take hr hk__law_take rfl (va_p (ve_v 0) (va_p ve_int va_p0)))))))
abbrev s__law_order : Stmt := top 39
def N__law_order : List Str := ["_law_tape_here", "_law_many_here"]
def t__law_order (sp__law_mixed : SpD) (sp__law_take : SpD) : TS' :=
  (sRet (eIf (tTb (eo2 eqD (eCall [true, false] sp__law_take (aP [(pV 0), (pC (.int 3))])) (eP (pC (.int 0))))) (eNw (fP (plN rgLF [(pV 1)]))) (eCall [true, false] sp__law_mixed (aP [(pV 0), (pFz (plN rgLF [(pV 1)]))]))))
theorem sc__law_order : FnScope N__law_order ["_law_tape_here", "_law_many_here"] (defScope s__law_order) := C8.fnScope_by (by decide +kernel)
theorem d__law_order {P : Program} {w : World} {K : PySem.W.Frag} {mg : Str → Option Value} {base : Heap} {f : Addr} {k : Nat} (m_list : mg "list" = none) (m_range : mg "range" = none) {sp__law_mixed : SpD} {k__law_mixed : Nat} (ca__law_mixed : Ca P w K mg base k__law_mixed "_law_mixed" 2 sp__law_mixed) (hk__law_mixed : k__law_mixed ≤ k) {sp__law_take : SpD} {k__law_take : Nat} (ca__law_take : Ca P w K mg base k__law_take "_law_take" 2 sp__law_take) (hk__law_take : k__law_take ≤ k) :
    ∀ (cdv : Value) (A : Around) (outer : List Env) (s : Shared) (H : Hp) (E : XK) (G : Gd), RoomG k (A.deeper (PyProof.Rows.envOfC "_law_order" (defScope s__law_order) s.heap.objs.size f cdv)) → G.i0.length = 1 →
      VSs (cxOf C8.CX0 P w K mg base N__law_order "_law_order" (defScope s__law_order) f cdv A outer s H E).nox G (defBody s__law_order) (t__law_order sp__law_mixed sp__law_take) := by
  intro cdv A outer s H E G hr hG
  have hU : ∀ n : Nat, n ≤ 200 → (A.deeper (PyProof.Rows.envOfC "_law_order" (defScope s__law_order) s.heap.objs.size f cdv)).units + n < cLine := fun n hn => by have := hr.rm.un; omega
  exact (vss_one (vs_ret (ve_if (vt_cmp (op_eqX (hU 64 (by decide))) rd_eq (ve_call [true, false] ca__law_take hr hk__law_take rfl (va_p (ve_v 0) (va_p ve_int va_p0))) ve_int (nomark _)) (VF.nw (VF.pN (VF.aP1 (vf_listRg1 rfl rfl m_list rfl m_range (ve_v 1))))) (ve_call [true, false] ca__law_mixed hr hk__law_mixed rfl (va_p (ve_v 0) (va_p (VF.pure (VF.pN (VF.aP1 (vf_listRg1 rfl rfl m_list rfl m_range (ve_v 1))))) va_p0))))))
abbrev s__law_same : Stmt := top 40
def N__law_same : List Str := ["_law_found", "_law_due", "_law_one", "_law_other"]
def t__law_same (sp__law_same : SpD) : TS' :=
  (sSeq (sIf (cP (bTr (poN isiD [(pV 1), (poTup [(pC (.ty "list")), (pC (.ty "tuple"))])])))
  (sSeq (sIf (cP (bOr (bB (po2 neD (poN isiD [(pV 0), (pC (.ty "list"))]) (poN isiD [(pV 1), (pC (.ty "list"))]))) (bB (po2 neD (poN isiD [(pV 0), (pC (.ty "tuple"))]) (poN isiD [(pV 1), (pC (.ty "tuple"))])))))
  (sRet (eP (pC (.bl false))))
  sNil)
  (sSeq (sIf (cP (bB (po2 neD (poN lenD [(pV 0)]) (poN lenD [(pV 1)]))))
  (sRet (eP (pC (.bl false))))
  sNil)
  (sRet (eoN allD (aCons (eFz (fLc (iZq (aP [(pV 0), (pV 1)])) (.tp [2, 3]) tYs (eCall [false, false] sp__law_same (aP [(pV 2), (pV 3)])) [2, 3])) (aP []))))))
  sNil)
  (sSeq (sIf (cP (bOr (bB (po2 isD (pV 1) (pC .non))) (bTr (poN isiD [(pV 1), (pC (.ty "str"))]))))
  (sRet (eP (poAn (po2 eqD (pV 0) (pV 1)) (po2 eqD (poN isiD [(pV 0), (pC (.ty "str"))]) (poN isiD [(pV 1), (pC (.ty "str"))])))))
  sNil)
  (sSeq (sIf (cP (bTr (poN isiD [(pV 1), (pC (.ty "bool"))])))
  (sRet (eP (poAn (poN isiD [(pV 0), (pC (.ty "bool"))]) (po2 eqD (pV 0) (pV 1)))))
  sNil)
  (sRet (eP (poAn (poN isiD [(pV 0), (pC (.ty "int"))]) (poAn (poNt (poN isiD [(pV 0), (pC (.ty "bool"))])) (po2 eqD (pV 0) (pV 1)))))))))
theorem nd__law_same : N__law_same.Nodup := by decide
theorem sc__law_same : FnScope N__law_same ["_law_found", "_law_due"] (defScope s__law_same) := C8.fnScope_by (by decide +kernel)
theorem d__law_same {P : Program} {w : World} {K : PySem.W.Frag} {mg : Str → Option Value} {base : Heap} {f : Addr} {k : Nat} (m_list : mg "list" = none) (m_tuple : mg "tuple" = none) (m_isinstance : mg "isinstance" = none) (m_len : mg "len" = none) (m_zip : mg "zip" = none) (m_all : mg "all" = none) (m_str : mg "str" = none) (m_bool : mg "bool" = none) (m_int : mg "int" = none) {sp__law_same : SpD} {k__law_same : Nat} (ca__law_same : Ca P w K mg base k__law_same "_law_same" 2 sp__law_same) (hk__law_same : k__law_same ≤ k) :
    ∀ (cdv : Value) (A : Around) (outer : List Env) (s : Shared) (H : Hp) (E : XK) (G : Gd), RoomG k (A.deeper (PyProof.Rows.envOfC "_law_same" (defScope s__law_same) s.heap.objs.size f cdv)) → G.i0.length = 0 →
      VSs (cxOf C8.CX0 P w K mg base N__law_same "_law_same" (defScope s__law_same) f cdv A outer s H E).nox G (defBody s__law_same) (t__law_same sp__law_same) := by
  intro cdv A outer s H E G hr hG
  have hU : ∀ n : Nat, n ≤ 200 → (A.deeper (PyProof.Rows.envOfC "_law_same" (defScope s__law_same) s.heap.objs.size f cdv)).units + n < cLine := fun n hn => by have := hr.rm.un; omega
  exact (vss_cons (vs_if (VT.pure (vt_val (VE.pureN (ve_callB call_isiX rd_isi rfl m_isinstance bt_isinstance (va_p (ve_v 1) (va_p (VE.pTup (ve_tup (va_p (ve_ty rfl m_list bt_list) (va_p (ve_ty rfl m_tuple bt_tuple) va_p0)))) va_p0)))))) (vss_cons (vs_if (VW.vt (VW.pOr (vw_or (VT.pureB2 (vt_cmp (op_neX (hU 64 (by decide))) rd_ne (VE.pureN (ve_callB call_isiX rd_isi rfl m_isinstance bt_isinstance (va_p (ve_v 0) (va_p (ve_ty rfl m_list bt_list) va_p0)))) (VE.pureN (ve_callB call_isiX rd_isi rfl m_isinstance bt_isinstance (va_p (ve_v 1) (va_p (ve_ty rfl m_list bt_list) va_p0)))) (nomark _))) (vw_or1 (VT.pureB2 (vt_cmp (op_neX (hU 64 (by decide))) rd_ne (VE.pureN (ve_callB call_isiX rd_isi rfl m_isinstance bt_isinstance (va_p (ve_v 0) (va_p (ve_ty rfl m_tuple bt_tuple) va_p0)))) (VE.pureN (ve_callB call_isiX rd_isi rfl m_isinstance bt_isinstance (va_p (ve_v 1) (va_p (ve_ty rfl m_tuple bt_tuple) va_p0)))) (nomark _))))))) (vss_one (vs_ret ve_bl)) vss_nil)
  (vss_cons (vs_if (VT.pureB2 (vt_cmp (op_neX (hU 64 (by decide))) rd_ne (VE.pureN (ve_callB call_lenX rd_len rfl m_len bt_len (va_p (ve_v 0) va_p0))) (VE.pureN (ve_callB call_lenX rd_len rfl m_len bt_len (va_p (ve_v 1) va_p0))) (nomark _))) (vss_one (vs_ret ve_bl)) vss_nil)
  (vss_one (vs_ret (ve_callB (cr_all rfl) rd_all rfl m_all bt_all (va_cons (VF.fz (vf_lc (own := [("_law_one", 2), ("_law_other", 3)]) rfl nd__law_same (vi_zipQ rfl m_zip (va_p (ve_v 0) (va_p (ve_v 1) va_p0))) (blkOk_by (show blkC N__law_same (defScope s__law_same) _ _ = true by decide +kernel)) (fun s H C cl fp => pg_tup rfl (pgs_cons (pg_name nd__law_same rfl (by first | exact Or.inl rfl | exact Or.inr rfl) (by first | exact Or.inr rfl | exact Or.inl rfl)) (pgs_cons (pg_name nd__law_same rfl (by first | exact Or.inl rfl | exact Or.inr rfl) (by first | exact Or.inr rfl | exact Or.inl rfl)) pgs_nil))) (fun s H C cl fp G hG' => vts_nil) (fun s H C cl fp G hG' => (ve_call [false, false] ca__law_same hr hk__law_same rfl (va_p (ve_v 2) (va_p (ve_v 3) va_p0)))) (by decide))) va_p0)))))) vss_nil)
  (vss_cons (vs_if (VW.vt (VW.pOr (vw_or (VT.pureB2 (vt_cmp op_isX rd_is (ve_v 1) ve_non (nomark _))) (vw_or1 (VT.pure (vt_val (VE.pureN (ve_callB call_isiX rd_isi rfl m_isinstance bt_isinstance (va_p (ve_v 1) (va_p (ve_ty rfl m_str bt_str) va_p0)))))))))) (vss_one (vs_ret (VE.pAn (ve_and (VE.pure2 (ve_cmp (op_eqX (hU 64 (by decide))) rd_eq (ve_v 0) (ve_v 1) (nomark _))) (ve_one (VE.pure2 (ve_cmp (op_eqX (hU 64 (by decide))) rd_eq (VE.pureN (ve_callB call_isiX rd_isi rfl m_isinstance bt_isinstance (va_p (ve_v 0) (va_p (ve_ty rfl m_str bt_str) va_p0)))) (VE.pureN (ve_callB call_isiX rd_isi rfl m_isinstance bt_isinstance (va_p (ve_v 1) (va_p (ve_ty rfl m_str bt_str) va_p0)))) (nomark _)))))))) vss_nil)
  (vss_cons (vs_if (VT.pure (vt_val (VE.pureN (ve_callB call_isiX rd_isi rfl m_isinstance bt_isinstance (va_p (ve_v 1) (va_p (ve_ty rfl m_bool bt_bool) va_p0)))))) (vss_one (vs_ret (VE.pAn (ve_and (VE.pureN (ve_callB call_isiX rd_isi rfl m_isinstance bt_isinstance (va_p (ve_v 0) (va_p (ve_ty rfl m_bool bt_bool) va_p0)))) (ve_one (VE.pure2 (ve_cmp (op_eqX (hU 64 (by decide))) rd_eq (ve_v 0) (ve_v 1) (nomark _)))))))) vss_nil)
  (vss_one (vs_ret (VE.pAn (ve_and (VE.pureN (ve_callB call_isiX rd_isi rfl m_isinstance bt_isinstance (va_p (ve_v 0) (va_p (ve_ty rfl m_int bt_int) va_p0)))) (VE.pAn (ve_and (VE.pNt (ve_not (VE.pureN (ve_callB call_isiX rd_isi rfl m_isinstance bt_isinstance (va_p (ve_v 0) (va_p (ve_ty rfl m_bool bt_bool) va_p0)))))) (ve_one (VE.pure2 (ve_cmp (op_eqX (hU 64 (by decide))) rd_eq (ve_v 0) (ve_v 1) (nomark _)))))))))))))
abbrev s__law_holds : Stmt := top 41
def N__law_holds : List Str := ["_law_claim_here", "_law_filling", "_law_word_here", "_law_held", "_law_one"]
def t__law_holds (sp__law_holds : SpD) : TS' :=
  (sSeq (sSet 2 (eP (po2 ixD (pV 0) (pC (.int 0)))))
  (sSeq (sIf (cP (bB (po2 inD (pV 2) (poTup [(pC (.str "yes")), (pC (.str "no"))]))))
  (sRet (eP (po2 eqD (pV 2) (pC (.str "yes")))))
  sNil)
  (sSeq (sIf (cP (bB (po2 eqD (pV 2) (pC (.str "name")))))
  (sRet (eP (po2 eqD (po2 ixD (pV 1) (po2 ixD (pV 0) (pC (.int 1)))) (pC (.int 1)))))
  sNil)
  (sSeq (sIf (cP (bB (po2 eqD (pV 2) (pC (.str "not")))))
  (sRet (eNt (eCall [false, false] sp__law_holds (aP [(po2 ixD (pV 0) (pC (.int 1))), (pV 1)]))))
  sNil)
  (sSeq (sIf (cP (bB (po2 eqD (pV 2) (pC (.str "same")))))
  (sRet (eo2 eqD (eCall [false, false] sp__law_holds (aP [(po2 ixD (pV 0) (pC (.int 1))), (pV 1)])) (eCall [false, false] sp__law_holds (aP [(po2 ixD (pV 0) (pC (.int 2))), (pV 1)]))))
  sNil)
  (sSeq (sSet 3 (eFz (fLc (iPq (po2 ixD (pV 0) (po1 negD (pC (.int 1))))) (.nm 4) tYs (eCall [false, false] sp__law_holds (aP [(pV 4), (pV 1)])) [4])))
  (sSeq (sIf (cP (bB (po2 eqD (pV 2) (pC (.str "least")))))
  (sRet (eP (po2 geD (poMt "list" countD (pV 3) [(pC (.bl true))]) (po2 ixD (pV 0) (pC (.int 1))))))
  sNil)
  (sRet (eP (poIf (bB (po2 eqD (pV 2) (pC (.str "and")))) (poN allD [(pV 3)]) (poN anyD [(pV 3)])))))))))))
theorem nd__law_holds : N__law_holds.Nodup := by decide
theorem sc__law_holds : FnScope N__law_holds ["_law_claim_here", "_law_filling"] (defScope s__law_holds) := C8.fnScope_by (by decide +kernel)
theorem d__law_holds {P : Program} {w : World} {K : PySem.W.Frag} {mg : Str → Option Value} {base : Heap} {f : Addr} {k : Nat} (m_all : mg "all" = none) (m_any : mg "any" = none) {sp__law_holds : SpD} {k__law_holds : Nat} (ca__law_holds : Ca P w K mg base k__law_holds "_law_holds" 2 sp__law_holds) (hk__law_holds : k__law_holds ≤ k) :
    ∀ (cdv : Value) (A : Around) (outer : List Env) (s : Shared) (H : Hp) (E : XK) (G : Gd), RoomG k (A.deeper (PyProof.Rows.envOfC "_law_holds" (defScope s__law_holds) s.heap.objs.size f cdv)) → G.i0.length = 0 →
      VSs (cxOf C8.CX0 P w K mg base N__law_holds "_law_holds" (defScope s__law_holds) f cdv A outer s H E).nox G (defBody s__law_holds) (t__law_holds sp__law_holds) := by
  intro cdv A outer s H E G hr hG
  have hU : ∀ n : Nat, n ≤ 200 → (A.deeper (PyProof.Rows.envOfC "_law_holds" (defScope s__law_holds) s.heap.objs.size f cdv)).units + n < cLine := fun n hn => by have := hr.rm.un; omega
  exact (vss_cons (vs_set nd__law_holds rfl (by first | exact Or.inl rfl | exact Or.inr rfl) (VE.pure2 (ve_idx (ve_v 0) ve_int)))
  (vss_cons (vs_if (VT.pureB2 (vt_cmp (op_inX (hU 65 (by decide))) rd_in (ve_v 2) (VE.pTup (ve_tup (va_p ve_str (va_p ve_str va_p0)))) rfl)) (vss_one (vs_ret (VE.pure2 (ve_cmp (op_eqX (hU 64 (by decide))) rd_eq (ve_v 2) ve_str (nomark _))))) vss_nil)
  (vss_cons (vs_if (VT.pureB2 (vt_cmp (op_eqX (hU 64 (by decide))) rd_eq (ve_v 2) ve_str (nomark _))) (vss_one (vs_ret (VE.pure2 (ve_cmp (op_eqX (hU 64 (by decide))) rd_eq (VE.pure2 (ve_idx (ve_v 1) (VE.pure2 (ve_idx (ve_v 0) ve_int)))) ve_int (nomark _))))) vss_nil)
  (vss_cons (vs_if (VT.pureB2 (vt_cmp (op_eqX (hU 64 (by decide))) rd_eq (ve_v 2) ve_str (nomark _))) (vss_one (vs_ret (ve_not (ve_call [false, false] ca__law_holds hr hk__law_holds rfl (va_p (VE.pure2 (ve_idx (ve_v 0) ve_int)) (va_p (ve_v 1) va_p0)))))) vss_nil)
  (vss_cons (vs_if (VT.pureB2 (vt_cmp (op_eqX (hU 64 (by decide))) rd_eq (ve_v 2) ve_str (nomark _))) (vss_one (vs_ret (ve_cmp (op_eqX (hU 64 (by decide))) rd_eq (ve_call [false, false] ca__law_holds hr hk__law_holds rfl (va_p (VE.pure2 (ve_idx (ve_v 0) ve_int)) (va_p (ve_v 1) va_p0))) (ve_call [false, false] ca__law_holds hr hk__law_holds rfl (va_p (VE.pure2 (ve_idx (ve_v 0) ve_int)) (va_p (ve_v 1) va_p0))) (nomark _)))) vss_nil)
  (vss_cons (vs_setLcF (own := [("_law_one", 4)]) rfl nd__law_holds rfl rfl rfl (vi_pq (VE.pure2 (ve_idx (ve_v 0) (VE.pure1 (ve_neg ve_int))))) (blkOk_by (show blkC N__law_holds (defScope s__law_holds) _ _ = true by decide +kernel)) (fun s H C cl fp => pg_name nd__law_holds rfl (by first | exact Or.inl rfl | exact Or.inr rfl) (by first | exact Or.inr rfl | exact Or.inl rfl)) (fun s H C cl fp G hG' => vts_nil) (fun s H C cl fp G hG' => (ve_call [false, false] ca__law_holds hr hk__law_holds rfl (va_p (ve_v 4) (va_p (ve_v 1) va_p0)))) (by decide))
  (vss_cons (vs_if (VT.pureB2 (vt_cmp (op_eqX (hU 64 (by decide))) rd_eq (ve_v 2) ve_str (nomark _))) (vss_one (vs_ret (VE.pure2 (ve_cmp op_ge rd_ge (VE.pMt (ve_mt F.plainAttrs_list F.slot_list_count rfl (mt_countD (hU 65 (by decide))) rd_count (ve_v 3) (va_p ve_bl va_p0))) (VE.pure2 (ve_idx (ve_v 0) ve_int)) (nomark _))))) vss_nil)
  (vss_one (vs_ret (VE.pIf (ve_if (VT.pureB2 (vt_cmp (op_eqX (hU 64 (by decide))) rd_eq (ve_v 2) ve_str (nomark _))) (VE.pureN (ve_callB (cr_all rfl) rd_all rfl m_all bt_all (va_p (ve_v 3) va_p0))) (VE.pureN (ve_callB (cr_any rfl) rd_any rfl m_any bt_any (va_p (ve_v 3) va_p0))))))))))))))
abbrev s__law_all_fillings : Stmt := top 42
def N__law_all_fillings : List Str := ["_law_many_here", "_law_found", "_law_k", "_law_one"]
def t__law_all_fillings  : TS' :=
  (sSeq (sSet 1 (eP (pFz (plLst [(poTup [])]))))
  (sSeq (sFor (iRg false (aP [(pV 0)])) (gNm 2)
  (sSet 1 (eFz (f2 catF (eFz (fLc (iPq (pV 1)) (.nm 3) tYs (eP (po2 addD (poTup [(pC (.int 0))]) (pV 3))) [3])) (eFz (fLc (iPq (pV 1)) (.nm 3) tYs (eP (po2 addD (poTup [(pC (.int 1))]) (pV 3))) [3]))))))
  (sRet (eP (pV 1)))))
theorem nd__law_all_fillings : N__law_all_fillings.Nodup := by decide
theorem sc__law_all_fillings : FnScope N__law_all_fillings ["_law_many_here"] (defScope s__law_all_fillings) := C8.fnScope_by (by decide +kernel)
theorem d__law_all_fillings {P : Program} {w : World} {K : PySem.W.Frag} {mg : Str → Option Value} {base : Heap} {f : Addr} {k : Nat} (m_range : mg "range" = none) :
    ∀ (cdv : Value) (A : Around) (outer : List Env) (s : Shared) (H : Hp) (E : XK) (G : Gd), RoomG k (A.deeper (PyProof.Rows.envOfC "_law_all_fillings" (defScope s__law_all_fillings) s.heap.objs.size f cdv)) → G.i0.length = 0 →
      VSs (cxOf C8.CX0 P w K mg base N__law_all_fillings "_law_all_fillings" (defScope s__law_all_fillings) f cdv A outer s H E).nox G (defBody s__law_all_fillings) (t__law_all_fillings ) := by
  intro cdv A outer s H E G hr hG
  have hU : ∀ n : Nat, n ≤ 200 → (A.deeper (PyProof.Rows.envOfC "_law_all_fillings" (defScope s__law_all_fillings) s.heap.objs.size f cdv)).units + n < cLine := fun n hn => by have := hr.rm.un; omega
  exact (vss_cons (vs_set nd__law_all_fillings rfl (by first | exact Or.inl rfl | exact Or.inr rfl) (VF.pure (VF.pLst (vf_lst (va_p (VE.pTup (ve_tup va_p0)) va_p0)))))
  (vss_cons (vs_for (bd := false) PassesOwn.never rfl (vi_range1 rfl m_range (va_p (ve_v 0) va_p0)) (vg_name nd__law_all_fillings rfl (by first | exact Or.inl rfl | exact Or.inr rfl)) (vss_one (vs_set nd__law_all_fillings rfl (by first | exact Or.inl rfl | exact Or.inr rfl) (VF.fz (vf_cat (VF.fz (vf_lc (own := [("_law_one", 3)]) rfl nd__law_all_fillings (vi_pq (ve_v 1)) (blkOk_by (show blkC N__law_all_fillings (defScope s__law_all_fillings) _ _ = true by decide +kernel)) (fun s H C cl fp => pg_name nd__law_all_fillings rfl (by first | exact Or.inl rfl | exact Or.inr rfl) (by first | exact Or.inr rfl | exact Or.inl rfl)) (fun s H C cl fp G hG' => vts_nil) (fun s H C cl fp G hG' => (VE.pure2 (ve_add (VE.pTup (ve_tup (va_p ve_int va_p0))) (ve_v 3)))) (by decide))) (VF.fz (vf_lc (own := [("_law_one", 3)]) rfl nd__law_all_fillings (vi_pq (ve_v 1)) (blkOk_by (show blkC N__law_all_fillings (defScope s__law_all_fillings) _ _ = true by decide +kernel)) (fun s H C cl fp => pg_name nd__law_all_fillings rfl (by first | exact Or.inl rfl | exact Or.inr rfl) (by first | exact Or.inr rfl | exact Or.inl rfl)) (fun s H C cl fp G hG' => vts_nil) (fun s H C cl fp G hG' => (VE.pure2 (ve_add (VE.pTup (ve_tup (va_p ve_int va_p0))) (ve_v 3)))) (by decide))))))))
  (vss_one (vs_ret (ve_v 1)))))
abbrev s__law_new : Stmt := top 43
def N__law_new : List Str := []
def t__law_new  : TS' :=
  (sRet (eDispK [("claims", (eSealK 0 eDkN)), ("bits", (eSealK 0 eDkN)), ("came", (eP (pC (.int 0)))), ("past", (eP (pFz (plLst []))))]))
theorem sc__law_new : FnScope N__law_new [] (defScope s__law_new) := C8.fnScope_by (by decide +kernel)
theorem d__law_new {P : Program} {w : World} {K : PySem.W.Frag} {mg : Str → Option Value} {base : Heap} {f : Addr} {k : Nat}  :
    ∀ (cdv : Value) (A : Around) (outer : List Env) (s : Shared) (H : Hp) (E : XK) (G : Gd), RoomG k (A.deeper (PyProof.Rows.envOfC "_law_new" (defScope s__law_new) s.heap.objs.size f cdv)) → G.i0.length = 0 →
      VSs (cxOf C8.CX0 P w K mg base N__law_new "_law_new" (defScope s__law_new) f cdv A outer s H E).nox G (defBody s__law_new) (t__law_new ) := by
  intro cdv A outer s H E G hr hG
  have hU : ∀ n : Nat, n ≤ 200 → (A.deeper (PyProof.Rows.envOfC "_law_new" (defScope s__law_new) s.heap.objs.size f cdv)).units + n < cLine := fun n hn => by have := hr.rm.un; omega
  exact (vss_one (vs_ret (ve_dispK (vps_cons (VE.sealK hG ve_dnew) (vps_cons (VE.sealK hG ve_dnew) (vps_cons ve_int (vps_cons (VF.pure (VF.pLst (vf_lst va_p0))) vps_nil)))))))
abbrev s__law_undone : Stmt := top 44
def N__law_undone : List Str := ["_law_own", "_law_book", "_law_claims", "_law_bits", "_law_came"]
def t__law_undone (sp_Book__undo : SpD) : TS' :=
  (sSeq (sIf (cP (bB (po2 eqNilD (po2 dgetA (pV 0) (pC (.str "past"))) (pFz (plLst [])))))
  (sRet (eo2 isD (eMeth "Book" "undo" [true] sp_Book__undo (eP (pV 1)) (aP [])) (eP (pC (.bl false)))))
  sNil)
  (sSeq (sAsg (eP (po2 ixD (po2 dgetA (pV 0) (pC (.str "past"))) (po1 negD (pC (.int 1))))) (gTp [2, 3, 4]))
  (sSeq (sDrop (eMt "dict" mUpdD (eP (pV 0)) (aCons (eDispK [("claims", (eP (pV 2))), ("bits", (eP (pV 3))), ("came", (eP (pV 4))), ("past", (eP (pFz (plSl (po2 dgetA (pV 0) (pC (.str "past"))) poNo (poI (po1 negD (pC (.int 1))))))))]) (aP []))))
  (sRet (eo2 isD (eMeth "Book" "undo" [true] sp_Book__undo (eP (pV 1)) (aP [])) (eP (pC (.bl true))))))))
theorem nd__law_undone : N__law_undone.Nodup := by decide
theorem sc__law_undone : FnScope N__law_undone ["_law_own", "_law_book"] (defScope s__law_undone) := C8.fnScope_by (by decide +kernel)
theorem d__law_undone {P : Program} {w : World} {K : PySem.W.Frag} {mg : Str → Option Value} {base : Heap} {f : Addr} {k : Nat} {sp_Book__undo : SpD} {k_Book__undo : Nat} (cm_Book__undo : CaM P w K mg base k_Book__undo "Book" "undo" 1 sp_Book__undo) (hk_Book__undo : k_Book__undo ≤ k) :
    ∀ (cdv : Value) (A : Around) (outer : List Env) (s : Shared) (H : Hp) (E : XK) (G : Gd), RoomG k (A.deeper (PyProof.Rows.envOfC "_law_undone" (defScope s__law_undone) s.heap.objs.size f cdv)) → G.i0.length = 5 →
      VSs (cxOf C8.CX0 P w K mg base N__law_undone "_law_undone" (defScope s__law_undone) f cdv A outer s H E).nox G (defBody s__law_undone) (t__law_undone sp_Book__undo) := by
  intro cdv A outer s H E G hr hG
  have hU : ∀ n : Nat, n ≤ 200 → (A.deeper (PyProof.Rows.envOfC "_law_undone" (defScope s__law_undone) s.heap.objs.size f cdv)).units + n < cLine := fun n hn => by have := hr.rm.un; omega
  exact (vss_cons (vs_if (VT.pureB2 (vt_cmp (op_eqN (hU 0 (by decide))) rd_eqN (VE.pure2 (ve_dgetA (hU 1 (by decide)) (ve_v 0) ve_str)) (VF.pure (VF.pLst (vf_lst va_p0))) (nomark _))) (vss_one (vs_ret (ve_cmp op_isX rd_is (ve_meth0 cm_Book__undo hr hk_Book__undo (ve_v 1)) ve_bl (nomark _)))) vss_nil)
  (vss_cons (vs_asg (VE.pure2 (ve_idx (VE.pure2 (ve_dgetA (hU 1 (by decide)) (ve_v 0) ve_str)) (VE.pure1 (ve_neg ve_int)))) (vg_tup rfl (vgs_cons nd__law_undone rfl (by first | exact Or.inl rfl | exact Or.inr rfl) (vgs_cons nd__law_undone rfl (by first | exact Or.inl rfl | exact Or.inr rfl) (vgs_cons nd__law_undone rfl (by first | exact Or.inl rfl | exact Or.inr rfl) vgs_nil)))))
  (vss_cons (vs_expr (ve_mt F.plainAttrs_dict F.slot_dict_update rfl mt_updD rd_updD (ve_v 0) (va_cons (ve_dispK (vps_cons (ve_v 2) (vps_cons (ve_v 3) (vps_cons (ve_v 4) (vps_cons (VF.pure (vf_slice (VE.pure2 (ve_dgetA (hU 1 (by decide)) (ve_v 0) ve_str)) vo_none (vo_some (VE.pure1 (ve_neg ve_int))))) vps_nil))))) va_p0)))
  (vss_one (vs_ret (ve_cmp op_isX rd_is (ve_meth0 cm_Book__undo hr hk_Book__undo (ve_v 1)) ve_bl (nomark _)))))))
abbrev s__law_deed : Stmt := top 45
def N__law_deed : List Str := ["_law_tape_here", "_law_many_here", "_law_own", "_law_book", "_law_fine", "_law_way", "_law_ahead", "_law_claims", "_law_bits", "_law_number", "_law_name", "_law_bit"]
def t__law_deed (sp__law_take : SpD) (sp__law_undone : SpD) (sp_Book__go : SpD) (sp_Book__free : SpD) (sp_Book__settle : SpD) (sp__law_claim : SpD) (sp__law_same : SpD) (sp_Book__come : SpD) : TS' :=
  (sSeq (sPar 5 6 (aCons (eCall [true, false] sp__law_take (aP [(pV 0), (pC (.int 10))])) (aCons (tTupE (aCons (eSealK 6 (eDictC (eP (po2 dgetA (pV 2) (pC (.str "claims")))))) (aCons (eSealK 6 (eDictC (eP (po2 dgetA (pV 2) (pC (.str "bits")))))) (aP [(po2 dgetA (pV 2) (pC (.str "came")))])))) (aP []))))
  (sSeq (sIf (cP (bB (po2 eqD (pV 5) (pC (.int 8)))))
  (sRet (eCallO [true, true] sp__law_undone (aP [(pV 2), (pV 3)])))
  sNil)
  (sSeq (sPar 7 8 (aCons (eDictC (eP (po2 dgetA (pV 2) (pC (.str "claims"))))) (aCons (eDictC (eP (po2 dgetA (pV 2) (pC (.str "bits"))))) (aP []))))
  (sSeq (sSet 4 (eP (pC (.bl true))))
  (sSeq (sIf (cP (bAn (bB (pCh ltD ltD (pC (.int 3)) (pV 5) (pC (.int 6)))) (bB (po1 (dnilD true) (pV 7)))))
  (sSeq (sSet 9 (eo2 ixD (eP (pFz (plN sortDA [(pV 7)]))) (eCall [true, false] sp__law_take (aP [(pV 0), (poN lenD [(pV 7)])]))))
  (sSeq (sDrop (eMt "dict" mDPop (eP (pV 7)) (aP [(pV 9)])))
  (sSet 4 (eo2 isD (eMeth "Book" "go" [true, false] sp_Book__go (eP (pV 3)) (aP [(pV 9)])) (eP (pC .non))))))
  (sIf (cP (bAn (bB (po2 gtD (pV 5) (pC (.int 5)))) (bB (po2 gtD (pV 1) (pC (.int 0))))))
  (sSeq (sPar 10 11 (aCons (eCall [true, false] sp__law_take (aP [(pV 0), (pV 1)])) (aCons (eCall [true, false] sp__law_take (aP [(pV 0), (pC (.int 2))])) (aP []))))
  (sIf (cP (bB (po2 dinA (pV 10) (pV 8))))
  (sSeq (sDrop (eMt "dict" mDPop (eP (pV 8)) (aP [(pV 10)])))
  (sSet 4 (eo2 isD (eMeth "Book" "free" [true, false] sp_Book__free (eP (pV 3)) (aP [(pV 10)])) (eP (pC .non)))))
  (sSeq (sSubK (eP (pV 11)) (eP (pV 8)) (eP (pV 10)))
  (sSet 4 (eo2 isD (eMeth "Book" "settle" [true, false, false] sp_Book__settle (eP (pV 3)) (aP [(pV 10), (pV 11)])) (eP (pC .non)))))))
  (sSeq (sSubK (eCall [true, false, false] sp__law_claim (aCons (eP (pV 0)) (aCons (eP (pV 1)) (aCons (eCall [true, false] sp__law_take (aP [(pV 0), (pC (.int 3))])) (aP []))))) (eP (pV 7)) (eP (po2 ixD (pV 6) (pC (.int 2)))))
  (sSeq (sSet 4 (eCall [false, false] sp__law_same (aCons (eMeth "Book" "come" [true, false] sp_Book__come (eP (pV 3)) (aP [(po2 dgetA (pV 7) (po2 ixD (pV 6) (pC (.int 2))))])) (aP [(po2 ixD (pV 6) (pC (.int 2)))]))))
  (sSubK (eP (po2 addD (po2 ixD (pV 6) (pC (.int 2))) (pC (.int 1)))) (eP (pV 2)) (eP (pC (.str "came"))))))))
  (sSeq (sDrop (eMt "dict" mUpdD (eP (pV 2)) (aCons (eDispK [("claims", (eSealK 6 (eP (pV 7)))), ("bits", (eSealK 6 (eP (pV 8)))), ("past", (eP (pFz (pl2 catF (po2 dgetA (pV 2) (pC (.str "past"))) (pFz (plLst [(pV 6)]))))))]) (aP []))))
  (sRet (eP (pV 4)))))))))
theorem nd__law_deed : N__law_deed.Nodup := by decide
theorem sc__law_deed : FnScope N__law_deed ["_law_tape_here", "_law_many_here", "_law_own", "_law_book"] (defScope s__law_deed) := C8.fnScope_by (by decide +kernel)
theorem d__law_deed {P : Program} {w : World} {K : PySem.W.Frag} {mg : Str → Option Value} {base : Heap} {f : Addr} {k : Nat} (m_dict : mg "dict" = none) (m_sorted : mg "sorted" = none) (m_len : mg "len" = none) {sp__law_take : SpD} {k__law_take : Nat} (ca__law_take : Ca P w K mg base k__law_take "_law_take" 2 sp__law_take) (hk__law_take : k__law_take ≤ k) {sp__law_undone : SpD} {k__law_undone : Nat} (ca__law_undone : Ca P w K mg base k__law_undone "_law_undone" 2 sp__law_undone) (hk__law_undone : k__law_undone ≤ k) {sp_Book__go : SpD} {k_Book__go : Nat} (cm_Book__go : CaM P w K mg base k_Book__go "Book" "go" 2 sp_Book__go) (hk_Book__go : k_Book__go ≤ k) {sp_Book__free : SpD} {k_Book__free : Nat} (cm_Book__free : CaM P w K mg base k_Book__free "Book" "free" 2 sp_Book__free) (hk_Book__free : k_Book__free ≤ k) {sp_Book__settle : SpD} {k_Book__settle : Nat} (cm_Book__settle : CaM P w K mg base k_Book__settle "Book" "settle" 3 sp_Book__settle) (hk_Book__settle : k_Book__settle ≤ k) {sp__law_claim : SpD} {k__law_claim : Nat} (ca__law_claim : Ca P w K mg base k__law_claim "_law_claim" 3 sp__law_claim) (hk__law_claim : k__law_claim ≤ k) {sp__law_same : SpD} {k__law_same : Nat} (ca__law_same : Ca P w K mg base k__law_same "_law_same" 2 sp__law_same) (hk__law_same : k__law_same ≤ k) {sp_Book__come : SpD} {k_Book__come : Nat} (cm_Book__come : CaM P w K mg base k_Book__come "Book" "come" 2 sp_Book__come) (hk_Book__come : k_Book__come ≤ k) :
    ∀ (cdv : Value) (A : Around) (outer : List Env) (s : Shared) (H : Hp) (E : XK) (G : Gd), RoomG k (A.deeper (PyProof.Rows.envOfC "_law_deed" (defScope s__law_deed) s.heap.objs.size f cdv)) → G.i0.length = 6 →
      VSs (cxOf C8.CX0 P w K mg base N__law_deed "_law_deed" (defScope s__law_deed) f cdv A outer s H E).nox G (defBody s__law_deed) (t__law_deed sp__law_take sp__law_undone sp_Book__go sp_Book__free sp_Book__settle sp__law_claim sp__law_same sp_Book__come) := by
  intro cdv A outer s H E G hr hG
  have hU : ∀ n : Nat, n ≤ 200 → (A.deeper (PyProof.Rows.envOfC "_law_deed" (defScope s__law_deed) s.heap.objs.size f cdv)).units + n < cLine := fun n hn => by have := hr.rm.un; omega
  exact (vss_cons (vs_par rfl nd__law_deed rfl rfl (by decide) rfl rfl (va_cons (ve_call [true, false] ca__law_take hr hk__law_take rfl (va_p (ve_v 0) (va_p ve_int va_p0))) (va_cons (ve_tup (va_cons (VE.sealK hG (ve_dictC rfl m_dict (VE.pure2 (ve_dgetA (hU 1 (by decide)) (ve_v 2) ve_str)))) (va_cons (VE.sealK hG (ve_dictC rfl m_dict (VE.pure2 (ve_dgetA (hU 1 (by decide)) (ve_v 2) ve_str)))) (va_p (VE.pure2 (ve_dgetA (hU 1 (by decide)) (ve_v 2) ve_str)) va_p0)))) va_p0)) rfl)
  (vss_cons (vs_if (VT.pureB2 (vt_cmp (op_eqX (hU 64 (by decide))) rd_eq (ve_v 5) ve_int (nomark _))) (vss_one (vs_ret (ve_callO [true, true] ca__law_undone hr hk__law_undone rfl (va_p (ve_v 2) (va_p (ve_v 3) va_p0))))) vss_nil)
  (vss_cons (vs_par rfl nd__law_deed rfl rfl (by decide) rfl rfl (va_cons (ve_dictC rfl m_dict (VE.pure2 (ve_dgetA (hU 1 (by decide)) (ve_v 2) ve_str))) (va_cons (ve_dictC rfl m_dict (VE.pure2 (ve_dgetA (hU 1 (by decide)) (ve_v 2) ve_str))) va_p0)) rfl)
  (vss_cons (vs_set nd__law_deed rfl (by first | exact Or.inl rfl | exact Or.inr rfl) ve_bl)
  (vss_cons (vs_if (VW.vt (VW.pAn (vw_and (VT.pCh (vt_chain op_lt op_lt rd_lt rd_lt ve_int (ve_v 5) ve_int)) (vw_and1 (VT.pureB1 (vt_dne (hU 0 (by decide)) (ve_v 7))))))) (vss_cons (vs_set nd__law_deed rfl (by first | exact Or.inl rfl | exact Or.inr rfl) (ve_idx (VF.pure (VF.pN (vf_callB (cr_sortedDI rfl) rd_sortDA rfl m_sorted bt_sorted (va_p (ve_v 7) va_p0)))) (ve_call [true, false] ca__law_take hr hk__law_take rfl (va_p (ve_v 0) (va_p (VE.pureN (ve_callB call_lenX rd_len rfl m_len bt_len (va_p (ve_v 7) va_p0))) va_p0)))))
  (vss_cons (vs_expr (ve_mt F.plainAttrs_dict F.slot_dict_pop rfl mt_dpop rd_dpop (ve_v 7) (va_p (ve_v 9) va_p0)))
  (vss_one (vs_set nd__law_deed rfl (by first | exact Or.inl rfl | exact Or.inr rfl) (ve_cmp op_isX rd_is (ve_meth [true, false] cm_Book__go hr hk_Book__go (ve_v 3) (va_p (ve_v 9) va_p0)) ve_non (nomark _)))))) (vss_one (vs_if (VW.vt (VW.pAn (vw_and (VT.pureB2 (vt_cmp op_gt rd_gt (ve_v 5) ve_int (nomark _))) (vw_and1 (VT.pureB2 (vt_cmp op_gt rd_gt (ve_v 1) ve_int (nomark _))))))) (vss_cons (vs_par rfl nd__law_deed rfl rfl (by decide) rfl rfl (va_cons (ve_call [true, false] ca__law_take hr hk__law_take rfl (va_p (ve_v 0) (va_p (ve_v 1) va_p0))) (va_cons (ve_call [true, false] ca__law_take hr hk__law_take rfl (va_p (ve_v 0) (va_p ve_int va_p0))) va_p0)) rfl)
  (vss_one (vs_if (VT.pureB2 (vt_cmp (op_din (hU 1 (by decide))) rd_dinA (ve_v 10) (ve_v 8) rfl)) (vss_cons (vs_expr (ve_mt F.plainAttrs_dict F.slot_dict_pop rfl mt_dpop rd_dpop (ve_v 8) (va_p (ve_v 10) va_p0)))
  (vss_one (vs_set nd__law_deed rfl (by first | exact Or.inl rfl | exact Or.inr rfl) (ve_cmp op_isX rd_is (ve_meth [true, false] cm_Book__free hr hk_Book__free (ve_v 3) (va_p (ve_v 10) va_p0)) ve_non (nomark _))))) (vss_cons (vs_subK (hU 1 (by decide)) (ve_v 11) (ve_v 8) (ve_v 10))
  (vss_one (vs_set nd__law_deed rfl (by first | exact Or.inl rfl | exact Or.inr rfl) (ve_cmp op_isX rd_is (ve_meth [true, false, false] cm_Book__settle hr hk_Book__settle (ve_v 3) (va_p (ve_v 10) (va_p (ve_v 11) va_p0))) ve_non (nomark _)))))))) (vss_cons (vs_subK (hU 1 (by decide)) (ve_call [true, false, false] ca__law_claim hr hk__law_claim rfl (va_cons (ve_v 0) (va_cons (ve_v 1) (va_cons (ve_call [true, false] ca__law_take hr hk__law_take rfl (va_p (ve_v 0) (va_p ve_int va_p0))) va_p0)))) (ve_v 7) (VE.pure2 (ve_idx (ve_v 6) ve_int)))
  (vss_cons (vs_set nd__law_deed rfl (by first | exact Or.inl rfl | exact Or.inr rfl) (ve_call [false, false] ca__law_same hr hk__law_same rfl (va_cons (ve_meth [true, false] cm_Book__come hr hk_Book__come (ve_v 3) (va_p (VE.pure2 (ve_dgetA (hU 1 (by decide)) (ve_v 7) (VE.pure2 (ve_idx (ve_v 6) ve_int)))) va_p0)) (va_p (VE.pure2 (ve_idx (ve_v 6) ve_int)) va_p0))))
  (vss_one (vs_subK (hU 1 (by decide)) (VE.pure2 (ve_add (VE.pure2 (ve_idx (ve_v 6) ve_int)) ve_int)) (ve_v 2) ve_str)))))))
  (vss_cons (vs_expr (ve_mt F.plainAttrs_dict F.slot_dict_update rfl mt_updD rd_updD (ve_v 2) (va_cons (ve_dispK (vps_cons (VE.sealK hG (ve_v 7)) (vps_cons (VE.sealK hG (ve_v 8)) (vps_cons (VF.pure (VF.p2 (vf_cat (VE.pure2 (ve_dgetA (hU 1 (by decide)) (ve_v 2) ve_str)) (VF.pure (VF.pLst (vf_lst (va_p (ve_v 6) va_p0))))))) vps_nil)))) va_p0)))
  (vss_one (vs_ret (ve_v 4)))))))))
abbrev s__law_left : Stmt := top 46
def N__law_left : List Str := ["_law_own", "_law_many_here", "_law_found", "_law_filling", "_law_name", "_law_bit", "_law_claim_here"]
def t__law_left (sp__law_all_fillings : SpD) (sp__law_holds : SpD) : TS' :=
  (sSeq (sSet 2 (eNw (fP (plLst []))))
  (sSeq (sFor (iSq (eSeal 1 (eCall [false] sp__law_all_fillings (aP [(pV 1)])))) (gNm 3)
  (sIf (tTr (eoN allD (aCons (eFz (fLc (iIk (eP (po2 dgetA (pV 0) (pC (.str "bits"))))) (.tp [4, 5]) tYs (eP (po2 eqD (po2 ixD (pV 3) (pV 4)) (pV 5))) [4, 5])) (aP []))))
  (sIf (tTr (eoN allD (aCons (eFz (fLc (iVk (eP (po2 dgetA (pV 0) (pC (.str "claims"))))) (.nm 6) tYs (eCall [false, false] sp__law_holds (aP [(pV 6), (pV 3)])) [6])) (aP []))))
  (sDrop (eMt "list" mApp (eP (pV 2)) (aP [(pV 3)])))
  sNil)
  sNil))
  (sRet (eP (pV 2)))))
theorem nd__law_left : N__law_left.Nodup := by decide
theorem sc__law_left : FnScope N__law_left ["_law_own", "_law_many_here"] (defScope s__law_left) := C8.fnScope_by (by decide +kernel)
theorem d__law_left {P : Program} {w : World} {K : PySem.W.Frag} {mg : Str → Option Value} {base : Heap} {f : Addr} {k : Nat} (m_all : mg "all" = none) {sp__law_all_fillings : SpD} {k__law_all_fillings : Nat} (ca__law_all_fillings : Ca P w K mg base k__law_all_fillings "_law_all_fillings" 1 sp__law_all_fillings) (hk__law_all_fillings : k__law_all_fillings ≤ k) {sp__law_holds : SpD} {k__law_holds : Nat} (ca__law_holds : Ca P w K mg base k__law_holds "_law_holds" 2 sp__law_holds) (hk__law_holds : k__law_holds ≤ k) :
    ∀ (cdv : Value) (A : Around) (outer : List Env) (s : Shared) (H : Hp) (E : XK) (G : Gd), RoomG k (A.deeper (PyProof.Rows.envOfC "_law_left" (defScope s__law_left) s.heap.objs.size f cdv)) → G.i0.length = 1 →
      VSs (cxOf C8.CX0 P w K mg base N__law_left "_law_left" (defScope s__law_left) f cdv A outer s H E).nox G (defBody s__law_left) (t__law_left sp__law_all_fillings sp__law_holds) := by
  intro cdv A outer s H E G hr hG
  have hU : ∀ n : Nat, n ≤ 200 → (A.deeper (PyProof.Rows.envOfC "_law_left" (defScope s__law_left) s.heap.objs.size f cdv)).units + n < cLine := fun n hn => by have := hr.rm.un; omega
  exact (vss_cons (vs_set nd__law_left rfl (by first | exact Or.inl rfl | exact Or.inr rfl) (VF.nw (VF.pLst (vf_lst va_p0))))
  (vss_cons (vs_for (bd := false) PassesOwn.never rfl (vi_sq (VE.seal hG (ve_call [false] ca__law_all_fillings hr hk__law_all_fillings rfl (va_p (ve_v 1) va_p0)))) (vg_name nd__law_left rfl (by first | exact Or.inl rfl | exact Or.inr rfl)) (vss_one (vs_if (vt_val (ve_callB (cr_all rfl) rd_all rfl m_all bt_all (va_cons (VF.fz (vf_lc (own := [("_law_name", 4), ("_law_bit", 5)]) rfl nd__law_left (vi_itemsK (VE.pure2 (ve_dgetA (hU 1 (by decide)) (ve_v 0) ve_str))) (blkOk_by (show blkC N__law_left (defScope s__law_left) _ _ = true by decide +kernel)) (fun s H C cl fp => pg_tup rfl (pgs_cons (pg_name nd__law_left rfl (by first | exact Or.inl rfl | exact Or.inr rfl) (by first | exact Or.inr rfl | exact Or.inl rfl)) (pgs_cons (pg_name nd__law_left rfl (by first | exact Or.inl rfl | exact Or.inr rfl) (by first | exact Or.inr rfl | exact Or.inl rfl)) pgs_nil))) (fun s H C cl fp G hG' => vts_nil) (fun s H C cl fp G hG' => (VE.pure2 (ve_cmp (op_eqX (hU 64 (by decide))) rd_eq (VE.pure2 (ve_idx (ve_v 3) (ve_v 4))) (ve_v 5) (nomark _)))) (by decide))) va_p0))) (vss_one (vs_if (vt_val (ve_callB (cr_all rfl) rd_all rfl m_all bt_all (va_cons (VF.fz (vf_lc (own := [("_law_claim_here", 6)]) rfl nd__law_left (vi_valsK (VE.pure2 (ve_dgetA (hU 1 (by decide)) (ve_v 0) ve_str))) (blkOk_by (show blkC N__law_left (defScope s__law_left) _ _ = true by decide +kernel)) (fun s H C cl fp => pg_name nd__law_left rfl (by first | exact Or.inl rfl | exact Or.inr rfl) (by first | exact Or.inr rfl | exact Or.inl rfl)) (fun s H C cl fp G hG' => vts_nil) (fun s H C cl fp G hG' => (ve_call [false, false] ca__law_holds hr hk__law_holds rfl (va_p (ve_v 6) (va_p (ve_v 3) va_p0)))) (by decide))) va_p0))) (vss_one (vs_expr (ve_mt F.plainAttrs_list F.slot_list_append rfl mt_append rd_app (ve_v 2) (va_p (ve_v 3) va_p0)))) vss_nil)) vss_nil)))
  (vss_one (vs_ret (ve_v 2)))))
abbrev s__law_word : Stmt := top 47
def N__law_word : List Str := ["_law_caught", "_law_some", "_law_words"]
def t__law_word  : TS' :=
  (sSeq (sIf (cP (bB (po2 isD (pV 0) (pC .non))))
  (sRet (eP (pC (.str ""))))
  sNil)
  (sSeq (sSet 1 (eP (pFz (plLst [(poN (isxD exAll) [(pV 0), (pC (.cls "NoClaim"))]), (poN (isxD exAll) [(pV 0), (pC (.cls "Settled"))]), (poN (isxD exAll) [(pV 0), (pC (.cls "NotSettled"))])]))))
  (sSeq (sSet 1 (eP (pFz (pl2 catF (pV 1) (pFz (plLst [(poN (isxD exAll) [(pV 0), (pC (.cls "NoFilling"))]), (poN (isxD exAll) [(pV 0), (pC (.cls "NoWeight"))]), (poN (isxD exAll) [(pV 0), (pC (.cls "TooGreat"))])]))))))
  (sSeq (sSet 1 (eP (pFz (pl2 catF (pV 1) (pFz (plLst [(poN (isxD exAll) [(pV 0), (pC (.cls "BadWord"))]), (poN (isxD exAll) [(pV 0), (pC (.cls "BadText"))]), (poN (isxD exAll) [(pV 0), (pC (.cls "BadRow"))])]))))))
  (sSeq (sIf (cP (bOr (bB (po2 neD (poMt "list" countD (pV 1) [(pC (.bl true))]) (pC (.int 1)))) (bNt (bTr (poN (isxD exAll) [(pV 0), (pC (.ty "ValueError"))])))))
  (sRet (eP (pC (.str "other"))))
  sNil)
  (sSeq (sSet 2 (eP (pFz (plLst [(pC (.str "NoClaim")), (pC (.str "Settled")), (pC (.str "NotSettled")), (pC (.str "NoFilling")), (pC (.str "NoWeight")), (pC (.str "TooGreat")), (pC (.str "BadWord")), (pC (.str "BadText")), (pC (.str "BadRow"))]))))
  (sRet (eP (po2 ixD (pV 2) (poMt "list" indexD (pV 1) [(pC (.bl true))]))))))))))
theorem nd__law_word : N__law_word.Nodup := by decide
theorem sc__law_word : FnScope N__law_word ["_law_caught"] (defScope s__law_word) := C8.fnScope_by (by decide +kernel)
theorem d__law_word {P : Program} {w : World} {K : PySem.W.Frag} {mg : Str → Option Value} {base : Heap} {f : Addr} {k : Nat} (m_isinstance : mg "isinstance" = none) (m_ValueError : mg "ValueError" = none) (gx_NoClaim : mg "NoClaim" = some (.ref (He.ga K "NoClaim"))) (gx_Settled : mg "Settled" = some (.ref (He.ga K "Settled"))) (gx_NotSettled : mg "NotSettled" = some (.ref (He.ga K "NotSettled"))) (gx_NoFilling : mg "NoFilling" = some (.ref (He.ga K "NoFilling"))) (gx_NoWeight : mg "NoWeight" = some (.ref (He.ga K "NoWeight"))) (gx_TooGreat : mg "TooGreat" = some (.ref (He.ga K "TooGreat"))) (gx_BadWord : mg "BadWord" = some (.ref (He.ga K "BadWord"))) (gx_BadText : mg "BadText" = some (.ref (He.ga K "BadText"))) (gx_BadRow : mg "BadRow" = some (.ref (He.ga K "BadRow"))) (hXF : ExF K exAll) :
    ∀ (cdv : Value) (A : Around) (outer : List Env) (s : Shared) (H : Hp) (E : XK) (G : Gd), RoomG k (A.deeper (PyProof.Rows.envOfC "_law_word" (defScope s__law_word) s.heap.objs.size f cdv)) → G.i0.length = 0 →
      VSs (cxOf C8.CX0 P w K mg base N__law_word "_law_word" (defScope s__law_word) f cdv A outer s H E).nox G (defBody s__law_word) (t__law_word ) := by
  intro cdv A outer s H E G hr hG
  have hU : ∀ n : Nat, n ≤ 200 → (A.deeper (PyProof.Rows.envOfC "_law_word" (defScope s__law_word) s.heap.objs.size f cdv)).units + n < cLine := fun n hn => by have := hr.rm.un; omega
  exact (vss_cons (vs_if (VT.pureB2 (vt_cmp op_isX rd_is (ve_v 0) ve_non (nomark _))) (vss_one (vs_ret ve_str)) vss_nil)
  (vss_cons (vs_set nd__law_word rfl (by first | exact Or.inl rfl | exact Or.inr rfl) (VF.pure (VF.pLst (vf_lst (va_p (VE.pureN (ve_callB call_isXc (rd_isxc hXF) rfl m_isinstance bt_isinstance (va_p (ve_v 0) (va_p (ve_glob rfl gx_NoClaim kv_cls) va_p0)))) (va_p (VE.pureN (ve_callB call_isXc (rd_isxc hXF) rfl m_isinstance bt_isinstance (va_p (ve_v 0) (va_p (ve_glob rfl gx_Settled kv_cls) va_p0)))) (va_p (VE.pureN (ve_callB call_isXc (rd_isxc hXF) rfl m_isinstance bt_isinstance (va_p (ve_v 0) (va_p (ve_glob rfl gx_NotSettled kv_cls) va_p0)))) va_p0)))))))
  (vss_cons (vs_set nd__law_word rfl (by first | exact Or.inl rfl | exact Or.inr rfl) (VF.pure (VF.p2 (vf_cat (ve_v 1) (VF.pure (VF.pLst (vf_lst (va_p (VE.pureN (ve_callB call_isXc (rd_isxc hXF) rfl m_isinstance bt_isinstance (va_p (ve_v 0) (va_p (ve_glob rfl gx_NoFilling kv_cls) va_p0)))) (va_p (VE.pureN (ve_callB call_isXc (rd_isxc hXF) rfl m_isinstance bt_isinstance (va_p (ve_v 0) (va_p (ve_glob rfl gx_NoWeight kv_cls) va_p0)))) (va_p (VE.pureN (ve_callB call_isXc (rd_isxc hXF) rfl m_isinstance bt_isinstance (va_p (ve_v 0) (va_p (ve_glob rfl gx_TooGreat kv_cls) va_p0)))) va_p0))))))))))
  (vss_cons (vs_set nd__law_word rfl (by first | exact Or.inl rfl | exact Or.inr rfl) (VF.pure (VF.p2 (vf_cat (ve_v 1) (VF.pure (VF.pLst (vf_lst (va_p (VE.pureN (ve_callB call_isXc (rd_isxc hXF) rfl m_isinstance bt_isinstance (va_p (ve_v 0) (va_p (ve_glob rfl gx_BadWord kv_cls) va_p0)))) (va_p (VE.pureN (ve_callB call_isXc (rd_isxc hXF) rfl m_isinstance bt_isinstance (va_p (ve_v 0) (va_p (ve_glob rfl gx_BadText kv_cls) va_p0)))) (va_p (VE.pureN (ve_callB call_isXc (rd_isxc hXF) rfl m_isinstance bt_isinstance (va_p (ve_v 0) (va_p (ve_glob rfl gx_BadRow kv_cls) va_p0)))) va_p0))))))))))
  (vss_cons (vs_if (VW.vt (VW.pOr (vw_or (VT.pureB2 (vt_cmp (op_neX (hU 64 (by decide))) rd_ne (VE.pMt (ve_mt F.plainAttrs_list F.slot_list_count rfl (mt_countD (hU 65 (by decide))) rd_count (ve_v 1) (va_p ve_bl va_p0))) ve_int (nomark _))) (vw_or1 (VT.pNot (vt_not (VT.pure (vt_val (VE.pureN (ve_callB call_isXc (rd_isxc hXF) rfl m_isinstance bt_isinstance (va_p (ve_v 0) (va_p (ve_ty rfl m_ValueError bt_ValueError) va_p0)))))))))))) (vss_one (vs_ret ve_str)) vss_nil)
  (vss_cons (vs_set nd__law_word rfl (by first | exact Or.inl rfl | exact Or.inr rfl) (VF.pure (VF.pLst (vf_lst (va_p ve_str (va_p ve_str (va_p ve_str (va_p ve_str (va_p ve_str (va_p ve_str (va_p ve_str (va_p ve_str (va_p ve_str va_p0)))))))))))))
  (vss_one (vs_ret (VE.pure2 (ve_idx (ve_v 2) (VE.pMt (ve_mt F.plainAttrs_list F.slot_list_index rfl (mt_indexD (hU 65 (by decide))) rd_index (ve_v 1) (va_p ve_bl va_p0)))))))))))))
abbrev s__law_nth : Stmt := top 48
def N__law_nth : List Str := ["_law_book", "_law_number", "_law_found", "_law_caught", "error"]
def t__law_nth (sp_Book__nthX : SpX) (sp__law_word : SpD) : TS' :=
  (sSeq (sParT [2, 3] (aP [(pC .non), (pC .non)]))
  (sSeq (sTry 4 exAll "FormError" (fun k xd => (sSet 2 (eMethX "Book" "nth" [true, false] sp_Book__nthX xd (eP (pV 0)) (aP [(pV 1)]))))
  (sSet 3 (eP (pV 4))) xNo)
  (sRet (eIf (cP (bB (po2 isD (pV 3) (pC .non)))) (eP (pV 2)) (eCall [false] sp__law_word (aP [(pV 3)]))))))
theorem nd__law_nth : N__law_nth.Nodup := by decide
theorem sc__law_nth : FnScope N__law_nth ["_law_book", "_law_number"] (defScope s__law_nth) := C8.fnScope_by (by decide +kernel)
theorem d__law_nth {P : Program} {w : World} {K : PySem.W.Frag} {mg : Str → Option Value} {base : Heap} {f : Addr} {k : Nat} (gx_FormError : mg "FormError" = some (.ref (He.ga K "FormError"))) (hXF : ExF K exAll) {sp_Book__nthX : SpX} {k_Book__nthX : Nat} (cm_Book__nthX : CaMX P w K mg base k_Book__nthX "Book" "nth" 2 sp_Book__nthX) (hk_Book__nthX : k_Book__nthX ≤ k) {sp__law_word : SpD} {k__law_word : Nat} (ca__law_word : Ca P w K mg base k__law_word "_law_word" 1 sp__law_word) (hk__law_word : k__law_word ≤ k) :
    ∀ (cdv : Value) (A : Around) (outer : List Env) (s : Shared) (H : Hp) (E : XK) (G : Gd), RoomG k (A.deeper (PyProof.Rows.envOfC "_law_nth" (defScope s__law_nth) s.heap.objs.size f cdv)) → G.i0.length = 4 →
      VSs (cxOf C8.CX0 P w K mg base N__law_nth "_law_nth" (defScope s__law_nth) f cdv A outer s H E).nox G (defBody s__law_nth) (t__law_nth sp_Book__nthX sp__law_word) := by
  intro cdv A outer s H E G hr hG
  have hU : ∀ n : Nat, n ≤ 200 → (A.deeper (PyProof.Rows.envOfC "_law_nth" (defScope s__law_nth) s.heap.objs.size f cdv)).units + n < cLine := fun n hn => by have := hr.rm.un; omega
  exact (vss_cons (vs_parT (is := [2, 3]) rfl (pgs_names nd__law_nth rfl (by first | exact Or.inl rfl | exact Or.inr rfl) (pgs_names nd__law_nth rfl (by first | exact Or.inl rfl | exact Or.inr rfl) pgs_names_nil)) (va_p ve_non (va_p ve_non va_p0)))
  (vss_cons (vs_try (ns := exAll) rfl rfl nd__law_nth rfl rfl rfl gx_FormError hXF (by decide) tx_no (fun pn ye G xd tk po => have hG : G.i0.length = G.i0.length := rfl
  (vss_one (vs_set nd__law_nth rfl (by first | exact Or.inl rfl | exact Or.inr rfl) (ve_methX [true, false] cm_Book__nthX hr hk_Book__nthX (ve_v 0) (va_p (ve_v 1) va_p0) tk)))) (fun a pn => (vss_one (vs_set nd__law_nth rfl (by first | exact Or.inl rfl | exact Or.inr rfl) (ve_v 4)))))
  (vss_one (vs_ret (ve_if (VT.pureB2 (vt_cmp op_isX rd_is (ve_v 3) ve_non (nomark _))) (ve_v 2) (ve_call [false] ca__law_word hr hk__law_word rfl (va_p (ve_v 3) va_p0)))))))
abbrev s__law_right : Stmt := top 49
def N__law_right : List Str := ["_law_tape_here", "_law_own", "_law_book", "_law_many_here", "_law_left_here", "_law_numbers", "_law_number", "_law_due", "_law_turn"]
def t__law_right (sp__law_left : SpD) (sp__law_same : SpD) (sp_Book__count : SpD) (sp__law_take : SpD) (sp__law_nth : SpD) : TS' :=
  (sSeq (sSet 4 (eSeal 6 (eCall [true, false] sp__law_left (aP [(pV 1), (pV 3)]))))
  (sSeq (sIf (tNt (tTr (eCall [false, false] sp__law_same (aCons (eMeth "Book" "count" [true] sp_Book__count (eP (pV 2)) (aP [])) (aP [(poN lenD [(pV 4)])])))))
  (sRet (eP (pC (.bl false))))
  sNil)
  (sSeq (sSet 5 (eP (pFz (plLst [(pC (.int 0)), (poN lenD [(pV 4)]), (po2 addD (poN lenD [(pV 4)]) (pC (.int 1))), (po2 powD (pC (.int 10)) (pC (.int 20))), (poN maxD [(pC (.int 0)), (po2 subD (poN lenD [(pV 4)]) (pC (.int 1)))])]))))
  (sSeq (sFor (iSq (eFz (f2 catF (eP (pV 5)) (eFz (fLc (iRg true (aP [(pC (.int 3))])) (.nm 8) tYs (eCall [true, false] sp__law_take (aP [(pV 0), (po2 addD (poN lenD [(pV 4)]) (pC (.int 1)))])) [8]))))) (gNm 6)
  (sSeq (sSet 7 (eP (poIf (bB (po2 ltD (pV 6) (poN lenD [(pV 4)]))) (po2 ixD (pV 4) (pV 6)) (pC (.str "NoFilling")))))
  (sIf (tNt (tTr (eCall [false, false] sp__law_same (aCons (eCallO [true, false] sp__law_nth (aP [(pV 2), (pV 6)])) (aP [(pV 7)])))))
  (sRet (eP (pC (.bl false))))
  sNil)))
  (sRet (eCall [false, false] sp__law_same (aCons (eMeth "Book" "count" [true] sp_Book__count (eP (pV 2)) (aP [])) (aP [(poN lenD [(pV 4)])]))))))))
theorem nd__law_right : N__law_right.Nodup := by decide
theorem sc__law_right : FnScope N__law_right ["_law_tape_here", "_law_own", "_law_book", "_law_many_here"] (defScope s__law_right) := C8.fnScope_by (by decide +kernel)
theorem d__law_right {P : Program} {w : World} {K : PySem.W.Frag} {mg : Str → Option Value} {base : Heap} {f : Addr} {k : Nat} (m_len : mg "len" = none) (m_max : mg "max" = none) (m_range : mg "range" = none) {sp__law_left : SpD} {k__law_left : Nat} (ca__law_left : Ca P w K mg base k__law_left "_law_left" 2 sp__law_left) (hk__law_left : k__law_left ≤ k) {sp__law_same : SpD} {k__law_same : Nat} (ca__law_same : Ca P w K mg base k__law_same "_law_same" 2 sp__law_same) (hk__law_same : k__law_same ≤ k) {sp_Book__count : SpD} {k_Book__count : Nat} (cm_Book__count : CaM P w K mg base k_Book__count "Book" "count" 1 sp_Book__count) (hk_Book__count : k_Book__count ≤ k) {sp__law_take : SpD} {k__law_take : Nat} (ca__law_take : Ca P w K mg base k__law_take "_law_take" 2 sp__law_take) (hk__law_take : k__law_take ≤ k) {sp__law_nth : SpD} {k__law_nth : Nat} (ca__law_nth : Ca P w K mg base k__law_nth "_law_nth" 2 sp__law_nth) (hk__law_nth : k__law_nth ≤ k) :
    ∀ (cdv : Value) (A : Around) (outer : List Env) (s : Shared) (H : Hp) (E : XK) (G : Gd), RoomG k (A.deeper (PyProof.Rows.envOfC "_law_right" (defScope s__law_right) s.heap.objs.size f cdv)) → G.i0.length = 6 →
      VSs (cxOf C8.CX0 P w K mg base N__law_right "_law_right" (defScope s__law_right) f cdv A outer s H E).nox G (defBody s__law_right) (t__law_right sp__law_left sp__law_same sp_Book__count sp__law_take sp__law_nth) := by
  intro cdv A outer s H E G hr hG
  have hU : ∀ n : Nat, n ≤ 200 → (A.deeper (PyProof.Rows.envOfC "_law_right" (defScope s__law_right) s.heap.objs.size f cdv)).units + n < cLine := fun n hn => by have := hr.rm.un; omega
  exact (vss_cons (vs_set nd__law_right rfl (by first | exact Or.inl rfl | exact Or.inr rfl) (VE.seal hG (ve_call [true, false] ca__law_left hr hk__law_left rfl (va_p (ve_v 1) (va_p (ve_v 3) va_p0)))))
  (vss_cons (vs_if (vt_not (vt_val (ve_call [false, false] ca__law_same hr hk__law_same rfl (va_cons (ve_meth0 cm_Book__count hr hk_Book__count (ve_v 2)) (va_p (VE.pureN (ve_callB call_lenX rd_len rfl m_len bt_len (va_p (ve_v 4) va_p0))) va_p0))))) (vss_one (vs_ret ve_bl)) vss_nil)
  (vss_cons (vs_set nd__law_right rfl (by first | exact Or.inl rfl | exact Or.inr rfl) (VF.pure (VF.pLst (vf_lst (va_p ve_int (va_p (VE.pureN (ve_callB call_lenX rd_len rfl m_len bt_len (va_p (ve_v 4) va_p0))) (va_p (VE.pure2 (ve_add (VE.pureN (ve_callB call_lenX rd_len rfl m_len bt_len (va_p (ve_v 4) va_p0))) ve_int)) (va_p (VE.pure2 (ve_pow ve_int ve_int)) (va_p (VE.pureN (ve_callB (call_maxX rfl) rd_max rfl m_max bt_max (va_p ve_int (va_p (VE.pure2 (ve_sub (VE.pureN (ve_callB call_lenX rd_len rfl m_len bt_len (va_p (ve_v 4) va_p0))) ve_int)) va_p0)))) va_p0)))))))))
  (vss_cons (vs_for (bd := false) PassesOwn.never rfl (vi_sq (VF.fz (vf_cat (ve_v 5) (VF.fz (vf_lc (own := [("_law_turn", 8)]) rfl nd__law_right (vi_range1 rfl m_range (va_p ve_int va_p0)) (blkOk_by (show blkC N__law_right (defScope s__law_right) _ _ = true by decide +kernel)) (fun s H C cl fp => pg_name nd__law_right rfl (by first | exact Or.inl rfl | exact Or.inr rfl) (by first | exact Or.inr rfl | exact Or.inl rfl)) (fun s H C cl fp G hG' => vts_nil) (fun s H C cl fp G hG' => (ve_call [true, false] ca__law_take hr hk__law_take rfl (va_p (ve_v 0) (va_p (VE.pure2 (ve_add (VE.pureN (ve_callB call_lenX rd_len rfl m_len bt_len (va_p (ve_v 4) va_p0))) ve_int)) va_p0)))) (by decide)))))) (vg_name nd__law_right rfl (by first | exact Or.inl rfl | exact Or.inr rfl)) (vss_cons (vs_set nd__law_right rfl (by first | exact Or.inl rfl | exact Or.inr rfl) (VE.pIf (ve_if (VT.pureB2 (vt_cmp op_lt rd_lt (ve_v 6) (VE.pureN (ve_callB call_lenX rd_len rfl m_len bt_len (va_p (ve_v 4) va_p0))) (nomark _))) (VE.pure2 (ve_idx (ve_v 4) (ve_v 6))) ve_str)))
  (vss_one (vs_if (vt_not (vt_val (ve_call [false, false] ca__law_same hr hk__law_same rfl (va_cons (ve_callO [true, false] ca__law_nth hr hk__law_nth rfl (va_p (ve_v 2) (va_p (ve_v 6) va_p0))) (va_p (ve_v 7) va_p0))))) (vss_one (vs_ret ve_bl)) vss_nil))))
  (vss_one (vs_ret (ve_call [false, false] ca__law_same hr hk__law_same rfl (va_cons (ve_meth0 cm_Book__count hr hk_Book__count (ve_v 2)) (va_p (VE.pureN (ve_callB call_lenX rd_len rfl m_len bt_len (va_p (ve_v 4) va_p0))) va_p0)))))))))
abbrev s_law : Stmt := top 50
def N_law : List Str := ["_law_script", "_law_k", "_law_tape_here", "_law_many_here", "_law_turn", "_law_book", "_law_own"]
def t_law (sp__law_tape : SpD) (sp__law_many : SpD) (sp_Book____init__ : SpI) (sp__law_order : SpD) (sp__law_new : SpD) (sp__law_right : SpD) (sp__law_take : SpD) (sp__law_deed : SpD) : TS' :=
  (sSeq (sFor (iRg false (aP [(po2 addD (pC (.int 1)) (poN minD [(pC (.int 4)), (poN lenD [(pV 0)])]))])) (gNm 1)
  (sSeq (sSet 2 (eCall [false, false] sp__law_tape (aP [(pV 0), (pV 1)])))
  (sSeq (sSet 3 (eCall [true] sp__law_many (aP [(pV 2)])))
  (sSeq (sPar 5 6 (aCons (eMake "Book" [false, false] sp_Book____init__ (aCons (eP (pV 3)) (aCons (eSeal 0 (eCall [true, false] sp__law_order (aP [(pV 2), (pV 3)]))) (aP [])))) (aCons (eCall [] sp__law_new (aP [])) (aP []))))
  (sSeq (sIf (tNt (tTr (eCallO [true, true, true, false] sp__law_right (aP [(pV 2), (pV 6), (pV 5), (pV 3)]))))
  (sRet (eP (pC (.bl false))))
  sNil)
  (sFor (iRg false (aCons (eo2 addD (eP (pC (.int 3))) (eCall [true, false] sp__law_take (aP [(pV 2), (pC (.int 14))]))) (aP []))) (gNm 4)
  (sIf (tOrr (tNt (tTr (eCallO [true, false, true, true] sp__law_deed (aP [(pV 2), (pV 3), (pV 6), (pV 5)])))) (tNt (tTr (eCallO [true, true, true, false] sp__law_right (aP [(pV 2), (pV 6), (pV 5), (pV 3)])))))
  (sRet (eP (pC (.bl false))))
  sNil)))))))
  (sRet (eP (pC (.bl true)))))
theorem nd_law : N_law.Nodup := by decide
theorem sc_law : FnScope N_law ["_law_script"] (defScope s_law) := C8.fnScope_by (by decide +kernel)
theorem d_law {P : Program} {w : World} {K : PySem.W.Frag} {mg : Str → Option Value} {base : Heap} {f : Addr} {k : Nat} (m_len : mg "len" = none) (m_min : mg "min" = none) (m_range : mg "range" = none) {sp__law_tape : SpD} {k__law_tape : Nat} (ca__law_tape : Ca P w K mg base k__law_tape "_law_tape" 2 sp__law_tape) (hk__law_tape : k__law_tape ≤ k) {sp__law_many : SpD} {k__law_many : Nat} (ca__law_many : Ca P w K mg base k__law_many "_law_many" 1 sp__law_many) (hk__law_many : k__law_many ≤ k) {sp_Book____init__ : SpI} {k_Book____init__ : Nat} (ci_Book____init__ : CaI P w K mg base k_Book____init__ "Book" 2 sp_Book____init__) (hk_Book____init__ : k_Book____init__ + 1 ≤ k) {sp__law_order : SpD} {k__law_order : Nat} (ca__law_order : Ca P w K mg base k__law_order "_law_order" 2 sp__law_order) (hk__law_order : k__law_order ≤ k) {sp__law_new : SpD} {k__law_new : Nat} (ca__law_new : Ca P w K mg base k__law_new "_law_new" 0 sp__law_new) (hk__law_new : k__law_new ≤ k) {sp__law_right : SpD} {k__law_right : Nat} (ca__law_right : Ca P w K mg base k__law_right "_law_right" 4 sp__law_right) (hk__law_right : k__law_right ≤ k) {sp__law_take : SpD} {k__law_take : Nat} (ca__law_take : Ca P w K mg base k__law_take "_law_take" 2 sp__law_take) (hk__law_take : k__law_take ≤ k) {sp__law_deed : SpD} {k__law_deed : Nat} (ca__law_deed : Ca P w K mg base k__law_deed "_law_deed" 4 sp__law_deed) (hk__law_deed : k__law_deed ≤ k) :
    ∀ (cdv : Value) (A : Around) (outer : List Env) (s : Shared) (H : Hp) (E : XK) (G : Gd), RoomG k (A.deeper (PyProof.Rows.envOfC "law" (defScope s_law) s.heap.objs.size f cdv)) → G.i0.length = 0 →
      VSs (cxOf C8.CX0 P w K mg base N_law "law" (defScope s_law) f cdv A outer s H E).nox G (defBody s_law) (t_law sp__law_tape sp__law_many sp_Book____init__ sp__law_order sp__law_new sp__law_right sp__law_take sp__law_deed) := by
  intro cdv A outer s H E G hr hG
  have hU : ∀ n : Nat, n ≤ 200 → (A.deeper (PyProof.Rows.envOfC "law" (defScope s_law) s.heap.objs.size f cdv)).units + n < cLine := fun n hn => by have := hr.rm.un; omega
  exact (vss_cons (vs_for (bd := false) PassesOwn.never rfl (vi_range1 rfl m_range (va_p (VE.pure2 (ve_add ve_int (VE.pureN (ve_callB (call_minX rfl) rd_min rfl m_min bt_min (va_p ve_int (va_p (VE.pureN (ve_callB call_lenX rd_len rfl m_len bt_len (va_p (ve_v 0) va_p0))) va_p0)))))) va_p0)) (vg_name nd_law rfl (by first | exact Or.inl rfl | exact Or.inr rfl)) (vss_cons (vs_set nd_law rfl (by first | exact Or.inl rfl | exact Or.inr rfl) (ve_call [false, false] ca__law_tape hr hk__law_tape rfl (va_p (ve_v 0) (va_p (ve_v 1) va_p0))))
  (vss_cons (vs_set nd_law rfl (by first | exact Or.inl rfl | exact Or.inr rfl) (ve_call [true] ca__law_many hr hk__law_many rfl (va_p (ve_v 2) va_p0)))
  (vss_cons (vs_par rfl nd_law rfl rfl (by decide) rfl rfl (va_cons (ve_make [false, false] ci_Book____init__ hr hk_Book____init__ rfl (va_cons (ve_v 3) (va_cons (VE.seal hG (ve_call [true, false] ca__law_order hr hk__law_order rfl (va_p (ve_v 2) (va_p (ve_v 3) va_p0)))) va_p0))) (va_cons (ve_call0 ca__law_new hr hk__law_new rfl) va_p0)) rfl)
  (vss_cons (vs_if (vt_not (vt_val (ve_callO [true, true, true, false] ca__law_right hr hk__law_right rfl (va_p (ve_v 2) (va_p (ve_v 6) (va_p (ve_v 5) (va_p (ve_v 3) va_p0))))))) (vss_one (vs_ret ve_bl)) vss_nil)
  (vss_one (vs_for (bd := false) PassesOwn.never rfl (vi_range1 rfl m_range (va_cons (ve_add ve_int (ve_call [true, false] ca__law_take hr hk__law_take rfl (va_p (ve_v 2) (va_p ve_int va_p0)))) va_p0)) (vg_name nd_law rfl (by first | exact Or.inl rfl | exact Or.inr rfl)) (vss_one (vs_if (VW.vt (vw_or (vt_not (vt_val (ve_callO [true, false, true, true] ca__law_deed hr hk__law_deed rfl (va_p (ve_v 2) (va_p (ve_v 3) (va_p (ve_v 6) (va_p (ve_v 5) va_p0))))))) (vw_or1 (vt_not (vt_val (ve_callO [true, true, true, false] ca__law_right hr hk__law_right rfl (va_p (ve_v 2) (va_p (ve_v 6) (va_p (ve_v 5) (va_p (ve_v 3) va_p0)))))))))) (vss_one (vs_ret ve_bl)) vss_nil)))))))))
  (vss_one (vs_ret ve_bl)))
end Zk54
set_option Elab.async false
set_option linter.all false
set_option maxRecDepth 100000
set_option maxHeartbeats 1000000
namespace VL
open PySem PySem.Spec L2
theorem ok_gd {α : Type} {c : Prop} [Decidable c] {x : α} {k : α → Prop} : ok (gd c x) k ↔ c ∧ k x := by
  unfold gd
  by_cases h : c
  · simp [h, ok]
  · simp [h, ok]
theorem ok_ite {α : Type} {c : Prop} [Decidable c] {a b : Option α} {k : α → Prop} : ok (if c then a else b) k ↔ if c then ok a k else ok b k := by
  by_cases h : c <;> simp [h]
section
variable {M : Mem} {Q : QD} {i j : Int} {n m : Nat} {x y z u v : D} {a b : List D} {s t : Str} {p q : Bool} {ns : List Int} {c : Cell}
theorem ix_ref : ixD M (.ref n) (.d (.int i)) = (cellL M[n]?).bind fun ds => (atI ds i).map .d := rfl
theorem ix_tup : ixD M (.d (.tup a)) (.d (.int i)) = (atI a i).map .d := rfl
theorem ix_lst : ixD M (.d (.lst a)) (.d (.int i)) = (atI a i).map .d := rfl
theorem ix_bor : ixD M (.bor a) (.d (.int i)) = (atI a i).map .d := rfl
theorem ix_scr : ixD M (.d (.scr ns)) (.d (.int i)) = (atI (ns.map D.int) i).map .d := rfl
theorem add_int : addD M (.d (.int i)) (.d (.int j)) = some (.d (.int (i + j))) := rfl
theorem add_str : addD M (.d (.str s)) (.d (.str t)) = gd (s.length + t.length ≤ sizeLine) (.d (.str (s ++ t))) := rfl
theorem add_tup : addD M (.d (.tup a)) (.d (.tup b)) = gd (a.length + b.length ≤ sizeLine) (.d (.tup (a ++ b))) := rfl
theorem sub_int : subD M (.d (.int i)) (.d (.int j)) = some (.d (.int (i - j))) := rfl
theorem mul_int : mulD M (.d (.int i)) (.d (.int j)) = gd (MulOk i j) (.d (.int (i * j))) := rfl
theorem fdiv_int : fdivD M (.d (.int i)) (.d (.int j)) = gd (0 < j ∧ j.natAbs.log2 < 9000) (.d (.int (i / j))) := rfl
theorem mod_int : modD M (.d (.int i)) (.d (.int j)) = gd (0 < j) (.d (.int (i % j))) := rfl
theorem pow_int : powD M (.d (.int i)) (.d (.int j)) = gd (CPow i j) (.d (.int (i ^ j.toNat))) := rfl
theorem neg_int : negD M (.d (.int i)) = some (.d (.int (-i))) := rfl
theorem lt_int : ltD M (.d (.int i)) (.d (.int j)) = some (.d (.bl (decide (i < j)))) := rfl
theorem le_int : leD M (.d (.int i)) (.d (.int j)) = some (.d (.bl (decide (i ≤ j)))) := rfl
theorem gt_int : gtD M (.d (.int i)) (.d (.int j)) = some (.d (.bl (decide (j < i)))) := rfl
theorem ge_int : geD M (.d (.int i)) (.d (.int j)) = some (.d (.bl (decide (j ≤ i)))) := rfl
theorem eq_int : eqD M (.d (.int i)) (.d (.int j)) = some (.d (.bl (decide (i = j)))) := rfl
theorem eq_str : eqD M (.d (.str s)) (.d (.str t)) = some (.d (.bl (decide (s = t)))) := rfl
theorem eq_bl : eqD M (.d (.bl p)) (.d (.bl q)) = some (.d (.bl (decide (p = q)))) := rfl
theorem ne_int : neD M (.d (.int i)) (.d (.int j)) = some (.d (.bl (!decide (i = j)))) := rfl
theorem ne_str : neD M (.d (.str s)) (.d (.str t)) = some (.d (.bl (!decide (s = t)))) := rfl
theorem ne_bl : neD M (.d (.bl p)) (.d (.bl q)) = some (.d (.bl (!decide (p = q)))) := rfl
theorem is_bl : isD M (.d (.bl p)) (.d (.bl q)) = some (.d (.bl (decide (p = q)))) := rfl
theorem isnt_bl : isntD M (.d (.bl p)) (.d (.bl q)) = some (.d (.bl (!decide (p = q)))) := rfl
theorem is_non {w : Sv} : isD M w (.d .non) = some (.d (.bl (nonB w))) := by cases w with | d x => cases x <;> rfl | _ => rfl
theorem isnt_non {w : Sv} : isntD M w (.d .non) = some (.d (.bl (!nonB w))) := by cases w with | d x => cases x <;> rfl | _ => rfl
theorem len_tup : lenD M [.d (.tup a)] = some (.d (.int a.length)) := rfl
theorem len_lst : lenD M [.d (.lst a)] = some (.d (.int a.length)) := rfl
theorem len_bor : lenD M [.bor a] = some (.d (.int a.length)) := rfl
theorem len_scr : lenD M [.d (.scr ns)] = some (.d (.int ns.length)) := by simp [lenD, lenOf, seqD, intS]
theorem len_ref (h : M[n]? = some (.lst a)) : lenD M [.ref n] = some (.d (.int a.length)) := by simp [lenD, lenOf, h, intS]
theorem int_bl : intD M [.d (.bl p)] = some (.d (.int (if p then 1 else 0))) := rfl
theorem int_int : intD M [.d (.int i)] = some (.d (.int i)) := rfl
theorem abs_int : absD M [.d (.int i)] = some (.d (.int (if i < 0 then -i else i))) := rfl
theorem min_int : minD M [.d (.int i), .d (.int j)] = some (.d (.int (if j < i then j else i))) := rfl
theorem max_int : maxD M [.d (.int i), .d (.int j)] = some (.d (.int (if j > i then j else i))) := rfl
theorem blD_bl : blD (.d (.bl p)) = some p := rfl
theorem cell_lst : cellL (some (.lst a)) = some a := rfl
theorem st_ref {R : Mem → Prop} : stD (.ref n) (.d (.int i)) x M R = ok (cellL M[n]?) fun ds => ok (ixN ds.length i) fun j => R (M.set n (.lst (ds.set j x))) := rfl
theorem at_nat {α : Type} {xs : List α} {k : Nat} : atI xs ((k : Nat) : Int) = xs[k]? := by
  unfold atI ixN
  rw [if_pos (by omega)]
  split
  · simp
  · rw [List.getElem?_eq_none (by omega)]; rfl
theorem at_0 {α : Type} {x : α} {xs : List α} : atI (x :: xs) 0 = some x := at_nat (k := 0)
theorem at_1 {α : Type} {x y : α} {xs : List α} : atI (x :: y :: xs) 1 = some y := at_nat (k := 1)
theorem at_2 {α : Type} {x y z : α} {xs : List α} : atI (x :: y :: z :: xs) 2 = some z := at_nat (k := 2)
theorem at_3 {α : Type} {x y z u : α} {xs : List α} : atI (x :: y :: z :: u :: xs) 3 = some u := at_nat (k := 3)
theorem at_4 {α : Type} {x y z u v : α} {xs : List α} : atI (x :: y :: z :: u :: v :: xs) 4 = some v := at_nat (k := 4)
theorem ixN_10 : ixN 1 0 = some 0 := by decide
theorem ixN_20 : ixN 2 0 = some 0 := by decide
theorem ixN_21 : ixN 2 1 = some 1 := by decide
theorem ixN_30 : ixN 3 0 = some 0 := by decide
theorem ixN_31 : ixN 3 1 = some 1 := by decide
theorem ixN_32 : ixN 3 2 = some 2 := by decide
theorem dataS_d : dataS (.d x) = some x := rfl
theorem datas_nil : datas [] = some [] := rfl
theorem datas_cons {xs : List Sv} : datas (.d x :: xs) = (datas xs).map fun ds => x :: ds := rfl
theorem truth_bl : truth M (.d (.bl p)) = some p := rfl
theorem endsF_rt {R : Rv → Mem → Prop} {k : Nat} {w : Sv} : (endsF k R).rt w M = (okRef k w ∧ ok (resD M w) fun r => R r (M.take k)) := rfl
theorem endsF_nx {R : Rv → Mem → Prop} {k : Nat} {δ : DS} : (endsF k R).nx δ M = R (.d .non) (M.take k) := rfl
theorem rv_d : resD M (.d x) = some (.d x) := rfl
theorem rv_ref : resD M (.ref n) = resC M[n]? := rfl
theorem rv_cl {ds : List D} : resC (some (.lst ds)) = some (.new ds) := rfl
theorem rv_ck {kvs : List (Key × D)} : resC (some (.dk kvs)) = some (.newK kvs) := rfl
theorem rvQ_d : rvQ Q (.d x) M = Q (.d x) M := rfl
theorem rvQ_new : rvQ Q (.new a) M = Q (.ref M.length) (M ++ [.lst a]) := rfl
theorem rvQ_newK {kvs : List (Key × D)} : rvQ Q (.newK kvs) M = Q (.ref M.length) (M ++ [.dk kvs]) := rfl
theorem okRef_d {k : Nat} : okRef k (.d x) = True := rfl
theorem okRef_ref {k : Nat} : okRef k (.ref n) = (k ≤ n) := rfl
theorem at_pick {P : D → Prop} {R : D → Prop} {ds : List D} {i : Int} (h0 : 0 ≤ i) (h1 : i < ds.length) (h : ∀ d ∈ ds, P d) (k : ∀ d, P d → R d) : ok (atI ds i) R := by
  obtain ⟨j, rfl⟩ := Int.eq_ofNat_of_zero_le h0
  have hj : j < ds.length := by omega
  rw [at_nat, List.getElem?_eq_getElem hj]
  exact k _ (h _ (List.getElem_mem hj))
theorem handS_n {ks : List Nat} : handS M [] [] ks = some ([], ks) := rfl
theorem handS_tr {ms : List Bool} {xs : List Sv} {ks : List Nat} : handS M (true :: ms) (.ref n :: xs) ks = if n ∈ ks then none else (cellA M[n]?).bind fun _ => (handS M ms xs (ks ++ [n])).map fun r => (.ref ks.length :: r.1, r.2) := rfl
theorem handS_fr {ms : List Bool} {xs : List Sv} {ks : List Nat} : handS M (false :: ms) (.ref n :: xs) ks = (cellL M[n]?).bind fun ds => (handS M ms xs ks).bind fun r => if n ∈ r.2 then none else some (.bor ds :: r.1, r.2) := rfl
theorem handS_fd {ms : List Bool} {xs : List Sv} {ks : List Nat} : handS M (false :: ms) (.d x :: xs) ks = (handS M ms xs ks).map fun r => (.d x :: r.1, r.2) := rfl
theorem handS_fb {ms : List Bool} {xs : List Sv} {ks : List Nat} : handS M (false :: ms) (.bor a :: xs) ks = (handS M ms xs ks).map fun r => (.bor a :: r.1, r.2) := rfl
theorem cellA_lst {a : List D} : cellA (some (.lst a)) = some () := rfl
theorem cellA_dk {a : List (Key × D)} : cellA (some (.dk a)) = some () := rfl
theorem cellsAt_0 : cellsAt M [] = [] := rfl
theorem cellsAt_c {ks : List Nat} : cellsAt M (n :: ks) = M[n]?.getD .gone :: cellsAt M ks := rfl
theorem tup_lst : tupC M (.d (.lst a)) = some (.d (.tup a)) := rfl
theorem tup_tup : tupC M (.d (.tup a)) = some (.d (.tup a)) := rfl
theorem tup_ref : tupC M (.ref n) = (cellL M[n]?).map fun ds => .d (.tup ds) := rfl
theorem rng_1 {k : List D → Prop} : rngD [.d (.int j)] k = (I62 j ∧ k (rgL 0 j.toNat)) := rfl
theorem rng_2 {k : List D → Prop} : rngD [.d (.int i), .d (.int j)] k = ((I62 i ∧ I62 j) ∧ k (rgL i (j - i).toNat)) := rfl
theorem wipeS_c {δ : DS} {vs : List Nat} : wipeS δ (n :: vs) = (wipeS δ vs).set n none := rfl
theorem wipeS_n {δ : DS} : wipeS δ [] = δ := rfl
theorem ite_two {p q : Prop} [Decidable p] [Decidable q] {A B : Prop} (a : A) (b : ¬p → ¬q → B) : if p then A else if q then A else B := by
  by_cases h : p
  · rw [if_pos h]; exact a
  · rw [if_neg h]
    by_cases h2 : q
    · rw [if_pos h2]; exact a
    · rw [if_neg h2]; exact b h h2
theorem seq_tup : seqD M (.d (.tup a)) = some a := rfl
theorem seq_lst : seqD M (.d (.lst a)) = some a := rfl
theorem seq_bor : seqD M (.bor a) = some a := rfl
theorem lst_lst : lstD M (.d (.lst a)) = some a := rfl
theorem lst_bor : lstD M (.bor a) = some a := rfl
theorem gdS_d : gdS (.d x) a = fun _ => True := rfl
theorem gdS_b : gdS (.bor b) a = fun _ => True := rfl
theorem gcS_c {k : Nat} {o : Option Sv} {δ : DS} : gcS k (o :: δ) = gcO k o :: gcS k δ := rfl
theorem gcS_n {k : Nat} : gcS k [] = [] := rfl
theorem gcO_d {k : Nat} : gcO k (some (.d x)) = some (.d x) := rfl
theorem gcO_n {k : Nat} : gcO k none = none := rfl
theorem gcO_z : gcO 0 (some (.ref n)) = none := rfl
theorem seal_d {m0 : Nat} : sealD m0 M (.d x) = some (.d x, M) := rfl
theorem gcO_r0 {k : Nat} : gcO (k + 1) (some (.ref 0)) = some (.ref 0) := rfl
theorem gcO_r1 {k : Nat} : gcO (k + 2) (some (.ref 1)) = some (.ref 1) := rfl
theorem gcO_r {k : Nat} (h : n < k) : gcO k (some (.ref n)) = some (.ref n) := if_pos h
theorem mapp {R : QD} : mApp (.ref n) [.d x] M R = ok (cellL M[n]?) fun ds => ds.length < sizeLine ∧ R (.d .non) (M.set n (.lst (ds ++ [x]))) := rfl
theorem rcv_0 : rcv (.lst a :: M) (.ref 0) = some "list" := rfl
theorem rcv_1 : rcv (c :: .lst a :: M) (.ref 1) = some "list" := rfl
theorem rcv_l : rcv M (.d (.lst a)) = some "list" := rfl
theorem backS_0 {cs : Mem} : backS [] cs M = M := by cases cs <;> rfl
theorem backS_1 : backS [n] [c] M = M.set n c := rfl
end
/-- the tape: its third number at most b -/
structure Tp (b : Nat) (ds : List D) : Prop where
  ex : ∃ t0 t1 t2 : Int, ds = [.int t0, .int t1, .int t2] ∧ 0 ≤ t0 ∧ 0 ≤ t1 ∧ t1 < 2147483629 ∧ 0 ≤ t2 ∧ t2 ≤ b
theorem Tp.mono {b c : Nat} {ds : List D} (h : Tp b ds) (hb : b ≤ c) : Tp c ds := by
  obtain ⟨t0, t1, t2, rfl, h0, h1, h2, h3, h4⟩ := h.ex
  exact ⟨t0, t1, t2, rfl, h0, h1, h2, h3, by omega⟩
def sp_take : SpD := fun as M Q => ∃ (ds : List D) (n : Int) (b : Nat), as = [.ref 0, .d (.int n)] ∧ M = [.lst ds] ∧ Tp b ds ∧ b < 1099511627776 ∧ 1 ≤ n ∧ n ≤ 99999 ∧
  ∀ (v : Int) (ds' : List D), 0 ≤ v → v < n → Tp (b + 1) ds' → Q (.d (.int v)) [.lst ds']
def r_take (sp__law_take : SpD) : TS' :=
  (sSeq (sIf (cP (bB (po2 gtD (po2 ixD (pV 0) (pC (.int 0))) (pC (.int 0)))))
  (sSeq (sSet 4 (eP (po2 modD (po2 ixD (pV 0) (pC (.int 0))) (pV 1))))
  (sSeq (sSub (eP (po2 fdivD (po2 ixD (pV 0) (pC (.int 0))) (pV 1))) (eP (pV 0)) (eP (pC (.int 0))))
  (sRet (eP (pV 4)))))
  sNil)
  (sSeq (sSub (eP (po2 addD (po2 ixD (pV 0) (pC (.int 2))) (pC (.int 1)))) (eP (pV 0)) (eP (pC (.int 2))))
  (sSeq (sSet 2 (eP (po2 ixD (pFz (plLst [(pC (.int 2147483587)), (pC (.int 2147483579)), (pC (.int 2147483563)), (pC (.int 2147483549)), (pC (.int 2147483543)), (pC (.int 2147483497)), (pC (.int 2147483489))])) (po2 modD (po2 ixD (pV 0) (pC (.int 2))) (pC (.int 7))))))
  (sSeq (sSet 3 (eP (po2 modD (po2 mulD (po2 addD (po2 ixD (pV 0) (pC (.int 1))) (po2 mulD (pC (.int 39373)) (po2 ixD (pV 0) (pC (.int 2))))) (po2 addD (pC (.int 48271)) (po2 ixD (pV 0) (pC (.int 2))))) (pV 2))))
  (sSeq (sSub (eP (po2 modD (po2 addD (po2 mulD (pV 3) (po2 addD (po2 modD (pV 3) (pC (.int 40009))) (pC (.int 7)))) (po2 ixD (pV 0) (pC (.int 2)))) (pC (.int 2147483629)))) (eP (pV 0)) (eP (pC (.int 1))))
  (sSeq (sSet 4 (eP (po2 fdivD (po2 modD (po2 mulD (po2 ixD (pV 0) (pC (.int 1))) (po2 addD (po2 modD (po2 ixD (pV 0) (pC (.int 1))) (pC (.int 1009))) (pC (.int 3)))) (pC (.int 998244353))) (pC (.int 7)))))
  (sRet (eIf (cP (bB (po2 ltD (pV 1) (po2 powD (pC (.int 10)) (pC (.int 6)))))) (eP (po2 modD (pV 4) (pV 1))) (eo2 modD (eo2 addD (eP (po2 mulD (pV 4) (pC (.int 99991)))) (eCall [true, false] sp__law_take (aP [(pV 0), (pC (.int 99991))]))) (eP (pV 1)))))))))))
local macro_rules
  | `(tactic| simp only [VLS]) => `(tactic| simp only [sSeq, sIf, sSet, sSub, sRet, sRetN, sNil, sDrop, sAsg, sPar, sParT, sAug, cP, bB, bTr, bNt, bAn, bOr, po1, po2, poN, pArgs, poIf, poAn, poOr, poNt, poTup, plLst, plN, pl2, pl1, pFz, pV, pC, eP, eo1, eo2, eoN, aP, aNil, aCons, eAn, eOr, eNt, eIf, eFz, eNw, fP, fN, f2, f1, tTupE, tLstF, tTr, tTb, tAn, tOrr, tNt, tYs, eSeal, eMt, poMt, mPure, eCh, pCh, ok_bind, ok_map, ok_some, ok_none, ok_gd, ok_ite, List.getElem?_cons_zero, List.getElem?_cons_succ, List.set_cons_zero, List.set_cons_succ, Option.join_some, Option.bind_some, Option.map_some, Option.bind_none, Option.map_none, ix_ref, ix_tup, ix_lst, ix_bor, ix_scr, add_int, add_str, add_tup, sub_int, mul_int, fdiv_int, mod_int, pow_int, neg_int, lt_int, le_int, gt_int, ge_int, eq_int, eq_str, eq_bl, ne_int, ne_str, ne_bl, is_bl, isnt_bl, is_non, isnt_non, len_tup, len_lst, len_ref, len_bor, len_scr, int_bl, int_int, abs_int, min_int, max_int, blD_bl, cell_lst, cellA_lst, cellA_dk, st_ref, at_0, at_1, at_2, at_3, at_4, ixN_10, ixN_20, ixN_21, ixN_30, ixN_31, ixN_32, dataS_d, datas_nil, datas_cons, truth_bl, notD, intS, blS, nonB, List.length_cons, List.length_nil, Nat.reduceAdd, endsF_rt, endsF_nx, rvQ_d, rvQ_new, rvQ_newK, rv_d, rv_ref, rv_cl, rv_ck, okRef_d, okRef_ref, List.not_mem_nil, List.nil_append, true_and, and_true, List.take_succ_cons, List.take_zero, Nat.zero_add, decide_eq_true_eq, Bool.false_eq_true, if_false, if_true, callS, handS_n, handS_tr, handS_fr, handS_fd, handS_fb, cellsAt_c, cellsAt_0, Option.getD_some, backS_0, backS_1, eCall, tup_lst, tup_tup, tup_ref, fLc, iRg, rng_1, rng_2, wipeS_c, wipeS_n, iPq, iSq, seq_tup, seq_lst, seq_bor, lst_lst, lst_bor, gdS_d, gdS_b, sFor, gNm, gcS_c, gcS_n, gcO_d, gcO_n, mapp, rcv_0, rcv_1, rcv_l, gcO_r0, gcO_r1, gcO_z, seal_d, eq_self, List.take_nil, List.cons_append])
  | `(tactic| simp only [VLS, $xs,*]) => `(tactic| simp only [sSeq, sIf, sSet, sSub, sRet, sRetN, sNil, sDrop, sAsg, sPar, sParT, sAug, cP, bB, bTr, bNt, bAn, bOr, po1, po2, poN, pArgs, poIf, poAn, poOr, poNt, poTup, plLst, plN, pl2, pl1, pFz, pV, pC, eP, eo1, eo2, eoN, aP, aNil, aCons, eAn, eOr, eNt, eIf, eFz, eNw, fP, fN, f2, f1, tTupE, tLstF, tTr, tTb, tAn, tOrr, tNt, tYs, eSeal, eMt, poMt, mPure, eCh, pCh, ok_bind, ok_map, ok_some, ok_none, ok_gd, ok_ite, List.getElem?_cons_zero, List.getElem?_cons_succ, List.set_cons_zero, List.set_cons_succ, Option.join_some, Option.bind_some, Option.map_some, Option.bind_none, Option.map_none, ix_ref, ix_tup, ix_lst, ix_bor, ix_scr, add_int, add_str, add_tup, sub_int, mul_int, fdiv_int, mod_int, pow_int, neg_int, lt_int, le_int, gt_int, ge_int, eq_int, eq_str, eq_bl, ne_int, ne_str, ne_bl, is_bl, isnt_bl, is_non, isnt_non, len_tup, len_lst, len_ref, len_bor, len_scr, int_bl, int_int, abs_int, min_int, max_int, blD_bl, cell_lst, cellA_lst, cellA_dk, st_ref, at_0, at_1, at_2, at_3, at_4, ixN_10, ixN_20, ixN_21, ixN_30, ixN_31, ixN_32, dataS_d, datas_nil, datas_cons, truth_bl, notD, intS, blS, nonB, List.length_cons, List.length_nil, Nat.reduceAdd, endsF_rt, endsF_nx, rvQ_d, rvQ_new, rvQ_newK, rv_d, rv_ref, rv_cl, rv_ck, okRef_d, okRef_ref, List.not_mem_nil, List.nil_append, true_and, and_true, List.take_succ_cons, List.take_zero, Nat.zero_add, decide_eq_true_eq, Bool.false_eq_true, if_false, if_true, callS, handS_n, handS_tr, handS_fr, handS_fd, handS_fb, cellsAt_c, cellsAt_0, Option.getD_some, backS_0, backS_1, eCall, tup_lst, tup_tup, tup_ref, fLc, iRg, rng_1, rng_2, wipeS_c, wipeS_n, iPq, iSq, seq_tup, seq_lst, seq_bor, lst_lst, lst_bor, gdS_d, gdS_b, sFor, gNm, gcS_c, gcS_n, gcO_d, gcO_n, mapp, rcv_0, rcv_1, rcv_l, gcO_r0, gcO_r1, gcO_z, seal_d, eq_self, List.take_nil, List.cons_append, $xs,*])
theorem pure_take {sp : SpD} (as : List Sv) (M : Mem) (Q : Rv → Mem → Prop) (h : sp_take as M Q) : r_take sp (endsF M.length Q) (startD 5 as) M := by
  obtain ⟨ds, n, b, rfl, rfl, ht, hb, h1, h2, z⟩ := h
  obtain ⟨t0, t1, t2, rfl, a0, a1, a2, a3, a4⟩ := ht.ex
  show r_take sp (endsF 1 Q) [some (.ref 0), some (.d (.int n)), none, none, none] [.lst [.int t0, .int t1, .int t2]]
  simp only [VLS, r_take]
  split
  · rename_i h0
    refine ⟨by omega, ⟨by omega, ?_⟩, z _ _ (Int.emod_nonneg _ (by omega)) (Int.emod_lt_of_pos _ (by omega)) ⟨t0 / n, t1, t2, rfl, Int.ediv_nonneg a0 (by omega), a1, a2, a3, by omega⟩⟩
    have hn : n.natAbs < 2 ^ 17 := by omega
    have := (Nat.log2_lt (n := n.natAbs) (k := 17) (by omega)).mpr hn
    omega
  · refine ⟨by decide, at_pick (P := fun d => ∃ p : Int, d = .int p ∧ 2147483489 ≤ p ∧ p ≤ 2147483587) (Int.emod_nonneg _ (by decide)) (by have := Int.emod_lt_of_pos (t2 + 1) (show (0:Int) < 7 by decide); simpa using this) ?_ ?_⟩
    · intro d hd
      simp only [List.mem_cons, List.not_mem_nil, or_false] at hd
      rcases hd with rfl | rfl | rfl | rfl | rfl | rfl | rfl <;> exact ⟨_, rfl, by decide, by decide⟩
    · rintro d ⟨p, rfl, p1, p2⟩
      simp only [VLS]
      generalize hz : (t1 + 39373 * (t2 + 1)) * (48271 + (t2 + 1)) = zz
      have e1 := Int.emod_nonneg zz (show p ≠ 0 by omega)
      have e2 := Int.emod_lt_of_pos zz (show 0 < p by omega)
      generalize zz % p = q at e1 e2
      have e3 := Int.emod_nonneg q (show (40009:Int) ≠ 0 by decide)
      have e4 := Int.emod_lt_of_pos q (show (0:Int) < 40009 by decide)
      generalize q % 40009 = r at e3 e4
      generalize q * (r + 7) + (t2 + 1) = y
      have e5 := Int.emod_nonneg y (show (2147483629:Int) ≠ 0 by decide)
      have e6 := Int.emod_lt_of_pos y (show (0:Int) < 2147483629 by decide)
      generalize y % 2147483629 = x at e5 e6
      have e7 := Int.emod_nonneg x (show (1009:Int) ≠ 0 by decide)
      have e8 := Int.emod_lt_of_pos x (show (0:Int) < 1009 by decide)
      generalize x % 1009 = v at e7 e8
      have e9 : n < 10 ^ Int.toNat 6 := by have : (10:Int) ^ Int.toNat 6 = 1000000 := by decide
                                           omega
      rw [if_pos e9]
      refine ⟨.inl ⟨by decide, by decide⟩, .inr (.inl ⟨by omega, by omega⟩), by omega, by decide, .inl ⟨by omega, by omega⟩, by decide, by decide, .inl ⟨by omega, by omega⟩, by decide, ⟨by decide, by decide⟩, by unfold CPow; decide, by omega, ?_⟩
      exact z _ _ (Int.emod_nonneg _ (by omega)) (Int.emod_lt_of_pos _ (by omega)) ⟨t0, x, t2 + 1, rfl, a0, e5, e6, by omega, by omega⟩
set_option maxHeartbeats 1000000
theorem for_inv {k : Nat} {g : TG'} {b : TS'} {E : Ends'} {gd : Mem → Prop} (I : List D → DS → Mem → Prop) (fin : ∀ δ M, I [] δ M → gd M ∧ E.nx δ M)
    (step : ∀ d rest δ M (nx : DS → Mem → Prop), I (d :: rest) δ M → (∀ δ' M', I rest (gcS k δ') (M'.take k) → nx δ' M') → gd M ∧ g d δ M fun δ1 M1 => b ⟨nx, E.rt, E.nx, nx⟩ δ1 M1) : ∀ ds δ M, I ds δ M → forL k g b E gd ds δ M
  | [], δ, M, h => fin δ M h
  | d :: ds, δ, M, h => step d ds δ M _ h fun δ' M' h' => for_inv I fin step ds _ _ h'
theorem lc_inv {i : Nat} {te : TE'} {δw : DS} {gd : Mem → Prop} {Q : List D → Mem → Prop} (I : List D → List D → Mem → Prop) (fin : ∀ acc M, I [] acc M → gd M ∧ Q acc M)
    (step : ∀ d rest acc M (R : QD), I (d :: rest) acc M → (∀ y M', I rest (acc ++ [y]) M' → R (.d y) M') → gd M ∧ te (δw.set i (some (.d d))) M R) : ∀ ds acc M, I ds acc M → lcL (LcG.nm i).to tYs te δw gd Q ds acc M
  | [], acc, M, h => fin acc M h
  | d :: ds, acc, M, h => by
    have hs := step d ds acc M (fun s M4 => ok (dataS s) fun y => lcL (LcG.nm i).to tYs te δw gd Q ds (acc ++ [y]) M4) h fun y M' h' => lc_inv I fin step ds _ _ h'
    exact ⟨hs.1, hs.2⟩
/-- each item's value hangs on the item alone, nothing changes -/
theorem lc_map {i : Nat} {te : TE'} {δw : DS} {gd : Mem → Prop} {Q : List D → Mem → Prop} {f : D → D} {M : Mem} {ds : List D} (hg : gd M) (h : ∀ d ∈ ds, ∀ R : QD, R (.d (f d)) M → te (δw.set i (some (.d d))) M R) (q : Q (ds.map f) M) :
    lcL (LcG.nm i).to tYs te δw gd Q ds [] M := by
  have : ∀ (l acc : List D), (∀ d ∈ l, d ∈ ds) → Q (acc ++ l.map f) M → lcL (LcG.nm i).to tYs te δw gd Q l acc M := by
    intro l
    induction l with
    | nil => intro acc _ q; exact ⟨hg, by simpa using q⟩
    | cons d l ih =>
      intro acc hl q
      refine ⟨hg, h d (hl d List.mem_cons_self) _ ?_⟩
      exact ih (acc ++ [f d]) (fun x hx => hl x (List.mem_cons_of_mem _ hx)) (by simpa using q)
  exact this ds [] (fun _ h => h) (by simpa using q)
def spB (sp : Nat → SpD) (d : Nat) : SpD := fun as M Q => ∃ e, e < d ∧ sp e as M Q
theorem ca_bot {P : Program} {w : World} {K : PySem.W.Frag} {mg : Str → Option Value} {base : Heap} {x qual : Str} {params : Arguments} {body : List Stmt} {scope : Scope} {f : Addr} {fd : FuncData} {ps : List Str} {k : Nat} {sp : Nat → SpD}
    (F : FunD K x qual params body scope [] [] f fd) (hg : mg x = some (.ref f)) (b : Binds K fd ps []) (n : Nat) : Ca P w K mg base k x n (spB sp 0) :=
  ⟨f, fd, ps, ⟨fun vs H Q E ⟨_, _, _, _, _, _, _, _, _, ⟨e, he, _⟩, _⟩ => by omega, fun A outer s H args us vs Q E _ _ _ _ ⟨_, _, _, _, _, _, _, _, _, ⟨e, he, _⟩, _⟩ => by omega⟩, hg, F.kp, b⟩
def sp_cell : SpD := fun as M Q => ∃ (ns : List Int) (k : Int), as = [.d (.scr ns), .d (.int k)] ∧ M = [] ∧ 0 ≤ k ∧ ∀ c : Int, Q (.d (.int c)) []
def r_cell : TS' :=
  (sRet (eP (poIf (bB (po2 ltD (pV 1) (poN lenD [(pV 0)]))) (po2 ixD (pV 0) (pV 1)) (pC (.int 0)))))
theorem pure_cell (as : List Sv) (M : Mem) (Q : Rv → Mem → Prop) (h : sp_cell as M Q) : r_cell (endsF M.length Q) (startD 2 as) M := by
  obtain ⟨ns, k, rfl, rfl, hk, z⟩ := h
  obtain ⟨k, rfl⟩ := Int.eq_ofNat_of_zero_le hk
  show r_cell (endsF 0 Q) [some (.d (.scr ns)), some (.d (.int k))] []
  simp only [VLS, r_cell]
  by_cases h : (k : Int) < ns.length
  · rw [if_pos h]
    have h' : k < ns.length := by omega
    rw [at_nat, List.getElem?_map, List.getElem?_eq_getElem h']
    simp only [VLS]
    exact z _
  · rw [if_neg h]
    exact z _
def sp_tape : SpD := fun as M Q => ∃ (ns : List Int) (k : Int), as = [.d (.scr ns), .d (.int k)] ∧ M = [] ∧ 0 ≤ k ∧ k ≤ 1000 ∧ ∀ ds, Tp 0 ds → Q (.new ds) []
def r_tape (sp__law_cell_at : SpD) : TS' :=
  (sSeq (sSet 2 (eCall [false, false] sp__law_cell_at (aP [(pV 0), (pV 1)])))
  (sRet (eNw (fP (plLst [(po2 mulD (poN absD [(pV 2)]) (poN intD [(po2 geD (poN absD [(pV 2)]) (po2 powD (pC (.int 10)) (pC (.int 18))))])), (po2 modD (po2 mulD (po2 addD (po2 addD (po2 modD (pV 2) (pC (.int 2147483647))) (po2 mulD (po2 mulD (pC (.int 7753)) (pV 1)) (pV 1))) (pC (.int 41))) (pC (.int 48271))) (pC (.int 2147483629))), (pC (.int 0))])))))
theorem pure_tape (as : List Sv) (M : Mem) (Q : Rv → Mem → Prop) (h : sp_tape as M Q) : r_tape sp_cell (endsF M.length Q) (startD 3 as) M := by
  obtain ⟨ns, k, rfl, rfl, hk, hk2, z⟩ := h
  show r_tape sp_cell (endsF 0 Q) [some (.d (.scr ns)), some (.d (.int k)), none] []
  simp only [VLS, r_tape]
  refine ⟨ns, k, rfl, rfl, hk, fun c => ?_⟩
  simp only [VLS]
  have h0 : 0 ≤ (if c < 0 then -c else c) := by split <;> omega
  generalize (if c < 0 then -c else c) = ac at h0
  have e1 : (if 10 ^ Int.toNat 18 ≤ ac then (1 : Int) else 0) = 0 ∨ (if 10 ^ Int.toNat 18 ≤ ac then (1 : Int) else 0) = 1 := by split <;> simp
  generalize (if 10 ^ Int.toNat 18 ≤ ac then (1 : Int) else 0) = t at e1
  have h1 : 0 ≤ ac * t := by rcases e1 with rfl | rfl <;> omega
  have h2 : 0 ≤ 7753 * k * k ∧ 7753 * k * k ≤ 7753 * 1000 * 1000 := by
    refine ⟨Int.mul_nonneg (by omega) hk, Int.mul_le_mul (by omega) hk2 hk (by omega)⟩
  generalize 7753 * k * k = u at h2
  have e3 := Int.emod_nonneg ((c % 2147483647 + u + 41) * 48271) (show (2147483629 : Int) ≠ 0 by decide)
  have e4 := Int.emod_lt_of_pos ((c % 2147483647 + u + 41) * 48271) (show (0 : Int) < 2147483629 by decide)
  refine ⟨by unfold CPow; decide, .inr (.inl ⟨by omega, by omega⟩), by decide, .inl ⟨by decide, by decide⟩, .inr (.inl ⟨by omega, by omega⟩), .inr (.inl ⟨by decide, by decide⟩), by decide, by decide, z _ ⟨_, _, _, rfl, h1, e3, e4, by decide, by decide⟩⟩
inductive Cm where
  | yes | no | name (k : Nat) | neg (c : Cm) | same (a b : Cm) | all (cs : List Cm) | any (cs : List Cm) | least (m : Nat) (cs : List Cm)
mutual
def cD : Cm → D
  | .yes => .tup [.str "yes"]
  | .no => .tup [.str "no"]
  | .name k => .tup [.str "name", .int k]
  | .neg c => .tup [.str "not", cD c]
  | .same a b => .tup [.str "same", cD a, cD b]
  | .all cs => .tup [.str "and", .tup (cDs cs)]
  | .any cs => .tup [.str "or", .tup (cDs cs)]
  | .least m cs => .tup [.str "least", .int m, .tup (cDs cs)]
def cDs : List Cm → List D
  | [] => []
  | c :: cs => cD c :: cDs cs
end
mutual
/-- claims of names less than n, at most d deep -/
def Cm.ok (n : Nat) : Nat → Cm → Prop
  | _, .yes => True
  | _, .no => True
  | _, .name k => k < n
  | d + 1, .neg c => Cm.ok n d c
  | d + 1, .same a b => Cm.ok n d a ∧ Cm.ok n d b
  | d + 1, .all cs => Cm.oks n d cs
  | d + 1, .any cs => Cm.oks n d cs
  | d + 1, .least m cs => m ≤ cs.length + 1 ∧ Cm.oks n d cs
  | 0, _ => False
def Cm.oks (n : Nat) : Nat → List Cm → Prop
  | _, [] => True
  | d, c :: cs => Cm.ok n d c ∧ Cm.oks n d cs
end
mutual
def Cm.sz : Cm → Nat
  | .yes => 1
  | .no => 1
  | .name _ => 1
  | .neg c => c.sz + 1
  | .same a b => a.sz + b.sz + 1
  | .all cs => Cm.szs cs + 1
  | .any cs => Cm.szs cs + 1
  | .least _ cs => Cm.szs cs + 1
def Cm.szs : List Cm → Nat
  | [] => 0
  | c :: cs => c.sz + Cm.szs cs
end
theorem cDs_len : ∀ cs : List Cm, (cDs cs).length = cs.length
  | [] => rfl
  | c :: cs => by simp [cDs, cDs_len cs]
theorem cDs_app : ∀ (a b : List Cm), cDs (a ++ b) = cDs a ++ cDs b
  | [], b => rfl
  | c :: cs, b => by simp [cDs, cDs_app cs b]
theorem szs_app : ∀ (a b : List Cm), Cm.szs (a ++ b) = Cm.szs a + Cm.szs b
  | [], b => by simp [Cm.szs]
  | c :: cs, b => by simp [Cm.szs, szs_app cs b]; omega
theorem oks_app {n d : Nat} : ∀ (a b : List Cm), Cm.oks n d (a ++ b) ↔ Cm.oks n d a ∧ Cm.oks n d b
  | [], b => by simp [Cm.oks]
  | c :: cs, b => by simp [Cm.oks, oks_app cs b, and_assoc]
set_option maxHeartbeats 1000000
def cS : Nat → Nat
  | 0 => 1
  | d + 1 => 1 + 4 * cS d
def cC : Nat → Nat
  | 0 => 3
  | d + 1 => 3 + 4 * cC d
theorem cC_pos : ∀ d, 3 ≤ cC d
  | 0 => by decide
  | d + 1 => by simp only [cC]; omega
theorem cS_pos : ∀ d, 1 ≤ cS d
  | 0 => by decide
  | d + 1 => by simp only [cS]; omega
def sp_claim (d : Nat) : SpD := fun as M Q => ∃ (ds : List D) (n b : Nat), as = [.ref 0, .d (.int n), .d (.int d)] ∧ M = [.lst ds] ∧ Tp b ds ∧ b + cC d < 1099511627776 ∧ n ≤ 99990 ∧
  ∀ (c : Cm) (ds' : List D), c.ok n d → c.sz ≤ cS d → Tp (b + cC d) ds' → Q (.d (cD c)) [.lst ds']
def r_claim (sp__law_take : SpD) (sp__law_claim : SpD) : TS' :=
  (sSeq (sSet 3 (eCall [true, false] sp__law_take (aP [(pV 0), (pC (.int 12))])))
  (sSeq (sIf (cP (bOr (bB (po2 eqD (pV 2) (pC (.int 0)))) (bB (po2 ltD (pV 3) (pC (.int 3))))))
  (sSeq (sSet 5 (eCall [true, false] sp__law_take (aP [(pV 0), (poN maxD [(pC (.int 1)), (pV 1)])])))
  (sRet (eIf (cP (bAn (bB (po2 gtD (pV 1) (pC (.int 0)))) (bB (po2 neD (pV 3) (pC (.int 3)))))) (eP (poTup [(pC (.str "name")), (pV 5)])) (eo2 ixD (eP (pFz (plLst [(poTup [(pC (.str "yes"))]), (poTup [(pC (.str "no"))])]))) (eCall [true, false] sp__law_take (aP [(pV 0), (pC (.int 2))]))))))
  sNil)
  (sSeq (sIf (cP (bB (po2 eqD (pV 3) (pC (.int 3)))))
  (sRet (eo2 ixD (eP (pFz (plLst [(poTup [(pC (.str "yes"))]), (poTup [(pC (.str "no"))]), (poTup [(pC (.str "and")), (poTup [])]), (poTup [(pC (.str "or")), (poTup [])]), (poTup [(pC (.str "least")), (pC (.int 0)), (poTup [])])]))) (eCall [true, false] sp__law_take (aP [(pV 0), (pC (.int 5))]))))
  sNil)
  (sSeq (sIf (cP (bB (po2 eqD (pV 3) (pC (.int 4)))))
  (sRet (tTupE (aCons (eP (pC (.str "not"))) (aCons (eCall [true, false, false] sp__law_claim (aP [(pV 0), (pV 1), (po2 subD (pV 2) (pC (.int 1)))])) (aP [])))))
  sNil)
  (sSeq (sIf (cP (bB (po2 eqD (pV 3) (pC (.int 5)))))
  (sSeq (sSet 6 (eCall [true, false, false] sp__law_claim (aP [(pV 0), (pV 1), (po2 subD (pV 2) (pC (.int 1)))])))
  (sRet (tTupE (aCons (eP (pC (.str "same"))) (aCons (eP (pV 6)) (aCons (eCall [true, false, false] sp__law_claim (aP [(pV 0), (pV 1), (po2 subD (pV 2) (pC (.int 1)))])) (aP [])))))))
  sNil)
  (sSeq (sSet 4 (eo1 tupC (eFz (fLc (iRg true (aCons (eo2 addD (eP (pC (.int 1))) (eCall [true, false] sp__law_take (aP [(pV 0), (pC (.int 4))]))) (aP []))) (.nm 7) tYs (eCall [true, false, false] sp__law_claim (aP [(pV 0), (pV 1), (po2 subD (pV 2) (pC (.int 1)))])) [7]))))
  (sSeq (sIf (cP (bB (po2 gtD (pV 3) (pC (.int 9)))))
  (sRet (tTupE (aCons (eP (pC (.str "least"))) (aCons (eCall [true, false] sp__law_take (aP [(pV 0), (po2 addD (poN lenD [(pV 4)]) (pC (.int 2)))])) (aP [(pV 4)])))))
  sNil)
  (sRet (eP (poTup [(po2 ixD (pFz (plLst [(pC (.str "and")), (pC (.str "or"))])) (po2 modD (pV 3) (pC (.int 2)))), (pV 4)]))))))))))
theorem pure_claim {d : Nat} (as : List Sv) (M : Mem) (Q : Rv → Mem → Prop) (h : spB sp_claim (d + 1) as M Q) : r_claim sp_take (spB sp_claim d) (endsF M.length Q) (startD 8 as) M := by
  obtain ⟨e, he, ds, n, b, rfl, rfl, ht, hb, hn, z⟩ := h
  have hc := cC_pos e
  show r_claim sp_take (spB sp_claim d) (endsF 1 Q) [some (.ref 0), some (.d (.int n)), some (.d (.int e)), none, none, none, none, none] [.lst ds]
  simp only [VLS, r_claim]
  refine ⟨ds, 12, b, rfl, rfl, ht, by omega, by omega, by omega, fun w ds1 w0 w1 t1 => ?_⟩
  simp only [VLS]
  refine ite_two ?_ fun he0 hw3 => ?_
  · refine ⟨ds1, _, b + 1, rfl, rfl, t1, by omega, by split <;> omega, by split <;> omega, fun k ds2 k0 k1 t2 => ?_⟩
    simp only [VLS]
    have two : ∀ (R : Rv → Mem → Prop), (∀ u ds3, 0 ≤ u → u < 2 → Tp (b + 3) ds3 → R (.d (.int u)) [.lst ds3]) → sp_take [.ref 0, .d (.int 2)] [.lst ds2] R := fun R hR =>
      ⟨ds2, 2, b + 2, rfl, rfl, t2, by omega, by decide, by decide, hR⟩
    have leaf : ∀ u ds3, 0 ≤ u → u < 2 → Tp (b + 3) ds3 → ok (atI [D.tup [D.str "yes"], D.tup [D.str "no"]] u) fun d => Q (Rv.d d) [Cell.lst ds3] := fun u ds3 u0 u1 t3 => by
      have hu : u = 0 ∨ u = 1 := by omega
      have hp := cS_pos e
      rcases hu with rfl | rfl
      · simp only [VLS]; exact z .yes ds3 (by cases e <;> trivial) hp (t3.mono (by omega))
      · simp only [VLS]; exact z .no ds3 (by cases e <;> trivial) hp (t3.mono (by omega))
    split
    · rename_i hn0
      split
      · obtain ⟨k, rfl⟩ := Int.eq_ofNat_of_zero_le k0
        refine z (.name k) ds2 ?_ (cS_pos e) (t2.mono (by omega))
        have : k < n := by
          split at k1 <;> omega
        cases e <;> exact this
      · exact two _ fun u ds3 u0 u1 t3 => by simp only [VLS]; exact leaf u ds3 u0 u1 t3
    · exact two _ fun u ds3 u0 u1 t3 => by simp only [VLS]; exact leaf u ds3 u0 u1 t3
  · obtain ⟨e, rfl⟩ : ∃ e', e = e' + 1 := ⟨e - 1, by omega⟩
    have hp := cS_pos e
    have e1 : ((e + 1 : Nat) : Int) - 1 = (e : Int) := by omega
    simp only [cC, cS] at hb hc z ⊢
    rw [e1]
    have rec_ : ∀ (c0 : Nat) (ds2 : List D) (R : Rv → Mem → Prop), Tp c0 ds2 → c0 + cC e < 1099511627776 → (∀ (c : Cm) ds3, c.ok n e → c.sz ≤ cS e → Tp (c0 + cC e) ds3 → R (.d (cD c)) [.lst ds3]) →
        spB sp_claim d [.ref 0, .d (.int n), .d (.int e)] [.lst ds2] R := fun c0 ds2 R t h1 h2 => ⟨e, by omega, ds2, n, c0, rfl, rfl, t, h1, hn, h2⟩
    have h3 := cC_pos e
    split
    · refine ⟨ds1, 5, b + 1, rfl, rfl, t1, by omega, by decide, by decide, fun u ds3 u0 u1 t3 => ?_⟩
      simp only [VLS]
      have hu : u = 0 ∨ u = 1 ∨ u = 2 ∨ u = 3 ∨ u = 4 := by omega
      have t4 := t3.mono (c := b + (3 + 4 * cC e)) (by omega)
      rcases hu with rfl | rfl | rfl | rfl | rfl <;> simp only [VLS]
      · exact z .yes ds3 trivial (by simp only [Cm.sz]; omega) t4
      · exact z .no ds3 trivial (by simp only [Cm.sz]; omega) t4
      · exact z (.all []) ds3 trivial (by simp only [Cm.sz, Cm.szs]; omega) t4
      · exact z (.any []) ds3 trivial (by simp only [Cm.sz, Cm.szs]; omega) t4
      · exact z (.least 0 []) ds3 ⟨by decide, trivial⟩ (by simp only [Cm.sz, Cm.szs]; omega) t4
    split
    · refine rec_ (b + 1) ds1 _ t1 (by omega) fun c ds3 h1 h2 t3 => ?_
      simp only [VLS]
      exact z (.neg c) ds3 h1 (by simp only [Cm.sz]; omega) (t3.mono (by omega))
    split
    · refine rec_ (b + 1) ds1 _ t1 (by omega) fun c ds3 h1 h2 t3 => ?_
      simp only [VLS]
      refine rec_ _ ds3 _ t3 (by omega) fun c' ds4 h1' h2' t4 => ?_
      simp only [VLS]
      exact z (.same c c') ds4 ⟨h1, h1'⟩ (by simp only [Cm.sz]; omega) (t4.mono (by omega))
    · refine ⟨ds1, 4, b + 1, rfl, rfl, t1, by omega, by decide, by decide, fun u ds2 u0 u1 t2 => ?_⟩
      obtain ⟨u, rfl⟩ := Int.eq_ofNat_of_zero_le u0
      have e2 : ((1 : Int) + (u : Int)).toNat = u + 1 := by omega
      simp only [VLS, e2, rgL_len]
      refine ⟨⟨by omega, by omega⟩, fun _ => by rw [sizeLine_eq]; omega, ?_⟩
      refine lc_inv (fun rest acc M => ∃ cs ds3, acc = cDs cs ∧ M = [.lst ds3] ∧ Cm.oks n e cs ∧ Cm.szs cs ≤ cs.length * cS e ∧ cs.length + rest.length = u + 1 ∧ Tp (b + 2 + cs.length * cC e) ds3) ?_ ?_ _ _ _ ⟨[], ds2, rfl, rfl, trivial, by simp [Cm.szs], by simp [rgL_len], by simpa using t2⟩
      · rintro acc M ⟨cs, ds3, rfl, rfl, o3, s3, l3, t3⟩
        simp only [List.length_nil, Nat.add_zero] at l3
        have m1 : cs.length * cS e ≤ 4 * cS e := Nat.mul_le_mul_right _ (by omega)
        have m2 : cs.length * cC e ≤ 4 * cC e := Nat.mul_le_mul_right _ (by omega)
        refine ⟨trivial, ?_⟩
        simp only [VLS]
        split
        · refine ⟨ds3, _, b + 2 + cs.length * cC e, rfl, rfl, t3, by omega, by rw [cDs_len]; omega, by rw [cDs_len]; omega, fun v ds4 v0 v1 t4 => ?_⟩
          obtain ⟨v, rfl⟩ := Int.eq_ofNat_of_zero_le v0
          simp only [VLS]
          rw [cDs_len] at v1
          exact z (.least v cs) ds4 ⟨by omega, o3⟩ (by simp only [Cm.sz]; omega) (t4.mono (by omega))
        · refine ⟨by decide, ?_⟩
          have hw : w % 2 = 0 ∨ w % 2 = 1 := by omega
          rcases hw with hw | hw <;> rw [hw] <;> simp only [VLS]
          · exact z (.all cs) ds3 o3 (by simp only [Cm.sz]; omega) (t3.mono (by omega))
          · exact z (.any cs) ds3 o3 (by simp only [Cm.sz]; omega) (t3.mono (by omega))
      · rintro x rest acc M R ⟨cs, ds3, rfl, rfl, o3, s3, l3, t3⟩ k
        simp only [List.length_cons] at l3
        refine ⟨trivial, ?_⟩
        have m2 : cs.length * cC e ≤ 3 * cC e := Nat.mul_le_mul_right _ (by omega)
        simp only [VLS, e1]
        refine rec_ _ ds3 _ t3 (by omega) fun c ds4 h1 h2 t4 => ?_
        simp only [VLS]
        refine k (cD c) _ ⟨cs ++ [c], ds4, by rw [cDs_app]; rfl, rfl, (oks_app _ _).mpr ⟨o3, h1, trivial⟩, ?_, by simp; omega, ?_⟩
        · rw [szs_app, List.length_append, List.length_singleton, Nat.add_mul]; simp only [Cm.szs]; omega
        · rw [List.length_append, List.length_singleton, Nat.add_mul]; exact t4.mono (by omega)
set_option maxHeartbeats 1000000
theorem take_ok {R : Rv → Mem → Prop} {n : Int} {b : Nat} {ds : List D} (t : Tp b ds) (hb : b < 1099511627776) (h1 : 1 ≤ n) (h2 : n ≤ 99999) (h : ∀ (v : Int) (ds' : List D), 0 ≤ v → v < n → Tp (b + 1) ds' → R (.d (.int v)) [.lst ds']) : sp_take [.ref 0, .d (.int n)] [.lst ds] R :=
  ⟨ds, n, b, rfl, rfl, t, hb, h1, h2, h⟩
set_option maxHeartbeats 1000000
theorem toNat_inj {a b : Char} (h : a.toNat = b.toNat) : a = b := Char.ext (UInt32.toNat_inj.mp h)
theorem ofS_inj {a b : String} : (Str.ofString a = Str.ofString b) = (a = b) := by
  apply propext
  constructor
  · intro h
    rw [Str.ofString_eq_toList, Str.ofString_eq_toList] at h
    have h1 : a.toList.map Char.toNat = b.toList.map Char.toNat := by
      have := congrArg (fun z : Str => z.cps.toList) h
      simpa using this
    have h2 : ∀ (l m : List Char), l.map Char.toNat = m.map Char.toNat → l = m := by
      intro l
      induction l with
      | nil => intro m hm; cases m with | nil => rfl | cons _ _ => cases hm
      | cons x l ih =>
        intro m hm
        cases m with
        | nil => cases hm
        | cons y m =>
          simp only [List.map_cons, List.cons.injEq] at hm
          rw [toNat_inj hm.1, ih m hm.2]
    exact String.toList_inj.mp (h2 _ _ h1)
  · rintro rfl; rfl
theorem in_tup {M : Mem} {s : Str} {ds : List D} : inD M (.d (.str s)) (.d (.tup ds)) = (gd ((atomD (.str s) = true ∧ ds.all atomD = true) ∨ (okE (.str s) = true ∧ isTupD (.d (.tup ds)) = false ∧ okE (.lst ds) = true)) (ds.any fun z => eqvD z (.str s))).map blS := rfl
theorem in_str2 {M : Mem} {s a b : Str} : inD M (.d (.str s)) (.d (.tup [.str a, .str b])) = some (.d (.bl (decide (a = s ∨ b = s)))) := by
  rw [in_tup]
  have h : (atomD (.str s) = true ∧ [D.str a, D.str b].all atomD = true) ∨ (okE (.str s) = true ∧ isTupD (.d (.tup [D.str a, D.str b])) = false ∧ okE (.lst [D.str a, D.str b]) = true) := .inl ⟨rfl, rfl⟩
  rw [gd_pos h]
  simp only [Option.map_some, blS, List.any_cons, List.any_nil, eqvD, Bool.or_false]
  congr 3
  rw [Bool.eq_iff_iff]
  simp [beq_iff_eq]
theorem at_m1_2 {α : Type} {x y : α} : atI [x, y] (-1) = some y := rfl
theorem at_m1_3 {α : Type} {x y z : α} : atI [x, y, z] (-1) = some z := rfl
theorem cut_2 {x y : D} : cutD [x, y] (some 1) none = [y] := rfl
theorem cut_3 {x y z : D} : cutD [x, y, z] (some 1) none = [y, z] := rfl
theorem bls_map {bs : List Bool} : blsOf (bs.map D.bl) = some bs := blsOf_map bs
theorem all_bls {M : Mem} {bs : List Bool} : allD M [.d (.lst (bs.map D.bl))] = some (.d (.bl (bs.all id))) := by
  simp only [allD, lstD, Option.bind_some, bls_map, Option.map_some, blS]
theorem any_bls {M : Mem} {bs : List Bool} : anyD M [.d (.lst (bs.map D.bl))] = some (.d (.bl (bs.any id))) := by
  simp only [anyD, lstD, Option.bind_some, bls_map, Option.map_some, blS]
theorem okE_bl {b : Bool} : okE (.bl b) = true := by cases b <;> rfl
theorem bls_lay : ∀ bs : List Bool, PyData.canLayAll0 (pys (bs.map D.bl)) = true ∧ PyData.depthAll (pys (bs.map D.bl)) = 0 ∧ noRs (bs.map D.bl) = true
  | [] => ⟨rfl, rfl, rfl⟩
  | b :: bs => by
    obtain ⟨h1, h2, h3⟩ := bls_lay bs
    simp only [List.map_cons, pys, py, PyData.canLayAll0, PyData.canLay0, PyData.depthAll, PyData.depth, noRs, noR, h1, h2, h3]
    decide
theorem okE_bls {bs : List Bool} : okE (.lst (bs.map D.bl)) = true := by
  obtain ⟨h1, h2, h3⟩ := bls_lay bs
  unfold okE SeqAt.shaped
  simp only [noR, py, PyData.canLay0, PyData.depth, h1, h2, h3]
  decide
theorem count_bls {M : Mem} {bs : List Bool} {b : Bool} : countD M (.d (.lst (bs.map D.bl))) [.d (.bl b)] = some (.d (.int (bs.count b))) := by
  simp only [countD, lstD, Option.bind_some]
  rw [gd_pos ⟨okE_bl, okE_bls⟩]
  simp only [intS]
  congr 4
  rw [List.countP_map]
  rfl
theorem slD_t {M : Mem} {a : List D} {lo hi : Option Int} : slD M (.d (.tup a)) lo hi = some (.d (.tup (cutD a lo hi))) := rfl
theorem intO_i {i : Int} : intO (.d (.int i)) = some (some i) := rfl
theorem list_t {M : Mem} {a : List D} : listF M [.d (.tup a)] = some a := rfl
theorem list_l {M : Mem} {a : List D} : listF M [.d (.lst a)] = some a := rfl
def bitD (b : Bool) : D := .int (if b then 1 else 0)
def fD (fs : List Bool) : D := .tup (fs.map bitD)
mutual
def Cm.hv (fs : List Bool) : Cm → Bool
  | .yes => true
  | .no => false
  | .name k => fs.getD k false
  | .neg c => !c.hv fs
  | .same a b => a.hv fs == b.hv fs
  | .all cs => (Cm.hvs fs cs).all id
  | .any cs => (Cm.hvs fs cs).any id
  | .least m cs => decide (m ≤ (Cm.hvs fs cs).count true)
def Cm.hvs (fs : List Bool) : List Cm → List Bool
  | [] => []
  | c :: cs => c.hv fs :: Cm.hvs fs cs
end
set_option maxHeartbeats 1000000
def Cm.subs : Cm → List Cm
  | .neg c => [c]
  | .same a b => [a, b]
  | .all cs => cs
  | .any cs => cs
  | .least _ cs => cs
  | _ => []
def c_PLAIN : D := (.tup [(.str "yes"), (.str "no")])
def sp_inner : SpD := fun as M Q => ∃ c : Cm, as = [.d (cD c)] ∧ M = [] ∧ Q (.new (cDs c.subs)) []
def r_inner : TS' :=
  (sSeq (sIf (cP (bOr (bB (po2 inD (po2 ixD (pV 0) (pC (.int 0))) (pC c_PLAIN))) (bB (po2 eqD (po2 ixD (pV 0) (pC (.int 0))) (pC (.str "name"))))))
  (sRet (eNw (fP (plLst []))))
  sNil)
  (sSeq (sIf (cP (bB (po2 inD (po2 ixD (pV 0) (pC (.int 0))) (poTup [(pC (.str "not")), (pC (.str "same"))]))))
  (sRet (eNw (fP (plN listF [(poSl (pV 0) (poI (pC (.int 1))) poNo)]))))
  sNil)
  (sRet (eNw (fP (plN listF [(po2 ixD (pV 0) (po1 negD (pC (.int 1))))]))))))
theorem pure_inner (as : List Sv) (M : Mem) (Q : Rv → Mem → Prop) (h : sp_inner as M Q) : r_inner (endsF M.length Q) (startD 1 as) M := by
  obtain ⟨c, rfl, rfl, z⟩ := h
  show r_inner (endsF 0 Q) [some (.d (cD c))] []
  cases c <;> simp only [sSeq, sIf, sSet, sSub, sRet, sRetN, sNil, sDrop, sAsg, sPar, sParT, sAug, cP, bB, bTr, bNt, bAn, bOr, po1, po2, poN, pArgs, poIf, poAn, poOr, poNt, poTup, plLst, plN, pl2, pl1, pFz, pV, pC, eP, eo1, eo2, eoN, aP, aNil, aCons, eAn, eOr, eNt, eIf, eFz, eNw, fP, fN, f2, f1, tTupE, tLstF, tTr, tTb, tAn, tOrr, tNt, tYs, eSeal, eMt, poMt, mPure, eCh, pCh, ok_bind, ok_map, ok_some, ok_none, ok_gd, ok_ite, List.getElem?_cons_zero, List.getElem?_cons_succ, List.set_cons_zero, List.set_cons_succ, Option.join_some, Option.bind_some, Option.map_some, Option.bind_none, Option.map_none, ix_ref, ix_tup, ix_lst, ix_bor, ix_scr, add_int, add_str, add_tup, sub_int, mul_int, fdiv_int, mod_int, pow_int, neg_int, lt_int, le_int, gt_int, ge_int, eq_int, eq_str, eq_bl, ne_int, ne_str, ne_bl, is_bl, isnt_bl, is_non, isnt_non, len_tup, len_lst, len_ref, len_bor, len_scr, int_bl, int_int, abs_int, min_int, max_int, blD_bl, cell_lst, cellA_lst, cellA_dk, st_ref, at_0, at_1, at_2, at_3, at_4, ixN_10, ixN_20, ixN_21, ixN_30, ixN_31, ixN_32, dataS_d, datas_nil, datas_cons, truth_bl, notD, intS, blS, nonB, List.length_cons, List.length_nil, Nat.reduceAdd, endsF_rt, endsF_nx, rvQ_d, rvQ_new, rvQ_newK, rv_d, rv_ref, rv_cl, rv_ck, okRef_d, okRef_ref, List.not_mem_nil, List.nil_append, true_and, and_true, List.take_succ_cons, List.take_zero, Nat.zero_add, decide_eq_true_eq, Bool.false_eq_true, if_false, if_true, callS, handS_n, handS_tr, handS_fr, handS_fd, handS_fb, cellsAt_c, cellsAt_0, Option.getD_some, backS_0, backS_1, eCall, tup_lst, tup_tup, tup_ref, fLc, iRg, rng_1, rng_2, wipeS_c, wipeS_n, iPq, iSq, seq_tup, seq_lst, seq_bor, lst_lst, lst_bor, gdS_d, gdS_b, sFor, gNm, gcS_c, gcS_n, gcO_d, gcO_n, mapp, rcv_0, rcv_1, rcv_l, gcO_r0, gcO_r1, gcO_z, seal_d, eq_self, List.take_nil, List.cons_append, poSl, poI, poNo, slD_t, intO_i, list_t, list_l, in_str2, ofS_inj, String.reduceEq, or_false, false_or, or_true, true_or, or_self, decide_true, decide_false, Bool.not_true, Bool.not_false, at_m1_2, at_m1_3, cut_2, cut_3, all_bls, any_bls, count_bls, r_inner, c_PLAIN, cD, cDs, Cm.subs] at z ⊢ <;> exact ⟨Nat.zero_le _, z⟩
def sp_holds (d : Nat) : SpD := fun as M Q => ∃ (c : Cm) (fs : List Bool), as = [.d (cD c), .d (fD fs)] ∧ M = [] ∧ c.ok fs.length d ∧ Q (.d (.bl (c.hv fs))) []
def r_holds (sp_inner_claims : SpD) (sp_holds : SpD) : TS' :=
  (sSeq (sSet 2 (eP (po2 ixD (pV 0) (pC (.int 0)))))
  (sSeq (sIf (cP (bB (po2 inD (pV 2) (pC c_PLAIN))))
  (sRet (eP (po2 eqD (pV 2) (pC (.str "yes")))))
  sNil)
  (sSeq (sIf (cP (bB (po2 eqD (pV 2) (pC (.str "name")))))
  (sRet (eP (po2 eqD (po2 ixD (pV 1) (po2 ixD (pV 0) (pC (.int 1)))) (pC (.int 1)))))
  sNil)
  (sSeq (sSet 3 (eFz (fLc (iSq (eSeal 0 (eCall [false] sp_inner_claims (aP [(pV 0)])))) (.nm 4) tYs (eCall [false, false] sp_holds (aP [(pV 4), (pV 1)])) [4])))
  (sSeq (sIf (cP (bB (po2 eqD (pV 2) (pC (.str "not")))))
  (sRet (eP (poNt (po2 ixD (pV 3) (pC (.int 0))))))
  sNil)
  (sSeq (sIf (cP (bB (po2 eqD (pV 2) (pC (.str "same")))))
  (sRet (eP (po2 eqD (po2 ixD (pV 3) (pC (.int 0))) (po2 ixD (pV 3) (pC (.int 1))))))
  sNil)
  (sSeq (sIf (cP (bB (po2 eqD (pV 2) (pC (.str "and")))))
  (sRet (eP (poN allD [(pV 3)])))
  sNil)
  (sSeq (sIf (cP (bB (po2 eqD (pV 2) (pC (.str "or")))))
  (sRet (eP (poN anyD [(pV 3)])))
  sNil)
  (sRet (eP (po2 geD (poMt "list" countD (pV 3) [(pC (.bl true))]) (po2 ixD (pV 0) (pC (.int 1))))))))))))))
theorem dec_beq {a b : Bool} : decide (a = b) = (a == b) := by cases a <;> cases b <;> rfl
theorem dec_le {m k : Nat} : decide ((m : Int) ≤ (k : Int)) = decide (m ≤ k) := by
  rw [Bool.eq_iff_iff]; simp [Int.ofNat_le]
theorem fD_at {fs : List Bool} {k : Nat} (h : k < fs.length) {M : Mem} : ixD M (.d (fD fs)) (.d (.int k)) = some (.d (bitD (fs.getD k false))) := by
  simp only [fD, ix_tup, at_nat, List.getElem?_map, List.getElem?_eq_getElem h, Option.map_some, List.getD_eq_getElem?_getD, Option.getD_some]
theorem bit_one {b : Bool} {M : Mem} : eqD M (.d (bitD b)) (.d (.int 1)) = some (.d (.bl b)) := by
  cases b <;> rfl
/-- the claims in a claim, held each -/
theorem lc_holds {fs : List Bool} {d n i : Nat} {te : TE'} {δw : DS} {gd : Mem → Prop} {Q : List D → Mem → Prop} {M0 : Mem} (hg : gd M0) (h : ∀ (c : Cm) (R : QD), c.ok n d → R (.d (.bl (c.hv fs))) M0 → te (δw.set i (some (.d (cD c)))) M0 R) :
    ∀ (cs : List Cm) (acc : List Bool), Cm.oks n d cs → Q ((acc ++ Cm.hvs fs cs).map D.bl) M0 → lcL (LcG.nm i).to tYs te δw gd Q (cDs cs) (acc.map D.bl) M0
  | [], acc, _, q => ⟨hg, by simpa [Cm.hvs] using q⟩
  | c :: cs, acc, o, q => by
    refine ⟨hg, h c _ o.1 ?_⟩
    have := lc_holds (Q := Q) hg h cs (acc ++ [c.hv fs]) o.2 (by simpa [Cm.hvs] using q)
    rw [List.map_append] at this
    exact this
theorem subs_ok {n d : Nat} {c : Cm} (h : c.ok n (d + 1)) : Cm.oks n d c.subs := by
  cases c <;> first | trivial | exact ⟨h, trivial⟩ | exact ⟨h.1, h.2, trivial⟩ | exact h | exact h.2
theorem seal_r {m0 n : Nat} {M : Mem} : sealD m0 M (.ref n) = if m0 ≤ n then (cellL M[n]?).map fun ds => (.d (.lst ds), M.set n .gone) else none := rfl
local macro_rules
  | `(tactic| simp only [VLT]) => `(tactic| simp only [sSeq, sIf, sSet, sSub, sRet, sRetN, sNil, sDrop, sAsg, sPar, sParT, sAug, cP, bB, bTr, bNt, bAn, bOr, po1, po2, poN, pArgs, poIf, poAn, poOr, poNt, poTup, plLst, plN, pl2, pl1, pFz, pV, pC, eP, eo1, eo2, eoN, aP, aNil, aCons, eAn, eOr, eNt, eIf, eFz, eNw, fP, fN, f2, f1, tTupE, tLstF, tTr, tTb, tAn, tOrr, tNt, tYs, eSeal, eMt, poMt, mPure, eCh, pCh, ok_bind, ok_map, ok_some, ok_none, ok_gd, ok_ite, List.getElem?_cons_zero, List.getElem?_cons_succ, List.set_cons_zero, List.set_cons_succ, Option.join_some, Option.bind_some, Option.map_some, Option.bind_none, Option.map_none, ix_ref, ix_tup, ix_lst, ix_bor, ix_scr, add_int, add_str, add_tup, sub_int, mul_int, fdiv_int, mod_int, pow_int, neg_int, lt_int, le_int, gt_int, ge_int, eq_int, eq_str, eq_bl, ne_int, ne_str, ne_bl, is_bl, isnt_bl, is_non, isnt_non, len_tup, len_lst, len_ref, len_bor, len_scr, int_bl, int_int, abs_int, min_int, max_int, blD_bl, cell_lst, cellA_lst, cellA_dk, st_ref, at_0, at_1, at_2, at_3, at_4, ixN_10, ixN_20, ixN_21, ixN_30, ixN_31, ixN_32, dataS_d, datas_nil, datas_cons, truth_bl, notD, intS, blS, nonB, List.length_cons, List.length_nil, Nat.reduceAdd, endsF_rt, endsF_nx, rvQ_d, rvQ_new, rvQ_newK, rv_d, rv_ref, rv_cl, rv_ck, okRef_d, okRef_ref, List.not_mem_nil, List.nil_append, true_and, and_true, List.take_succ_cons, List.take_zero, Nat.zero_add, decide_eq_true_eq, Bool.false_eq_true, if_false, if_true, callS, handS_n, handS_tr, handS_fr, handS_fd, handS_fb, cellsAt_c, cellsAt_0, Option.getD_some, backS_0, backS_1, eCall, tup_lst, tup_tup, tup_ref, fLc, iRg, rng_1, rng_2, wipeS_c, wipeS_n, iPq, iSq, seq_tup, seq_lst, seq_bor, lst_lst, lst_bor, gdS_d, gdS_b, sFor, gNm, gcS_c, gcS_n, gcO_d, gcO_n, mapp, rcv_0, rcv_1, rcv_l, gcO_r0, gcO_r1, gcO_z, seal_d, eq_self, List.take_nil, List.cons_append, poSl, poI, poNo, slD_t, intO_i, list_t, list_l, in_str2, ofS_inj, String.reduceEq, or_false, false_or, or_true, true_or, or_self, decide_true, decide_false, Bool.not_true, Bool.not_false, at_m1_2, at_m1_3, cut_2, cut_3, all_bls, any_bls, count_bls])
  | `(tactic| simp only [VLT, $xs,*]) => `(tactic| simp only [sSeq, sIf, sSet, sSub, sRet, sRetN, sNil, sDrop, sAsg, sPar, sParT, sAug, cP, bB, bTr, bNt, bAn, bOr, po1, po2, poN, pArgs, poIf, poAn, poOr, poNt, poTup, plLst, plN, pl2, pl1, pFz, pV, pC, eP, eo1, eo2, eoN, aP, aNil, aCons, eAn, eOr, eNt, eIf, eFz, eNw, fP, fN, f2, f1, tTupE, tLstF, tTr, tTb, tAn, tOrr, tNt, tYs, eSeal, eMt, poMt, mPure, eCh, pCh, ok_bind, ok_map, ok_some, ok_none, ok_gd, ok_ite, List.getElem?_cons_zero, List.getElem?_cons_succ, List.set_cons_zero, List.set_cons_succ, Option.join_some, Option.bind_some, Option.map_some, Option.bind_none, Option.map_none, ix_ref, ix_tup, ix_lst, ix_bor, ix_scr, add_int, add_str, add_tup, sub_int, mul_int, fdiv_int, mod_int, pow_int, neg_int, lt_int, le_int, gt_int, ge_int, eq_int, eq_str, eq_bl, ne_int, ne_str, ne_bl, is_bl, isnt_bl, is_non, isnt_non, len_tup, len_lst, len_ref, len_bor, len_scr, int_bl, int_int, abs_int, min_int, max_int, blD_bl, cell_lst, cellA_lst, cellA_dk, st_ref, at_0, at_1, at_2, at_3, at_4, ixN_10, ixN_20, ixN_21, ixN_30, ixN_31, ixN_32, dataS_d, datas_nil, datas_cons, truth_bl, notD, intS, blS, nonB, List.length_cons, List.length_nil, Nat.reduceAdd, endsF_rt, endsF_nx, rvQ_d, rvQ_new, rvQ_newK, rv_d, rv_ref, rv_cl, rv_ck, okRef_d, okRef_ref, List.not_mem_nil, List.nil_append, true_and, and_true, List.take_succ_cons, List.take_zero, Nat.zero_add, decide_eq_true_eq, Bool.false_eq_true, if_false, if_true, callS, handS_n, handS_tr, handS_fr, handS_fd, handS_fb, cellsAt_c, cellsAt_0, Option.getD_some, backS_0, backS_1, eCall, tup_lst, tup_tup, tup_ref, fLc, iRg, rng_1, rng_2, wipeS_c, wipeS_n, iPq, iSq, seq_tup, seq_lst, seq_bor, lst_lst, lst_bor, gdS_d, gdS_b, sFor, gNm, gcS_c, gcS_n, gcO_d, gcO_n, mapp, rcv_0, rcv_1, rcv_l, gcO_r0, gcO_r1, gcO_z, seal_d, eq_self, List.take_nil, List.cons_append, poSl, poI, poNo, slD_t, intO_i, list_t, list_l, in_str2, ofS_inj, String.reduceEq, or_false, false_or, or_true, true_or, or_self, decide_true, decide_false, Bool.not_true, Bool.not_false, at_m1_2, at_m1_3, cut_2, cut_3, all_bls, any_bls, count_bls, $xs,*])
theorem pure_holds {d : Nat} (as : List Sv) (M : Mem) (Q : Rv → Mem → Prop) (h : spB sp_holds (d + 1) as M Q) : r_holds sp_inner (spB sp_holds d) (endsF M.length Q) (startD 5 as) M := by
  obtain ⟨e, he, c, fs, rfl, rfl, o, z⟩ := h
  show r_holds sp_inner (spB sp_holds d) (endsF 0 Q) [some (.d (cD c)), some (.d (fD fs)), none, none, none] []
  cases c with
  | yes => simp only [VLT, r_holds, c_PLAIN, cD]; exact z
  | no => simp only [VLT, r_holds, c_PLAIN, cD]; exact z
  | name k =>
    have hk : k < fs.length := by cases e <;> exact o
    simp only [VLT, r_holds, c_PLAIN, cD, fD_at hk, bit_one]
    exact z
  | neg c =>
    obtain ⟨e, rfl⟩ : ∃ e', e = e' + 1 := by
      cases e with
      | zero => exact o.elim
      | succ e => exact ⟨e, rfl⟩
    simp only [VLT, r_holds, c_PLAIN, cD]
    refine ⟨.neg c, rfl, rfl, ?_⟩
    simp only [VLT, seal_r, Nat.le_refl]
    refine lc_holds (acc := []) (M0 := [.gone]) trivial (fun c' R' o' hR' => by
      simp only [VLT]
      exact ⟨e, by omega, c', fs, rfl, rfl, o', by simp only [VLT]; exact hR'⟩) (Cm.neg c).subs (subs_ok o) ?_
    simp only [Cm.hv] at z
    simp only [VLT, Cm.subs, Cm.hvs, List.map_cons, List.map_nil, gdT]
    exact z
  | same c1 c2 =>
    obtain ⟨e, rfl⟩ : ∃ e', e = e' + 1 := by
      cases e with
      | zero => exact o.elim
      | succ e => exact ⟨e, rfl⟩
    simp only [VLT, r_holds, c_PLAIN, cD]
    refine ⟨.same c1 c2, rfl, rfl, ?_⟩
    simp only [VLT, seal_r, Nat.le_refl]
    refine lc_holds (acc := []) (M0 := [.gone]) trivial (fun c' R' o' hR' => by
      simp only [VLT]
      exact ⟨e, by omega, c', fs, rfl, rfl, o', by simp only [VLT]; exact hR'⟩) (Cm.same c1 c2).subs (subs_ok o) ?_
    simp only [Cm.hv] at z
    simp only [VLT, Cm.subs, Cm.hvs, List.map_cons, List.map_nil, gdT]
    rw [dec_beq]; exact z
  | all cs =>
    obtain ⟨e, rfl⟩ : ∃ e', e = e' + 1 := by
      cases e with
      | zero => exact o.elim
      | succ e => exact ⟨e, rfl⟩
    simp only [VLT, r_holds, c_PLAIN, cD]
    refine ⟨.all cs, rfl, rfl, ?_⟩
    simp only [VLT, seal_r, Nat.le_refl]
    refine lc_holds (acc := []) (M0 := [.gone]) trivial (fun c' R' o' hR' => by
      simp only [VLT]
      exact ⟨e, by omega, c', fs, rfl, rfl, o', by simp only [VLT]; exact hR'⟩) (Cm.all cs).subs (subs_ok o) ?_
    simp only [Cm.hv] at z
    simp only [VLT, Cm.subs, Cm.hvs, List.map_cons, List.map_nil, gdT]
    exact z
  | any cs =>
    obtain ⟨e, rfl⟩ : ∃ e', e = e' + 1 := by
      cases e with
      | zero => exact o.elim
      | succ e => exact ⟨e, rfl⟩
    simp only [VLT, r_holds, c_PLAIN, cD]
    refine ⟨.any cs, rfl, rfl, ?_⟩
    simp only [VLT, seal_r, Nat.le_refl]
    refine lc_holds (acc := []) (M0 := [.gone]) trivial (fun c' R' o' hR' => by
      simp only [VLT]
      exact ⟨e, by omega, c', fs, rfl, rfl, o', by simp only [VLT]; exact hR'⟩) (Cm.any cs).subs (subs_ok o) ?_
    simp only [Cm.hv] at z
    simp only [VLT, Cm.subs, Cm.hvs, List.map_cons, List.map_nil, gdT]
    exact z
  | least m cs =>
    obtain ⟨e, rfl⟩ : ∃ e', e = e' + 1 := by
      cases e with
      | zero => exact o.elim
      | succ e => exact ⟨e, rfl⟩
    simp only [VLT, r_holds, c_PLAIN, cD]
    refine ⟨.least m cs, rfl, rfl, ?_⟩
    simp only [VLT, seal_r, Nat.le_refl]
    refine lc_holds (acc := []) (M0 := [.gone]) trivial (fun c' R' o' hR' => by
      simp only [VLT]
      exact ⟨e, by omega, c', fs, rfl, rfl, o', by simp only [VLT]; exact hR'⟩) (Cm.least m cs).subs (subs_ok o) ?_
    simp only [Cm.hv] at z
    simp only [VLT, Cm.subs, Cm.hvs, List.map_cons, List.map_nil, gdT]
    rw [dec_le]; exact z
def r_lholds (sp__law_holds : SpD) : TS' :=
  (sSeq (sSet 2 (eP (po2 ixD (pV 0) (pC (.int 0)))))
  (sSeq (sIf (cP (bB (po2 inD (pV 2) (poTup [(pC (.str "yes")), (pC (.str "no"))]))))
  (sRet (eP (po2 eqD (pV 2) (pC (.str "yes")))))
  sNil)
  (sSeq (sIf (cP (bB (po2 eqD (pV 2) (pC (.str "name")))))
  (sRet (eP (po2 eqD (po2 ixD (pV 1) (po2 ixD (pV 0) (pC (.int 1)))) (pC (.int 1)))))
  sNil)
  (sSeq (sIf (cP (bB (po2 eqD (pV 2) (pC (.str "not")))))
  (sRet (eNt (eCall [false, false] sp__law_holds (aP [(po2 ixD (pV 0) (pC (.int 1))), (pV 1)]))))
  sNil)
  (sSeq (sIf (cP (bB (po2 eqD (pV 2) (pC (.str "same")))))
  (sRet (eo2 eqD (eCall [false, false] sp__law_holds (aP [(po2 ixD (pV 0) (pC (.int 1))), (pV 1)])) (eCall [false, false] sp__law_holds (aP [(po2 ixD (pV 0) (pC (.int 2))), (pV 1)]))))
  sNil)
  (sSeq (sSet 3 (eFz (fLc (iPq (po2 ixD (pV 0) (po1 negD (pC (.int 1))))) (.nm 4) tYs (eCall [false, false] sp__law_holds (aP [(pV 4), (pV 1)])) [4])))
  (sSeq (sIf (cP (bB (po2 eqD (pV 2) (pC (.str "least")))))
  (sRet (eP (po2 geD (poMt "list" countD (pV 3) [(pC (.bl true))]) (po2 ixD (pV 0) (pC (.int 1))))))
  sNil)
  (sRet (eP (poIf (bB (po2 eqD (pV 2) (pC (.str "and")))) (poN allD [(pV 3)]) (poN anyD [(pV 3)])))))))))))
theorem pure_lholds {d : Nat} (as : List Sv) (M : Mem) (Q : Rv → Mem → Prop) (h : spB sp_holds (d + 1) as M Q) : r_lholds (spB sp_holds d) (endsF M.length Q) (startD 5 as) M := by
  obtain ⟨e, he, c, fs, rfl, rfl, o, z⟩ := h
  show r_lholds (spB sp_holds d) (endsF 0 Q) [some (.d (cD c)), some (.d (fD fs)), none, none, none] []
  cases c with
  | yes => simp only [VLT, r_lholds, cD]; exact z
  | no => simp only [VLT, r_lholds, cD]; exact z
  | name k =>
    have hk : k < fs.length := by cases e <;> exact o
    simp only [VLT, r_lholds, cD, fD_at hk, bit_one]
    exact z
  | neg c =>
    obtain ⟨e, rfl⟩ : ∃ e', e = e' + 1 := by
      cases e with
      | zero => exact o.elim
      | succ e => exact ⟨e, rfl⟩
    simp only [VLT, r_lholds, cD]
    simp only [Cm.hv] at z
    refine ⟨e, by omega, c, fs, rfl, rfl, o, ?_⟩
    simp only [VLT]
    exact z
  | same c1 c2 =>
    obtain ⟨e, rfl⟩ : ∃ e', e = e' + 1 := by
      cases e with
      | zero => exact o.elim
      | succ e => exact ⟨e, rfl⟩
    simp only [VLT, r_lholds, cD]
    simp only [Cm.hv] at z
    refine ⟨e, by omega, c1, fs, rfl, rfl, o.1, ?_⟩
    simp only [VLT]
    refine ⟨e, by omega, c2, fs, rfl, rfl, o.2, ?_⟩
    simp only [VLT]
    rw [dec_beq]
    exact z
  | all cs =>
    obtain ⟨e, rfl⟩ : ∃ e', e = e' + 1 := by
      cases e with
      | zero => exact o.elim
      | succ e => exact ⟨e, rfl⟩
    simp only [VLT, r_lholds, cD]
    simp only [Cm.hv] at z
    refine lc_holds (acc := []) (M0 := []) trivial (fun c' R' o' hR' => by
      simp only [VLT]
      exact ⟨e, by omega, c', fs, rfl, rfl, o', by simp only [VLT]; exact hR'⟩) cs (o) ?_
    simp only [VLT, List.map_cons, List.map_nil, gdT]
    exact z
  | any cs =>
    obtain ⟨e, rfl⟩ : ∃ e', e = e' + 1 := by
      cases e with
      | zero => exact o.elim
      | succ e => exact ⟨e, rfl⟩
    simp only [VLT, r_lholds, cD]
    simp only [Cm.hv] at z
    refine lc_holds (acc := []) (M0 := []) trivial (fun c' R' o' hR' => by
      simp only [VLT]
      exact ⟨e, by omega, c', fs, rfl, rfl, o', by simp only [VLT]; exact hR'⟩) cs (o) ?_
    simp only [VLT, List.map_cons, List.map_nil, gdT]
    exact z
  | least m cs =>
    obtain ⟨e, rfl⟩ : ∃ e', e = e' + 1 := by
      cases e with
      | zero => exact o.elim
      | succ e => exact ⟨e, rfl⟩
    simp only [VLT, r_lholds, cD]
    simp only [Cm.hv] at z
    refine lc_holds (acc := []) (M0 := []) trivial (fun c' R' o' hR' => by
      simp only [VLT]
      exact ⟨e, by omega, c', fs, rfl, rfl, o', by simp only [VLT]; exact hR'⟩) cs (o.2) ?_
    simp only [VLT, List.map_cons, List.map_nil, gdT]
    rw [dec_le]; exact z
set_option maxHeartbeats 1000000
structure Pl (w dp : Nat) (d : D) : Prop where
  no : noR d = true
  sh : (py d).leavesShort 40 = true
  la : (py d).canLay0 = true
  sw : (py d).showable = true
  we : (py d).weight ≤ w
  de : (py d).depth ≤ dp
structure Pls (w dp : Nat) (d : List D) : Prop where
  no : noRs d = true
  sh : PyData.leavesShortAll 40 (pys d) = true
  la : PyData.canLayAll0 (pys d) = true
  sw : PyData.showableAll (pys d) = true
  we : PyData.weightAll (pys d) ≤ w
  de : PyData.depthAll (pys d) ≤ dp
theorem Pl.mono {w dp w' dp' : Nat} {d : D} (h : Pl w dp d) (h1 : w ≤ w') (h2 : dp ≤ dp') : Pl w' dp' d := ⟨h.no, h.sh, h.la, h.sw, Nat.le_trans h.we h1, Nat.le_trans h.de h2⟩
theorem Pls.mono {w dp w' dp' : Nat} {d : List D} (h : Pls w dp d) (h1 : w ≤ w') (h2 : dp ≤ dp') : Pls w' dp' d := ⟨h.no, h.sh, h.la, h.sw, Nat.le_trans h.we h1, Nat.le_trans h.de h2⟩
theorem Pl.int {i : Int} (h : i.natAbs < 10 ^ 39) : Pl 140 0 (.int i) := by
  have h2 : i.natAbs < 2 ^ 130 := Nat.lt_trans h (by decide)
  have hl : i.natAbs ≠ 0 → i.natAbs.log2 < 130 := fun h0 => (Nat.log2_lt h0).mpr h2
  have hl2 : i.natAbs.log2 < 130 := by
    by_cases h0 : i.natAbs = 0
    · rw [h0]; decide
    · exact hl h0
  refine ⟨rfl, ?_, rfl, ?_, ?_, Nat.le_refl _⟩
  · show decide ((PyData.shown (.int i)).length ≤ 40) = true
    have e := int_text_length_le10 (k := 39) (by decide) h
    have : (Str.ofString (toString i)).length ≤ 40 := by rw [ofString_length]; exact e
    exact decide_eq_true this
  · show decide (i.natAbs.log2 < 1920) = true
    exact decide_eq_true (by omega)
  · show (if i == 0 then 0 else i.natAbs.log2 + 1) ≤ 140
    split <;> omega
theorem Pl.str {s : Str} {n : Nat} (h : (PyData.canLay0 (.str s) && s.cps.toList.all (fun c => decide (c < 16 ^ 8)) && decide (s.cps.size ≤ n)) = true) : Pl n 0 (.str s) := by
  simp only [Bool.and_eq_true, decide_eq_true_eq] at h
  exact ⟨rfl, h.1.2, h.1.1, rfl, h.2, Nat.le_refl _⟩
theorem Pl.bl {b : Bool} : Pl 0 0 (.bl b) := ⟨rfl, rfl, rfl, rfl, Nat.le_refl _, Nat.le_refl _⟩
theorem Pl.non : Pl 0 0 .non := ⟨rfl, rfl, rfl, rfl, Nat.le_refl _, Nat.le_refl _⟩
theorem Pls.nil {dp : Nat} : Pls 0 dp [] := ⟨rfl, rfl, rfl, rfl, Nat.le_refl _, Nat.zero_le _⟩
theorem Pls.cons {w1 w2 dp : Nat} {d : D} {ds : List D} (h : Pl w1 dp d) (h2 : Pls w2 dp ds) : Pls (w1 + 1 + w2) dp (d :: ds) := by
  refine ⟨?_, ?_, ?_, ?_, ?_, ?_⟩
  · simp only [noRs, h.no, h2.no]; rfl
  · simp only [pys, PyData.leavesShortAll, h.sh, h2.sh]; rfl
  · simp only [pys, PyData.canLayAll0, h.la, h2.la]; rfl
  · simp only [pys, PyData.showableAll, h.sw, h2.sw]; rfl
  · simp only [pys, PyData.weightAll]; have := h.we; have := h2.we; omega
  · simp only [pys, PyData.depthAll]; have := h.de; have := h2.de; omega
theorem Pl.tup {w dp : Nat} {ds : List D} (h : Pls w dp ds) : Pl w (dp + 1) (.tup ds) := by
  refine ⟨h.no, ?_, ?_, ?_, ?_, ?_⟩
  · simp only [py, PyData.leavesShort]; exact h.sh
  · simp only [py, PyData.canLay0]; exact h.la
  · simp only [py, PyData.showable]; exact h.sw
  · simp only [py, PyData.weight]; exact h.we
  · simp only [py, PyData.depth]; have := h.de; omega
theorem Pl.lst {w dp : Nat} {ds : List D} (h : Pls w dp ds) : Pl w (dp + 1) (.lst ds) := by
  refine ⟨h.no, ?_, ?_, ?_, ?_, ?_⟩
  · simp only [py, PyData.leavesShort]; exact h.sh
  · simp only [py, PyData.canLay0]; exact h.la
  · simp only [py, PyData.showable]; exact h.sw
  · simp only [py, PyData.weight]; exact h.we
  · simp only [py, PyData.depth]; have := h.de; omega
set_option maxHeartbeats 1000000
def afs : Nat → List (List Bool)
  | 0 => [[]]
  | k + 1 => (afs k).map (false :: ·) ++ (afs k).map (true :: ·)
theorem afs_len : ∀ k, (afs k).length = 2 ^ k
  | 0 => rfl
  | k + 1 => by simp only [afs, List.length_append, List.length_map, afs_len k]; omega
theorem afs_mem : ∀ (k : Nat) (f : List Bool), f ∈ afs k → f.length = k
  | 0, f, h => by simp only [afs, List.mem_singleton] at h; subst h; rfl
  | k + 1, f, h => by
    simp only [afs, List.mem_append, List.mem_map] at h
    rcases h with ⟨g, hg, rfl⟩ | ⟨g, hg, rfl⟩ <;> simp [afs_mem k g hg]
theorem cat_l {M : Mem} {a b : List D} : catF M (.d (.lst a)) (.d (.lst b)) = gd (a.length + b.length ≤ sizeLine) (a ++ b) := rfl
def sp_afs : SpD := fun as M Q => ∃ n : Nat, as = [.d (.int n)] ∧ M = [] ∧ n ≤ 12 ∧ Q (.d (.lst ((afs n).map fD))) []
def r_afs : TS' :=
  (sSeq (sSet 1 (eP (pFz (plLst [(poTup [])]))))
  (sSeq (sFor (iRg false (aP [(pV 0)])) (gNm 2)
  (sSet 1 (eFz (f2 catF (eFz (fLc (iPq (pV 1)) (.nm 3) tYs (eP (po2 addD (poTup [(pC (.int 0))]) (pV 3))) [3])) (eFz (fLc (iPq (pV 1)) (.nm 3) tYs (eP (po2 addD (poTup [(pC (.int 1))]) (pV 3))) [3]))))))
  (sRet (eP (pV 1)))))
def pre (x : D) : D → D
  | .tup ds => .tup (x :: ds)
  | d => d
theorem pre_fD {b : Bool} {k : Nat} : ((afs k).map fD).map (pre (bitD b)) = ((afs k).map (b :: ·)).map fD := by
  rw [List.map_map, List.map_map]; rfl
theorem pure_afs (as : List Sv) (M : Mem) (Q : Rv → Mem → Prop) (h : sp_afs as M Q) : r_afs (endsF M.length Q) (startD 4 as) M := by
  obtain ⟨n, rfl, rfl, hn, z⟩ := h
  show r_afs (endsF 0 Q) [some (.d (.int n)), none, none, none] []
  simp only [VLT, r_afs]
  refine ⟨⟨by omega, by omega⟩, fun h => h.elim, ?_⟩
  rw [Int.toNat_natCast]
  refine for_inv (fun rest δ M => ∃ j o2, δ = [some (.d (.int n)), some (.d (.lst ((afs j).map fD))), o2, none] ∧ M = [] ∧ j + rest.length = n) ?_ ?_ _ _ _ ⟨0, none, rfl, rfl, by simp [rgL_len]⟩
  · rintro δ M ⟨j, o2, rfl, rfl, hj⟩
    simp only [List.length_nil, Nat.add_zero] at hj
    subst hj
    refine ⟨trivial, ?_⟩
    simp only [VLT]
    exact z
  · rintro x rest δ M nx ⟨j, o2, rfl, rfl, hj⟩ k
    simp only [List.length_cons] at hj
    have hl : ((afs j).map fD).length ≤ 4096 := by
      rw [List.length_map, afs_len]
      exact Nat.pow_le_pow_right (n := 2) (by decide) (show j ≤ 12 by omega)
    have step : ∀ (b : Bool), ∀ d ∈ (afs j).map fD, ∀ R : QD, R (.d (pre (bitD b) d)) [] → ok (addD [] (.d (.tup [bitD b])) (.d d)) fun v => R v [] := fun b d hd R hR => by
      obtain ⟨f, hf, rfl⟩ := List.mem_map.mp hd
      have := afs_mem j f hf
      show ok (addD [] (.d (.tup [bitD b])) (.d (.tup (f.map bitD)))) _
      rw [add_tup, ok_gd]
      exact ⟨by rw [sizeLine_eq]; simp; omega, hR⟩
    refine ⟨trivial, ?_⟩
    simp only [VLT]
    refine lc_map (f := pre (bitD false)) trivial (fun d hd R hR => by simp only [VLT]; exact step false d hd R hR) ?_
    refine lc_map (f := pre (bitD true)) trivial (fun d hd R hR => by simp only [VLT]; exact step true d hd R hR) ?_
    simp only [VLT, cat_l]
    rw [pre_fD, pre_fD]
    refine ⟨by rw [List.length_map, List.length_map, List.length_map, List.length_map, sizeLine_eq]; rw [List.length_map] at hl; omega, ?_⟩
    refine k _ _ ⟨j + 1, some (.d x), ?_, rfl, by omega⟩
    simp only [VLT, afs, List.map_append]
def sp_many : SpD := fun as M Q => ∃ (ds : List D) (b : Nat), as = [.ref 0] ∧ M = [.lst ds] ∧ Tp b ds ∧ b + 10 < 1099511627776 ∧ ∀ (v : Nat) ds', v ≤ 8 → Tp (b + 3) ds' → Q (.d (.int v)) [.lst ds']
def r_many (sp__law_take : SpD) : TS' :=
  (sSeq (sSet 1 (eo2 eqD (eCall [true, false] sp__law_take (aP [(pV 0), (pC (.int 8))])) (eP (pC (.int 0)))))
  (sRet (eIf (cP (bTr (pV 1))) (eo2 addD (eP (pC (.int 7))) (eCall [true, false] sp__law_take (aP [(pV 0), (pC (.int 2))]))) (eCall [true, false] sp__law_take (aP [(pV 0), (pC (.int 7))])))))
theorem pure_many (as : List Sv) (M : Mem) (Q : Rv → Mem → Prop) (h : sp_many as M Q) : r_many sp_take (endsF M.length Q) (startD 2 as) M := by
  obtain ⟨ds, b, rfl, rfl, ht, hb, z⟩ := h
  show r_many sp_take (endsF 1 Q) [some (.ref 0), none] [.lst ds]
  simp only [VLT, r_many]
  refine take_ok ht (by omega) (by decide) (by decide) fun v ds1 v0 v1 t1 => ?_
  simp only [VLT]
  split
  · refine take_ok t1 (by omega) (by decide) (by decide) fun v ds1 v0 v1 t1 => ?_
    obtain ⟨v, rfl⟩ := Int.eq_ofNat_of_zero_le v0
    simp only [VLT]
    exact z (7 + v) ds1 (by omega) (t1.mono (by omega))
  · refine take_ok t1 (by omega) (by decide) (by decide) fun v ds1 v0 v1 t1 => ?_
    obtain ⟨v, rfl⟩ := Int.eq_ofNat_of_zero_le v0
    simp only [VLT]
    exact z v ds1 (by omega) (t1.mono (by omega))
theorem repr_d {M : Mem} {x : D} : reprD M [.d x] = gd (okR x = true) (.d (.str (PyData.shown (py x)))) := rfl
set_option maxHeartbeats 1000000
def sp_law : SpD := fun as M Q => ∃ ns : List Int, as = [.d (.scr ns)] ∧ M = [] ∧ ns.length ≤ 63 ∧ Q (.d (.bl true)) []
theorem all_true' {M : Mem} {l : List D} : allD M [.d (.lst (l.map fun _ => D.bl true))] = some (.d (.bl true)) := by
  have e : (l.map fun _ => D.bl true) = (l.map fun _ => true).map D.bl := by rw [List.map_map]; rfl
  rw [e, all_bls]
  simp
end VL
set_option Elab.async false
set_option linter.all false
set_option maxRecDepth 100000
set_option maxHeartbeats 400000
namespace VL
open PySem PySem.Spec PyProof.Rows L2
theorem Ca.imp {P : Program} {w : World} {K : PySem.W.Frag} {mg : Str → Option Value} {base : Heap} {k n : Nat} {x : Str} {sp sp' : SpD} (c : Ca P w K mg base k x n sp) (h : ∀ as M Q, sp' as M Q → sp as M Q) : Ca P w K mg base k x n sp' := by
  obtain ⟨f, fd, ps, F, hm, kp, b⟩ := c.ex
  have up : ∀ vs H Q E, lP K n sp' vs H Q E → lP K n sp vs H Q E := fun vs H Q E ⟨as, M, i0, B, Q0, a1, a2, a3, a4, a5, a6⟩ => ⟨as, M, i0, B, Q0, a1, a2, a3, a4, h _ _ _ a5, a6⟩
  exact ⟨f, fd, ps, ⟨fun vs H Q E q => F.len vs H Q E (up _ _ _ _ q), fun A outer s H args us vs Q E hr he hb hv hs => F.run A outer s H args us vs Q E hr he hb hv (up _ _ _ _ hs)⟩, hm, kp, b⟩
theorem fg_of {P : Program} {w : World} {K : PySem.W.Frag} {mg : Str → Option Value} {base : Heap} {x qual : Str} {params : Arguments} {body : List Stmt} {scope : Scope} {f : Addr} {fd : FuncData} {Ns ps : List Str} {k m0 : Nat} {sp : SpD} {t : TS'}
    (F : FunD K x qual params body scope [] [] f fd) (S : FnScope Ns ps scope) (hm0 : ∀ as M Q0, sp as M Q0 → M.length = m0)
    (hb : ∀ (cdv : Value) (A : Around) (outer : List Env) (s : Shared) (H : Hp) (E : XK) (G : Gd), RoomG k (A.deeper (PyProof.Rows.envOfC qual scope s.heap.objs.size f cdv)) → G.i0.length = m0 → VSs (cxOf C8.CX0 P w K mg base Ns qual scope f cdv A outer s H E).nox G body t)
    (hp : ∀ as M Q0, as.length = ps.length → sp as M Q0 → t (endsF M.length Q0) (startD Ns.length as) M) : FnG P w K mg base C8.CX0 (k + 1) f fd ps (lP K ps.length sp) := by
  refine fn_g F S (fun vs H Q E ⟨as, M, i0, B, Q0, hn, hB, ra, h⟩ => by rw [← ra.length, hn]) fun cdv A outer s H vs Q E hr h => ?_
  obtain ⟨t', h1, h2⟩ := body_ok (X := (cxOf C8.CX0 P w K mg base Ns qual scope f cdv A outer s H E).nox) (Ns := Ns) m0 rfl (fun G hG => hb cdv A outer s H E G hr hG) hm0 hp h
  exact ⟨t', h1.nox, h2⟩
/-- the law's own promise, of a script -/
theorem lawSp {K : PySem.W.Frag} {H : Hp} {a : Addr} {ns : List Int} (hl : ns.length ≤ 63) (hO : Only H) (hS : SqL K H a (ns.map V.int)) : lP K 1 sp_law [.ref a] H (fun v _ => v = .bl true) fun _ _ _ => False := by
  have hs : RD K (NB fun _ => False) H [] (.scr ns) (.ref a) := by
    refine ⟨a, rfl, ?_, by rw [sizeLine_eq]; omega⟩
    rcases hS with (h | ⟨o, h⟩) | h
    · rcases hO a with z | ⟨o, xs, z⟩
      · rw [z] at h; cases h
      · rw [z] at h; cases h
    · exact .inl ⟨o, h, by simp⟩
    · exact .inr h
  refine ⟨[.d (.scr ns)], [], [], fun _ => False, fun r _ => r = .d (.bl true), rfl, fun _ h => h.elim, ⟨_, _, rfl, hs, rfl⟩, ⟨rfl, fun n m b h => by simp at h, fun n c b h => by simp at h, fun n h => by simp at h, fun n c h => by simp at h⟩, ⟨ns, rfl, rfl, hl, rfl⟩, ?_⟩
  rintro r M' v H' rfl ⟨h, _⟩
  exact h
end VL
set_option Elab.async false
set_option linter.all false
set_option maxRecDepth 100000
set_option maxHeartbeats 2000000
namespace VL
open PySem PySem.Spec L2
/-- a dict by numbers -/
structure IK (kvs : List (Key × D)) : Prop where
  int : ∃ ns, keysI kvs = some ns
  nd : (kvs.map (·.1)).Nodup
def vI (kvs : List (Key × D)) (n : Int) : Option D := valK kvs (.inl n)
theorem valK_cons {j k : Key} {d : D} {kvs : List (Key × D)} : valK ((j, d) :: kvs) k = if j = k then some d else valK kvs k := by
  unfold valK
  rw [List.find?_cons]
  by_cases h : j = k
  · simp [h]
  · simp [h]
theorem valK_none {k : Key} : ∀ {kvs : List (Key × D)}, valK kvs k = none ↔ k ∉ kvs.map (·.1)
  | [] => by simp [valK]
  | (j, d) :: kvs => by
    rw [valK_cons, List.map_cons, List.mem_cons]
    by_cases h : j = k
    · rw [if_pos h]; simp [h]
    · rw [if_neg h, valK_none]
      have : ¬ k = j := fun e => h e.symm
      simp [this]
theorem valK_repl {k j : Key} {d : D} : ∀ {kvs : List (Key × D)}, valK (kvs.map fun kv => if kv.1 = k then (kv.1, d) else kv) j = if j = k ∧ (valK kvs k).isSome then some d else valK kvs j
  | [] => by simp [valK]
  | (i, e) :: kvs => by
    rw [List.map_cons]
    by_cases h : i = k
    · subst h
      rw [if_pos rfl, valK_cons, valK_cons, valK_cons, if_pos rfl, valK_repl]
      by_cases h2 : i = j
      · subst h2; simp
      · have : ¬ j = i := fun e => h2 e.symm
        simp [h2, this]
    · rw [if_neg h, valK_cons, valK_cons, valK_cons, if_neg h, valK_repl]
      by_cases h2 : i = j
      · subst h2; simp [h]
      · simp [h2]
theorem valK_snoc {k j : Key} {d : D} : ∀ {kvs : List (Key × D)}, valK (kvs ++ [(k, d)]) j = (valK kvs j).or (if k = j then some d else none)
  | [] => by rw [List.nil_append, valK_cons]; simp [valK]
  | (i, e) :: kvs => by
    rw [List.cons_append, valK_cons, valK_cons, valK_snoc]
    by_cases h : i = j <;> simp [h]
theorem any_valK {k : Key} {kvs : List (Key × D)} : (kvs.any fun kv => decide (kv.1 = k)) = (valK kvs k).isSome := by
  unfold valK
  rw [Option.isSome_map]
  induction kvs with
  | nil => rfl
  | cons p kvs ih =>
    rw [List.any_cons, List.find?_cons, ih]
    cases decide (p.1 = k) <;> rfl
theorem valK_put {k j : Key} {d : D} {kvs : List (Key × D)} : valK (putKD kvs k d) j = if j = k then some d else valK kvs j := by
  unfold putKD
  rw [any_valK]
  by_cases h : (valK kvs k).isSome = true
  · rw [if_pos h, valK_repl, h]; simp
  · rw [if_neg h, valK_snoc]
    by_cases e : j = k
    · subst e
      rw [Option.not_isSome_iff_eq_none.mp h]; simp
    · have : ¬ k = j := fun x => e x.symm
      simp [e, this]
theorem putKD_keys {k : Key} {d : D} {kvs : List (Key × D)} : (putKD kvs k d).map (·.1) = if (valK kvs k).isSome then kvs.map (·.1) else kvs.map (·.1) ++ [k] := by
  unfold putKD
  rw [any_valK]
  split
  · rw [List.map_map]
    exact List.map_congr_left fun kv _ => by
      show (if kv.1 = k then (kv.1, d) else kv).1 = kv.1
      split <;> rfl
  · rw [List.map_append]; rfl
theorem keysI_keys : ∀ {kvs : List (Key × D)}, (∃ ns, keysI kvs = some ns) ↔ ∀ k ∈ kvs.map (·.1), ∃ n : Int, k = .inl n
  | [] => by simp [keysI]
  | (.inl i, d) :: kvs => by
    have ih := keysI_keys (kvs := kvs)
    rw [List.map_cons]
    constructor
    · rintro ⟨ns, h⟩ k hk
      obtain ⟨ms, e, rfl⟩ := Option.map_eq_some_iff.mp (show (keysI kvs).map _ = some ns from h)
      rcases List.mem_cons.mp hk with rfl | hk
      · exact ⟨i, rfl⟩
      · exact ih.mp ⟨ms, e⟩ k hk
    · intro h
      obtain ⟨ns, e⟩ := ih.mpr fun k hk => h k (List.mem_cons_of_mem _ hk)
      exact ⟨i :: ns, by show (keysI kvs).map _ = _; rw [e]; rfl⟩
  | (.inr s, d) :: kvs => by
    constructor
    · rintro ⟨ns, h⟩; cases h
    · intro h
      obtain ⟨n, e⟩ := h (.inr s) (by rw [List.map_cons]; exact List.mem_cons_self)
      cases e
theorem IK.nil : IK [] := ⟨⟨[], rfl⟩, List.nodup_nil⟩
theorem IK.put {kvs : List (Key × D)} {n : Int} {d : D} (h : IK kvs) : IK (putKD kvs (.inl n) d) := by
  refine ⟨keysI_keys.mpr fun k hk => ?_, ?_⟩
  · rw [putKD_keys] at hk
    split at hk
    · exact keysI_keys.mp h.int k hk
    · rcases List.mem_append.mp hk with hk | hk
      · exact keysI_keys.mp h.int k hk
      · exact ⟨n, List.mem_singleton.mp hk⟩
  · rw [putKD_keys]
    split
    · exact h.nd
    · rename_i hn
      have := valK_none.mp (Option.not_isSome_iff_eq_none.mp hn)
      refine List.nodup_append.mpr ⟨h.nd, by simp, fun a ha b hb e => ?_⟩
      rw [List.mem_singleton.mp hb] at e
      exact this (e ▸ ha)
theorem IK.drop {kvs : List (Key × D)} {k : Key} (h : IK kvs) : IK (dropKD kvs k) := by
  have sub : ((dropKD kvs k).map (·.1)).Sublist (kvs.map (·.1)) := List.filter_sublist.map _
  exact ⟨keysI_keys.mpr fun j hj => keysI_keys.mp h.int j (sub.subset hj), h.nd.sublist sub⟩
theorem valK_drop {k j : Key} : ∀ {kvs : List (Key × D)}, valK (dropKD kvs k) j = if j = k then none else valK kvs j
  | [] => by simp [dropKD, valK]
  | (i, d) :: kvs => by
    have ih := valK_drop (k := k) (j := j) (kvs := kvs)
    unfold dropKD at ih ⊢
    by_cases h : i = k
    · subst h
      rw [List.filter_cons_of_neg (by simp), ih, valK_cons]
      by_cases e : j = i
      · simp [e]
      · have : ¬ i = j := fun x => e x.symm
        simp [e, this]
    · rw [List.filter_cons_of_pos (by simp [h]), valK_cons, valK_cons, ih]
      by_cases e : i = j
      · subst e; simp [h]
      · simp [e]
theorem dropKD_len {kvs : List (Key × D)} {k : Key} : (dropKD kvs k).length ≤ kvs.length := List.length_filter_le _ _
theorem putKD_len {kvs : List (Key × D)} {k : Key} {d : D} : (putKD kvs k d).length ≤ kvs.length + 1 := by
  unfold putKD; split <;> simp
/-- the items, rising -/
def soK (kvs : List (Key × D)) : List D := soIt kvs ((keysI kvs).getD [])
theorem keysI_mem {kvs : List (Key × D)} {ns : List Int} (h : keysI kvs = some ns) {n : Int} : n ∈ ns ↔ (vI kvs n).isSome = true := by
  have e := keysI_some h
  have : (vI kvs n).isSome = true ↔ (Sum.inl n : Key) ∈ kvs.map (·.1) := by
    have z := valK_none (kvs := kvs) (k := .inl n)
    unfold vI
    cases q : valK kvs (.inl n) with
    | none => simp only [Option.isSome_none, Bool.false_eq_true, false_iff]; exact z.mp q
    | some d =>
      simp only [Option.isSome_some, true_iff]
      exact Classical.byContradiction fun hn => by rw [z.mpr hn] at q; cases q
  rw [this, e, List.mem_map]
  constructor
  · intro hn; exact ⟨n, hn, rfl⟩
  · rintro ⟨m, hm, e⟩; cases e; exact hm
theorem keysI_nd {kvs : List (Key × D)} {ns : List Int} (I : IK kvs) (h : keysI kvs = some ns) : ns.Nodup := by
  have e := keysI_some h
  have := I.nd
  rw [e] at this
  exact List.Pairwise.of_map Sum.inl (fun a b h e => h (by rw [e])) this
theorem sort_same {A B : List (Key × D)} {ns ms : List Int} (a : IK A) (b : IK B) (ha : keysI A = some ns) (hb : keysI B = some ms) (h : ∀ n, vI A n = vI B n) : sortI ns = sortI ms := by
  refine sortI_eq ((sortI_perm ns).trans ?_) (sortI_le ns)
  refine (List.perm_ext_iff_of_nodup (keysI_nd a ha) (keysI_nd b hb)).mpr fun n => ?_
  rw [keysI_mem ha, keysI_mem hb, h n]
theorem soK_same {A B : List (Key × D)} (a : IK A) (b : IK B) (h : ∀ n, vI A n = vI B n) : soK A = soK B := by
  obtain ⟨ns, ha⟩ := a.int
  obtain ⟨ms, hb⟩ := b.int
  unfold soK soIt
  rw [ha, hb, Option.getD_some, Option.getD_some, sort_same a b ha hb h]
  refine List.map_congr_left fun n _ => ?_
  rw [show valK A (.inl n) = valK B (.inl n) from h n]
theorem keysI_len : ∀ {kvs : List (Key × D)} {ns : List Int}, keysI kvs = some ns → ns.length = kvs.length := fun h => by
  have := congrArg List.length (keysI_some h)
  rw [List.length_map, List.length_map] at this
  exact this.symm
theorem soK_len {kvs : List (Key × D)} (I : IK kvs) : (soK kvs).length = kvs.length := by
  obtain ⟨ns, h⟩ := I.int
  unfold soK soIt
  rw [h, Option.getD_some, List.length_map, sortI_len, keysI_len h]
set_option maxHeartbeats 1000000
inductive Rw where
  | yes | no | has (k : Nat) (b : Bool) | all (ps : List Nat) | any (ps : List Nat) | pick (k lo hi : Nat)
  deriving DecidableEq
def nD (n : Nat) : D := .int n
abbrev Wb := List Rw
def scan {α : Type} (g : List α → Rw → α) : List α → Wb → List α
  | acc, [] => acc
  | acc, r :: rs => scan g (acc ++ [g acc r]) rs
section
variable {α : Type} {g : List α → Rw → α}
theorem scan_app : ∀ (acc : List α) (a b : Wb), scan g acc (a ++ b) = scan g (scan g acc a) b
  | _, [], _ => rfl
  | acc, r :: a, b => scan_app (acc ++ [g acc r]) a b
theorem scan_len : ∀ (acc : List α) (a : Wb), (scan g acc a).length = acc.length + a.length
  | _, [] => rfl
  | acc, r :: a => by
    rw [scan, scan_len]
    simp only [List.length_append, List.length_cons, List.length_nil]; omega
theorem scan_pre : ∀ (acc : List α) (a : Wb), acc <+: scan g acc a
  | acc, [] => List.prefix_refl _
  | acc, r :: a => (List.prefix_append acc [g acc r]).trans (scan_pre _ a)
theorem pre_get {a b : List α} (h : a <+: b) {i : Nat} (hi : i < a.length) (d : α) : b.getD i d = a.getD i d := by
  obtain ⟨t, rfl⟩ := h
  rw [List.getD_eq_getElem?_getD, List.getD_eq_getElem?_getD, List.getElem?_append_left hi]
/-- the value at i: what g tells of the values ahead -/
theorem scan_at {w : Wb} {i : Nat} {r : Rw} (h : w[i]? = some r) (d : α) : (scan g [] w).getD i d = g (scan g [] (w.take i)) r := by
  have hi := (List.getElem?_eq_some_iff.mp h).1
  have e : w = w.take i ++ (r :: w.drop (i + 1)) := by
    have : w[i] = r := (List.getElem?_eq_some_iff.mp h).2
    rw [← this, List.getElem_cons_drop, List.take_append_drop]
  have hl : (scan g [] (w.take i)).length = i := by rw [scan_len]; simp; omega
  have e2 : scan g [] w = scan g (scan g [] (w.take i) ++ [g (scan g [] (w.take i)) r]) (w.drop (i + 1)) := by
    conv => lhs; rw [e, scan_app]
    rfl
  rw [e2, pre_get (scan_pre _ _) (by simp [hl]) d, List.getD_eq_getElem?_getD, List.getElem?_append_right (by omega), hl]
  simp
theorem scan_take {w : Wb} {i j : Nat} (h : j < i) (hi : i ≤ w.length) (d : α) : (scan g [] (w.take i)).getD j d = (scan g [] w).getD j d := by
  have e : scan g [] w = scan g (scan g [] (w.take i)) (w.drop i) := by rw [← scan_app, List.take_append_drop]
  rw [e]
  exact (pre_get (scan_pre _ _) (by rw [scan_len]; simp; omega) d).symm
end
def Rw.below : Rw → List Nat
  | .all ps => ps
  | .any ps => ps
  | .pick _ lo hi => [lo, hi]
  | _ => []
def Rw.hv (f : List Bool) (acc : List Bool) : Rw → Bool
  | .yes => true
  | .no => false
  | .has k b => f.getD k false == b
  | .all ps => (ps.map fun p => acc.getD p false).all id
  | .any ps => (ps.map fun p => acc.getD p false).any id
  | .pick k lo hi => if f.getD k false then acc.getD hi false else acc.getD lo false
def hvW (f : List Bool) (w : Wb) : List Bool := scan (Rw.hv f) [] w
/-- whether row i holds -/
def hvAt (f : List Bool) (w : Wb) (i : Nat) : Bool := (hvW f w).getD i false
def Rw.ks : Rw → List Int
  | .has k _ => [(k : Int)]
  | .pick k _ _ => [(k : Int)]
  | _ => []
def Rw.nm (acc : List (List Int)) (r : Rw) : List Int := usort (r.ks ++ (r.below.map fun p => acc.getD p []).flatten)
def nmW (w : Wb) : List (List Int) := scan Rw.nm [] w
def nmAt (w : Wb) (i : Nat) : List Int := (nmW w).getD i []
/-- a row, its names less than n, its rows less than i -/
def Rw.ok (n i : Nat) : Rw → Prop
  | .yes => True
  | .no => True
  | .has k _ => k < n
  | .all ps => (2 ≤ ps.length ∧ ps.length ≤ 32) ∧ ps.Pairwise (· < ·) ∧ ∀ p ∈ ps, p < i
  | .any ps => (2 ≤ ps.length ∧ ps.length ≤ 32) ∧ ps.Pairwise (· < ·) ∧ ∀ p ∈ ps, p < i
  | .pick k lo hi => k < n ∧ lo < i ∧ hi < i
def WbOk (n : Nat) (w : Wb) : Prop := ∀ (i : Nat) (r : Rw), w[i]? = some r → r.ok n i
/-- what a row of a form must be -/
def Rw.fm (w : Wb) : Rw → Prop
  | .all ps => ps.Pairwise fun p q => ∀ k, k ∈ nmAt w p → k ∉ nmAt w q
  | .any ps => ps.Pairwise fun p q => ∀ f, ¬ (hvAt f w p = true ∧ hvAt f w q = true)
  | .pick k lo hi => (k : Int) ∉ nmAt w lo ∧ (k : Int) ∉ nmAt w hi
  | _ => True
def WbFm (w : Wb) : Prop := ∀ (i : Nat) (r : Rw), w[i]? = some r → r.fm w
theorem Rw.ok.mono {n m i j : Nat} {r : Rw} (h : r.ok n i) (hn : n ≤ m) (hi : i ≤ j) : r.ok m j := by
  cases r with
  | yes => trivial
  | no => trivial
  | has k b => exact Nat.lt_of_lt_of_le h hn
  | all ps => exact ⟨h.1, h.2.1, fun p hp => Nat.lt_of_lt_of_le (h.2.2 p hp) hi⟩
  | any ps => exact ⟨h.1, h.2.1, fun p hp => Nat.lt_of_lt_of_le (h.2.2 p hp) hi⟩
  | pick k lo hi' => exact ⟨Nat.lt_of_lt_of_le h.1 hn, Nat.lt_of_lt_of_le h.2.1 hi, Nat.lt_of_lt_of_le h.2.2 hi⟩
theorem Rw.ok.below {n i : Nat} {r : Rw} (h : r.ok n i) : ∀ p ∈ r.below, p < i := by
  cases r with
  | all ps => exact h.2.2
  | any ps => exact h.2.2
  | pick k lo hi =>
    intro p hp
    simp only [Rw.below, List.mem_cons, List.not_mem_nil, or_false] at hp
    rcases hp with rfl | rfl
    · exact h.2.1
    · exact h.2.2
  | _ => intro p hp; cases hp
theorem hvAt_app {f : List Bool} {a b : Wb} {i : Nat} (h : i < a.length) : hvAt f (a ++ b) i = hvAt f a i := by
  unfold hvAt hvW
  rw [scan_app]
  exact pre_get (scan_pre _ _) (by rw [scan_len]; simpa using h) _
theorem nmAt_app {a b : Wb} {i : Nat} (h : i < a.length) : nmAt (a ++ b) i = nmAt a i := by
  unfold nmAt nmW
  rw [scan_app]
  exact pre_get (scan_pre _ _) (by rw [scan_len]; simpa using h) _
theorem nm_cong {a b : List (List Int)} {r : Rw} (h : ∀ p ∈ r.below, a.getD p [] = b.getD p []) : r.nm a = r.nm b := by
  unfold Rw.nm
  rw [List.map_congr_left (g := fun p => b.getD p []) h]
theorem nmAt_row {n : Nat} {w : Wb} {i : Nat} {r : Rw} (o : WbOk n w) (h : w[i]? = some r) : nmAt w i = r.nm (nmW w) := by
  unfold nmAt
  have hi := (List.getElem?_eq_some_iff.mp h).1
  show (scan Rw.nm [] w).getD i [] = _
  rw [scan_at h]
  refine nm_cong fun p hp => ?_
  exact scan_take ((o i r h).below p hp) (by omega) _
theorem WbOk.nil {n : Nat} : WbOk n [] := fun i r h => by simp at h
theorem WbOk.snoc {n : Nat} {w : Wb} {r : Rw} (h : WbOk n w) (hr : r.ok n w.length) : WbOk n (w ++ [r]) := fun i q e => by
  by_cases hi : i < w.length
  · rw [List.getElem?_append_left hi] at e; exact h i q e
  · have hl := (List.getElem?_eq_some_iff.mp e).1
    simp at hl
    have : i = w.length := by omega
    subst this
    simp at e
    subst e; exact hr
theorem WbOk.pre {n : Nat} {a b : Wb} (h : WbOk n b) (p : a <+: b) : WbOk n a := fun i r e => by
  obtain ⟨t, rfl⟩ := p
  exact h i r (by rw [List.getElem?_append_left (List.getElem?_eq_some_iff.mp e).1]; exact e)
theorem pw_iff {α : Type} {P Q : α → α → Prop} : ∀ {l : List α}, (∀ a b, a ∈ l → b ∈ l → (P a b ↔ Q a b)) → (l.Pairwise P ↔ l.Pairwise Q)
  | [], _ => by simp
  | x :: l, h => by
    rw [List.pairwise_cons, List.pairwise_cons, pw_iff (l := l) fun a b ha hb => h a b (List.mem_cons_of_mem _ ha) (List.mem_cons_of_mem _ hb)]
    refine and_congr_left fun _ => forall_congr' fun y => ?_
    exact ⟨fun z hy => (h x y List.mem_cons_self (List.mem_cons_of_mem _ hy)).mp (z hy), fun z hy => (h x y List.mem_cons_self (List.mem_cons_of_mem _ hy)).mpr (z hy)⟩
theorem Rw.fm_app {n : Nat} {a b : Wb} {r : Rw} (o : r.ok n a.length) : r.fm (a ++ b) ↔ r.fm a := by
  have hb := o.below
  cases r with
  | all ps =>
    refine pw_iff ?_
    intro p q hp hq
    rw [nmAt_app (hb p hp), nmAt_app (hb q hq)]
  | any ps =>
    refine pw_iff ?_
    intro p q hp hq
    simp only [hvAt_app (hb p hp), hvAt_app (hb q hq)]
  | pick k lo hi =>
    simp only [Rw.fm]
    rw [nmAt_app (hb lo (by simp [Rw.below])), nmAt_app (hb hi (by simp [Rw.below]))]
  | _ => exact Iff.rfl
theorem WbFm.snoc {n : Nat} {w : Wb} {r : Rw} (o : WbOk n w) (hf : WbFm w) (hr : r.ok n w.length) (hrf : r.fm w) : WbFm (w ++ [r]) := fun i q e => by
  by_cases hi : i < w.length
  · rw [List.getElem?_append_left hi] at e
    exact (Rw.fm_app ((o i q e).mono (Nat.le_refl _) (Nat.le_of_lt hi))).mpr (hf i q e)
  · have hl := (List.getElem?_eq_some_iff.mp e).1
    simp at hl
    have : i = w.length := by omega
    subst this
    simp at e
    subst e
    exact (Rw.fm_app hr).mpr hrf
theorem WbFm.nil : WbFm [] := fun i r h => by simp at h
theorem WbFm.pre {n : Nat} {a b : Wb} (o : WbOk n b) (h : WbFm b) (p : a <+: b) : WbFm a := fun i r e => by
  obtain ⟨t, rfl⟩ := p
  have hi := (List.getElem?_eq_some_iff.mp e).1
  have e2 : (a ++ t)[i]? = some r := by rw [List.getElem?_append_left hi]; exact e
  exact (Rw.fm_app ((o i r e2).mono (Nat.le_refl _) (Nat.le_of_lt hi))).mp (h i r e2)
set_option maxHeartbeats 1000000
theorem wh_inv {k : Nat} {c : TT'} {b : TS'} {E : Ends'} (I : Nat → DS → Mem → Prop)
    (step : ∀ m δ M (nx : DS → Mem → Prop), I m δ M → (∀ m' δ' M', m' < m → I m' (gcS k δ') (M'.take k) → nx δ' M') → c δ M fun t M' => if t then b ⟨nx, E.rt, E.nx, nx⟩ δ M' else E.nx δ M') {m : Nat} {δ : DS} {M : Mem} (h : I m δ M) : ∃ n, whL k c b E n δ M := by
  have go : ∀ n m δ M, m < n → I m δ M → whL k c b E n δ M := by
    intro n
    induction n with
    | zero => intro m δ M h; omega
    | succ n ih =>
      intro m δ M h hI
      exact step m δ M _ hI fun m' δ' M' h' hI' => ih m' _ _ (by omega) hI'
  exact ⟨m + 1, go _ m δ M (by omega) h⟩
theorem mpopAt {R : QD} {M : Mem} {n : Nat} {i : Int} : mPopAt (.ref n) [.d (.int i)] M R = ok (cellL M[n]?) fun ds => ok (ixN ds.length i) fun k => ok ds[k]? fun y => R (.d y) (M.set n (.lst (ds.eraseIdx k))) := rfl
theorem ixN_nat {n k : Nat} (h : k < n) : ixN n (k : Int) = some k := by
  unfold ixN
  rw [if_pos (by omega), if_pos (by omega)]
  simp
theorem rcv_2 {c d : Cell} {M : Mem} {a : List D} : rcv (c :: d :: .lst a :: M) (.ref 2) = some "list" := rfl
theorem rcv_3 {c d e : Cell} {M : Mem} {a : List D} : rcv (c :: d :: e :: .lst a :: M) (.ref 3) = some "list" := rfl
theorem rcv_b {M : Mem} {a : List D} : rcv M (.bor a) = some "list" := rfl
theorem lst_ref {M : Mem} {n : Nat} : lstD M (.ref n) = cellL M[n]? := rfl
theorem len_refI {M : Mem} {n : Nat} : lenD M [.ref n] = (lenOf M (.ref n)).map intS := rfl
theorem lenOf_ref {M : Mem} {n : Nat} : lenOf M (.ref n) = (match M[n]? with
    | some (.lst ds) => some (ds.length : Int)
    | some (.dk kvs) => some (kvs.length : Int)
    | _ => none) := rfl
theorem list_b {M : Mem} {a : List D} : listF M [.bor a] = some a := rfl
theorem list_r {M : Mem} {n : Nat} : listF M [.ref n] = cellL M[n]? := rfl
theorem laid_l {M : Mem} {a : List D} : laidD M (.d (.lst a)) = some a := rfl
theorem laid_b {M : Mem} {a : List D} : laidD M (.bor a) = some a := rfl
theorem laid_r {M : Mem} {n : Nat} : laidD M (.ref n) = cellL M[n]? := rfl
/-- data that == may look at, one level within a list -/
structure EqOk (d : D) : Prop where
  no : noR d = true
  la : (py d).canLay0 = true
  de : (py d).depth ≤ 60
theorem Pl.eq {w dp : Nat} {d : D} (h : Pl w dp d) (hd : dp ≤ 60) : EqOk d := ⟨h.no, h.la, Nat.le_trans h.de hd⟩
theorem EqOk.all : ∀ {ds : List D}, (∀ d ∈ ds, EqOk d) → noRs ds = true ∧ PyData.canLayAll0 (pys ds) = true ∧ PyData.depthAll (pys ds) ≤ 60
  | [], _ => ⟨rfl, rfl, Nat.zero_le _⟩
  | d :: ds, h => by
    obtain ⟨h1, h2, h3⟩ := EqOk.all (ds := ds) fun x hx => h x (List.mem_cons_of_mem _ hx)
    have h0 := h d List.mem_cons_self
    refine ⟨?_, ?_, ?_⟩
    · simp only [noRs, h0.no, h1]; rfl
    · simp only [pys, PyData.canLayAll0, h0.la, h2]; rfl
    · simp only [pys, PyData.depthAll]; have := h0.de; omega
theorem EqOk.lst {ds : List D} (h : ∀ d ∈ ds, EqOk d) : VL.okE (.lst ds) = true := by
  obtain ⟨h1, h2, h3⟩ := EqOk.all h
  unfold VL.okE SeqAt.shaped
  simp only [noR, py, PyData.canLay0, PyData.depth, h1, h2]
  rw [decide_eq_true (show PyData.depthAll (pys ds) + 1 ≤ 64 by omega)]
  rfl
theorem EqOk.int {i : Int} : EqOk (.int i) := ⟨rfl, rfl, Nat.zero_le _⟩
theorem EqOk.non : EqOk .non := ⟨rfl, rfl, Nat.zero_le _⟩
theorem EqOk.bl {b : Bool} : EqOk (.bl b) := ⟨rfl, rfl, Nat.zero_le _⟩
theorem eq_s {M : Mem} {x y : Sv} {a b : List D} (h1 : rsv M x = .lst a) (h2 : rsv M y = .lst b) (hx : ∀ d, x = .d d → d = .lst a) (ha : VL.okE (.lst a) = true) (hb : VL.okE (.lst b) = true) : eqD M x y = some (.d (.bl (eqvDs a b))) := by
  have g : gd (VL.okE (rsv M x) = true ∧ VL.okE (rsv M y) = true) (Sv.d (.bl (eqvD (rsv M x) (rsv M y)))) = some (.d (.bl (eqvDs a b))) := by
    rw [gd_pos ⟨by rw [h1]; exact ha, by rw [h2]; exact hb⟩, h1, h2]; rfl
  cases x with
  | d d => cases hx d rfl; exact g
  | ref n => exact g
  | bor n => exact g
theorem ne_s {M : Mem} {x y : Sv} {a b : List D} (h1 : rsv M x = .lst a) (h2 : rsv M y = .lst b) (hx : ∀ d, x = .d d → d = .lst a) (ha : VL.okE (.lst a) = true) (hb : VL.okE (.lst b) = true) : neD M x y = some (.d (.bl (!eqvDs a b))) := by
  unfold neD
  rw [eq_s h1 h2 hx ha hb]; rfl
theorem rsv_r {M : Mem} {n : Nat} {a : List D} (h : M[n]? = some (.lst a)) : rsv M (.ref n) = .lst a := by simp [rsv, h, cellL]
theorem ne_rl {M : Mem} {n : Nat} {a b : List D} (hn : M[n]? = some (.lst a)) (ha : VL.okE (.lst a) = true) (hb : VL.okE (.lst b) = true) : neD M (.ref n) (.d (.lst b)) = some (.d (.bl (!eqvDs a b))) := ne_s (rsv_r hn) rfl (fun _ h => by cases h) ha hb
theorem eqv_nil {a : List D} : eqvDs a [] = a.isEmpty := by cases a <;> rfl
theorem okE_nil : VL.okE (.lst []) = true := EqOk.lst fun _ h => by cases h
/-- a list, lent or data -/
def LV (s : Sv) (xs : List D) : Prop := s = .d (.lst xs) ∨ s = .bor xs
def sp_mixed : SpD := fun as M Q => ∃ (ds : List D) (b : Nat) (s : Sv) (xs : List D), as = [.ref 0, s] ∧ LV s xs ∧ M = [.lst ds] ∧ Tp b ds ∧ xs.length ≤ 9999 ∧ b + xs.length < 1099511627776 ∧ (∀ x ∈ xs, EqOk x) ∧
  ∀ (ys ds' : List D), ys.Perm xs → Tp (b + xs.length) ds' → Q (.new ys) [.lst ds']
def r_mixed (sp__law_take : SpD) : TS' :=
  (sSeq (sPar 2 3 (aCons (eNw (fP (plN listF [(pV 1)]))) (aCons (eNw (fP (plLst []))) (aP []))))
  (sSeq (sWh (cP (bB (po2 neD (pV 2) (pFz (plLst [])))))
  (sDrop (eMt "list" mApp (eP (pV 3)) (aCons (eMt "list" mPopAt (eP (pV 2)) (aCons (eCall [true, false] sp__law_take (aP [(pV 0), (poN lenD [(pV 2)])])) (aP []))) (aP [])))))
  (sRet (eP (pV 3)))))
local macro_rules
  | `(tactic| simp only [VLT]) => `(tactic| simp only [sSeq, sIf, sSet, sSub, sRet, sRetN, sNil, sDrop, sAsg, sPar, sParT, sAug, cP, bB, bTr, bNt, bAn, bOr, po1, po2, poN, pArgs, poIf, poAn, poOr, poNt, poTup, plLst, plN, pl2, pl1, pFz, pV, pC, eP, eo1, eo2, eoN, aP, aNil, aCons, eAn, eOr, eNt, eIf, eFz, eNw, fP, fN, f2, f1, tTupE, tLstF, tTr, tTb, tAn, tOrr, tNt, tYs, eSeal, eMt, poMt, mPure, eCh, pCh, ok_bind, ok_map, ok_some, ok_none, ok_gd, ok_ite, List.getElem?_cons_zero, List.getElem?_cons_succ, List.set_cons_zero, List.set_cons_succ, Option.join_some, Option.bind_some, Option.map_some, Option.bind_none, Option.map_none, ix_ref, ix_tup, ix_lst, ix_bor, ix_scr, add_int, add_str, add_tup, sub_int, mul_int, fdiv_int, mod_int, pow_int, neg_int, lt_int, le_int, gt_int, ge_int, eq_int, eq_str, eq_bl, ne_int, ne_str, ne_bl, is_bl, isnt_bl, is_non, isnt_non, len_tup, len_lst, len_ref, len_bor, len_scr, int_bl, int_int, abs_int, min_int, max_int, blD_bl, cell_lst, cellA_lst, cellA_dk, st_ref, at_0, at_1, at_2, at_3, at_4, ixN_10, ixN_20, ixN_21, ixN_30, ixN_31, ixN_32, dataS_d, datas_nil, datas_cons, truth_bl, notD, intS, blS, nonB, List.length_cons, List.length_nil, Nat.reduceAdd, endsF_rt, endsF_nx, rvQ_d, rvQ_new, rvQ_newK, rv_d, rv_ref, rv_cl, rv_ck, okRef_d, okRef_ref, List.not_mem_nil, List.nil_append, true_and, and_true, List.take_succ_cons, List.take_zero, Nat.zero_add, decide_eq_true_eq, Bool.false_eq_true, if_false, if_true, callS, handS_n, handS_tr, handS_fr, handS_fd, handS_fb, cellsAt_c, cellsAt_0, Option.getD_some, backS_0, backS_1, eCall, tup_lst, tup_tup, tup_ref, fLc, iRg, rng_1, rng_2, wipeS_c, wipeS_n, iPq, iSq, seq_tup, seq_lst, seq_bor, lst_lst, lst_bor, gdS_d, gdS_b, sFor, gNm, gcS_c, gcS_n, gcO_d, gcO_n, mapp, rcv_0, rcv_1, rcv_l, gcO_r0, gcO_r1, gcO_z, seal_d, eq_self, List.take_nil, List.cons_append, poSl, poI, poNo, slD_t, intO_i, list_t, list_l, in_str2, ofS_inj, String.reduceEq, or_false, false_or, or_true, true_or, or_self, decide_true, decide_false, Bool.not_true, Bool.not_false, at_m1_2, at_m1_3, cut_2, cut_3, all_bls, any_bls, count_bls])
  | `(tactic| simp only [VLT, $xs,*]) => `(tactic| simp only [sSeq, sIf, sSet, sSub, sRet, sRetN, sNil, sDrop, sAsg, sPar, sParT, sAug, cP, bB, bTr, bNt, bAn, bOr, po1, po2, poN, pArgs, poIf, poAn, poOr, poNt, poTup, plLst, plN, pl2, pl1, pFz, pV, pC, eP, eo1, eo2, eoN, aP, aNil, aCons, eAn, eOr, eNt, eIf, eFz, eNw, fP, fN, f2, f1, tTupE, tLstF, tTr, tTb, tAn, tOrr, tNt, tYs, eSeal, eMt, poMt, mPure, eCh, pCh, ok_bind, ok_map, ok_some, ok_none, ok_gd, ok_ite, List.getElem?_cons_zero, List.getElem?_cons_succ, List.set_cons_zero, List.set_cons_succ, Option.join_some, Option.bind_some, Option.map_some, Option.bind_none, Option.map_none, ix_ref, ix_tup, ix_lst, ix_bor, ix_scr, add_int, add_str, add_tup, sub_int, mul_int, fdiv_int, mod_int, pow_int, neg_int, lt_int, le_int, gt_int, ge_int, eq_int, eq_str, eq_bl, ne_int, ne_str, ne_bl, is_bl, isnt_bl, is_non, isnt_non, len_tup, len_lst, len_ref, len_bor, len_scr, int_bl, int_int, abs_int, min_int, max_int, blD_bl, cell_lst, cellA_lst, cellA_dk, st_ref, at_0, at_1, at_2, at_3, at_4, ixN_10, ixN_20, ixN_21, ixN_30, ixN_31, ixN_32, dataS_d, datas_nil, datas_cons, truth_bl, notD, intS, blS, nonB, List.length_cons, List.length_nil, Nat.reduceAdd, endsF_rt, endsF_nx, rvQ_d, rvQ_new, rvQ_newK, rv_d, rv_ref, rv_cl, rv_ck, okRef_d, okRef_ref, List.not_mem_nil, List.nil_append, true_and, and_true, List.take_succ_cons, List.take_zero, Nat.zero_add, decide_eq_true_eq, Bool.false_eq_true, if_false, if_true, callS, handS_n, handS_tr, handS_fr, handS_fd, handS_fb, cellsAt_c, cellsAt_0, Option.getD_some, backS_0, backS_1, eCall, tup_lst, tup_tup, tup_ref, fLc, iRg, rng_1, rng_2, wipeS_c, wipeS_n, iPq, iSq, seq_tup, seq_lst, seq_bor, lst_lst, lst_bor, gdS_d, gdS_b, sFor, gNm, gcS_c, gcS_n, gcO_d, gcO_n, mapp, rcv_0, rcv_1, rcv_l, gcO_r0, gcO_r1, gcO_z, seal_d, eq_self, List.take_nil, List.cons_append, poSl, poI, poNo, slD_t, intO_i, list_t, list_l, in_str2, ofS_inj, String.reduceEq, or_false, false_or, or_true, true_or, or_self, decide_true, decide_false, Bool.not_true, Bool.not_false, at_m1_2, at_m1_3, cut_2, cut_3, all_bls, any_bls, count_bls, $xs,*])
theorem pure_mixed (as : List Sv) (M : Mem) (Q : Rv → Mem → Prop) (h : sp_mixed as M Q) : r_mixed sp_take (endsF M.length Q) (startD 4 as) M := by
  obtain ⟨ds, b, s, xs, rfl, hs, rfl, ht, hl, hb, hx, z⟩ := h
  have go : ∀ s, LV s xs → r_mixed sp_take (endsF 1 Q) [some (.ref 0), some s, none, none] [.lst ds] := by
    intro s hs
    rcases hs with rfl | rfl <;>
    · simp only [r_mixed, sSeq]
      simp only [VLT, list_b]
      refine wh_inv (fun m δ M => ∃ left found dt, m = left.length ∧ δ = [some (.ref 0), some _, some (.ref 1), some (.ref 2)] ∧ M = [.lst dt, .lst left, .lst found] ∧ (left ++ found).Perm xs ∧ Tp (b + found.length) dt) ?_ ⟨xs, [], ds, rfl, rfl, rfl, by simp, ht⟩
      rintro m δ M nx ⟨left, found, dt, rfl, rfl, rfl, hp, t1⟩ k
      have hlen := hp.length_eq
      rw [List.length_append] at hlen
      have ok1 : VL.okE (.lst left) = true := EqOk.lst fun d hd => hx d (hp.mem_iff.mp (by simp [hd]))
      have e1 := ne_rl (M := [.lst dt, .lst left, .lst found]) (n := 1) (a := left) (b := []) rfl ok1 okE_nil
      simp only [VLT, e1, eqv_nil]
      cases hl0 : left with
      | nil =>
        subst hl0
        simp only [VLT, List.isEmpty_nil]
        refine ⟨by decide, ?_⟩
        refine z found dt (by simpa using hp) ?_
        have : found.length = xs.length := by simpa using hlen
        rw [← this]; exact t1
      | cons l0 lr =>
        have hpos : 0 < left.length := by rw [hl0]; simp
        rw [← hl0]
        have he : left.isEmpty = false := by rw [hl0]; rfl
        simp only [VLT, he, lenOf_ref, len_refI, intS, rcv_2]
        refine take_ok t1 (by omega) (by omega) (by omega) fun v dt1 v0 v1 t2 => ?_
        obtain ⟨v, rfl⟩ := Int.eq_ofNat_of_zero_le v0
        have hv : v < left.length := by omega
        simp only [VLT, mpopAt, ixN_nat hv, List.getElem?_eq_getElem hv]
        refine ⟨by rw [sizeLine_eq]; omega, ?_⟩
        refine k (left.length - 1) _ _ (by omega) ⟨left.eraseIdx v, found ++ [left[v]], dt1, by rw [List.length_eraseIdx_of_lt hv], rfl, by simp only [VLT], ?_, t2.mono (by simp; omega)⟩
        refine List.Perm.trans ?_ hp
        have p1 : (left[v] :: left.eraseIdx v).Perm left := by
          have e : left = left.take v ++ (left[v] :: left.drop (v + 1)) := by rw [List.getElem_cons_drop, List.take_append_drop]
          rw [List.eraseIdx_eq_take_drop_succ]
          conv => rhs; rw [e]
          exact List.perm_middle.symm
        calc (left.eraseIdx v ++ (found ++ [left[v]])).Perm ((found ++ [left[v]]) ++ left.eraseIdx v) := List.perm_append_comm
          _ = found ++ (left[v] :: left.eraseIdx v) := by simp
          List.Perm _ (found ++ left) := p1.append_left found
          List.Perm _ (left ++ found) := List.perm_append_comm
  exact go s hs
set_option maxHeartbeats 1000000
structure EqK (k : Nat) (d : D) : Prop where
  no : noR d = true
  la : (py d).canLay0 = true
  de : (py d).depth ≤ k
theorem EqK.ok {k : Nat} {d : D} (h : EqK k d) (hk : k ≤ 60) : EqOk d := ⟨h.no, h.la, Nat.le_trans h.de hk⟩
theorem EqK.mono {k j : Nat} {d : D} (h : EqK k d) (hk : k ≤ j) : EqK j d := ⟨h.no, h.la, Nat.le_trans h.de hk⟩
theorem EqK.int {i : Int} : EqK 0 (.int i) := ⟨rfl, rfl, Nat.le_refl _⟩
theorem EqK.bl {i : Bool} : EqK 0 (.bl i) := ⟨rfl, rfl, Nat.le_refl _⟩
theorem EqK.non : EqK 0 .non := ⟨rfl, rfl, Nat.le_refl _⟩
theorem EqK.str {s : Str} (h : PyData.canLay0 (.str s) = true) : EqK 0 (.str s) := ⟨rfl, h, Nat.le_refl _⟩
theorem EqK.alls {k : Nat} : ∀ {ds : List D}, (∀ d ∈ ds, EqK k d) → noRs ds = true ∧ PyData.canLayAll0 (pys ds) = true ∧ PyData.depthAll (pys ds) ≤ k
  | [], _ => ⟨rfl, rfl, Nat.zero_le _⟩
  | d :: ds, h => by
    obtain ⟨h1, h2, h3⟩ := EqK.alls (ds := ds) fun x hx => h x (List.mem_cons_of_mem _ hx)
    have h0 := h d List.mem_cons_self
    refine ⟨?_, ?_, ?_⟩
    · simp only [noRs, h0.no, h1]; rfl
    · simp only [pys, PyData.canLayAll0, h0.la, h2]; rfl
    · simp only [pys, PyData.depthAll]; have := h0.de; omega
theorem EqK.tup {k : Nat} {ds : List D} (h : ∀ d ∈ ds, EqK k d) : EqK (k + 1) (.tup ds) := by
  obtain ⟨h1, h2, h3⟩ := EqK.alls h
  exact ⟨h1, h2, by simp only [py, PyData.depth]; omega⟩
theorem EqK.lst {k : Nat} {ds : List D} (h : ∀ d ∈ ds, EqK k d) : EqK (k + 1) (.lst ds) := by
  obtain ⟨h1, h2, h3⟩ := EqK.alls h
  exact ⟨h1, h2, by simp only [py, PyData.depth]; omega⟩
set_option maxHeartbeats 1000000
theorem for_ix {k : Nat} {g : TG'} {b : TS'} {E : Ends'} {gd : Mem → Prop} : ∀ (ds : List D) (I : Nat → DS → Mem → Prop) (fin : ∀ δ M, I ds.length δ M → gd M ∧ E.nx δ M)
    (step : ∀ j d δ M (nx : DS → Mem → Prop), ds[j]? = some d → I j δ M → (∀ δ' M', I (j + 1) (gcS k δ') (M'.take k) → nx δ' M') → gd M ∧ g d δ M fun δ1 M1 => b ⟨nx, E.rt, E.nx, nx⟩ δ1 M1) (δ : DS) (M : Mem), I 0 δ M → forL k g b E gd ds δ M
  | [], I, fin, step, δ, M, h => fin δ M h
  | d :: ds, I, fin, step, δ, M, h => step 0 d δ M _ rfl h fun δ' M' h' => for_ix ds (fun j => I (j + 1)) (fun δ M h => fin δ M h) (fun j d' δ M nx e hI k => step (j + 1) d' δ M nx (by simpa using e) hI k) _ _ h'
theorem lc_ix {g : TG'} {tt : TT'} {te : TE'} {δw : DS} {gd : Mem → Prop} {Q : List D → Mem → Prop} : ∀ (ds : List D) (I : Nat → List D → Mem → Prop) (fin : ∀ acc M, I ds.length acc M → gd M ∧ Q acc M)
    (step : ∀ j d acc M (nx : List D → Mem → Prop), ds[j]? = some d → I j acc M → (∀ acc' M', I (j + 1) acc' M' → nx acc' M') → gd M ∧ g d δw M fun δ2 M2 => tt δ2 M2 fun b M3 => if b then te δ2 M3 fun s M4 => ok (dataS s) fun y => nx (acc ++ [y]) M4 else nx acc M3) (acc : List D) (M : Mem), I 0 acc M → lcL g tt te δw gd Q ds acc M
  | [], I, fin, step, acc, M, h => fin acc M h
  | d :: ds, I, fin, step, acc, M, h => step 0 d acc M _ rfl h fun acc' M' h' => lc_ix ds (fun j => I (j + 1)) (fun acc M h => fin acc M h) (fun j d' acc M nx e hI k => step (j + 1) d' acc M nx (by simpa using e) hI k) _ _ h'
theorem rg_at {lo : Int} {n j : Nat} {d : D} (h : (rgL lo n)[j]? = some d) : j < n ∧ d = .int (lo + (j : Nat)) := by
  unfold rgL at h
  rw [List.getElem?_map, Option.map_eq_some_iff] at h
  obtain ⟨i, hi, rfl⟩ := h
  obtain ⟨hl, e⟩ := List.getElem?_eq_some_iff.mp hi
  simp only [List.length_range] at hl
  simp only [List.getElem_range] at e
  subst e
  exact ⟨hl, rfl⟩
theorem lcg_nm {i : Nat} : (LcG.nm i).to = gNm i := rfl
theorem lcg_tp {is : List Nat} : (LcG.tp is).to = gTp is := rfl
theorem slF_l {M : Mem} {a : List D} {lo hi : Option Int} : slF M (.d (.lst a)) lo hi = some (cutD a lo hi) := rfl
theorem slF_b {M : Mem} {a : List D} {lo hi : Option Int} : slF M (.bor a) lo hi = some (cutD a lo hi) := rfl
theorem slF_r {M : Mem} {n : Nat} {lo hi : Option Int} : slF M (.ref n) lo hi = (cellL M[n]?).map fun ds => cutD ds lo hi := rfl
local macro_rules
  | `(tactic| simp only [VLU]) => `(tactic| simp only [sSeq, sIf, sSet, sSub, sRet, sRetN, sNil, sDrop, sAsg, sPar, sParT, sAug, cP, bB, bTr, bNt, bAn, bOr, po1, po2, poN, pArgs, poIf, poAn, poOr, poNt, poTup, plLst, plN, pl2, pl1, pFz, pV, pC, eP, eo1, eo2, eoN, aP, aNil, aCons, eAn, eOr, eNt, eIf, eFz, eNw, fP, fN, f2, f1, tTupE, tLstF, tTr, tTb, tAn, tOrr, tNt, tYs, eSeal, eMt, poMt, mPure, eCh, pCh, ok_bind, ok_map, ok_some, ok_none, ok_gd, ok_ite, List.getElem?_cons_zero, List.getElem?_cons_succ, List.set_cons_zero, List.set_cons_succ, Option.join_some, Option.bind_some, Option.map_some, Option.bind_none, Option.map_none, ix_ref, ix_tup, ix_lst, ix_bor, ix_scr, add_int, add_str, add_tup, sub_int, mul_int, fdiv_int, mod_int, pow_int, neg_int, lt_int, le_int, gt_int, ge_int, eq_int, eq_str, eq_bl, ne_int, ne_str, ne_bl, is_bl, isnt_bl, is_non, isnt_non, len_tup, len_lst, len_ref, len_bor, len_scr, int_bl, int_int, abs_int, min_int, max_int, blD_bl, cell_lst, cellA_lst, cellA_dk, st_ref, at_0, at_1, at_2, at_3, at_4, ixN_10, ixN_20, ixN_21, ixN_30, ixN_31, ixN_32, dataS_d, datas_nil, datas_cons, truth_bl, notD, intS, blS, nonB, List.length_cons, List.length_nil, Nat.reduceAdd, endsF_rt, endsF_nx, rvQ_d, rvQ_new, rvQ_newK, rv_d, rv_ref, rv_cl, rv_ck, okRef_d, okRef_ref, List.not_mem_nil, List.nil_append, true_and, and_true, List.take_succ_cons, List.take_zero, Nat.zero_add, decide_eq_true_eq, Bool.false_eq_true, if_false, if_true, callS, handS_n, handS_tr, handS_fr, handS_fd, handS_fb, cellsAt_c, cellsAt_0, Option.getD_some, backS_0, backS_1, eCall, tup_lst, tup_tup, tup_ref, fLc, iRg, rng_1, rng_2, wipeS_c, wipeS_n, iPq, iSq, seq_tup, seq_lst, seq_bor, lst_lst, lst_bor, gdS_d, gdS_b, sFor, gNm, gcS_c, gcS_n, gcO_d, gcO_n, mapp, rcv_0, rcv_1, rcv_l, gcO_r0, gcO_r1, gcO_z, seal_d, eq_self, List.take_nil, List.cons_append, poSl, poI, poNo, slD_t, intO_i, list_t, list_l, in_str2, ofS_inj, String.reduceEq, or_false, false_or, or_true, true_or, or_self, decide_true, decide_false, Bool.not_true, Bool.not_false, at_m1_2, at_m1_3, cut_2, cut_3, all_bls, any_bls, count_bls, lcg_nm, lcg_tp, lst_ref, laid_l, laid_b, laid_r, list_b, list_r, len_refI, lenOf_ref, rcv_2, rcv_3, rcv_b, slF_l, slF_b, slF_r, cat_l, repr_d, plSl])
  | `(tactic| simp only [VLU, $xs,*]) => `(tactic| simp only [sSeq, sIf, sSet, sSub, sRet, sRetN, sNil, sDrop, sAsg, sPar, sParT, sAug, cP, bB, bTr, bNt, bAn, bOr, po1, po2, poN, pArgs, poIf, poAn, poOr, poNt, poTup, plLst, plN, pl2, pl1, pFz, pV, pC, eP, eo1, eo2, eoN, aP, aNil, aCons, eAn, eOr, eNt, eIf, eFz, eNw, fP, fN, f2, f1, tTupE, tLstF, tTr, tTb, tAn, tOrr, tNt, tYs, eSeal, eMt, poMt, mPure, eCh, pCh, ok_bind, ok_map, ok_some, ok_none, ok_gd, ok_ite, List.getElem?_cons_zero, List.getElem?_cons_succ, List.set_cons_zero, List.set_cons_succ, Option.join_some, Option.bind_some, Option.map_some, Option.bind_none, Option.map_none, ix_ref, ix_tup, ix_lst, ix_bor, ix_scr, add_int, add_str, add_tup, sub_int, mul_int, fdiv_int, mod_int, pow_int, neg_int, lt_int, le_int, gt_int, ge_int, eq_int, eq_str, eq_bl, ne_int, ne_str, ne_bl, is_bl, isnt_bl, is_non, isnt_non, len_tup, len_lst, len_ref, len_bor, len_scr, int_bl, int_int, abs_int, min_int, max_int, blD_bl, cell_lst, cellA_lst, cellA_dk, st_ref, at_0, at_1, at_2, at_3, at_4, ixN_10, ixN_20, ixN_21, ixN_30, ixN_31, ixN_32, dataS_d, datas_nil, datas_cons, truth_bl, notD, intS, blS, nonB, List.length_cons, List.length_nil, Nat.reduceAdd, endsF_rt, endsF_nx, rvQ_d, rvQ_new, rvQ_newK, rv_d, rv_ref, rv_cl, rv_ck, okRef_d, okRef_ref, List.not_mem_nil, List.nil_append, true_and, and_true, List.take_succ_cons, List.take_zero, Nat.zero_add, decide_eq_true_eq, Bool.false_eq_true, if_false, if_true, callS, handS_n, handS_tr, handS_fr, handS_fd, handS_fb, cellsAt_c, cellsAt_0, Option.getD_some, backS_0, backS_1, eCall, tup_lst, tup_tup, tup_ref, fLc, iRg, rng_1, rng_2, wipeS_c, wipeS_n, iPq, iSq, seq_tup, seq_lst, seq_bor, lst_lst, lst_bor, gdS_d, gdS_b, sFor, gNm, gcS_c, gcS_n, gcO_d, gcO_n, mapp, rcv_0, rcv_1, rcv_l, gcO_r0, gcO_r1, gcO_z, seal_d, eq_self, List.take_nil, List.cons_append, poSl, poI, poNo, slD_t, intO_i, list_t, list_l, in_str2, ofS_inj, String.reduceEq, or_false, false_or, or_true, true_or, or_self, decide_true, decide_false, Bool.not_true, Bool.not_false, at_m1_2, at_m1_3, cut_2, cut_3, all_bls, any_bls, count_bls, lcg_nm, lcg_tp, lst_ref, laid_l, laid_b, laid_r, list_b, list_r, len_refI, lenOf_ref, rcv_2, rcv_3, rcv_b, slF_l, slF_b, slF_r, cat_l, repr_d, plSl, $xs,*])
set_option maxHeartbeats 1000000
structure PutOk (n : Nat) (w : Wb) (r : Rw) (i : Nat) (w' : Wb) : Prop where
  pre : w <+: w'
  at_ : w'[i]? = some r
  ok : WbOk n w'
  len : w'.length ≤ w.length + 1
  new : ∀ p, w.length ≤ p → p < w'.length → w'[p]? = some r
theorem PutOk.of {n : Nat} {w w' : Wb} {r : Rw} {i : Nat} (o : WbOk n w) (hr : r.ok n w.length) (h1 : w <+: w') (h2 : w'[i]? = some r) (h3 : w' = w ∨ w' = w ++ [r]) : PutOk n w r i w' := by
  refine ⟨h1, h2, ?_, ?_, fun p p1 p2 => ?_⟩
  · rcases h3 with rfl | rfl
    · exact o
    · exact o.snoc hr
  · rcases h3 with rfl | rfl <;> simp
  · rcases h3 with rfl | rfl
    · omega
    · have : p = w.length := by simp at p2; omega
      subst this
      simp
theorem PutOk.fm {n : Nat} {w w' : Wb} {r : Rw} {i : Nat} (o : WbOk n w) (f : WbFm w) (hr : r.ok n w.length) (hf : r.fm w) (h3 : w' = w ∨ w' = w ++ [r]) : WbFm w' := by
  rcases h3 with rfl | rfl
  · exact f
  · exact WbFm.snoc o f hr hf
theorem PutOk.nm {n : Nat} {w w' : Wb} {r : Rw} {i : Nat} (h : PutOk n w r i w') : nmAt w' i = r.nm (nmW w') := nmAt_row h.ok h.at_
set_option maxHeartbeats 2000000
theorem backS_2 {n m : Nat} {c d : Cell} {M : Mem} : backS [n, m] [c, d] M = (M.set n c).set m d := rfl
theorem one_ne : ((1 : Nat) = 0) = False := by simp
/-- how many picks and has a part brings, gone down by ands and ors -/
def Rw.bq (acc : List Nat) : Rw → Nat
  | .has _ _ => 1
  | .pick _ _ _ => 1
  | .all ps => (ps.map fun p => acc.getD p 0).sum
  | .any ps => (ps.map fun p => acc.getD p 0).sum
  | _ => 0
def bqW (w : Wb) : List Nat := scan Rw.bq [] w
def bqAt (w : Wb) (i : Nat) : Nat := (bqW w).getD i 0
theorem bqAt_app {a b : Wb} {i : Nat} (h : i < a.length) : bqAt (a ++ b) i = bqAt a i := by
  unfold bqAt bqW
  rw [scan_app]
  exact pre_get (scan_pre _ _) (by rw [scan_len]; simpa using h) _
theorem pre_bq {a b : Wb} (h : a <+: b) {i : Nat} (hi : i < a.length) : bqAt b i = bqAt a i := by
  obtain ⟨t, rfl⟩ := h
  exact bqAt_app hi
/-- how deep ands and ors lie -/
def Rw.ht (acc : List Nat) : Rw → Nat
  | .all ps => 1 + (ps.map fun p => acc.getD p 0).foldr max 0
  | .any ps => 1 + (ps.map fun p => acc.getD p 0).foldr max 0
  | _ => 0
def htW (w : Wb) : List Nat := scan Rw.ht [] w
def htAt (w : Wb) (i : Nat) : Nat := (htW w).getD i 0
theorem htAt_app {a b : Wb} {i : Nat} (h : i < a.length) : htAt (a ++ b) i = htAt a i := by
  unfold htAt htW
  rw [scan_app]
  exact pre_get (scan_pre _ _) (by rw [scan_len]; simpa using h) _
theorem pre_ht {a b : Wb} (h : a <+: b) {i : Nat} (hi : i < a.length) : htAt b i = htAt a i := by
  obtain ⟨t, rfl⟩ := h
  exact htAt_app hi
/-- a row that brings at most c picks and has, by ands and ors h deep -/
structure Cb (w : Wb) (p c h : Nat) : Prop where
  cn : bqAt w p ≤ c
  ht : htAt w p ≤ h
theorem Cb.mono {w : Wb} {p c h c' h' : Nat} (k : Cb w p c h) (hc : c ≤ c') (hh : h ≤ h') : Cb w p c' h' := ⟨Nat.le_trans k.cn hc, Nat.le_trans k.ht hh⟩
theorem Cb.pre {a b : Wb} {p c h : Nat} (k : Cb a p c h) (hp : a <+: b) (hi : p < a.length) : Cb b p c h := ⟨by rw [pre_bq hp hi]; exact k.cn, by rw [pre_ht hp hi]; exact k.ht⟩
/-- the new rows bring at most c -/
def CnN (w w' : Wb) (c h : Nat) : Prop := ∀ p, w.length ≤ p → p < w'.length → Cb w' p c h
theorem CnN.refl {w : Wb} {c h : Nat} : CnN w w c h := fun p h1 h2 => absurd h1 (by omega)
theorem CnN.mono {w w' : Wb} {c h c' h' : Nat} (k : CnN w w' c h) (hc : c ≤ c') (hh : h ≤ h') : CnN w w' c' h' := fun p h1 h2 => (k p h1 h2).mono hc hh
theorem CnN.trans {w w1 w2 : Wb} {c h : Nat} (h1 : CnN w w1 c h) (h2 : CnN w1 w2 c h) (pr : w1 <+: w2) : CnN w w2 c h := fun p p1 p2 => by
  by_cases h : p < w1.length
  · exact (h1 p p1 h).pre pr h
  · exact h2 p (by omega) p2
set_option maxHeartbeats 4000000
local macro_rules
  | `(tactic| simp only [VLV]) => `(tactic| simp only [sSeq, sIf, sSet, sSub, sRet, sRetN, sNil, sDrop, sAsg, sPar, sParT, sAug, cP, bB, bTr, bNt, bAn, bOr, po1, po2, poN, pArgs, poIf, poAn, poOr, poNt, poTup, plLst, plN, pl2, pl1, pFz, pV, pC, eP, eo1, eo2, eoN, aP, aNil, aCons, eAn, eOr, eNt, eIf, eFz, eNw, fP, fN, f2, f1, tTupE, tLstF, tTr, tTb, tAn, tOrr, tNt, tYs, eSeal, eMt, poMt, mPure, eCh, pCh, ok_bind, ok_map, ok_some, ok_none, ok_gd, ok_ite, List.getElem?_cons_zero, List.getElem?_cons_succ, List.set_cons_zero, List.set_cons_succ, Option.join_some, Option.bind_some, Option.map_some, Option.bind_none, Option.map_none, ix_ref, ix_tup, ix_lst, ix_bor, ix_scr, add_int, add_str, add_tup, sub_int, mul_int, fdiv_int, mod_int, pow_int, neg_int, lt_int, le_int, gt_int, ge_int, eq_int, eq_str, eq_bl, ne_int, ne_str, ne_bl, is_bl, isnt_bl, is_non, isnt_non, len_tup, len_lst, len_ref, len_bor, len_scr, int_bl, int_int, abs_int, min_int, max_int, blD_bl, cell_lst, cellA_lst, cellA_dk, st_ref, at_0, at_1, at_2, at_3, at_4, ixN_10, ixN_20, ixN_21, ixN_30, ixN_31, ixN_32, dataS_d, datas_nil, datas_cons, truth_bl, notD, intS, blS, nonB, List.length_cons, List.length_nil, Nat.reduceAdd, endsF_rt, endsF_nx, rvQ_d, rvQ_new, rvQ_newK, rv_d, rv_ref, rv_cl, rv_ck, okRef_d, okRef_ref, List.not_mem_nil, List.nil_append, true_and, and_true, List.take_succ_cons, List.take_zero, Nat.zero_add, decide_eq_true_eq, Bool.false_eq_true, if_false, if_true, callS, handS_n, handS_tr, handS_fr, handS_fd, handS_fb, cellsAt_c, cellsAt_0, Option.getD_some, backS_0, backS_1, eCall, tup_lst, tup_tup, tup_ref, fLc, iRg, rng_1, rng_2, wipeS_c, wipeS_n, iPq, iSq, seq_tup, seq_lst, seq_bor, lst_lst, lst_bor, gdS_d, gdS_b, sFor, gNm, gcS_c, gcS_n, gcO_d, gcO_n, mapp, rcv_0, rcv_1, rcv_l, gcO_r0, gcO_r1, gcO_z, seal_d, eq_self, List.take_nil, List.cons_append, poSl, poI, poNo, slD_t, intO_i, list_t, list_l, in_str2, ofS_inj, String.reduceEq, or_false, false_or, or_true, true_or, or_self, decide_true, decide_false, Bool.not_true, Bool.not_false, at_m1_2, at_m1_3, cut_2, cut_3, all_bls, any_bls, count_bls, lcg_nm, lcg_tp, lst_ref, laid_l, laid_b, laid_r, list_b, list_r, len_refI, lenOf_ref, rcv_2, rcv_3, rcv_b, slF_l, slF_b, slF_r, cat_l, repr_d, plSl, backS_2, List.mem_singleton, one_ne, if_false, callS, seal_r, Nat.le_refl])
  | `(tactic| simp only [VLV, $xs,*]) => `(tactic| simp only [sSeq, sIf, sSet, sSub, sRet, sRetN, sNil, sDrop, sAsg, sPar, sParT, sAug, cP, bB, bTr, bNt, bAn, bOr, po1, po2, poN, pArgs, poIf, poAn, poOr, poNt, poTup, plLst, plN, pl2, pl1, pFz, pV, pC, eP, eo1, eo2, eoN, aP, aNil, aCons, eAn, eOr, eNt, eIf, eFz, eNw, fP, fN, f2, f1, tTupE, tLstF, tTr, tTb, tAn, tOrr, tNt, tYs, eSeal, eMt, poMt, mPure, eCh, pCh, ok_bind, ok_map, ok_some, ok_none, ok_gd, ok_ite, List.getElem?_cons_zero, List.getElem?_cons_succ, List.set_cons_zero, List.set_cons_succ, Option.join_some, Option.bind_some, Option.map_some, Option.bind_none, Option.map_none, ix_ref, ix_tup, ix_lst, ix_bor, ix_scr, add_int, add_str, add_tup, sub_int, mul_int, fdiv_int, mod_int, pow_int, neg_int, lt_int, le_int, gt_int, ge_int, eq_int, eq_str, eq_bl, ne_int, ne_str, ne_bl, is_bl, isnt_bl, is_non, isnt_non, len_tup, len_lst, len_ref, len_bor, len_scr, int_bl, int_int, abs_int, min_int, max_int, blD_bl, cell_lst, cellA_lst, cellA_dk, st_ref, at_0, at_1, at_2, at_3, at_4, ixN_10, ixN_20, ixN_21, ixN_30, ixN_31, ixN_32, dataS_d, datas_nil, datas_cons, truth_bl, notD, intS, blS, nonB, List.length_cons, List.length_nil, Nat.reduceAdd, endsF_rt, endsF_nx, rvQ_d, rvQ_new, rvQ_newK, rv_d, rv_ref, rv_cl, rv_ck, okRef_d, okRef_ref, List.not_mem_nil, List.nil_append, true_and, and_true, List.take_succ_cons, List.take_zero, Nat.zero_add, decide_eq_true_eq, Bool.false_eq_true, if_false, if_true, callS, handS_n, handS_tr, handS_fr, handS_fd, handS_fb, cellsAt_c, cellsAt_0, Option.getD_some, backS_0, backS_1, eCall, tup_lst, tup_tup, tup_ref, fLc, iRg, rng_1, rng_2, wipeS_c, wipeS_n, iPq, iSq, seq_tup, seq_lst, seq_bor, lst_lst, lst_bor, gdS_d, gdS_b, sFor, gNm, gcS_c, gcS_n, gcO_d, gcO_n, mapp, rcv_0, rcv_1, rcv_l, gcO_r0, gcO_r1, gcO_z, seal_d, eq_self, List.take_nil, List.cons_append, poSl, poI, poNo, slD_t, intO_i, list_t, list_l, in_str2, ofS_inj, String.reduceEq, or_false, false_or, or_true, true_or, or_self, decide_true, decide_false, Bool.not_true, Bool.not_false, at_m1_2, at_m1_3, cut_2, cut_3, all_bls, any_bls, count_bls, lcg_nm, lcg_tp, lst_ref, laid_l, laid_b, laid_r, list_b, list_r, len_refI, lenOf_ref, rcv_2, rcv_3, rcv_b, slF_l, slF_b, slF_r, cat_l, repr_d, plSl, backS_2, List.mem_singleton, one_ne, if_false, callS, seal_r, Nat.le_refl, $xs,*])
set_option maxHeartbeats 4000000
def backN : D → Nat
  | .int i => i.toNat
  | _ => 0
theorem perm_nD {ys : List D} {ns : List Nat} (h : ys.Perm (ns.map nD)) : ∃ zs : List Nat, zs.Perm ns ∧ ys = zs.map nD := by
  refine ⟨ys.map backN, ?_, ?_⟩
  · have := h.map backN
    rw [List.map_map] at this
    have e : ns.map (backN ∘ nD) = ns := by
      conv => rhs; rw [← List.map_id ns]
      exact List.map_congr_left fun x _ => rfl
    rwa [e] at this
  · rw [List.map_map]
    conv => lhs; rw [← List.map_id ys]
    refine List.map_congr_left fun y hy => ?_
    obtain ⟨m, _, rfl⟩ := List.mem_map.mp (h.mem_iff.mp hy)
    rfl
theorem ite_of {p : Prop} [Decidable p] {A B : Prop} (a : p → A) (b : ¬p → B) : if p then A else B := by
  by_cases h : p
  · rw [if_pos h]; exact a h
  · rw [if_neg h]; exact b h
set_option maxHeartbeats 2000000
section
variable {s : Sv} {xs : List D}
theorem LV.seq {M : Mem} (h : LV s xs) : seqD M s = some xs := by rcases h with rfl | rfl <;> rfl
theorem LV.lst {M : Mem} (h : LV s xs) : lstD M s = some xs := by rcases h with rfl | rfl <;> rfl
theorem LV.laid {M : Mem} (h : LV s xs) : laidD M s = some xs := by rcases h with rfl | rfl <;> rfl
theorem LV.gd {ys : List D} (h : LV s xs) : gdS s ys = fun _ => True := by rcases h with rfl | rfl <;> rfl
theorem LV.gc {k : Nat} (h : LV s xs) : gcO k (some s) = some s := by rcases h with rfl | rfl <;> rfl
theorem LV.len {M : Mem} (h : LV s xs) : lenD M [s] = some (.d (.int xs.length)) := by rcases h with rfl | rfl <;> rfl
end
theorem rgL_nats {n : Nat} : rgL 0 n = (List.range n).map nD := by
  unfold rgL
  refine List.map_congr_left fun i _ => ?_
  show D.int _ = D.int _
  congr 1; omega
set_option maxHeartbeats 2000000
theorem at_last {α : Type} {xs : List α} (h : xs ≠ []) : atI xs (-1) = some (xs.getLast h) := by
  have hl : 0 < xs.length := List.length_pos_iff.mpr h
  unfold atI ixN
  rw [if_neg (by decide), if_pos (by omega)]
  have e : ((-1 : Int) + (xs.length : Int)).toNat = xs.length - 1 := by omega
  rw [Option.bind_some, e, List.getLast_eq_getElem, List.getElem?_eq_getElem]
/-- data in which _law_same may look -/
inductive Sm : Nat → D → Prop
  | int {k i} : Sm k (.int i)
  | bl {k b} : Sm k (.bl b)
  | non {k} : Sm k .non
  | str {k s} : Sm k (.str s)
  | tup {k ds} : ds.length < 1000000 → (∀ d ∈ ds, Sm k d) → Sm (k + 1) (.tup ds)
  | lst {k ds} : ds.length < 1000000 → (∀ d ∈ ds, Sm k d) → Sm (k + 1) (.lst ds)
/-- a value that is this data, or this list lent -/
def DV (s : Sv) (x : D) : Prop := s = .d x ∨ ∃ xs, x = .lst xs ∧ s = .bor xs
def sp_same (e : Nat) : SpD := fun as M Q => ∃ (s1 s2 : Sv) (x : D), as = [s1, s2] ∧ DV s1 x ∧ DV s2 x ∧ M = [] ∧ Sm e x ∧ Q (.d (.bl true)) []
theorem isi1 {M : Mem} {s : Sv} {a t : String} {b : Bool} (h : tyN M s = some a) (hk : known t = true) (hb : subT a t = b) : isiD M [s, .d (.ty t)] = some (.d (.bl b)) := by
  have e : isiD M [s, .d (.ty t)] = (tyN M s).bind fun a => gd (known t = true) (.d (.bl (subT a t))) := rfl
  rw [e, h, Option.bind_some, gd_pos hk, hb]
theorem isi2 {M : Mem} {s : Sv} {a t u : String} {b : Bool} (h : tyN M s = some a) (hk : known t = true ∧ known u = true) (hb : (subT a t || subT a u) = b) : isiD M [s, .d (.tup [.ty t, .ty u])] = some (.d (.bl b)) := by
  have e : isiD M [s, .d (.tup [.ty t, .ty u])] = (tyN M s).bind fun a => gd (known t = true ∧ known u = true) (.d (.bl (subT a t || subT a u))) := rfl
  rw [e, h, Option.bind_some, gd_pos hk, hb]
def r_sameG (sp__law_same : SpD) : TS' :=
  (sSeq (sIf (cP (bTr (poN isiD [(pV 1), (poTup [(pC (.ty "list")), (pC (.ty "tuple"))])])))
  (sSeq (sIf (cP (bOr (bB (po2 neD (poN isiD [(pV 0), (pC (.ty "list"))]) (poN isiD [(pV 1), (pC (.ty "list"))]))) (bB (po2 neD (poN isiD [(pV 0), (pC (.ty "tuple"))]) (poN isiD [(pV 1), (pC (.ty "tuple"))])))))
  (sRet (eP (pC (.bl false))))
  sNil)
  (sSeq (sIf (cP (bB (po2 neD (poN lenD [(pV 0)]) (poN lenD [(pV 1)]))))
  (sRet (eP (pC (.bl false))))
  sNil)
  (sRet (eoN allD (aCons (eFz (fLc (iZq (aP [(pV 0), (pV 1)])) (.tp [2, 3]) tYs (eCall [false, false] sp__law_same (aP [(pV 2), (pV 3)])) [2, 3])) (aP []))))))
  sNil)
  (sSeq (sIf (cP (bOr (bB (po2 isD (pV 1) (pC .non))) (bTr (poN isiD [(pV 1), (pC (.ty "str"))]))))
  (sRet (eP (poAn (po2 eqD (pV 0) (pV 1)) (po2 eqD (poN isiD [(pV 0), (pC (.ty "str"))]) (poN isiD [(pV 1), (pC (.ty "str"))])))))
  sNil)
  (sSeq (sIf (cP (bTr (poN isiD [(pV 1), (pC (.ty "bool"))])))
  (sRet (eP (poAn (poN isiD [(pV 0), (pC (.ty "bool"))]) (po2 eqD (pV 0) (pV 1)))))
  sNil)
  (sRet (eP (poAn (poN isiD [(pV 0), (pC (.ty "int"))]) (poAn (poNt (poN isiD [(pV 0), (pC (.ty "bool"))])) (po2 eqD (pV 0) (pV 1)))))))))
theorem iZq_tt {as bs : List D} {δ : DS} {M : Mem} {i j : Nat} {Q : List D → (Mem → Prop) → Mem → Prop} (h1 : (δ[i]?).join = some (.d (.tup as))) (h2 : (δ[j]?).join = some (.d (.tup bs))) (q : Q (zipL as bs) gdT M) : iZq (aP [pV i, pV j]) δ M Q := by
  show aP [pV i, pV j] δ M _
  unfold aP pArgs pArgs pArgs pV
  rw [h1, h2]
  exact q
theorem iZq_ll {s1 s2 : Sv} {as bs : List D} {δ : DS} {M : Mem} {i j : Nat} {Q : List D → (Mem → Prop) → Mem → Prop} (h1 : (δ[i]?).join = some s1) (h2 : (δ[j]?).join = some s2) (l1 : LV s1 as) (l2 : LV s2 bs) (q : Q (zipL as bs) (fun M => gdS s1 as M ∧ gdS s2 bs M) M) : iZq (aP [pV i, pV j]) δ M Q := by
  show aP [pV i, pV j] δ M _
  unfold aP pArgs pArgs pArgs pV
  rw [h1, h2]
  rcases l1 with rfl | rfl <;> rcases l2 with rfl | rfl <;> exact q
theorem zip_self {as : List D} : zipL as as = as.map fun d => .tup [d, d] := by
  unfold zipL
  induction as with
  | nil => rfl
  | cons a l ih => simp only [List.zip_cons_cons, List.map_cons, ih]
theorem lc_pairs {te : TE'} {δw : DS} {gd : Mem → Prop} {Q : List D → Mem → Prop} {ds : List D} (hg : gd []) (h : ∀ d ∈ ds, ∀ R : QD, R (.d (.bl true)) [] → te ((δw.set 2 (some (.d d))).set 3 (some (.d d))) [] R) (q : Q (ds.map fun _ => .bl true) []) :
    lcL (LcG.tp [2, 3]).to tYs te δw gd Q (zipL ds ds) [] [] := by
  rw [zip_self]
  refine lc_ix _ (fun j acc M => acc = (ds.take j).map (fun _ => D.bl true) ∧ M = []) ?_ ?_ _ _ ⟨rfl, rfl⟩
  · rintro acc M ⟨rfl, rfl⟩
    rw [List.length_map, List.take_length]
    exact ⟨hg, q⟩
  · rintro j x acc M nx hx ⟨rfl, rfl⟩ k
    rw [List.getElem?_map, Option.map_eq_some_iff] at hx
    obtain ⟨d, hd, rfl⟩ := hx
    refine ⟨hg, ?_⟩
    show te ((δw.set 2 (some (.d d))).set 3 (some (.d d))) [] _
    refine h d (List.mem_of_getElem? hd) _ ?_
    refine k _ _ ⟨?_, rfl⟩
    rw [List.take_add_one, hd, List.map_append]; rfl
theorem ty_l {M : Mem} {s : Sv} {xs : List D} (h : LV s xs) : tyN M s = some "list" := by rcases h with rfl | rfl <;> rfl
theorem pure_same {d : Nat} (as : List Sv) (M : Mem) (Q : Rv → Mem → Prop) (h : spB sp_same (d + 1) as M Q) : r_sameG (spB sp_same d) (endsF M.length Q) (startD 4 as) M := by
  obtain ⟨e, he, s1, s2, x, rfl, h1, h2, rfl, hx, z⟩ := h
  show r_sameG (spB sp_same d) (endsF 0 Q) [some s1, some s2, none, none] []
  have lv : ∀ {s : Sv} {ds : List D}, DV s (.lst ds) → LV s ds := fun h => by
    rcases h with rfl | ⟨_, h, rfl⟩
    · exact .inl rfl
    · cases h; exact .inr rfl
  have nl : ∀ {s : Sv} {x : D}, (∀ ds, x ≠ .lst ds) → DV s x → s = .d x := fun hn h => by
    rcases h with rfl | ⟨xs, h, _⟩
    · rfl
    · exact absurd h (hn xs)
  cases hx with
  | int =>
    rename_i i
    cases nl (fun _ h => by cases h) h1
    cases nl (fun _ h => by cases h) h2
    have t0 : tyN [] (.d (.int i)) = some "int" := rfl
    simp only [r_sameG, sSeq]
    simp only [VLV, isi2 t0 (t := "list") (u := "tuple") ⟨rfl, rfl⟩ (b := false) (by decide), isi1 t0 (t := "str") rfl (b := false) (by decide), isi1 t0 (t := "bool") rfl (b := false) (by decide), isi1 t0 (t := "int") rfl (b := true) (by decide), truth_bl, decide_true]
    exact z
  | bl =>
    rename_i i
    cases nl (fun _ h => by cases h) h1
    cases nl (fun _ h => by cases h) h2
    have t0 : tyN [] (.d (.bl i)) = some "bool" := rfl
    simp only [r_sameG, sSeq]
    simp only [VLV, isi2 t0 (t := "list") (u := "tuple") ⟨rfl, rfl⟩ (b := false) (by decide), isi1 t0 (t := "str") rfl (b := false) (by decide), isi1 t0 (t := "bool") rfl (b := true) (by decide), truth_bl, decide_true]
    exact z
  | non =>
    cases nl (fun _ h => by cases h) h1
    cases nl (fun _ h => by cases h) h2
    have t0 : tyN [] (.d .non) = some "NoneType" := rfl
    have e0 : eqD [] (.d .non) (.d .non) = some (.d (.bl true)) := rfl
    simp only [r_sameG, sSeq]
    simp only [VLV, e0, isi2 t0 (t := "list") (u := "tuple") ⟨rfl, rfl⟩ (b := false) (by decide), isi1 t0 (t := "str") rfl (b := false) (by decide), truth_bl, decide_true]
    exact z
  | str =>
    rename_i i
    cases nl (fun _ h => by cases h) h1
    cases nl (fun _ h => by cases h) h2
    have t0 : tyN [] (.d (.str i)) = some "str" := rfl
    simp only [r_sameG, sSeq]
    simp only [VLV, isi2 t0 (t := "list") (u := "tuple") ⟨rfl, rfl⟩ (b := false) (by decide), isi1 t0 (t := "str") rfl (b := true) (by decide), truth_bl, decide_true]
    exact z
  | tup hl hd =>
    rename_i k ds
    cases nl (fun _ h => by cases h) h1
    cases nl (fun _ h => by cases h) h2
    have t0 : tyN [] (.d (.tup ds)) = some "tuple" := rfl
    simp only [r_sameG, sSeq]
    simp only [VLV, isi2 t0 (t := "list") (u := "tuple") ⟨rfl, rfl⟩ (b := true) (by decide), isi1 t0 (t := "list") rfl (b := false) (by decide), isi1 t0 (t := "tuple") rfl (b := true) (by decide), truth_bl, decide_true]
    refine iZq_tt rfl rfl ?_
    refine lc_pairs trivial (fun d hdm R hR => ?_) ?_
    · simp only [VLV]
      exact ⟨k, by omega, _, _, d, rfl, .inl rfl, .inl rfl, rfl, hd d hdm, hR⟩
    · simp only [VLV, all_true']
      exact z
  | lst hl hd =>
    rename_i k ds
    have l1 := lv h1
    have l2 := lv h2
    have t1 : tyN [] s1 = some "list" := ty_l l1
    have t2 : tyN [] s2 = some "list" := ty_l l2
    simp only [r_sameG, sSeq]
    simp only [VLV, isi2 t2 (t := "list") (u := "tuple") ⟨rfl, rfl⟩ (b := true) (by decide), isi1 t1 (t := "list") rfl (b := true) (by decide), isi1 t1 (t := "tuple") rfl (b := false) (by decide), isi1 t2 (t := "list") rfl (b := true) (by decide), isi1 t2 (t := "tuple") rfl (b := false) (by decide), truth_bl, decide_true, l1.len, l2.len]
    refine iZq_ll rfl rfl l1 l2 ?_
    refine lc_pairs (by rw [l1.gd, l2.gd]; exact ⟨trivial, trivial⟩) (fun d hdm R hR => ?_) ?_
    · simp only [VLV]
      exact ⟨k, by omega, _, _, d, rfl, .inl rfl, .inl rfl, rfl, hd d hdm, hR⟩
    · simp only [VLV, all_true']
      exact z
set_option maxHeartbeats 2000000
/-- data of small leaves -/
structure Pq (w dp : Nat) (d : D) : Prop where
  no : noR d = true
  sh : (py d).leavesShort 8 = true
  la : (py d).canLay0 = true
  sw : (py d).showable = true
  we : (py d).weight ≤ w
  de : (py d).depth ≤ dp
structure Pqs (w dp : Nat) (d : List D) : Prop where
  no : noRs d = true
  sh : PyData.leavesShortAll 8 (pys d) = true
  la : PyData.canLayAll0 (pys d) = true
  sw : PyData.showableAll (pys d) = true
  we : PyData.weightAll (pys d) ≤ w
  de : PyData.depthAll (pys d) ≤ dp
theorem Pq.mono {w dp w' dp' : Nat} {d : D} (h : Pq w dp d) (h1 : w ≤ w') (h2 : dp ≤ dp') : Pq w' dp' d := ⟨h.no, h.sh, h.la, h.sw, Nat.le_trans h.we h1, Nat.le_trans h.de h2⟩
theorem Pqs.mono {w dp w' dp' : Nat} {d : List D} (h : Pqs w dp d) (h1 : w ≤ w') (h2 : dp ≤ dp') : Pqs w' dp' d := ⟨h.no, h.sh, h.la, h.sw, Nat.le_trans h.we h1, Nat.le_trans h.de h2⟩
theorem Pq.str {s : Str} {n : Nat} (h : (PyData.canLay0 (.str s) && (PyData.str s).leavesShort 8 && decide (s.cps.size ≤ n)) = true) : Pq n 0 (.str s) := by
  simp only [Bool.and_eq_true, decide_eq_true_eq] at h
  exact ⟨rfl, h.1.2, h.1.1, rfl, h.2, Nat.le_refl _⟩
theorem Pqs.nil {dp : Nat} : Pqs 0 dp [] := ⟨rfl, rfl, rfl, rfl, Nat.le_refl _, Nat.zero_le _⟩
theorem Pqs.cons {w1 w2 dp : Nat} {d : D} {ds : List D} (h : Pq w1 dp d) (h2 : Pqs w2 dp ds) : Pqs (w1 + 1 + w2) dp (d :: ds) := by
  refine ⟨?_, ?_, ?_, ?_, ?_, ?_⟩
  · simp only [noRs, h.no, h2.no]; rfl
  · simp only [pys, PyData.leavesShortAll, h.sh, h2.sh]; rfl
  · simp only [pys, PyData.canLayAll0, h.la, h2.la]; rfl
  · simp only [pys, PyData.showableAll, h.sw, h2.sw]; rfl
  · simp only [pys, PyData.weightAll]; have := h.we; have := h2.we; omega
  · simp only [pys, PyData.depthAll]; have := h.de; have := h2.de; omega
theorem Pq.tup {w dp : Nat} {ds : List D} (h : Pqs w dp ds) : Pq w (dp + 1) (.tup ds) := by
  refine ⟨h.no, ?_, ?_, ?_, ?_, ?_⟩
  · simp only [py, PyData.leavesShort]; exact h.sh
  · simp only [py, PyData.canLay0]; exact h.la
  · simp only [py, PyData.showable]; exact h.sw
  · simp only [py, PyData.weight]; exact h.we
  · simp only [py, PyData.depth]; have := h.de; omega
theorem Pq.lst {w dp : Nat} {ds : List D} (h : Pqs w dp ds) : Pq w (dp + 1) (.lst ds) := by
  refine ⟨h.no, ?_, ?_, ?_, ?_, ?_⟩
  · simp only [py, PyData.leavesShort]; exact h.sh
  · simp only [py, PyData.canLay0]; exact h.la
  · simp only [py, PyData.showable]; exact h.sw
  · simp only [py, PyData.weight]; exact h.we
  · simp only [py, PyData.depth]; have := h.de; omega
set_option maxHeartbeats 2000000
theorem cat_get {α : Type} {X : List α} {c : α} : (X ++ [c])[X.length]? = some c := by simp
theorem cat_set {α : Type} {X : List α} {c d : α} : (X ++ [c]).set X.length d = X ++ [d] := by
  rw [List.set_append_right _ _ (Nat.le_refl _), Nat.sub_self]; rfl
theorem at_ite {α : Type} {p : Prop} [Decidable p] {x y : α} : atI [x, y] (if p then 1 else 0) = some (if p then y else x) := by
  by_cases h : p
  · rw [if_pos h, if_pos h]; rfl
  · rw [if_neg h, if_neg h]; rfl
/-- a loop that leaves the state of one kind -/
theorem for_kp {k : Nat} {g : TG'} {b : TS'} {E : Ends'} {gd : Mem → Prop} {ds : List D} (I : DS → Mem → Prop) (fin : ∀ δ M, I δ M → gd M ∧ E.nx δ M)
    (step : ∀ d ∈ ds, ∀ δ M (nx : DS → Mem → Prop), I δ M → (∀ δ' M', I (gcS k δ') (M'.take k) → nx δ' M') → gd M ∧ g d δ M fun δ1 M1 => b ⟨nx, E.rt, E.nx, nx⟩ δ1 M1) {δ : DS} {M : Mem} (h : I δ M) : forL k g b E gd ds δ M :=
  for_ix ds (fun _ => I) (fun δ M h => fin δ M h) (fun _ d δ M nx e hI kk => step d (List.mem_of_getElem? e) δ M nx hI kk) δ M h
local macro_rules
  | `(tactic| simp only [VLY]) => `(tactic| simp only [sSeq, sIf, sSet, sSub, sRet, sRetN, sNil, sDrop, sAsg, sPar, sParT, sAug, cP, bB, bTr, bNt, bAn, bOr, po1, po2, poN, pArgs, poIf, poAn, poOr, poNt, poTup, plLst, plN, pl2, pl1, pFz, pV, pC, eP, eo1, eo2, eoN, aP, aNil, aCons, eAn, eOr, eNt, eIf, eFz, eNw, fP, fN, f2, f1, tTupE, tLstF, tTr, tTb, tAn, tOrr, tNt, tYs, eSeal, eMt, poMt, mPure, eCh, pCh, ok_bind, ok_map, ok_some, ok_none, ok_gd, ok_ite, List.getElem?_cons_zero, List.getElem?_cons_succ, List.set_cons_zero, List.set_cons_succ, Option.join_some, Option.bind_some, Option.map_some, Option.bind_none, Option.map_none, ix_ref, ix_tup, ix_lst, ix_bor, ix_scr, add_int, add_str, add_tup, sub_int, mul_int, fdiv_int, mod_int, pow_int, neg_int, lt_int, le_int, gt_int, ge_int, eq_int, eq_str, eq_bl, ne_int, ne_str, ne_bl, is_bl, isnt_bl, is_non, isnt_non, len_tup, len_lst, len_ref, len_bor, len_scr, int_bl, int_int, abs_int, min_int, max_int, blD_bl, cell_lst, cellA_lst, cellA_dk, st_ref, at_0, at_1, at_2, at_3, at_4, ixN_10, ixN_20, ixN_21, ixN_30, ixN_31, ixN_32, dataS_d, datas_nil, datas_cons, truth_bl, notD, intS, blS, nonB, List.length_cons, List.length_nil, Nat.reduceAdd, endsF_rt, endsF_nx, rvQ_d, rvQ_new, rvQ_newK, rv_d, rv_ref, rv_cl, rv_ck, okRef_d, okRef_ref, List.not_mem_nil, List.nil_append, true_and, and_true, List.take_succ_cons, List.take_zero, Nat.zero_add, decide_eq_true_eq, Bool.false_eq_true, if_false, if_true, callS, handS_n, handS_tr, handS_fr, handS_fd, handS_fb, cellsAt_c, cellsAt_0, Option.getD_some, backS_0, backS_1, eCall, tup_lst, tup_tup, tup_ref, fLc, iRg, rng_1, rng_2, wipeS_c, wipeS_n, iPq, iSq, seq_tup, seq_lst, seq_bor, lst_lst, lst_bor, gdS_d, gdS_b, sFor, gNm, gcS_c, gcS_n, gcO_d, gcO_n, mapp, rcv_0, rcv_1, rcv_l, gcO_r0, gcO_r1, gcO_z, seal_d, eq_self, List.take_nil, List.cons_append, poSl, poI, poNo, slD_t, intO_i, list_t, list_l, in_str2, ofS_inj, String.reduceEq, or_false, false_or, or_true, true_or, or_self, decide_true, decide_false, Bool.not_true, Bool.not_false, at_m1_2, at_m1_3, cut_2, cut_3, all_bls, any_bls, count_bls, lcg_nm, lcg_tp, lst_ref, laid_l, laid_b, laid_r, list_b, list_r, len_refI, lenOf_ref, rcv_2, rcv_3, rcv_b, slF_l, slF_b, slF_r, cat_l, repr_d, plSl, backS_2, List.mem_singleton, one_ne, if_false, callS, seal_r, Nat.le_refl, cat_get, cat_set, List.append_assoc, List.length_append, List.append_nil, at_ite, Nat.zero_le, iTq, tupD])
  | `(tactic| simp only [VLY, $xs,*]) => `(tactic| simp only [sSeq, sIf, sSet, sSub, sRet, sRetN, sNil, sDrop, sAsg, sPar, sParT, sAug, cP, bB, bTr, bNt, bAn, bOr, po1, po2, poN, pArgs, poIf, poAn, poOr, poNt, poTup, plLst, plN, pl2, pl1, pFz, pV, pC, eP, eo1, eo2, eoN, aP, aNil, aCons, eAn, eOr, eNt, eIf, eFz, eNw, fP, fN, f2, f1, tTupE, tLstF, tTr, tTb, tAn, tOrr, tNt, tYs, eSeal, eMt, poMt, mPure, eCh, pCh, ok_bind, ok_map, ok_some, ok_none, ok_gd, ok_ite, List.getElem?_cons_zero, List.getElem?_cons_succ, List.set_cons_zero, List.set_cons_succ, Option.join_some, Option.bind_some, Option.map_some, Option.bind_none, Option.map_none, ix_ref, ix_tup, ix_lst, ix_bor, ix_scr, add_int, add_str, add_tup, sub_int, mul_int, fdiv_int, mod_int, pow_int, neg_int, lt_int, le_int, gt_int, ge_int, eq_int, eq_str, eq_bl, ne_int, ne_str, ne_bl, is_bl, isnt_bl, is_non, isnt_non, len_tup, len_lst, len_ref, len_bor, len_scr, int_bl, int_int, abs_int, min_int, max_int, blD_bl, cell_lst, cellA_lst, cellA_dk, st_ref, at_0, at_1, at_2, at_3, at_4, ixN_10, ixN_20, ixN_21, ixN_30, ixN_31, ixN_32, dataS_d, datas_nil, datas_cons, truth_bl, notD, intS, blS, nonB, List.length_cons, List.length_nil, Nat.reduceAdd, endsF_rt, endsF_nx, rvQ_d, rvQ_new, rvQ_newK, rv_d, rv_ref, rv_cl, rv_ck, okRef_d, okRef_ref, List.not_mem_nil, List.nil_append, true_and, and_true, List.take_succ_cons, List.take_zero, Nat.zero_add, decide_eq_true_eq, Bool.false_eq_true, if_false, if_true, callS, handS_n, handS_tr, handS_fr, handS_fd, handS_fb, cellsAt_c, cellsAt_0, Option.getD_some, backS_0, backS_1, eCall, tup_lst, tup_tup, tup_ref, fLc, iRg, rng_1, rng_2, wipeS_c, wipeS_n, iPq, iSq, seq_tup, seq_lst, seq_bor, lst_lst, lst_bor, gdS_d, gdS_b, sFor, gNm, gcS_c, gcS_n, gcO_d, gcO_n, mapp, rcv_0, rcv_1, rcv_l, gcO_r0, gcO_r1, gcO_z, seal_d, eq_self, List.take_nil, List.cons_append, poSl, poI, poNo, slD_t, intO_i, list_t, list_l, in_str2, ofS_inj, String.reduceEq, or_false, false_or, or_true, true_or, or_self, decide_true, decide_false, Bool.not_true, Bool.not_false, at_m1_2, at_m1_3, cut_2, cut_3, all_bls, any_bls, count_bls, lcg_nm, lcg_tp, lst_ref, laid_l, laid_b, laid_r, list_b, list_r, len_refI, lenOf_ref, rcv_2, rcv_3, rcv_b, slF_l, slF_b, slF_r, cat_l, repr_d, plSl, backS_2, List.mem_singleton, one_ne, if_false, callS, seal_r, Nat.le_refl, cat_get, cat_set, List.append_assoc, List.length_append, List.append_nil, at_ite, Nat.zero_le, iTq, tupD, $xs,*])
theorem call_tape {δ : DS} {M : Mem} {i j : Nat} {ns : List Int} {k : Int} {Q : QD} (h0 : (δ[i]?).join = some (.d (.scr ns))) (h1 : (δ[j]?).join = some (.d (.int k))) (k0 : 0 ≤ k) (k1 : k ≤ 1000) (z : ∀ ds, Tp 0 ds → Q (.ref M.length) (M ++ [.lst ds])) :
    eCall [false, false] sp_tape (aP [pV i, pV j]) δ M Q := by
  show aP [pV i, pV j] δ M _
  unfold aP pArgs pArgs pArgs pV
  rw [h0, h1]
  exact ⟨ns, k, rfl, rfl, k0, k1, fun ds h => z ds h⟩
theorem rg_mem {J : Nat} {d : D} (h : d ∈ rgL 0 J) : ∃ j : Nat, j < J ∧ d = .int (j : Int) := by
  rw [rgL_nats] at h
  obtain ⟨j, hj, rfl⟩ := List.mem_map.mp h
  exact ⟨j, by simpa using hj, rfl⟩
theorem gcO_up {k m : Nat} {o : Option Sv} (h : k ≤ m) : gcO m (gcO k o) = gcO k o := by
  cases o with
  | none => rfl
  | some s =>
    cases s with
    | d x => rfl
    | bor x => rfl
    | ref n =>
      by_cases hn : n < k
      · rw [show gcO k (some (.ref n)) = some (.ref n) from if_pos hn]; exact if_pos (by omega)
      · rw [show gcO k (some (.ref n)) = none from if_neg hn]; rfl
set_option maxHeartbeats 2000000
set_option maxHeartbeats 2000000
set_option maxHeartbeats 2000000
set_option maxHeartbeats 2000000
set_option maxHeartbeats 2000000
set_option maxHeartbeats 2000000
theorem or_rg {M : Mem} {n : Nat} (h : n ≤ 1000) : rgLF M [.d (.int (n : Int))] = some ((List.range n).map nD) := by
  have e : rgLF M [.d (.int (n : Int))] = gd (-(2 ^ 62) ≤ (n : Int) ∧ (n : Int) ≤ 16777216) (rgL 0 ((n : Int)).toNat) := rfl
  rw [e, gd_pos (by omega), Int.toNat_natCast, rgL_nats]
set_option maxHeartbeats 2000000
def bkF : List Str := ["many", "order", "held", "bits", "came", "deeds"]
def clsT : List (Str × List Str) := [("Book", bkF)]
/-- a book: its claims, settings and deeds in these cells -/
def bkX (x y z : Nat) (m : Int) (o : D) (k : Int) : Cell := .nd (.ob "Book" bkF) [.inl (.int m), .inl o, .inr x, .inr y, .inl (.int k), .inr z]
abbrev bkC (m : Int) (o : D) (k : Int) : Cell := bkX 0 1 2 m o k
section
variable {M : Mem} {j : Nat} {kvs : List (Key × D)} {n : Int} {d : D} {R : Mem → Prop} {Q : QD}
theorem kv_ref (h : M[j]? = some (.dk kvs)) : kvAt M (.ref j) = some kvs := by
  show cellK M[j]? = _
  rw [h]; rfl
theorem zip_kv : (kvs.map (·.1)).zip (kvs.map (·.2)) = kvs := by
  induction kvs with
  | nil => rfl
  | cons p kvs ih => rw [List.map_cons, List.map_cons, List.zip_cons_cons, ih]
theorem f_dinA {s : Sv} (h : kvAt M s = some kvs) : dinA M (.d (.int n)) s = some (.d (.bl (vI kvs n).isSome)) := by
  have e : dinA M (.d (.int n)) s = ((kvAt M s).bind fun kvs => (keyD (.int n)).map fun k => (valK kvs k).isSome).map blS := rfl
  rw [e, h]; rfl
theorem f_dninA {s : Sv} (h : kvAt M s = some kvs) : dninA M (.d (.int n)) s = some (.d (.bl (!(vI kvs n).isSome))) := by
  have e : dninA M (.d (.int n)) s = ((kvAt M s).bind fun kvs => (keyD (.int n)).map fun k => (valK kvs k).isSome).map fun b => blS (!b) := rfl
  rw [e, h]; rfl
theorem f_dgetA {s : Sv} (h : kvAt M s = some kvs) (hv : vI kvs n = some d) : dgetA M s (.d (.int n)) = some (.d d) := by
  have e : dgetA M s (.d (.int n)) = (kvAt M s).bind fun kvs => (keyD (.int n)).bind fun k => (valK kvs k).map .d := rfl
  rw [e, h]
  show (valK kvs (.inl n)).map Sv.d = _
  rw [show valK kvs (.inl n) = some d from hv]; rfl
theorem f_stK (h : M[j]? = some (.dk kvs)) (hl : kvs.length < 1000000) (q : R (M.set j (.dk (putKD kvs (.inl n) d)))) : stK (.ref j) (.d (.int n)) d M R := by
  show ok (cellK M[j]?) fun kvs => ok (keyD (.int n)) fun k => kvs.length < sizeLine ∧ R (M.set j (.dk (putKD kvs k d)))
  rw [h]
  exact ⟨by rw [sizeLine_eq]; omega, q⟩
theorem f_dpop (h : M[j]? = some (.dk kvs)) (hv : vI kvs n = some d) (q : Q (.d d) (M.set j (.dk (dropKD kvs (.inl n))))) : mDPop (.ref j) [.d (.int n)] M Q := by
  show ok (cellK M[j]?) fun kvs => ok (keyD (.int n)) fun k => ok (valK kvs k) fun d => Q (.d d) (M.set j (.dk (dropKD kvs k)))
  rw [h]
  show ok (valK kvs (.inl n)) _
  rw [show valK kvs (.inl n) = some d from hv]
  exact q
theorem f_sortA {s : Sv} {ns : List Int} (h : kvAt M s = some kvs) (hn : keysI kvs = some ns) (hl : kvs.length ≤ 1000000) : sortDA M [s] = some ((sortI ns).map .int) := by
  show (kvAt M s).bind _ = _
  rw [h]
  show (keysI kvs).bind _ = _
  rw [hn]
  exact gd_pos (by rw [keysI_len hn]; exact hl)
end
section
variable {A B C : Cell} {G : Mem} {m k i : Int} {o : D} {h b : List (Key × D)} {ds : List D} {R : Rv → Mem → Prop} {sp : SpD}
theorem fld_held : fldD clsT "held" (A :: B :: C :: bkC m o k :: G) (.ref 3) = some (.ref 0) := rfl
theorem fld_bits : fldD clsT "bits" (A :: B :: C :: bkC m o k :: G) (.ref 3) = some (.ref 1) := rfl
theorem fld_deeds : fldD clsT "deeds" (A :: B :: C :: bkC m o k :: G) (.ref 3) = some (.ref 2) := rfl
theorem fld_came : fldD clsT "came" (A :: B :: C :: bkC m o k :: G) (.ref 3) = some (.d (.int k)) := rfl
theorem fld_many : fldD clsT "many" (A :: B :: C :: bkC m o k :: G) (.ref 3) = some (.d (.int m)) := rfl
theorem put_came : fldPut clsT "came" (A :: B :: C :: bkC m o k :: G) (.d (.int i)) (.ref 3) = some (A :: B :: C :: bkC m o i :: G) := rfl
theorem rcv_d2 : rcv (A :: B :: .lst ds :: G) (.ref 2) = some "list" := rfl
end
def r_binit  : NS' :=
  (nSeq (nSet "many" (eP (pV 1)))
  (nSeq (nSet "order" (eP (pFz (plN listF [(pV 2)]))))
  (nSeq (nSet "held" eDkN)
  (nSeq (nSet "bits" eDkN)
  (nSeq (nSet "came" (eP (pC (.int 0))))
  (nSet "deeds" (eNw (fP (plLst [])))))))))
def sp_binit : SpI := fun as M Q0 => ∃ (m : Int) (s : Sv) (xs : List D), as = [.d (.int m), s] ∧ LV s xs ∧ M = [] ∧ Q0 [.dk [], .dk [], .lst []] bkF [.inl (.int m), .inl (.lst xs), .inr 0, .inr 1, .inl (.int 0), .inr 2]
theorem pure_binit (as : List Sv) (M : Mem) (Q0 : Mem → List Str → List (D ⊕ Nat) → Prop) (h : sp_binit as M Q0) : r_binit Q0 (startI 3 as) M [] [] := by
  obtain ⟨m, s, xs, rfl, hs, rfl, z⟩ := h
  have go : ∀ s, LV s xs → r_binit Q0 [none, some (.d (.int m)), some s] [] [] [] := by
    intro s hs
    rcases hs with rfl | rfl
    · unfold r_binit nSeq nSet eDkN
      simp only [VLY, list_l]
      exact ⟨⟨fun h => by simp [ofS_inj] at h, by decide⟩, ⟨fun h => by simp [ofS_inj] at h, by decide⟩, ⟨fun h => by simp [ofS_inj] at h, by decide⟩, ⟨fun h => by simp [ofS_inj] at h, by decide⟩, ⟨fun h => by simp [ofS_inj] at h, by decide⟩, ⟨fun h => by simp [ofS_inj] at h, by decide⟩, z⟩
    · unfold r_binit nSeq nSet eDkN
      simp only [VLY, list_b]
      exact ⟨⟨fun h => by simp [ofS_inj] at h, by decide⟩, ⟨fun h => by simp [ofS_inj] at h, by decide⟩, ⟨fun h => by simp [ofS_inj] at h, by decide⟩, ⟨fun h => by simp [ofS_inj] at h, by decide⟩, ⟨fun h => by simp [ofS_inj] at h, by decide⟩, ⟨fun h => by simp [ofS_inj] at h, by decide⟩, z⟩
  exact go s hs
def r_bcome  : TS' :=
  (sSeq (sSet 2 (eP (poFld clsT "came" (pV 0))))
  (sSeq (sSubK (eP (pV 1)) (eP (poFld clsT "held" (pV 0))) (eP (pV 2)))
  (sSeq (sFldA clsT "came" 1 (eP (pV 0)))
  (sSeq (sDrop (eMt "list" mApp (eP (poFld clsT "deeds" (pV 0))) (aP [(poTup [(pC (.str "come")), (pV 2), (pC .non)])])))
  (sRet (eP (pV 2)))))))
def sp_bcome : SpD := fun as M Q => ∃ (h b : List (Key × D)) (ds : List D) (m k : Int) (o c : D), as = [.ref 3, .d c] ∧ M = [.dk h, .dk b, .lst ds, bkC m o k] ∧ h.length < 1000000 ∧ ds.length < 1000000 ∧
  Q (.d (.int k)) [.dk (putKD h (.inl k) c), .dk b, .lst (ds ++ [.tup [.str "come", .int k, .non]]), bkC m o (k + 1)]
theorem pure_bcome (as : List Sv) (M : Mem) (Q : Rv → Mem → Prop) (h : sp_bcome as M Q) : r_bcome (endsF M.length Q) (startD 3 as) M := by
  obtain ⟨h, b, ds, m, k, o, c, rfl, rfl, hl, hd, z⟩ := h
  show r_bcome (endsF 4 Q) [some (.ref 3), some (.d c), none] [.dk h, .dk b, .lst ds, bkC m o k]
  unfold r_bcome sSubK sFldA
  simp only [VLY, poFld, fld_came, fld_held, fld_deeds]
  refine f_stK (j := 0) rfl hl ?_
  simp only [VLY, poFld, fld_came, fld_held, fld_deeds, put_came, rcv_d2, mApp]
  refine ⟨by rw [sizeLine_eq]; omega, z⟩
def r_bgo  : TS' :=
  (sSeq (sIf (cP (bB (po2 dninA (pV 1) (poFld clsT "held" (pV 0)))))
  sStop
  sNil)
  (sDrop (eMt "list" mApp (eP (poFld clsT "deeds" (pV 0))) (aCons (tTupE (aCons (eP (pC (.str "go"))) (aCons (eP (pV 1)) (aCons (eMt "dict" mDPop (eP (poFld clsT "held" (pV 0))) (aP [(pV 1)])) (aP []))))) (aP [])))))
def sp_bgo : SpD := fun as M Q => ∃ (h b : List (Key × D)) (ds : List D) (m k n : Int) (o c : D), as = [.ref 3, .d (.int n)] ∧ M = [.dk h, .dk b, .lst ds, bkC m o k] ∧ ds.length < 1000000 ∧ vI h n = some c ∧
  Q (.d .non) [.dk (dropKD h (.inl n)), .dk b, .lst (ds ++ [.tup [.str "go", .int n, c]]), bkC m o k]
theorem pure_bgo (as : List Sv) (M : Mem) (Q : Rv → Mem → Prop) (h : sp_bgo as M Q) : r_bgo (endsF M.length Q) (startD 2 as) M := by
  obtain ⟨h, b, ds, m, k, n, o, c, rfl, rfl, hd, hv, z⟩ := h
  show r_bgo (endsF 4 Q) [some (.ref 3), some (.d (.int n))] [.dk h, .dk b, .lst ds, bkC m o k]
  have e1 : dninA [.dk h, .dk b, .lst ds, bkC m o k] (.d (.int n)) (.ref 0) = _ := f_dninA (kv_ref (j := 0) rfl)
  unfold r_bgo
  simp only [VLY, poFld, fld_came, fld_held, fld_deeds, e1, hv, Option.isSome_some, rcv_d2]
  refine ⟨rfl, f_dpop (j := 0) rfl hv ?_⟩
  simp only [VLY, poFld, fld_came, fld_held, fld_deeds, mApp]
  refine ⟨by rw [sizeLine_eq]; omega, z⟩
def r_bsettle  : TS' :=
  (sSeq (sIf (cP (bB (po2 dinA (pV 1) (poFld clsT "bits" (pV 0)))))
  sStop
  sNil)
  (sSeq (sSubK (eP (pV 2)) (eP (poFld clsT "bits" (pV 0))) (eP (pV 1)))
  (sDrop (eMt "list" mApp (eP (poFld clsT "deeds" (pV 0))) (aP [(poTup [(pC (.str "settle")), (pV 1), (pV 2)])])))))
def sp_bsettle : SpD := fun as M Q => ∃ (h b : List (Key × D)) (ds : List D) (m k n : Int) (o c : D), as = [.ref 3, .d (.int n), .d c] ∧ M = [.dk h, .dk b, .lst ds, bkC m o k] ∧ ds.length < 1000000 ∧ b.length < 1000000 ∧ vI b n = none ∧
  Q (.d .non) [.dk h, .dk (putKD b (.inl n) c), .lst (ds ++ [.tup [.str "settle", .int n, c]]), bkC m o k]
theorem pure_bsettle (as : List Sv) (M : Mem) (Q : Rv → Mem → Prop) (h : sp_bsettle as M Q) : r_bsettle (endsF M.length Q) (startD 3 as) M := by
  obtain ⟨h, b, ds, m, k, n, o, c, rfl, rfl, hd, hb, hv, z⟩ := h
  show r_bsettle (endsF 4 Q) [some (.ref 3), some (.d (.int n)), some (.d c)] [.dk h, .dk b, .lst ds, bkC m o k]
  have e1 : dinA [.dk h, .dk b, .lst ds, bkC m o k] (.d (.int n)) (.ref 1) = _ := f_dinA (kv_ref (j := 1) rfl)
  unfold r_bsettle sSubK
  simp only [VLY, poFld, fld_bits, fld_held, fld_deeds, e1, hv, Option.isSome_none]
  refine f_stK (j := 1) rfl hb ?_
  simp only [VLY, poFld, fld_bits, fld_deeds, mApp, rcv_d2]
  refine ⟨by rw [sizeLine_eq]; omega, z⟩
def r_bfree  : TS' :=
  (sSeq (sIf (cP (bB (po2 dninA (pV 1) (poFld clsT "bits" (pV 0)))))
  sStop
  sNil)
  (sDrop (eMt "list" mApp (eP (poFld clsT "deeds" (pV 0))) (aCons (tTupE (aCons (eP (pC (.str "free"))) (aCons (eP (pV 1)) (aCons (eMt "dict" mDPop (eP (poFld clsT "bits" (pV 0))) (aP [(pV 1)])) (aP []))))) (aP [])))))
def sp_bfree : SpD := fun as M Q => ∃ (h b : List (Key × D)) (ds : List D) (m k n : Int) (o c : D), as = [.ref 3, .d (.int n)] ∧ M = [.dk h, .dk b, .lst ds, bkC m o k] ∧ ds.length < 1000000 ∧ vI b n = some c ∧
  Q (.d .non) [.dk h, .dk (dropKD b (.inl n)), .lst (ds ++ [.tup [.str "free", .int n, c]]), bkC m o k]
theorem pure_bfree (as : List Sv) (M : Mem) (Q : Rv → Mem → Prop) (h : sp_bfree as M Q) : r_bfree (endsF M.length Q) (startD 2 as) M := by
  obtain ⟨h, b, ds, m, k, n, o, c, rfl, rfl, hd, hv, z⟩ := h
  show r_bfree (endsF 4 Q) [some (.ref 3), some (.d (.int n))] [.dk h, .dk b, .lst ds, bkC m o k]
  have e1 : dninA [.dk h, .dk b, .lst ds, bkC m o k] (.d (.int n)) (.ref 1) = _ := f_dninA (kv_ref (j := 1) rfl)
  unfold r_bfree
  simp only [VLY, poFld, fld_came, fld_bits, fld_deeds, e1, hv, Option.isSome_some, rcv_d2]
  refine ⟨rfl, f_dpop (j := 1) rfl hv ?_⟩
  simp only [VLY, poFld, fld_came, fld_bits, fld_deeds, mApp]
  refine ⟨by rw [sizeLine_eq]; omega, z⟩
inductive Deed where
  | come (n : Int) | go (n : Int) (c : D) | set (n : Int) (c : D) | free (n : Int) (c : D)
def deD : Deed → D
  | .come n => .tup [.str "come", .int n, .non]
  | .go n c => .tup [.str "go", .int n, c]
  | .set n c => .tup [.str "settle", .int n, c]
  | .free n c => .tup [.str "free", .int n, c]
/-- what undo leaves -/
def unH : Deed → List (Key × D) → List (Key × D)
  | .come n, h => dropKD h (.inl n)
  | .go n c, h => putKD h (.inl n) c
  | _, h => h
def unB : Deed → List (Key × D) → List (Key × D)
  | .set n _, b => dropKD b (.inl n)
  | .free n c, b => putKD b (.inl n) c
  | _, b => b
def unK : Deed → Int → Int
  | .come n, _ => n
  | _, k => k
/-- there is what undo takes -/
def unOk : Deed → List (Key × D) → List (Key × D) → Prop
  | .come n, h, _ => (vI h n).isSome = true
  | .set n _, _, b => (vI b n).isSome = true
  | _, _, _ => True
theorem f_pop {M : Mem} {j : Nat} {ds : List D} {x : D} {Q : QD} (h : M[j]? = some (.lst (ds ++ [x]))) (q : Q (.d x) (M.set j (.lst ds))) : mPop (.ref j) [] M Q := by
  show ok (cellL M[j]?) fun ds => ok ds[ds.length - 1]? fun y => Q (.d y) (M.set j (.lst ds.dropLast))
  rw [h]
  show ok (ds ++ [x])[(ds ++ [x]).length - 1]? _
  rw [List.length_append, List.length_singleton, Nat.add_sub_cancel, List.getElem?_append_right (Nat.le_refl _), Nat.sub_self]
  show Q (.d x) (M.set j (.lst (ds ++ [x]).dropLast))
  rw [List.dropLast_concat]
  exact q
def r_bundo  : TS' :=
  (sSeq (sIf (cP (bB (po2 eqD (poN lenD [(poFld clsT "deeds" (pV 0))]) (pC (.int 0)))))
  (sRet (eP (pC (.bl false))))
  sNil)
  (sSeq (sAsg (eMt "list" mPop (eP (poFld clsT "deeds" (pV 0))) (aP [])) (gTp [1, 2, 3]))
  (sSeq (sIf (cP (bB (po2 eqD (pV 1) (pC (.str "come")))))
  (sSeq (sDrop (eMt "dict" mDPop (eP (poFld clsT "held" (pV 0))) (aP [(pV 2)])))
  (sFldI clsT "came" (eP (pV 2)) (eP (pV 0))))
  (sIf (cP (bB (po2 eqD (pV 1) (pC (.str "go")))))
  (sSubK (eP (pV 3)) (eP (poFld clsT "held" (pV 0))) (eP (pV 2)))
  (sIf (cP (bB (po2 eqD (pV 1) (pC (.str "settle")))))
  (sDrop (eMt "dict" mDPop (eP (poFld clsT "bits" (pV 0))) (aP [(pV 2)])))
  (sSubK (eP (pV 3)) (eP (poFld clsT "bits" (pV 0))) (eP (pV 2))))))
  (sRet (eP (pC (.bl true)))))))
def sp_bundo : SpD := fun as M Q => ∃ (h b : List (Key × D)) (dl : List D) (m k : Int) (o : D), as = [.ref 3] ∧ M = [.dk h, .dk b, .lst dl, bkC m o k] ∧ h.length < 1000000 ∧ b.length < 1000000 ∧
  ((dl = [] ∧ Q (.d (.bl false)) [.dk h, .dk b, .lst [], bkC m o k]) ∨
   ∃ (ds : List D) (e : Deed), dl = ds ++ [deD e] ∧ unOk e h b ∧ Q (.d (.bl true)) [.dk (unH e h), .dk (unB e b), .lst ds, bkC m o (unK e k)])
theorem pure_bundo (as : List Sv) (M : Mem) (Q : Rv → Mem → Prop) (h : sp_bundo as M Q) : r_bundo (endsF M.length Q) (startD 4 as) M := by
  obtain ⟨h, b, dl, m, k, o, rfl, rfl, hl, hb, z⟩ := h
  show r_bundo (endsF 4 Q) [some (.ref 3), none, none, none] [.dk h, .dk b, .lst dl, bkC m o k]
  have hlen : lenD [.dk h, .dk b, .lst dl, bkC m o k] [.ref 2] = some (.d (.int (dl.length : Int))) := rfl
  unfold r_bundo sSubK sFldI sAsg
  simp only [VLY, poFld, fld_deeds, hlen]
  rcases z with ⟨rfl, z⟩ | ⟨ds, e, rfl, ho, z⟩
  · simp only [List.length_nil]
    rw [if_pos (by rfl)]
    exact z
  · have hp : ¬ ((ds ++ [deD e]).length : Int) = 0 := by rw [List.length_append, List.length_singleton]; omega
    rw [if_neg hp]
    refine f_pop (j := 2) rfl ?_
    cases e with
    | come n =>
      obtain ⟨c, hc⟩ := Option.isSome_iff_exists.mp (show (vI h n).isSome = true from ho)
      simp only [VLY, deD, gTp, setAll, poFld, fld_held, String.reduceEq]
      refine ⟨rfl, f_dpop (j := 0) rfl hc ?_⟩
      simp only [VLY, poFld, put_came]
      exact z
    | go n c =>
      simp only [VLY, deD, gTp, setAll, poFld, fld_held, String.reduceEq]
      refine f_stK (j := 0) rfl hl ?_
      simp only [VLY]
      exact z
    | set n c =>
      obtain ⟨x, hc⟩ := Option.isSome_iff_exists.mp (show (vI b n).isSome = true from ho)
      simp only [VLY, deD, gTp, setAll, poFld, fld_bits, String.reduceEq]
      refine ⟨rfl, f_dpop (j := 1) rfl hc ?_⟩
      simp only [VLY]
      exact z
    | free n c =>
      simp only [VLY, deD, gTp, setAll, poFld, fld_bits, String.reduceEq]
      refine f_stK (j := 1) rfl hb ?_
      simp only [VLY]
      exact z
set_option maxHeartbeats 2000000
/-- what is held, what is settled, how many came -/
structure BS where
  h : Int → Option D
  b : Int → Option D
  k : Int
def unS : Deed → BS → BS
  | .come n, s => ⟨fun m => if m = n then none else s.h m, s.b, n⟩
  | .go n c, s => ⟨fun m => if m = n then some c else s.h m, s.b, s.k⟩
  | .set n _, s => ⟨s.h, fun m => if m = n then none else s.b m, s.k⟩
  | .free n c, s => ⟨s.h, fun m => if m = n then some c else s.b m, s.k⟩
def okS : Deed → BS → Prop
  | .come n, s => (s.h n).isSome = true
  | .set n _, s => (s.b n).isSome = true
  | _, _ => True
abbrev Kv := List (Key × D)
abbrev bsOf (H B : Kv) (k : Int) : BS := ⟨vI H, vI B, k⟩
theorem vI_put {H : Kv} {n m : Int} {c : D} : vI (putKD H (.inl n) c) m = if m = n then some c else vI H m := by
  unfold vI
  rw [valK_put]
  by_cases h : m = n
  · rw [if_pos h, if_pos (by rw [h])]
  · rw [if_neg h, if_neg (fun e => h (Sum.inl.inj e))]
theorem vI_drop {H : Kv} {n m : Int} : vI (dropKD H (.inl n)) m = if m = n then none else vI H m := by
  unfold vI
  rw [valK_drop]
  by_cases h : m = n
  · rw [if_pos h, if_pos (by rw [h])]
  · rw [if_neg h, if_neg (fun e => h (Sum.inl.inj e))]
theorem un_bs (e : Deed) (H B : Kv) (k : Int) : bsOf (unH e H) (unB e B) (unK e k) = unS e (bsOf H B k) := by
  cases e with
  | come n => simp only [unH, unB, unK, unS, bsOf, BS.mk.injEq, and_self, and_true]; funext m; exact vI_drop
  | go n c => simp only [unH, unB, unK, unS, bsOf, BS.mk.injEq, and_self, and_true]; funext m; exact vI_put
  | set n c => simp only [unH, unB, unK, unS, bsOf, BS.mk.injEq, and_self, and_true, true_and]; funext m; exact vI_drop
  | free n c => simp only [unH, unB, unK, unS, bsOf, BS.mk.injEq, and_self, and_true, true_and]; funext m; exact vI_put
/-- a claim of N names; a name's bit -/
def ClD (N : Nat) (d : D) : Prop := ∃ (c : Cm) (q : Nat), d = cD c ∧ c.ok N q ∧ q ≤ 2 ∧ c.sz ≤ 21
def SeD (N : Nat) (n : Int) (d : D) : Prop := ∃ i : Int, d = .int i ∧ 0 ≤ i ∧ i < 2 ∧ 0 ≤ n ∧ n < N
/-- a keeping of claims, settings, how many came -/
structure Good (N t : Nat) (C E : Kv) (k : Int) : Prop where
  iC : IK C
  iE : IK E
  lC : C.length ≤ t
  lE : E.length ≤ t
  k0 : 0 ≤ k
  kt : k ≤ t
  fresh : ∀ n, k ≤ n ∨ n < 0 → vI C n = none
  vC : ∀ n d, vI C n = some d → ClD N d
  vE : ∀ n d, vI E n = some d → SeD N n d
theorem Good.mono {N t u : Nat} {C E : Kv} {k : Int} (g : Good N t C E k) (h : t ≤ u) : Good N u C E k := ⟨g.iC, g.iE, Nat.le_trans g.lC h, Nat.le_trans g.lE h, g.k0, by have := g.kt; omega, g.fresh, g.vC, g.vE⟩
abbrev Snap := Kv × Kv × Int
inductive Hist (N t : Nat) : List Deed → List Snap → BS → Prop
  | nil : Hist N t [] [] (bsOf [] [] 0)
  | snoc {dl ps e C E k s} : unS e s = bsOf C E k → okS e s → Good N t C E k → Hist N t dl ps (bsOf C E k) → Hist N t (dl ++ [e]) (ps ++ [(C, E, k)]) s
theorem Hist.mono {N t u : Nat} (h : t ≤ u) : ∀ {dl : List Deed} {ps : List Snap} {s : BS}, Hist N t dl ps s → Hist N u dl ps s
  | _, _, _, .nil => .nil
  | _, _, _, .snoc e o g r => .snoc e o (g.mono h) (Hist.mono h r)
theorem Hist.len {N t : Nat} : ∀ {dl : List Deed} {ps : List Snap} {s : BS}, Hist N t dl ps s → dl.length = ps.length
  | _, _, _, .nil => rfl
  | _, _, _, .snoc _ _ _ r => by rw [List.length_append, List.length_append, r.len]; rfl
/-- a book (H, B, deeds, k) and the law's own keeping (C, E, past) -/
structure BkI (N t : Nat) (H B : Kv) (dl : List Deed) (k : Int) (C E : Kv) (ps : List Snap) : Prop where
  iH : IK H
  iB : IK B
  lH : H.length ≤ t
  lB : B.length ≤ t
  ld : dl.length ≤ t
  g : Good N t C E k
  eq : bsOf H B k = bsOf C E k
  hist : Hist N t dl ps (bsOf C E k)
theorem BkI.mono {N t u : Nat} {H B C E : Kv} {dl : List Deed} {k : Int} {ps : List Snap} (I : BkI N t H B dl k C E ps) (h : t ≤ u) : BkI N u H B dl k C E ps :=
  ⟨I.iH, I.iB, Nat.le_trans I.lH h, Nat.le_trans I.lB h, Nat.le_trans I.ld h, I.g.mono h, I.eq, I.hist.mono h⟩
theorem BkI.h {N t : Nat} {H B C E : Kv} {dl : List Deed} {k : Int} {ps : List Snap} (I : BkI N t H B dl k C E ps) (n : Int) : vI H n = vI C n := congrFun (congrArg BS.h I.eq) n
theorem BkI.b {N t : Nat} {H B C E : Kv} {dl : List Deed} {k : Int} {ps : List Snap} (I : BkI N t H B dl k C E ps) (n : Int) : vI B n = vI E n := congrFun (congrArg BS.b I.eq) n
theorem BkI.nil {N : Nat} : BkI N 0 [] [] [] 0 [] [] [] :=
  ⟨.nil, .nil, Nat.le_refl _, Nat.le_refl _, Nat.le_refl _, ⟨.nil, .nil, Nat.le_refl _, Nat.le_refl _, Int.le_refl _, Int.le_refl _, (fun _ _ => rfl), (fun _ _ h => by cases h), (fun _ _ h => by cases h)⟩, rfl, .nil⟩
theorem BkI.come {N t : Nat} {H B C E : Kv} {dl : List Deed} {k : Int} {ps : List Snap} {c : D} (I : BkI N t H B dl k C E ps) (hc : ClD N c) :
    BkI N (t + 1) (putKD H (.inl k) c) B (dl ++ [.come k]) (k + 1) (putKD C (.inl k) c) E (ps ++ [(C, E, k)]) := by
  have g := I.g
  refine ⟨I.iH.put, I.iB, Nat.le_trans putKD_len (by have := I.lH; omega), by have := I.lB; omega, by rw [List.length_append]; have := I.ld; simp; omega, ⟨g.iC.put, g.iE, Nat.le_trans putKD_len (by have := g.lC; omega), by have := g.lE; omega, by have := g.k0; omega, by have := g.kt; omega, fun n hn => ?_, fun n d hd => ?_, g.vE⟩, ?_, ?_⟩
  · have hk0 := g.k0
    rw [vI_put, if_neg (by omega)]; exact g.fresh n (by omega)
  · rw [vI_put] at hd
    split at hd
    · cases hd; exact hc
    · exact g.vC n d hd
  · simp only [bsOf, BS.mk.injEq, and_true]
    refine ⟨funext fun n => ?_, funext fun n => I.b n⟩
    rw [vI_put, vI_put, I.h n]
  · refine .snoc ?_ ?_ (g.mono (Nat.le_succ _)) (I.hist.mono (Nat.le_succ _))
    · simp only [unS, bsOf, BS.mk.injEq, and_true]
      funext n
      rw [vI_put]
      by_cases h : n = k
      · rw [if_pos h, h, g.fresh k (.inl (Int.le_refl _))]
      · rw [if_neg h, if_neg h]
    · show (vI (putKD C (.inl k) c) k).isSome = true
      rw [vI_put, if_pos rfl]; rfl
theorem BkI.go {N t : Nat} {H B C E : Kv} {dl : List Deed} {k n : Int} {ps : List Snap} {c : D} (I : BkI N t H B dl k C E ps) (hc : vI C n = some c) :
    BkI N (t + 1) (dropKD H (.inl n)) B (dl ++ [.go n c]) k (dropKD C (.inl n)) E (ps ++ [(C, E, k)]) := by
  have g := I.g
  refine ⟨I.iH.drop, I.iB, Nat.le_trans dropKD_len (by have := I.lH; omega), by have := I.lB; omega, by rw [List.length_append]; have := I.ld; simp; omega, ⟨g.iC.drop, g.iE, Nat.le_trans dropKD_len (by have := g.lC; omega), by have := g.lE; omega, g.k0, by have := g.kt; omega, fun m hm => ?_, fun m d hd => ?_, g.vE⟩, ?_, ?_⟩
  · rw [vI_drop]; split
    · rfl
    · exact g.fresh m hm
  · rw [vI_drop] at hd
    split at hd
    · cases hd
    · exact g.vC m d hd
  · simp only [bsOf, BS.mk.injEq, and_true]
    refine ⟨funext fun m => ?_, funext fun m => I.b m⟩
    rw [vI_drop, vI_drop, I.h m]
  · refine .snoc ?_ trivial (g.mono (Nat.le_succ _)) (I.hist.mono (Nat.le_succ _))
    simp only [unS, bsOf, BS.mk.injEq, and_true]
    funext m
    rw [vI_drop]
    by_cases h : m = n
    · rw [if_pos h, h, hc]
    · rw [if_neg h, if_neg h]
theorem BkI.set {N t : Nat} {H B C E : Kv} {dl : List Deed} {k n : Int} {ps : List Snap} {c : D} (I : BkI N t H B dl k C E ps) (hc : vI E n = none) (hs : SeD N n c) :
    BkI N (t + 1) H (putKD B (.inl n) c) (dl ++ [.set n c]) k C (putKD E (.inl n) c) (ps ++ [(C, E, k)]) := by
  have g := I.g
  refine ⟨I.iH, I.iB.put, by have := I.lH; omega, Nat.le_trans putKD_len (by have := I.lB; omega), by rw [List.length_append]; have := I.ld; simp; omega, ⟨g.iC, g.iE.put, by have := g.lC; omega, Nat.le_trans putKD_len (by have := g.lE; omega), g.k0, by have := g.kt; omega, g.fresh, g.vC, fun m d hd => ?_⟩, ?_, ?_⟩
  · rw [vI_put] at hd
    split at hd
    · rename_i e
      cases hd; rw [e]; exact hs
    · exact g.vE m d hd
  · simp only [bsOf, BS.mk.injEq, and_true]
    refine ⟨funext fun m => I.h m, funext fun m => ?_⟩
    rw [vI_put, vI_put, I.b m]
  · refine .snoc ?_ ?_ (g.mono (Nat.le_succ _)) (I.hist.mono (Nat.le_succ _))
    · simp only [unS, bsOf, BS.mk.injEq, and_true, true_and]
      funext m
      rw [vI_put]
      by_cases h : m = n
      · rw [if_pos h, h, hc]
      · rw [if_neg h, if_neg h]
    · show (vI (putKD E (.inl n) c) n).isSome = true
      rw [vI_put, if_pos rfl]; rfl
theorem BkI.free {N t : Nat} {H B C E : Kv} {dl : List Deed} {k n : Int} {ps : List Snap} {c : D} (I : BkI N t H B dl k C E ps) (hc : vI E n = some c) :
    BkI N (t + 1) H (dropKD B (.inl n)) (dl ++ [.free n c]) k C (dropKD E (.inl n)) (ps ++ [(C, E, k)]) := by
  have g := I.g
  refine ⟨I.iH, I.iB.drop, by have := I.lH; omega, Nat.le_trans dropKD_len (by have := I.lB; omega), by rw [List.length_append]; have := I.ld; simp; omega, ⟨g.iC, g.iE.drop, by have := g.lC; omega, Nat.le_trans dropKD_len (by have := g.lE; omega), g.k0, by have := g.kt; omega, g.fresh, g.vC, fun m d hd => ?_⟩, ?_, ?_⟩
  · rw [vI_drop] at hd
    split at hd
    · cases hd
    · exact g.vE m d hd
  · simp only [bsOf, BS.mk.injEq, and_true]
    refine ⟨funext fun m => I.h m, funext fun m => ?_⟩
    rw [vI_drop, vI_drop, I.b m]
  · refine .snoc ?_ trivial (g.mono (Nat.le_succ _)) (I.hist.mono (Nat.le_succ _))
    simp only [unS, bsOf, BS.mk.injEq, and_true, true_and]
    funext m
    rw [vI_drop]
    by_cases h : m = n
    · rw [if_pos h, h, hc]
    · rw [if_neg h, if_neg h]
theorem unH_ik {e : Deed} {H : Kv} (h : IK H) : IK (unH e H) := by
  cases e with
  | come n => exact h.drop
  | go n c => exact h.put
  | _ => exact h
theorem unB_ik {e : Deed} {H : Kv} (h : IK H) : IK (unB e H) := by
  cases e with
  | set n c => exact h.drop
  | free n c => exact h.put
  | _ => exact h
theorem IK.len {A B : Kv} (a : IK A) (b : IK B) (h : ∀ n, vI A n = vI B n) : A.length = B.length := by
  rw [← soK_len a, ← soK_len b, soK_same a b h]
/-- the last deed taken back -/
theorem BkI.undo {N t : Nat} {H B C E : Kv} {dl : List Deed} {e : Deed} {k : Int} {ps : List Snap} {p : Snap} (I : BkI N t H B (dl ++ [e]) k C E (ps ++ [p])) :
    unOk e H B ∧ unK e k = p.2.2 ∧ BkI N t (unH e H) (unB e B) dl p.2.2 p.1 p.2.1 ps := by
  have hi := I.hist
  generalize hs : bsOf C E k = s at hi
  generalize hd : dl ++ [e] = dl' at hi
  generalize hp : ps ++ [p] = ps' at hi
  cases hi with
  | nil => simp at hd
  | @snoc dl2 ps2 e2 C2 E2 k2 s q1 q2 q3 q4 =>
    obtain ⟨rfl, h1⟩ := List.append_inj' hd rfl
    cases h1
    obtain ⟨rfl, h2⟩ := List.append_inj' hp rfl
    cases h2
    have eb := un_bs e H B k
    rw [I.eq, hs, q1] at eb
    have ek : unK e k = k2 := congrArg BS.k eb
    refine ⟨?_, ek, unH_ik I.iH, unB_ik I.iB, ?_, ?_, by have := I.ld; rw [List.length_append] at this; omega, q3, ?_, q4⟩
    · cases e with
      | come n => subst hs; show (vI H n).isSome = true; rw [I.h n]; exact q2
      | set n c => subst hs; show (vI B n).isSome = true; rw [I.b n]; exact q2
      | go n c => trivial
      | free n c => trivial
    · rw [(unH_ik I.iH).len q3.iC fun n => congrFun (congrArg BS.h eb) n]; exact q3.lC
    · rw [(unB_ik I.iB).len q3.iE fun n => congrFun (congrArg BS.b eb) n]; exact q3.lE
    · rw [ek] at eb; exact eb
/-- all taken back -/
theorem BkI.bare {N t : Nat} {H B C E : Kv} {dl : List Deed} {k : Int} (I : BkI N t H B dl k C E []) : dl = [] ∧ H = [] ∧ B = [] ∧ k = 0 := by
  have hi := I.hist
  have hd : dl = [] := List.length_eq_zero_iff.mp hi.len
  subst hd
  have es : bsOf C E k = bsOf [] [] 0 := by
    generalize hs : bsOf C E k = s at hi
    generalize hp : ([] : List Snap) = ps at hi
    generalize hq : ([] : List Deed) = dq at hi
    cases hi with
    | nil => rfl
    | snoc _ _ _ _ => simp at hp
  have hH : ∀ n, vI H n = none := fun n => by rw [I.h n]; exact congrFun (congrArg BS.h es) n
  have hB : ∀ n, vI B n = none := fun n => by rw [I.b n]; exact congrFun (congrArg BS.b es) n
  have em : ∀ {A : Kv}, IK A → (∀ n, vI A n = none) → A = [] := fun {A} a h => by
    cases A with
    | nil => rfl
    | cons p A =>
      obtain ⟨n, e⟩ := keysI_keys.mp a.int p.1 (by rw [List.map_cons]; exact List.mem_cons_self)
      have := h n
      unfold vI at this
      rw [show p :: A = (p.1, p.2) :: A from rfl, valK_cons, if_pos e] at this
      cases this
  exact ⟨rfl, em I.iH hH, em I.iB hB, congrArg BS.k es⟩
set_option maxHeartbeats 2000000
abbrev dkD (C : Kv) : D := .dk (C.map (·.1)) (C.map (·.2))
def snD (p : Snap) : D := .tup [dkD p.1, dkD p.2.1, .int p.2.2]
def ownK (C E : Kv) (k : Int) (ps : List Snap) : Kv := [(.inr "claims", dkD C), (.inr "bits", dkD E), (.inr "came", .int k), (.inr "past", .lst (ps.map snD))]
theorem kv_dkD {M : Mem} {C : Kv} : kvAt M (.d (dkD C)) = some C := by
  show some (List.zip _ _) = _
  rw [zip_kv]
theorem f_dgetS {M : Mem} {s : Sv} {kvs : Kv} {x : Str} {d : D} (h : kvAt M s = some kvs) (hv : valK kvs (.inr x) = some d) : dgetA M s (.d (.str x)) = some (.d d) := by
  have e : dgetA M s (.d (.str x)) = (kvAt M s).bind fun kvs => (keyD (.str x)).bind fun k => (valK kvs k).map .d := rfl
  rw [e, h]
  show (valK kvs (.inr x)).map Sv.d = _
  rw [hv]; rfl
section
variable {M : Mem} {j : Nat} {C E C' E' : Kv} {k k' : Int} {ps ps' : List Snap}
theorem own_c : valK (ownK C E k ps) (.inr "claims") = some (dkD C) := by simp [ownK, valK_cons]
theorem own_b : valK (ownK C E k ps) (.inr "bits") = some (dkD E) := by simp [ownK, valK_cons, ofS_inj]
theorem own_k : valK (ownK C E k ps) (.inr "came") = some (.int k) := by simp [ownK, valK_cons, ofS_inj]
theorem own_p : valK (ownK C E k ps) (.inr "past") = some (.lst (ps.map snD)) := by simp [ownK, valK_cons, ofS_inj]
theorem own_came : putKD (ownK C E k ps) (.inr "came") (.int k') = ownK C E k' ps := by simp [ownK, putKD, ofS_inj]
theorem own_new : mrgK [] [(.inr "claims", dkD []), (.inr "bits", dkD []), (.inr "came", .int 0), (.inr "past", .lst [])] = ownK [] [] 0 [] := by simp [ownK, mrgK, putKD, ofS_inj]
theorem f_updD {n m : Nat} {kvs more : Kv} {Q : QD} (hn : n ≠ m) (h1 : M[n]? = some (.dk kvs)) (h2 : M[m]? = some (.dk more)) (hl : kvs.length + more.length ≤ 1000000) (q : Q (.d .non) (M.set n (.dk (mrgK kvs more)))) : mUpdD (.ref n) [.ref m] M Q := by
  show n ≠ m ∧ ok (cellK M[n]?) fun kvs => ok (cellK M[m]?) fun more => kvs.length + more.length ≤ sizeLine ∧ Q (.d .non) (M.set n (.dk (mrgK kvs more)))
  rw [h1, h2]
  exact ⟨hn, by rw [sizeLine_eq]; omega, q⟩
end
def r_lnew  : TS' :=
  (sRet (eDispK [("claims", (eSealK 0 eDkN)), ("bits", (eSealK 0 eDkN)), ("came", (eP (pC (.int 0)))), ("past", (eP (pFz (plLst []))))]))
def sp_lnew : SpD := fun as M Q => as = [] ∧ M = [] ∧ Q (.newK (ownK [] [] 0 [])) []
theorem pure_lnew (as : List Sv) (M : Mem) (Q : Rv → Mem → Prop) (h : sp_lnew as M Q) : r_lnew (endsF M.length Q) (startD 0 as) M := by
  obtain ⟨rfl, rfl, z⟩ := h
  show r_lnew (endsF 0 Q) [] []
  unfold r_lnew eDispK eSealK eDkN tPs tPs tPs tPs tPs
  simp only [VLY, sealK, cellK]
  rw [own_new]
  exact z
set_option maxHeartbeats 2000000
theorem cut_but1 {ds : List D} {x : D} : cutD (ds ++ [x]) none (some (-1)) = ds := by
  have e : cutD (ds ++ [x]) none (some (-1)) = (ds ++ [x]).dropLast := by
    unfold cutD
    have h0 : HT.sIx (ds ++ [x]).length 0 none = 0 := rfl
    have h1 : HT.sIx (ds ++ [x]).length (ds ++ [x]).length (some (-1)) = (ds ++ [x]).length - 1 := by
      unfold HT.sIx
      simp only [List.length_append, List.length_singleton]
      split <;> omega
    rw [h0, h1, List.drop_zero, Nat.sub_zero, List.dropLast_eq_take]
  rw [e, List.dropLast_concat]
section
variable {M G : Mem} {A : Cell} {d d' : List D} {x : D} {H B H' B' : Kv} {m k k' : Int} {o : D} {R : Rv → Mem → Prop} {sp : SpD}
theorem at_lastD {ds : List D} : atI (ds ++ [x]) (-1) = some x := by
  rw [at_last (by simp)]
  simp
theorem own_c0 {C E : Kv} {ps : List Snap} : dgetA (.dk (ownK C E k ps) :: G) (.ref 0) (.d (.str "claims")) = some (.d (dkD C)) := f_dgetS (kv_ref (j := 0) rfl) own_c
theorem own_b0 {C E : Kv} {ps : List Snap} : dgetA (.dk (ownK C E k ps) :: G) (.ref 0) (.d (.str "bits")) = some (.d (dkD E)) := f_dgetS (kv_ref (j := 0) rfl) own_b
theorem own_p0 {C E : Kv} {ps : List Snap} : dgetA (.dk (ownK C E k ps) :: G) (.ref 0) (.d (.str "past")) = some (.d (.lst (ps.map snD))) := f_dgetS (kv_ref (j := 0) rfl) own_p
theorem own_c1 {C E : Kv} {ps : List Snap} : dgetA (A :: .dk (ownK C E k ps) :: G) (.ref 1) (.d (.str "claims")) = some (.d (dkD C)) := f_dgetS (kv_ref (j := 1) rfl) own_c
theorem own_b1 {C E : Kv} {ps : List Snap} : dgetA (A :: .dk (ownK C E k ps) :: G) (.ref 1) (.d (.str "bits")) = some (.d (dkD E)) := f_dgetS (kv_ref (j := 1) rfl) own_b
theorem own_k1 {C E : Kv} {ps : List Snap} : dgetA (A :: .dk (ownK C E k ps) :: G) (.ref 1) (.d (.str "came")) = some (.d (.int k)) := f_dgetS (kv_ref (j := 1) rfl) own_k
theorem own_p1 {C E : Kv} {ps : List Snap} : dgetA (A :: .dk (ownK C E k ps) :: G) (.ref 1) (.d (.str "past")) = some (.d (.lst (ps.map snD))) := f_dgetS (kv_ref (j := 1) rfl) own_p
theorem own_len {C E : Kv} {ps : List Snap} : (ownK C E k ps).length = 4 := rfl
theorem own_len4 {a b c e : D} : (mrgK [] [(.inr "claims", a), (.inr "bits", b), (.inr "came", c), (.inr "past", e)]).length = 4 := by simp [mrgK, putKD, ofS_inj]
theorem own_upd {C E C' E' : Kv} {ps : List Snap} {ps' : List D} : mrgK (ownK C E k ps) (mrgK [] [(.inr "claims", dkD C'), (.inr "bits", dkD E'), (.inr "came", .int k'), (.inr "past", .lst ps')]) = [(.inr "claims", dkD C'), (.inr "bits", dkD E'), (.inr "came", .int k'), (.inr "past", .lst ps')] := by simp [ownK, mrgK, putKD, ofS_inj]
theorem own_len3 {a b e : D} : (mrgK [] [(.inr "claims", a), (.inr "bits", b), (.inr "past", e)]).length = 3 := by simp [mrgK, putKD, ofS_inj]
theorem own_upd3 {C E C' E' : Kv} {ps : List Snap} {ps' : List D} : mrgK (ownK C E k ps) (mrgK [] [(.inr "claims", dkD C'), (.inr "bits", dkD E'), (.inr "past", .lst ps')]) = [(.inr "claims", dkD C'), (.inr "bits", dkD E'), (.inr "came", .int k), (.inr "past", .lst ps')] := by simp [ownK, mrgK, putKD, ofS_inj]
theorem rcv_K0 {kvs : Kv} : rcv (.dk kvs :: G) (.ref 0) = some "dict" := rfl
theorem rcv_K1 {kvs : Kv} : rcv (A :: .dk kvs :: G) (.ref 1) = some "dict" := rfl
theorem nil_eq {ds : List D} : eqNilD M (.d (.lst ds)) (.d (.lst [])) = some (.d (.bl ds.isEmpty)) := rfl
theorem call_B4 : callO [true] sp (A :: .dk H :: .dk B :: .lst d :: bkX 1 2 3 m o k :: G) [.ref 4] R = sp [.ref 3] [.dk H, .dk B, .lst d, bkC m o k] fun v Mc => R v (backO [1, 2, 3, 4] Mc (A :: .dk H :: .dk B :: .lst d :: bkX 1 2 3 m o k :: G)) := rfl
theorem back_B4 : backO [1, 2, 3, 4] [.dk H', .dk B', .lst d', bkC m o k'] (A :: .dk H :: .dk B :: .lst d :: bkX 1 2 3 m o k :: G) = A :: .dk H' :: .dk B' :: .lst d' :: bkX 1 2 3 m o k' :: G := rfl
theorem ob_undo4 : isOb "Book" "undo" (A :: .dk H :: .dk B :: .lst d :: bkX 1 2 3 m o k :: G) (.ref 4) = true := rfl
end
def r_lundone (sp_Book__undo : SpD) : TS' :=
  (sSeq (sIf (cP (bB (po2 eqNilD (po2 dgetA (pV 0) (pC (.str "past"))) (pFz (plLst [])))))
  (sRet (eo2 isD (eMeth "Book" "undo" [true] sp_Book__undo (eP (pV 1)) (aP [])) (eP (pC (.bl false)))))
  sNil)
  (sSeq (sAsg (eP (po2 ixD (po2 dgetA (pV 0) (pC (.str "past"))) (po1 negD (pC (.int 1))))) (gTp [2, 3, 4]))
  (sSeq (sDrop (eMt "dict" mUpdD (eP (pV 0)) (aCons (eDispK [("claims", (eP (pV 2))), ("bits", (eP (pV 3))), ("came", (eP (pV 4))), ("past", (eP (pFz (plSl (po2 dgetA (pV 0) (pC (.str "past"))) poNo (poI (po1 negD (pC (.int 1))))))))]) (aP []))))
  (sRet (eo2 isD (eMeth "Book" "undo" [true] sp_Book__undo (eP (pV 1)) (aP [])) (eP (pC (.bl true))))))))
def sp_lundone : SpD := fun as M Q => ∃ (N t : Nat) (H B C E : Kv) (dl : List Deed) (ps : List Snap) (k m : Int) (o : D), as = [.ref 0, .ref 4] ∧ M = [.dk (ownK C E k ps), .dk H, .dk B, .lst (dl.map deD), bkX 1 2 3 m o k] ∧ BkI N t H B dl k C E ps ∧ t ≤ 1000 ∧
  ∀ (H' B' C' E' : Kv) (dl' : List Deed) (ps' : List Snap) (k' : Int), BkI N t H' B' dl' k' C' E' ps' → ps'.length = ps.length - 1 → Q (.d (.bl true)) [.dk (ownK C' E' k' ps'), .dk H', .dk B', .lst (dl'.map deD), bkX 1 2 3 m o k']
theorem pure_lundone (as : List Sv) (M : Mem) (Q : Rv → Mem → Prop) (h : sp_lundone as M Q) : r_lundone sp_bundo (endsF M.length Q) (startD 5 as) M := by
  obtain ⟨N, t, H, B, C, E, dl, ps, k, m, o, rfl, rfl, I, ht, z⟩ := h
  show r_lundone sp_bundo (endsF 5 Q) [some (.ref 0), some (.ref 4), none, none, none] [.dk (ownK C E k ps), .dk H, .dk B, .lst (dl.map deD), bkX 1 2 3 m o k]
  have hp : dgetA [.dk (ownK C E k ps), .dk H, .dk B, .lst (dl.map deD), bkX 1 2 3 m o k] (.ref 0) (.d (.str "past")) = _ := f_dgetS (kv_ref (j := 0) rfl) own_p
  have hl := I.hist.len
  have lH := I.lH
  have lB := I.lB
  unfold r_lundone sAsg eMeth eDispK
  rcases List.eq_nil_or_concat ps with rfl | ⟨ps', p, rfl⟩
  · have hd : dl = [] := List.length_eq_zero_iff.mp (by rw [hl]; rfl)
    subst hd
    simp only [VLY, hp, nil_eq, List.map_nil, List.isEmpty_nil, ob_undo4, call_B4]
    refine ⟨H, B, [], m, k, o, rfl, rfl, by omega, by omega, .inl ⟨rfl, ?_⟩⟩
    simp only [VLY, back_B4]
    exact z H B C E [] [] k I rfl
  · rw [List.concat_eq_append] at *
    obtain ⟨dl', e, rfl⟩ : ∃ dl' e, dl = dl' ++ [e] := by
      rcases List.eq_nil_or_concat dl with rfl | ⟨a, b, rfl⟩
      · rw [List.length_append] at hl; simp at hl
      · exact ⟨a, b, List.concat_eq_append⟩
    obtain ⟨u1, u2, J⟩ := I.undo
    obtain ⟨C', E', k'⟩ := p
    have u2 : unK e k = k' := u2
    rw [List.map_append, List.map_append, List.map_singleton, List.map_singleton] at *
    simp only [VLY, own_p0, nil_eq, snD, List.map_append, List.map_cons, List.map_nil]
    rw [if_neg (by simp), at_lastD]
    simp only [VLY, gTp, setAll, tPs, own_p0, List.map_append, List.map_cons, List.map_nil, cut_but1, snD, cellK, rcv_K0]
    refine f_updD (n := 0) (m := 5) (by decide) rfl rfl (by rw [own_len]; first | decide | (rw [own_len4]; decide)) ?_
    simp only [VLY, own_upd, ob_undo4, call_B4]
    refine ⟨H, B, _, m, k, o, rfl, rfl, by omega, by omega, .inr ⟨_, e, rfl, u1, ?_⟩⟩
    rw [u2]
    simp only [VLY, back_B4]
    exact z _ _ _ _ _ _ _ J (by simp)
set_option maxHeartbeats 2000000
set_option maxHeartbeats 2000000
def t_ldeed (sp__law_take : SpD) (sp__law_undone : SpD) (sp_Book__go : SpD) (sp_Book__free : SpD) (sp_Book__settle : SpD) (sp__law_claim : SpD) (sp__law_same : SpD) (sp_Book__come : SpD) : TS' :=
  (sSeq (sDrop (eMt "dict" mUpdD (eP (pV 2)) (aCons (eDispK [("claims", (eSealK 6 (eP (pV 7)))), ("bits", (eSealK 6 (eP (pV 8)))), ("past", (eP (pFz (pl2 catF (po2 dgetA (pV 2) (pC (.str "past"))) (pFz (plLst [(pV 6)]))))))]) (aP []))))
  (sRet (eP (pV 4))))
def m_ldeed (sp__law_take : SpD) (sp__law_undone : SpD) (sp_Book__go : SpD) (sp_Book__free : SpD) (sp_Book__settle : SpD) (sp__law_claim : SpD) (sp__law_same : SpD) (sp_Book__come : SpD) : TS' :=
  (sSeq (sPar 7 8 (aCons (eDictC (eP (po2 dgetA (pV 2) (pC (.str "claims"))))) (aCons (eDictC (eP (po2 dgetA (pV 2) (pC (.str "bits"))))) (aP []))))
  (sSeq (sSet 4 (eP (pC (.bl true))))
  (sSeq (sIf (cP (bAn (bB (pCh ltD ltD (pC (.int 3)) (pV 5) (pC (.int 6)))) (bB (po1 (dnilD true) (pV 7)))))
  (sSeq (sSet 9 (eo2 ixD (eP (pFz (plN sortDA [(pV 7)]))) (eCall [true, false] sp__law_take (aP [(pV 0), (poN lenD [(pV 7)])]))))
  (sSeq (sDrop (eMt "dict" mDPop (eP (pV 7)) (aP [(pV 9)])))
  (sSet 4 (eo2 isD (eMeth "Book" "go" [true, false] sp_Book__go (eP (pV 3)) (aP [(pV 9)])) (eP (pC .non))))))
  (sIf (cP (bAn (bB (po2 gtD (pV 5) (pC (.int 5)))) (bB (po2 gtD (pV 1) (pC (.int 0))))))
  (sSeq (sPar 10 11 (aCons (eCall [true, false] sp__law_take (aP [(pV 0), (pV 1)])) (aCons (eCall [true, false] sp__law_take (aP [(pV 0), (pC (.int 2))])) (aP []))))
  (sIf (cP (bB (po2 dinA (pV 10) (pV 8))))
  (sSeq (sDrop (eMt "dict" mDPop (eP (pV 8)) (aP [(pV 10)])))
  (sSet 4 (eo2 isD (eMeth "Book" "free" [true, false] sp_Book__free (eP (pV 3)) (aP [(pV 10)])) (eP (pC .non)))))
  (sSeq (sSubK (eP (pV 11)) (eP (pV 8)) (eP (pV 10)))
  (sSet 4 (eo2 isD (eMeth "Book" "settle" [true, false, false] sp_Book__settle (eP (pV 3)) (aP [(pV 10), (pV 11)])) (eP (pC .non)))))))
  (sSeq (sSubK (eCall [true, false, false] sp__law_claim (aCons (eP (pV 0)) (aCons (eP (pV 1)) (aCons (eCall [true, false] sp__law_take (aP [(pV 0), (pC (.int 3))])) (aP []))))) (eP (pV 7)) (eP (po2 ixD (pV 6) (pC (.int 2)))))
  (sSeq (sSet 4 (eCall [false, false] sp__law_same (aCons (eMeth "Book" "come" [true, false] sp_Book__come (eP (pV 3)) (aP [(po2 dgetA (pV 7) (po2 ixD (pV 6) (pC (.int 2))))])) (aP [(po2 ixD (pV 6) (pC (.int 2)))]))))
  (sSubK (eP (po2 addD (po2 ixD (pV 6) (pC (.int 2))) (pC (.int 1)))) (eP (pV 2)) (eP (pC (.str "came"))))))))
  (t_ldeed sp__law_take sp__law_undone sp_Book__go sp_Book__free sp_Book__settle sp__law_claim sp__law_same sp_Book__come))))
def r_ldeed (sp__law_take : SpD) (sp__law_undone : SpD) (sp_Book__go : SpD) (sp_Book__free : SpD) (sp_Book__settle : SpD) (sp__law_claim : SpD) (sp__law_same : SpD) (sp_Book__come : SpD) : TS' :=
  (sSeq (sPar 5 6 (aCons (eCall [true, false] sp__law_take (aP [(pV 0), (pC (.int 10))])) (aCons (tTupE (aCons (eSealK 6 (eDictC (eP (po2 dgetA (pV 2) (pC (.str "claims")))))) (aCons (eSealK 6 (eDictC (eP (po2 dgetA (pV 2) (pC (.str "bits")))))) (aP [(po2 dgetA (pV 2) (pC (.str "came")))])))) (aP []))))
  (sSeq (sIf (cP (bB (po2 eqD (pV 5) (pC (.int 8)))))
  (sRet (eCallO [true, true] sp__law_undone (aP [(pV 2), (pV 3)])))
  sNil)
  (m_ldeed sp__law_take sp__law_undone sp_Book__go sp_Book__free sp_Book__settle sp__law_claim sp__law_same sp_Book__come)))
section
variable {M G : Mem} {A A2 : Cell} {d d' : List D} {x : D} {H B H' B' : Kv} {m k k' : Int} {o a b : D} {R : Rv → Mem → Prop} {sp : SpD}
theorem call_B5 : callO [true] sp (A :: A2 :: .dk H :: .dk B :: .lst d :: bkX 2 3 4 m o k :: G) [.ref 5] R = sp [.ref 3] [.dk H, .dk B, .lst d, bkC m o k] fun v Mc => R v (backO [2, 3, 4, 5] Mc (A :: A2 :: .dk H :: .dk B :: .lst d :: bkX 2 3 4 m o k :: G)) := rfl
theorem call_B5a : callO [true, false] sp (A :: A2 :: .dk H :: .dk B :: .lst d :: bkX 2 3 4 m o k :: G) [.ref 5, .d a] R = sp [.ref 3, .d a] [.dk H, .dk B, .lst d, bkC m o k] fun v Mc => R v (backO [2, 3, 4, 5] Mc (A :: A2 :: .dk H :: .dk B :: .lst d :: bkX 2 3 4 m o k :: G)) := rfl
theorem call_B5b : callO [true, false, false] sp (A :: A2 :: .dk H :: .dk B :: .lst d :: bkX 2 3 4 m o k :: G) [.ref 5, .d a, .d b] R = sp [.ref 3, .d a, .d b] [.dk H, .dk B, .lst d, bkC m o k] fun v Mc => R v (backO [2, 3, 4, 5] Mc (A :: A2 :: .dk H :: .dk B :: .lst d :: bkX 2 3 4 m o k :: G)) := rfl
theorem back_B5 : backO [2, 3, 4, 5] [.dk H', .dk B', .lst d', bkC m o k'] (A :: A2 :: .dk H :: .dk B :: .lst d :: bkX 2 3 4 m o k :: G) = A :: A2 :: .dk H' :: .dk B' :: .lst d' :: bkX 2 3 4 m o k' :: G := rfl
theorem ob_go5 : isOb "Book" "go" (A :: A2 :: .dk H :: .dk B :: .lst d :: bkX 2 3 4 m o k :: G) (.ref 5) = true := rfl
theorem ob_come5 : isOb "Book" "come" (A :: A2 :: .dk H :: .dk B :: .lst d :: bkX 2 3 4 m o k :: G) (.ref 5) = true := rfl
theorem ob_set5 : isOb "Book" "settle" (A :: A2 :: .dk H :: .dk B :: .lst d :: bkX 2 3 4 m o k :: G) (.ref 5) = true := rfl
theorem ob_free5 : isOb "Book" "free" (A :: A2 :: .dk H :: .dk B :: .lst d :: bkX 2 3 4 m o k :: G) (.ref 5) = true := rfl
theorem call_U : callO [true, true] sp (A :: .dk H' :: .dk H :: .dk B :: .lst d :: bkX 2 3 4 m o k :: G) [.ref 1, .ref 5] R = sp [.ref 0, .ref 4] [.dk H', .dk H, .dk B, .lst d, bkX 1 2 3 m o k] fun v Mc => R v (backO [1, 2, 3, 4, 5] Mc (A :: .dk H' :: .dk H :: .dk B :: .lst d :: bkX 2 3 4 m o k :: G)) := rfl
theorem back_U {O O' : Kv} : backO [1, 2, 3, 4, 5] [.dk O', .dk H', .dk B', .lst d', bkX 1 2 3 m o k'] (A :: .dk O :: .dk H :: .dk B :: .lst d :: bkX 2 3 4 m o k :: G) = A :: .dk O' :: .dk H' :: .dk B' :: .lst d' :: bkX 2 3 4 m o k' :: G := rfl
theorem cat_ll {xs ys : List D} : catF M (.d (.lst xs)) (.d (.lst ys)) = gd (xs.length + ys.length ≤ sizeLine) (xs ++ ys) := rfl
theorem seal_8 {kvs : Kv} {a b c e f g h i : Cell} : sealK 6 (a :: b :: c :: e :: f :: g :: h :: i :: .dk kvs :: G) (.ref 8) = some (.d (dkD kvs), a :: b :: c :: e :: f :: g :: h :: i :: .gone :: G) := rfl
theorem seal_9 {kvs : Kv} {a b c e f g h i j : Cell} : sealK 6 (a :: b :: c :: e :: f :: g :: h :: i :: j :: .dk kvs :: G) (.ref 9) = some (.d (dkD kvs), a :: b :: c :: e :: f :: g :: h :: i :: j :: .gone :: G) := rfl
theorem seal_6 {kvs : Kv} {a b c e f g : Cell} : sealK 6 (a :: b :: c :: e :: f :: g :: .dk kvs :: G) (.ref 6) = some (.d (dkD kvs), a :: b :: c :: e :: f :: g :: .gone :: G) := rfl
theorem seal_7 {kvs : Kv} {a b c e f g h : Cell} : sealK 6 (a :: b :: c :: e :: f :: g :: h :: .dk kvs :: G) (.ref 7) = some (.d (dkD kvs), a :: b :: c :: e :: f :: g :: h :: .gone :: G) := rfl
end
theorem deed_tail {H B C E C' E' : Kv} {ps : List Snap} {k k' m : Int} {o : D} {tp ds : List D} {Q : Rv → Mem → Prop} {x1 x5 x9 x10 x11 : Option Sv} {a b c d e f g h : SpD} (hl : ps.length ≤ 1000)
    (z : Q (.d (.bl true)) [.lst tp, .dk (ownK C' E' k' (ps ++ [(C, E, k)])), .dk H, .dk B, .lst ds, bkX 2 3 4 m o k']) :
    t_ldeed a b c d e f g h (endsF 6 Q) [some (.ref 0), x1, some (.ref 1), some (.ref 5), some (.d (.bl true)), x5, some (.d (snD (C, E, k))), some (.ref 8), some (.ref 9), x9, x10, x11]
      [.lst tp, .dk (ownK C E k' ps), .dk H, .dk B, .lst ds, bkX 2 3 4 m o k', .gone, .gone, .dk C', .dk E'] := by
  unfold t_ldeed eDispK eSealK
  simp only [VLY, rcv_K1, tPs, seal_8, seal_9, own_p1, cat_ll]
  refine ⟨by rw [List.length_map, sizeLine_eq]; omega, rfl, ?_⟩
  refine f_updD (n := 1) (m := 10) (by decide) rfl rfl (by rw [own_len]; first | decide | (rw [own_len3]; decide)) ?_
  simp only [VLY, own_upd3]
  have e : ps.map snD ++ [snD (C, E, k)] = (ps ++ [(C, E, k)]).map snD := by rw [List.map_append]; rfl
  rw [e]
  exact z
theorem few3 {q : Nat} (h : q < 3) : cC q ≤ 63 ∧ cS q ≤ 21 := by
  have : q = 0 ∨ q = 1 ∨ q = 2 := by omega
  rcases this with rfl | rfl | rfl <;> decide
theorem f_stS {M : Mem} {j : Nat} {kvs : Kv} {x : Str} {d : D} {R : Mem → Prop} (h : M[j]? = some (.dk kvs)) (hl : kvs.length < 1000000) (q : R (M.set j (.dk (putKD kvs (.inr x) d)))) : stK (.ref j) (.d (.str x)) d M R := by
  show ok (cellK M[j]?) fun kvs => ok (keyD (.str x)) fun k => kvs.length < sizeLine ∧ R (M.set j (.dk (putKD kvs k d)))
  rw [h]
  exact ⟨by rw [sizeLine_eq]; omega, q⟩
theorem dnil_8 {G : Mem} {kvs : Kv} {a b c e f g h i : Cell} : dnilD true (a :: b :: c :: e :: f :: g :: h :: i :: .dk kvs :: G) (.ref 8) = some (.d (.bl (!kvs.isEmpty))) := rfl
theorem deed_mid {t b many : Nat} {v : Int} {H B C E : Kv} {dl : List Deed} {ps : List Snap} {k m : Int} {o : D} {tp : List D} {Q : Rv → Mem → Prop} {a : SpD} (I : BkI many t H B dl k C E ps) (ht : t < 1000) (T : Tp b tp) (hb : b + 1000 < 1099511627776) (hm : many ≤ 8) (v0 : 0 ≤ v) (v1 : v < 10)
    (z : ∀ (H' B' C' E' : Kv) (dl' : List Deed) (ps' : List Snap) (k' : Int) (tp' : List D), BkI many (t + 1) H' B' dl' k' C' E' ps' → Tp (b + 1000) tp' → Q (.d (.bl true)) [.lst tp', .dk (ownK C' E' k' ps'), .dk H', .dk B', .lst (dl'.map deD), bkX 2 3 4 m o k']) :
    m_ldeed sp_take a sp_bgo sp_bfree sp_bsettle (spB sp_claim 4) (spB sp_same 10) sp_bcome (endsF 6 Q) [some (.ref 0), some (.d (.int (many : Int))), some (.ref 1), some (.ref 5), none, some (.d (.int v)), some (.d (snD (C, E, k))), none, none, none, none, none]
      [.lst tp, .dk (ownK C E k ps), .dk H, .dk B, .lst (dl.map deD), bkX 2 3 4 m o k, .gone, .gone] := by
  have hps : ps.length ≤ 1000 := by rw [← I.hist.len]; have := I.ld; omega
  unfold m_ldeed eDictC sSubK eMeth
  simp only [VLY, own_c1, own_b1, kv_dkD, dnil_8]
  have lH := I.lH
  have lB := I.lB
  have lC := I.g.lC
  have lE := I.g.lE
  have ld := I.ld
  have eS : ∀ M, ixD M (.d (snD (C, E, k))) (.d (.int 2)) = some (.d (.int k)) := fun M => rfl
  by_cases h1 : 3 < v
  · rw [if_pos h1]
    by_cases h2 : v < 6
    · rw [if_pos h2]
      by_cases h3 : (!C.isEmpty) = true
      · rw [if_pos h3]
        obtain ⟨ns, hn⟩ := I.g.iC.int
        have hnl := keysI_len hn
        have hC0 : 0 < C.length := by
          cases C with
          | nil => simp at h3
          | cons p C => simp
        have e1 : sortDA [.lst tp, .dk (ownK C E k ps), .dk H, .dk B, .lst (dl.map deD), bkX 2 3 4 m o k, .gone, .gone, .dk C, .dk E] [.ref 8] = _ := f_sortA (kv_ref (j := 8) rfl) hn (by omega)
        rw [e1, ok_some]
        refine take_ok T (by omega) (by omega) (by omega) fun u tp1 u0 u1 t1 => ?_
        obtain ⟨q, rfl⟩ := Int.eq_ofNat_of_zero_le u0
        have hq : q < (sortI ns).length := by rw [sortI_len]; omega
        obtain ⟨c, hc⟩ := Option.isSome_iff_exists.mp ((keysI_mem hn).mp ((sortI_perm ns).mem_iff.mp (List.getElem_mem hq)))
        have ei : ∀ M, ixD M (.d (.lst ((sortI ns).map D.int))) (.d (.int (q : Int))) = some (.d (.int (sortI ns)[q])) := fun M => by
          rw [ix_lst, at_nat, List.getElem?_map, List.getElem?_eq_getElem hq]; rfl
        simp only [VLY, ei]
        refine ⟨rfl, f_dpop (j := 8) rfl hc ?_⟩
        simp only [VLY, ob_go5, call_B5a]
        refine ⟨H, B, _, m, k, _, o, c, rfl, rfl, by rw [List.length_map]; omega, by rw [I.h]; exact hc, ?_⟩
        simp only [VLY, back_B5]
        have ed : dl.map deD ++ [.tup [.str "go", .int (sortI ns)[q], c]] = (dl ++ [Deed.go (sortI ns)[q] c]).map deD := by rw [List.map_append]; rfl
        rw [ed]
        exact deed_tail hps (z _ _ _ _ _ _ _ _ (I.go hc) (t1.mono (by omega)))
      · rw [if_neg h3, if_neg (show ¬ 5 < v by omega)]
        refine take_ok T (by omega) (by decide) (by decide) fun u tp1 u0 u1 t1 => ?_
        obtain ⟨q, rfl⟩ := Int.eq_ofNat_of_zero_le u0
        obtain ⟨b1, b2⟩ := few3 (q := q) (by omega)
        simp only [VLY]
        refine ⟨q, by omega, tp1, many, b + 1, rfl, rfl, t1, by omega, by omega, fun c tp2 hc hcs t2 => ?_⟩
        simp only [VLY, eS]
        refine f_stK (j := 8) rfl (by omega) ?_
        have eg : ∀ tp, dgetA [.lst tp, .dk (ownK C E k ps), .dk H, .dk B, .lst (dl.map deD), bkX 2 3 4 m o k, .gone, .gone, .dk (putKD C (.inl k) (cD c)), .dk E] (.ref 8) (.d (.int k)) = some (.d (cD c)) := fun tp => f_dgetA (kv_ref (j := 8) rfl) (by rw [vI_put, if_pos rfl])
        simp only [VLY, ob_come5, eS, eg, call_B5a]
        refine ⟨H, B, _, m, k, o, cD c, rfl, rfl, by omega, by rw [List.length_map]; omega, ?_⟩
        simp only [VLY, back_B5, eS]
        refine ⟨0, by decide, _, _, .int k, rfl, .inl rfl, .inl rfl, rfl, .int, ?_⟩
        simp only [VLY, eS]
        refine f_stS (j := 1) rfl (by rw [own_len]; decide) ?_
        simp only [VLY, own_came]
        have ed : dl.map deD ++ [.tup [.str "come", .int k, .non]] = (dl ++ [Deed.come k]).map deD := by rw [List.map_append]; rfl
        rw [ed]
        exact deed_tail hps (z _ _ _ _ _ _ _ _ (I.come ⟨c, q, rfl, hc, by omega, by omega⟩) (t2.mono (by omega)))
    · rw [if_neg h2, if_pos (show 5 < v by omega)]
      by_cases h4 : (0 : Int) < (many : Int)
      · rw [if_pos h4]
        refine take_ok T (by omega) (by omega) (by omega) fun u tp1 u0 u1 t1 => ?_
        simp only [VLY]
        refine take_ok t1 (by omega) (by decide) (by decide) fun w tp2 w0 w1 t2 => ?_
        have ei : ∀ tp, dinA [.lst tp, .dk (ownK C E k ps), .dk H, .dk B, .lst (dl.map deD), bkX 2 3 4 m o k, .gone, .gone, .dk C, .dk E] (.d (.int u)) (.ref 9) = some (.d (.bl (vI E u).isSome)) := fun tp => f_dinA (kv_ref (j := 9) rfl)
        simp only [VLY, ei]
        cases hv : vI E u with
        | some c =>
          rw [if_pos (show (some c).isSome = true from rfl)]
          refine ⟨rfl, f_dpop (j := 9) rfl hv ?_⟩
          simp only [VLY, ob_free5, call_B5a]
          refine ⟨H, B, _, m, k, _, o, c, rfl, rfl, by rw [List.length_map]; omega, by rw [I.b]; exact hv, ?_⟩
          simp only [VLY, back_B5]
          have ed : dl.map deD ++ [.tup [.str "free", .int u, c]] = (dl ++ [Deed.free u c]).map deD := by rw [List.map_append]; rfl
          rw [ed]
          exact deed_tail hps (z _ _ _ _ _ _ _ _ (I.free hv) (t2.mono (by omega)))
        | none =>
          rw [if_neg (show ¬ (none : Option D).isSome = true by simp)]
          refine f_stK (j := 9) rfl (by omega) ?_
          simp only [VLY, ob_set5, call_B5b]
          refine ⟨H, B, _, m, k, _, o, .int w, rfl, rfl, by rw [List.length_map]; omega, by omega, by rw [I.b]; exact hv, ?_⟩
          simp only [VLY, back_B5]
          have ed : dl.map deD ++ [.tup [.str "settle", .int u, .int w]] = (dl ++ [Deed.set u (.int w)]).map deD := by rw [List.map_append]; rfl
          rw [ed]
          exact deed_tail hps (z _ _ _ _ _ _ _ _ (I.set hv ⟨w, rfl, w0, w1, u0, u1⟩) (t2.mono (by omega)))
      · rw [if_neg h4]
        refine take_ok T (by omega) (by decide) (by decide) fun u tp1 u0 u1 t1 => ?_
        obtain ⟨q, rfl⟩ := Int.eq_ofNat_of_zero_le u0
        obtain ⟨b1, b2⟩ := few3 (q := q) (by omega)
        simp only [VLY]
        refine ⟨q, by omega, tp1, many, b + 1, rfl, rfl, t1, by omega, by omega, fun c tp2 hc hcs t2 => ?_⟩
        simp only [VLY, eS]
        refine f_stK (j := 8) rfl (by omega) ?_
        have eg : ∀ tp, dgetA [.lst tp, .dk (ownK C E k ps), .dk H, .dk B, .lst (dl.map deD), bkX 2 3 4 m o k, .gone, .gone, .dk (putKD C (.inl k) (cD c)), .dk E] (.ref 8) (.d (.int k)) = some (.d (cD c)) := fun tp => f_dgetA (kv_ref (j := 8) rfl) (by rw [vI_put, if_pos rfl])
        simp only [VLY, ob_come5, eS, eg, call_B5a]
        refine ⟨H, B, _, m, k, o, cD c, rfl, rfl, by omega, by rw [List.length_map]; omega, ?_⟩
        simp only [VLY, back_B5, eS]
        refine ⟨0, by decide, _, _, .int k, rfl, .inl rfl, .inl rfl, rfl, .int, ?_⟩
        simp only [VLY, eS]
        refine f_stS (j := 1) rfl (by rw [own_len]; decide) ?_
        simp only [VLY, own_came]
        have ed : dl.map deD ++ [.tup [.str "come", .int k, .non]] = (dl ++ [Deed.come k]).map deD := by rw [List.map_append]; rfl
        rw [ed]
        exact deed_tail hps (z _ _ _ _ _ _ _ _ (I.come ⟨c, q, rfl, hc, by omega, by omega⟩) (t2.mono (by omega)))
  · rw [if_neg h1, if_neg (show ¬ 5 < v by omega)]
    refine take_ok T (by omega) (by decide) (by decide) fun u tp1 u0 u1 t1 => ?_
    obtain ⟨q, rfl⟩ := Int.eq_ofNat_of_zero_le u0
    obtain ⟨b1, b2⟩ := few3 (q := q) (by omega)
    simp only [VLY]
    refine ⟨q, by omega, tp1, many, b + 1, rfl, rfl, t1, by omega, by omega, fun c tp2 hc hcs t2 => ?_⟩
    simp only [VLY, eS]
    refine f_stK (j := 8) rfl (by omega) ?_
    have eg : ∀ tp, dgetA [.lst tp, .dk (ownK C E k ps), .dk H, .dk B, .lst (dl.map deD), bkX 2 3 4 m o k, .gone, .gone, .dk (putKD C (.inl k) (cD c)), .dk E] (.ref 8) (.d (.int k)) = some (.d (cD c)) := fun tp => f_dgetA (kv_ref (j := 8) rfl) (by rw [vI_put, if_pos rfl])
    simp only [VLY, ob_come5, eS, eg, call_B5a]
    refine ⟨H, B, _, m, k, o, cD c, rfl, rfl, by omega, by rw [List.length_map]; omega, ?_⟩
    simp only [VLY, back_B5, eS]
    refine ⟨0, by decide, _, _, .int k, rfl, .inl rfl, .inl rfl, rfl, .int, ?_⟩
    simp only [VLY, eS]
    refine f_stS (j := 1) rfl (by rw [own_len]; decide) ?_
    simp only [VLY, own_came]
    have ed : dl.map deD ++ [.tup [.str "come", .int k, .non]] = (dl ++ [Deed.come k]).map deD := by rw [List.map_append]; rfl
    rw [ed]
    exact deed_tail hps (z _ _ _ _ _ _ _ _ (I.come ⟨c, q, rfl, hc, by omega, by omega⟩) (t2.mono (by omega)))
set_option maxHeartbeats 2000000
def sp_ldeed : SpD := fun as M Q => ∃ (t b many : Nat) (H B C E : Kv) (dl : List Deed) (ps : List Snap) (k m : Int) (o : D) (tp : List D), as = [.ref 0, .d (.int (many : Int)), .ref 1, .ref 5] ∧ M = [.lst tp, .dk (ownK C E k ps), .dk H, .dk B, .lst (dl.map deD), bkX 2 3 4 m o k] ∧
  BkI many t H B dl k C E ps ∧ t < 1000 ∧ Tp b tp ∧ b + 1001 < 1099511627776 ∧ many ≤ 8 ∧
  ∀ (H' B' C' E' : Kv) (dl' : List Deed) (ps' : List Snap) (k' : Int) (tp' : List D), BkI many (t + 1) H' B' dl' k' C' E' ps' → Tp (b + 1001) tp' → Q (.d (.bl true)) [.lst tp', .dk (ownK C' E' k' ps'), .dk H', .dk B', .lst (dl'.map deD), bkX 2 3 4 m o k']
theorem pure_ldeed (as : List Sv) (M : Mem) (Q : Rv → Mem → Prop) (h : sp_ldeed as M Q) : r_ldeed sp_take sp_lundone sp_bgo sp_bfree sp_bsettle (spB sp_claim 4) (spB sp_same 10) sp_bcome (endsF M.length Q) (startD 12 as) M := by
  obtain ⟨t, b, many, H, B, C, E, dl, ps, k, m, o, tp, rfl, rfl, I, ht, T, hb, hm, z⟩ := h
  show r_ldeed sp_take sp_lundone sp_bgo sp_bfree sp_bsettle (spB sp_claim 4) (spB sp_same 10) sp_bcome (endsF 6 Q) [some (.ref 0), some (.d (.int (many : Int))), some (.ref 1), some (.ref 5), none, none, none, none, none, none, none, none] [.lst tp, .dk (ownK C E k ps), .dk H, .dk B, .lst (dl.map deD), bkX 2 3 4 m o k]
  unfold r_ldeed eDictC eSealK eCallO
  simp only [VLY]
  refine take_ok T (by omega) (by decide) (by decide) fun v tp1 v0 v1 t1 => ?_
  simp only [VLY, own_c1, own_b1, own_k1, kv_dkD, seal_6, seal_7, call_U]
  have es : D.tup [dkD C, dkD E, .int k] = snD (C, E, k) := rfl
  rw [es]
  refine ite_of (fun _ => ?_) fun _ => ?_
  · refine ⟨many, t, H, B, C, E, dl, ps, k, m, o, rfl, rfl, I, by omega, fun H' B' C' E' dl' ps' k' J _ => ?_⟩
    simp only [VLY, back_U]
    exact z _ _ _ _ _ _ _ _ (J.mono (Nat.le_succ _)) (t1.mono (by omega))
  · exact deed_mid I ht t1 (by omega) hm v0 v1 fun H' B' C' E' dl' ps' k' tp' J T' => z _ _ _ _ _ _ _ _ J (T'.mono (by omega))
def r_orderN (sp__law_mixed : SpD) (sp__law_take : SpD) : TS' :=
  (sRet (eIf (tTb (eo2 eqD (eCall [true, false] sp__law_take (aP [(pV 0), (pC (.int 3))])) (eP (pC (.int 0))))) (eNw (fP (plN rgLF [(pV 1)]))) (eCall [true, false] sp__law_mixed (aP [(pV 0), (pFz (plN rgLF [(pV 1)]))]))))
def sp_orderN : SpD := fun as M Q => ∃ (ds : List D) (b n : Nat), as = [.ref 0, .d (.int (n : Int))] ∧ M = [.lst ds] ∧ Tp b ds ∧ b + n + 10 < 1099511627776 ∧ n ≤ 1000 ∧
  ∀ (ks : List Nat) (ds' : List D), ks.Perm (List.range n) → Tp (b + n + 1) ds' → Q (.new (ks.map nD)) [.lst ds']
theorem pure_orderN (as : List Sv) (M : Mem) (Q : Rv → Mem → Prop) (h : sp_orderN as M Q) : r_orderN sp_mixed sp_take (endsF M.length Q) (startD 2 as) M := by
  obtain ⟨ds, b, n, rfl, rfl, t, hb, hn, z⟩ := h
  show r_orderN sp_mixed sp_take (endsF 1 Q) [some (.ref 0), some (.d (.int (n : Int)))] [.lst ds]
  have er : ∀ M : Mem, rgLF M [.d (.int (n : Int))] = some ((List.range n).map nD) := fun M => or_rg hn
  unfold r_orderN
  generalize rgLF = RG at er ⊢
  simp only [VLY, er]
  refine take_ok t (by omega) (by decide) (by decide) fun v dt v0 v1 t1 => ?_
  simp only [VLY]
  refine ite_of (fun _ => ?_) fun _ => ?_
  · exact z _ dt (List.Perm.refl _) (t1.mono (by omega))
  · refine ⟨dt, b + 1, _, (List.range n).map nD, rfl, .inl rfl, rfl, t1, by simp; omega, by simp; omega, (fun x hx => ?_), fun ys dt2 hp t2 => ?_⟩
    · obtain ⟨p, _, rfl⟩ := List.mem_map.mp hx
      exact EqOk.int
    · obtain ⟨ks, hks, rfl⟩ := perm_nD hp
      rw [List.length_map, List.length_range] at t2
      simp only [VLY]
      exact z ks dt2 hks (t2.mono (by omega))
set_option maxHeartbeats 2000000
section
variable {M G : Mem} {A A2 : Cell} {d d' : List D} {x : D} {H B H' B' O O' : Kv} {m k k' : Int} {o a b : D} {R : Rv → Mem → Prop} {sp : SpD}
theorem call_L4 {tp : List D} : callO [true, false, true, true] sp (.lst tp :: A2 :: .dk H :: .dk B :: .lst d :: bkX 2 3 4 m o k :: .dk O :: G) [.ref 0, .d a, .ref 6, .ref 5] R = sp [.ref 0, .d a, .ref 1, .ref 5] [.lst tp, .dk O, .dk H, .dk B, .lst d, bkX 2 3 4 m o k] fun v Mc => R v (backO [0, 6, 2, 3, 4, 5] Mc (.lst tp :: A2 :: .dk H :: .dk B :: .lst d :: bkX 2 3 4 m o k :: .dk O :: G)) := rfl
theorem back_L4 {tp tp' : List D} : backO [0, 6, 2, 3, 4, 5] [.lst tp', .dk O', .dk H', .dk B', .lst d', bkX 2 3 4 m o k'] (.lst tp :: A2 :: .dk H :: .dk B :: .lst d :: bkX 2 3 4 m o k :: .dk O :: G) = .lst tp' :: A2 :: .dk H' :: .dk B' :: .lst d' :: bkX 2 3 4 m o k' :: .dk O' :: G := rfl
end
end VL
set_option Elab.async false
set_option linter.all false
set_option maxRecDepth 100000
set_option maxHeartbeats 2000000
namespace VL
open PySem PySem.Spec L2
mutual
theorem cD_inj : ∀ (a b : Cm), cD a = cD b → a = b
  | .yes, b, h => by cases b <;> simp [cD, ofS_inj] at h ⊢
  | .no, b, h => by cases b <;> simp [cD, ofS_inj] at h ⊢
  | .name k, b, h => by cases b <;> simp [cD, ofS_inj] at h ⊢; omega
  | .neg a, b, h => by
    cases b <;> simp [cD, ofS_inj] at h
    rename_i b
    rw [cD_inj a b h]
  | .same a a', b, h => by
    cases b <;> simp [cD, ofS_inj] at h
    rename_i b b'
    rw [cD_inj a b h.1, cD_inj a' b' h.2]
  | .all as, b, h => by
    cases b <;> simp [cD, ofS_inj] at h
    rename_i bs
    rw [cDs_inj as bs h]
  | .any as, b, h => by
    cases b <;> simp [cD, ofS_inj] at h
    rename_i bs
    rw [cDs_inj as bs h]
  | .least m as, b, h => by
    cases b <;> simp [cD, ofS_inj] at h
    rename_i k bs
    rw [cDs_inj as bs h.2, show m = k by omega]
theorem cDs_inj : ∀ (a b : List Cm), cDs a = cDs b → a = b
  | [], [], _ => rfl
  | [], _ :: _, h => by simp [cDs] at h
  | _ :: _, [], h => by simp [cDs] at h
  | a :: as, b :: bs, h => by
    simp [cDs] at h
    rw [cD_inj a b h.1, cDs_inj as bs h.2]
end
def bitI (b : Bool) : Int := if b then 1 else 0
/-- a filling has these bits, and these claims hold of it -/
def LeftN (vb vh : Int → Option D) (ns : List Int) (f : List Bool) : Prop :=
  (∀ n j, vb n = some (.int j) → bitI (f.getD n.toNat false) = j) ∧ ∀ n ∈ ns, ∀ c : Cm, vh n = some (cD c) → c.hv f = true
open Classical in
noncomputable def leftB (vb vh : Int → Option D) (ns : List Int) (f : List Bool) : Bool := decide (LeftN vb vh ns f)
open Classical in
theorem leftB_iff {vb vh : Int → Option D} {ns : List Int} {f : List Bool} : leftB vb vh ns f = true ↔ LeftN vb vh ns f := decide_eq_true_iff
noncomputable def leftL (N : Nat) (vb vh : Int → Option D) (ns : List Int) : List (List Bool) := (afs N).filter (leftB vb vh ns)
/-- each bit -/
def fitL (f : List Bool) : Kv → List Bool
  | [] => []
  | (.inl n, .int j) :: r => decide (bitI (f.getD n.toNat false) = j) :: fitL f r
  | _ :: r => fitL f r
theorem mem_vI : ∀ {kvs : Kv} {n : Int} {d : D}, (kvs.map (·.1)).Nodup → ((.inl n, d) ∈ kvs ↔ vI kvs n = some d)
  | [], n, d, _ => by simp [vI, valK]
  | (k, e) :: kvs, n, d, h => by
    rw [List.map_cons, List.nodup_cons] at h
    have ih := mem_vI (n := n) (d := d) h.2
    unfold vI at ih ⊢
    rw [valK_cons, List.mem_cons]
    by_cases hk : k = .inl n
    · rw [if_pos hk]
      constructor
      · rintro (h1 | h1)
        · cases h1; rfl
        · exact absurd (by rw [hk]; exact List.mem_map.mpr ⟨_, h1, rfl⟩) h.1
      · intro h1; cases h1; exact .inl (by rw [hk])
    · rw [if_neg hk, ← ih]
      constructor
      · rintro (h1 | h1)
        · cases h1; exact absurd rfl hk
        · exact h1
      · exact .inr
theorem fit_ok {N : Nat} {f : List Bool} (hf : f.length = N) : ∀ {b : Kv}, (∀ p ∈ b, ∃ n, p.1 = .inl n ∧ SeD N n p.2) → fitK (f.map bitI) b = some ((fitL f b).map D.bl) ∧ (fitL f b).length = b.length
  | [], _ => ⟨rfl, rfl⟩
  | p :: r, h => by
    obtain ⟨k, d⟩ := p
    obtain ⟨n, hk, j, hd, j0, j1, n0, n1⟩ := h _ List.mem_cons_self
    cases (show k = .inl n from hk)
    cases (show d = .int j from hd)
    obtain ⟨h1, h2⟩ := fit_ok hf (b := r) fun q hq => h q (List.mem_cons_of_mem _ hq)
    obtain ⟨q, rfl⟩ := Int.eq_ofNat_of_zero_le n0
    have hq : q < f.length := by omega
    have e : atI (f.map bitI) (q : Int) = some (bitI (f.getD q false)) := by
      rw [at_nat, List.getElem?_map, List.getElem?_eq_getElem hq, List.getD_eq_getElem?_getD, List.getElem?_eq_getElem hq]; rfl
    refine ⟨?_, by show (fitL f r).length + 1 = r.length + 1; rw [h2]⟩
    show (atI (f.map bitI) (q : Int)).bind _ = _
    rw [e]
    show (fitK (f.map bitI) r).map _ = _
    rw [h1]; rfl
theorem fit_all {f : List Bool} : ∀ {b : Kv}, (∀ p ∈ b, ∃ n j, p = (.inl n, .int j)) → ((fitL f b).all id = true ↔ ∀ (n j : Int), (.inl n, D.int j) ∈ b → bitI (f.getD n.toNat false) = j)
  | [], _ => by simp [fitL]
  | p :: r, h => by
    obtain ⟨n, j, rfl⟩ := h p List.mem_cons_self
    have ih := fit_all (f := f) (b := r) fun q hq => h q (List.mem_cons_of_mem _ hq)
    show (decide (bitI (f.getD n.toNat false) = j) && (fitL f r).all id) = true ↔ _
    rw [Bool.and_eq_true, decide_eq_true_eq, ih]
    constructor
    · rintro ⟨h1, h2⟩ n' j' hm
      rcases List.mem_cons.mp hm with e | hm
      · cases e; exact h1
      · exact h2 n' j' hm
    · intro h9
      exact ⟨h9 n j List.mem_cons_self, fun n' j' hm => h9 n' j' (List.mem_cons_of_mem _ hm)⟩
/-- what is asked of the bits -/
theorem fit_iff {N : Nat} {f : List Bool} {b : Kv} (I : IK b) (h : ∀ n d, vI b n = some d → SeD N n d) : (fitL f b).all id = true ↔ ∀ n j, vI b n = some (.int j) → bitI (f.getD n.toNat false) = j := by
  rw [fit_all (fun p hp => ?_)]
  · constructor
    · intro g n j hv; exact g n j ((mem_vI I.nd).mpr hv)
    · intro g n j hm; exact g n j ((mem_vI I.nd).mp hm)
  · obtain ⟨k, d⟩ := p
    obtain ⟨n, rfl⟩ := keysI_keys.mp I.int k (List.mem_map.mpr ⟨_, hp, rfl⟩)
    obtain ⟨j, rfl, _⟩ := h n d ((mem_vI I.nd).mp hp)
    exact ⟨n, j, rfl⟩
theorem se_mem {N : Nat} {b : Kv} (I : IK b) (h : ∀ n d, vI b n = some d → SeD N n d) : ∀ p ∈ b, ∃ n, p.1 = .inl n ∧ SeD N n p.2 := fun p hp => by
  obtain ⟨k, d⟩ := p
  obtain ⟨n, rfl⟩ := keysI_keys.mp I.int k (List.mem_map.mpr ⟨_, hp, rfl⟩)
  exact ⟨n, rfl, h n d ((mem_vI I.nd).mp hp)⟩
theorem intsT_fD {f : List Bool} : intsT (.d (fD f)) = some (f.map bitI) := by
  show intsOf (f.map bitD) = _
  have : f.map bitD = (f.map bitI).map D.int := by rw [List.map_map]; exact List.map_congr_left fun b _ => by cases b <;> rfl
  rw [this, intsOf_map]
open Classical in
/-- does a claim, told by its number, hold -/
noncomputable def holdsAt (vh : Int → Option D) (f : List Bool) (n : Int) : Bool := decide (∀ c : Cm, vh n = some (cD c) → c.hv f = true)
open Classical in
theorem holdsAt_eq {vh : Int → Option D} {f : List Bool} {n : Int} {c : Cm} (h : vh n = some (cD c)) : holdsAt vh f n = c.hv f := by
  unfold holdsAt
  cases hb : c.hv f with
  | true =>
    refine decide_eq_true fun c' h' => ?_
    rw [h] at h'
    rw [← cD_inj c c' (Option.some.inj h')]; exact hb
  | false => exact decide_eq_false fun g => by rw [g c h] at hb; cases hb
open Classical in
theorem holdsAt_iff {vh : Int → Option D} {f : List Bool} {n : Int} : holdsAt vh f n = true ↔ ∀ c : Cm, vh n = some (cD c) → c.hv f = true := decide_eq_true_iff
theorem holdsAll_iff {vh : Int → Option D} {f : List Bool} {ns : List Int} : (ns.map (holdsAt vh f)).all id = true ↔ ∀ n ∈ ns, ∀ c : Cm, vh n = some (cD c) → c.hv f = true := by
  rw [List.all_eq_true]
  constructor
  · intro g n hn
    exact holdsAt_iff.mp (g _ (List.mem_map_of_mem hn))
  · intro g x hx
    obtain ⟨n, hn, rfl⟩ := List.mem_map.mp hx
    exact holdsAt_iff.mpr (g n hn)
noncomputable def hoD (vh : Int → Option D) (f : List Bool) : D → D
  | .int n => .bl (holdsAt vh f n)
  | d => d
theorem hoD_map {vh : Int → Option D} {f : List Bool} {ns : List Int} : (ns.map D.int).map (hoD vh f) = (ns.map (holdsAt vh f)).map D.bl := by rw [List.map_map, List.map_map]; rfl
end VL
set_option Elab.async false
set_option linter.all false
set_option maxRecDepth 100000
set_option maxHeartbeats 2000000
namespace VL
open PySem PySem.Spec L2
def r_bfof (sp_all_fillings : SpD) (sp_holds : SpD) : TS' :=
  (sSeq (sSet 2 (eNw (fP (plLst []))))
  (sSeq (sFor (iSq (eSeal 4 (eCall [false] sp_all_fillings (aP [(poFld clsT "many" (pV 0))])))) (gNm 3)
  (sSeq (sSet 4 (eoN allD (aCons (eFz (fFit clsT "bits" 0 3 5 6)) (aP []))))
  (sIf (tAn (cP (bTr (pV 4))) (tTr (eoN allD (aCons (eFz (fLc (iPq (pV 1)) (.nm 7) tYs (eCall [false, false] sp_holds (aP [(po2 dgetA (poFld clsT "held" (pV 0)) (pV 7)), (pV 3)])) [7])) (aP [])))))
  (sDrop (eMt "list" mApp (eP (pV 2)) (aP [(pV 3)])))
  sNil)))
  (sRet (eP (pV 2)))))
def sp_bfof : SpD := fun as M Q => ∃ (s : Sv) (ns : List Int) (N : Nat) (h b : Kv) (dl : List D) (k : Int) (o : D), as = [.ref 3, s] ∧ LV s (ns.map .int) ∧ M = [.dk h, .dk b, .lst dl, bkC (N : Int) o k] ∧ N ≤ 12 ∧ b.length ≤ 1000000 ∧ IK b ∧ (∀ n d, vI b n = some d → SeD N n d) ∧ (∀ n ∈ ns, ∃ d, vI h n = some d ∧ ClD N d) ∧ ns.length ≤ 1000000 ∧
  Q (.new ((leftL N (vI b) (vI h) ns).map fD)) [.dk h, .dk b, .lst dl, bkC (N : Int) o k]
theorem fldK_bits {h b : Kv} {C : Cell} {m k : Int} {o : D} {G : Mem} : fldK clsT "bits" (.dk h :: .dk b :: C :: bkC m o k :: G) (.ref 3) = some b := rfl
local macro_rules
  | `(tactic| simp only [VLY]) => `(tactic| simp only [sSeq, sIf, sSet, sSub, sRet, sRetN, sNil, sDrop, sAsg, sPar, sParT, sAug, cP, bB, bTr, bNt, bAn, bOr, po1, po2, poN, pArgs, poIf, poAn, poOr, poNt, poTup, plLst, plN, pl2, pl1, pFz, pV, pC, eP, eo1, eo2, eoN, aP, aNil, aCons, eAn, eOr, eNt, eIf, eFz, eNw, fP, fN, f2, f1, tTupE, tLstF, tTr, tTb, tAn, tOrr, tNt, tYs, eSeal, eMt, poMt, mPure, eCh, pCh, ok_bind, ok_map, ok_some, ok_none, ok_gd, ok_ite, List.getElem?_cons_zero, List.getElem?_cons_succ, List.set_cons_zero, List.set_cons_succ, Option.join_some, Option.bind_some, Option.map_some, Option.bind_none, Option.map_none, ix_ref, ix_tup, ix_lst, ix_bor, ix_scr, add_int, add_str, add_tup, sub_int, mul_int, fdiv_int, mod_int, pow_int, neg_int, lt_int, le_int, gt_int, ge_int, eq_int, eq_str, eq_bl, ne_int, ne_str, ne_bl, is_bl, isnt_bl, is_non, isnt_non, len_tup, len_lst, len_ref, len_bor, len_scr, int_bl, int_int, abs_int, min_int, max_int, blD_bl, cell_lst, cellA_lst, cellA_dk, st_ref, at_0, at_1, at_2, at_3, at_4, ixN_10, ixN_20, ixN_21, ixN_30, ixN_31, ixN_32, dataS_d, datas_nil, datas_cons, truth_bl, notD, intS, blS, nonB, List.length_cons, List.length_nil, Nat.reduceAdd, endsF_rt, endsF_nx, rvQ_d, rvQ_new, rvQ_newK, rv_d, rv_ref, rv_cl, rv_ck, okRef_d, okRef_ref, List.not_mem_nil, List.nil_append, true_and, and_true, List.take_succ_cons, List.take_zero, Nat.zero_add, decide_eq_true_eq, Bool.false_eq_true, if_false, if_true, callS, handS_n, handS_tr, handS_fr, handS_fd, handS_fb, cellsAt_c, cellsAt_0, Option.getD_some, backS_0, backS_1, eCall, tup_lst, tup_tup, tup_ref, fLc, iRg, rng_1, rng_2, wipeS_c, wipeS_n, iPq, iSq, seq_tup, seq_lst, seq_bor, lst_lst, lst_bor, gdS_d, gdS_b, sFor, gNm, gcS_c, gcS_n, gcO_d, gcO_n, mapp, rcv_0, rcv_1, rcv_l, gcO_r0, gcO_r1, gcO_z, seal_d, eq_self, List.take_nil, List.cons_append, poSl, poI, poNo, slD_t, intO_i, list_t, list_l, in_str2, ofS_inj, String.reduceEq, or_false, false_or, or_true, true_or, or_self, decide_true, decide_false, Bool.not_true, Bool.not_false, at_m1_2, at_m1_3, cut_2, cut_3, all_bls, any_bls, count_bls, lcg_nm, lcg_tp, lst_ref, laid_l, laid_b, laid_r, list_b, list_r, len_refI, lenOf_ref, rcv_2, rcv_3, rcv_b, slF_l, slF_b, slF_r, cat_l, repr_d, plSl, backS_2, List.mem_singleton, one_ne, if_false, callS, seal_r, Nat.le_refl, cat_get, cat_set, List.append_assoc, List.length_append, List.append_nil, at_ite, Nat.zero_le, iTq, tupD])
  | `(tactic| simp only [VLY, $xs,*]) => `(tactic| simp only [sSeq, sIf, sSet, sSub, sRet, sRetN, sNil, sDrop, sAsg, sPar, sParT, sAug, cP, bB, bTr, bNt, bAn, bOr, po1, po2, poN, pArgs, poIf, poAn, poOr, poNt, poTup, plLst, plN, pl2, pl1, pFz, pV, pC, eP, eo1, eo2, eoN, aP, aNil, aCons, eAn, eOr, eNt, eIf, eFz, eNw, fP, fN, f2, f1, tTupE, tLstF, tTr, tTb, tAn, tOrr, tNt, tYs, eSeal, eMt, poMt, mPure, eCh, pCh, ok_bind, ok_map, ok_some, ok_none, ok_gd, ok_ite, List.getElem?_cons_zero, List.getElem?_cons_succ, List.set_cons_zero, List.set_cons_succ, Option.join_some, Option.bind_some, Option.map_some, Option.bind_none, Option.map_none, ix_ref, ix_tup, ix_lst, ix_bor, ix_scr, add_int, add_str, add_tup, sub_int, mul_int, fdiv_int, mod_int, pow_int, neg_int, lt_int, le_int, gt_int, ge_int, eq_int, eq_str, eq_bl, ne_int, ne_str, ne_bl, is_bl, isnt_bl, is_non, isnt_non, len_tup, len_lst, len_ref, len_bor, len_scr, int_bl, int_int, abs_int, min_int, max_int, blD_bl, cell_lst, cellA_lst, cellA_dk, st_ref, at_0, at_1, at_2, at_3, at_4, ixN_10, ixN_20, ixN_21, ixN_30, ixN_31, ixN_32, dataS_d, datas_nil, datas_cons, truth_bl, notD, intS, blS, nonB, List.length_cons, List.length_nil, Nat.reduceAdd, endsF_rt, endsF_nx, rvQ_d, rvQ_new, rvQ_newK, rv_d, rv_ref, rv_cl, rv_ck, okRef_d, okRef_ref, List.not_mem_nil, List.nil_append, true_and, and_true, List.take_succ_cons, List.take_zero, Nat.zero_add, decide_eq_true_eq, Bool.false_eq_true, if_false, if_true, callS, handS_n, handS_tr, handS_fr, handS_fd, handS_fb, cellsAt_c, cellsAt_0, Option.getD_some, backS_0, backS_1, eCall, tup_lst, tup_tup, tup_ref, fLc, iRg, rng_1, rng_2, wipeS_c, wipeS_n, iPq, iSq, seq_tup, seq_lst, seq_bor, lst_lst, lst_bor, gdS_d, gdS_b, sFor, gNm, gcS_c, gcS_n, gcO_d, gcO_n, mapp, rcv_0, rcv_1, rcv_l, gcO_r0, gcO_r1, gcO_z, seal_d, eq_self, List.take_nil, List.cons_append, poSl, poI, poNo, slD_t, intO_i, list_t, list_l, in_str2, ofS_inj, String.reduceEq, or_false, false_or, or_true, true_or, or_self, decide_true, decide_false, Bool.not_true, Bool.not_false, at_m1_2, at_m1_3, cut_2, cut_3, all_bls, any_bls, count_bls, lcg_nm, lcg_tp, lst_ref, laid_l, laid_b, laid_r, list_b, list_r, len_refI, lenOf_ref, rcv_2, rcv_3, rcv_b, slF_l, slF_b, slF_r, cat_l, repr_d, plSl, backS_2, List.mem_singleton, one_ne, if_false, callS, seal_r, Nat.le_refl, cat_get, cat_set, List.append_assoc, List.length_append, List.append_nil, at_ite, Nat.zero_le, iTq, tupD, $xs,*])
theorem pure_bfof (as : List Sv) (M : Mem) (Q : Rv → Mem → Prop) (h : sp_bfof as M Q) : r_bfof sp_afs (spB sp_holds 6) (endsF M.length Q) (startD 8 as) M := by
  obtain ⟨s, ns, N, h, b, dl, k, o, rfl, hs, rfl, hN, hbl, I, hB, hH, hnl, z⟩ := h
  show r_bfof sp_afs (spB sp_holds 6) (endsF 4 Q) [some (.ref 3), some s, none, none, none, none, none, none] [.dk h, .dk b, .lst dl, bkC (N : Int) o k]
  have hs2 : gcO 5 (some s) = some s := by rcases hs with rfl | rfl <;> rfl
  have hgc : ∀ x y : Option Sv, gcS 5 [some (.ref 3), some s, some (.ref 4), x, y, none, none, none] = [some (.ref 3), some s, some (.ref 4), gcO 5 x, gcO 5 y, none, none, none] := fun x y => by rw [gcS_c, gcS_c, hs2]; rfl
  unfold r_bfof
  simp only [VLY, poFld, fld_many]
  refine ⟨N, rfl, rfl, hN, ?_⟩
  simp only [VLY, sealD]
  refine for_ix _ (fun i δ M => ∃ o3 o4, δ = [some (.ref 3), some s, some (.ref 4), gcO 5 o3, gcO 5 o4, none, none, none] ∧ M = [.dk h, .dk b, .lst dl, bkC (N : Int) o k, .lst ((((afs N).take i).filter (leftB (vI b) (vI h) ns)).map fD)]) ?_ ?_ _ _ ⟨none, none, rfl, rfl⟩
  · rintro δ M ⟨o3, o4, rfl, rfl⟩
    refine ⟨trivial, ?_⟩
    rw [List.length_map, List.take_length]
    simp only [VLY]
    exact z
  · rintro i d δ M nx hd ⟨o3, o4, rfl, rfl⟩ kk
    rw [List.getElem?_map, Option.map_eq_some_iff] at hd
    obtain ⟨f, hf, rfl⟩ := hd
    have hfl := afs_mem N f (List.mem_of_getElem? hf)
    refine ⟨trivial, ?_⟩
    obtain ⟨f1, f2⟩ := fit_ok (N := N) hfl (se_mem I hB)
    simp only [VLY, gNm, fFit, fldK_bits, intsT_fD, f1]
    refine ⟨⟨hbl, by decide, by decide⟩, ?_⟩
    have tk : (afs N).take (i + 1) = (afs N).take i ++ [f] := by rw [List.take_add_one, hf]; rfl
    have no : leftB (vI b) (vI h) ns f = false → nx [some (.ref 3), some s, some (.ref 4), some (.d (fD f)), some (.d (.bl ((fitL f b).all id))), none, none, none] [.dk h, .dk b, .lst dl, bkC (N : Int) o k, .lst ((((afs N).take i).filter (leftB (vI b) (vI h) ns)).map fD)] := fun e =>
      kk _ _ ⟨some (.d (fD f)), some (.d (.bl ((fitL f b).all id))), hgc _ _, by rw [tk, List.filter_append, List.filter_cons_of_neg (by rw [e]; decide), List.filter_nil, List.append_nil]; rfl⟩
    have fi := fit_iff (f := f) I hB
    refine ite_of (fun hfit => ?_) fun hfit => ?_
    · have es : ∀ M, seqD M s = some (ns.map D.int) := by rcases hs with rfl | rfl <;> exact fun _ => rfl
      have eg : ∀ M, gdS s (ns.map D.int) M := by rcases hs with rfl | rfl <;> exact fun _ => trivial
      rw [es, ok_some]
      refine lc_map (f := hoD (vI h) f) (eg _) (fun d hd R qq => ?_) ?_
      · obtain ⟨n, hn, rfl⟩ := List.mem_map.mp hd
        obtain ⟨d, hv, c, q, rfl, hc, hq, hsz⟩ := hH n hn
        have e2 : ∀ G, dgetA (.dk h :: G) (.ref 0) (.d (.int n)) = some (.d (cD c)) := fun G => f_dgetA (kv_ref (j := 0) rfl) hv
        simp only [VLY, poFld, fld_held, e2]
        refine ⟨q, by omega, c, f, rfl, rfl, by rw [hfl]; exact hc, ?_⟩
        simp only [VLY]
        rw [← holdsAt_eq hv]
        exact qq
      · rw [hoD_map]
        simp only [VLY, all_bls]
        refine ite_of (fun hall => ?_) fun hall => ?_
        · have e : leftB (vI b) (vI h) ns f = true := leftB_iff.mpr ⟨fi.mp hfit, holdsAll_iff.mp hall⟩
          have hl : ((((afs N).take i).filter (leftB (vI b) (vI h) ns)).map fD).length < sizeLine := by
            rw [List.length_map, sizeLine_eq]
            have h1 := List.length_filter_le (leftB (vI b) (vI h) ns) ((afs N).take i)
            have h2 : ((afs N).take i).length ≤ (afs N).length := by rw [List.length_take]; omega
            rw [afs_len] at h2
            have h3 : 2 ^ N ≤ 2 ^ 12 := Nat.pow_le_pow_right (by decide) hN
            have h4 : (2 : Nat) ^ 12 = 4096 := by decide
            omega
          refine ⟨rfl, hl, kk _ _ ⟨some (.d (fD f)), some (.d (.bl ((fitL f b).all id))), hgc _ _, ?_⟩⟩
          rw [tk, List.filter_append, List.filter_cons_of_pos e, List.filter_nil, List.map_append]; rfl
        · exact no (Bool.eq_false_iff.mpr fun e => hall (holdsAll_iff.mpr (leftB_iff.mp e).2))
    · exact no (Bool.eq_false_iff.mpr fun e => hfit (fi.mpr (leftB_iff.mp e).1))
end VL
set_option Elab.async false
set_option linter.all false
set_option maxRecDepth 100000
set_option maxHeartbeats 2000000
namespace VL
open PySem PySem.Spec L2
section
variable {A B C : Cell} {h b : Kv} {ds d' : List D} {m k : Int} {o : D} {G : Mem} {R : Rv → Mem → Prop} {sp : SpD} {x : D}
theorem call_S : callO [true] sp (.dk h :: .dk b :: .lst ds :: bkC m o k :: G) [.ref 3] R = sp [.ref 3] [.dk h, .dk b, .lst ds, bkC m o k] fun v Mc => R v (backO [0, 1, 2, 3] Mc (.dk h :: .dk b :: .lst ds :: bkC m o k :: G)) := rfl
theorem call_Sa : callO [true, false] sp (.dk h :: .dk b :: .lst ds :: bkC m o k :: G) [.ref 3, .d x] R = sp [.ref 3, .d x] [.dk h, .dk b, .lst ds, bkC m o k] fun v Mc => R v (backO [0, 1, 2, 3] Mc (.dk h :: .dk b :: .lst ds :: bkC m o k :: G)) := rfl
theorem back_S {h' b' : Kv} {k' : Int} : backO [0, 1, 2, 3] [.dk h', .dk b', .lst d', bkC m o k'] (.dk h :: .dk b :: .lst ds :: bkC m o k :: G) = .dk h' :: .dk b' :: .lst d' :: bkC m o k' :: G := rfl
theorem ob_fof : isOb "Book" "fillings_of" (A :: B :: C :: bkC m o k :: G) (.ref 3) = true := rfl
theorem ob_fleft : isOb "Book" "fillings_left" (A :: B :: C :: bkC m o k :: G) (.ref 3) = true := rfl
end
theorem kDs_ints : ∀ {kvs : Kv} {ns : List Int}, keysI kvs = some ns → kDs kvs = ns.map D.int
  | [], ns, h => by cases h; rfl
  | (.inl i, d) :: kvs, ns, h => by
    obtain ⟨ms, e, rfl⟩ := Option.map_eq_some_iff.mp (show (keysI kvs).map _ = some ns from h)
    show D.int i :: kDs kvs = _
    rw [kDs_ints e]; rfl
  | (.inr _, _) :: _, ns, h => by cases h
theorem f_listK {M : Mem} {s : Sv} {kvs : Kv} {ns : List Int} (h : kvAt M s = some kvs) (hn : keysI kvs = some ns) (hl : kvs.length ≤ 1000000) : listDF M [s] = some (ns.map D.int) := by
  show (kvAt M s).bind _ = _
  rw [h]
  show gd _ (kDs kvs) = _
  rw [gd_pos hl, kDs_ints hn]
/-- all claims held -/
def LeftS (vb vh : Int → Option D) (f : List Bool) : Prop := (∀ n j, vb n = some (.int j) → bitI (f.getD n.toNat false) = j) ∧ ∀ n, ∀ c : Cm, vh n = some (cD c) → c.hv f = true
open Classical in
noncomputable def leftSB (vb vh : Int → Option D) (f : List Bool) : Bool := decide (LeftS vb vh f)
noncomputable def leftS (N : Nat) (vb vh : Int → Option D) : List (List Bool) := (afs N).filter (leftSB vb vh)
open Classical in
theorem leftSB_iff {vb vh : Int → Option D} {f : List Bool} : leftSB vb vh f = true ↔ LeftS vb vh f := decide_eq_true_iff
theorem leftL_S {N : Nat} {vb : Int → Option D} {h : Kv} {ns : List Int} (hn : keysI h = some ns) : leftL N vb (vI h) ns = leftS N vb (vI h) := by
  unfold leftL leftS
  refine List.filter_congr fun f _ => ?_
  rw [Bool.eq_iff_iff, leftB_iff, leftSB_iff]
  constructor
  · rintro ⟨h1, h2⟩
    refine ⟨h1, fun n c hc => h2 n ((keysI_mem hn).mpr (by rw [hc]; rfl)) c hc⟩
  · rintro ⟨h1, h2⟩
    exact ⟨h1, fun n _ c hc => h2 n c hc⟩
def r_bfleft (sp_Book__fillings_of : SpD) : TS' :=
  (sRet (eMeth "Book" "fillings_of" [true, false] sp_Book__fillings_of (eP (pV 0)) (aP [(pFz (plN listDF [(poFld clsT "held" (pV 0))]))])))
def sp_bfleft : SpD := fun as M Q => ∃ (N : Nat) (h b : Kv) (dl : List D) (k : Int) (o : D), as = [.ref 3] ∧ M = [.dk h, .dk b, .lst dl, bkC (N : Int) o k] ∧ N ≤ 12 ∧ h.length ≤ 1000000 ∧ b.length ≤ 1000000 ∧ IK h ∧ IK b ∧ (∀ n d, vI b n = some d → SeD N n d) ∧ (∀ n d, vI h n = some d → ClD N d) ∧
  Q (.new ((leftS N (vI b) (vI h)).map fD)) [.dk h, .dk b, .lst dl, bkC (N : Int) o k]
local macro_rules
  | `(tactic| simp only [VLY]) => `(tactic| simp only [sSeq, sIf, sSet, sSub, sRet, sRetN, sNil, sDrop, sAsg, sPar, sParT, sAug, cP, bB, bTr, bNt, bAn, bOr, po1, po2, poN, pArgs, poIf, poAn, poOr, poNt, poTup, plLst, plN, pl2, pl1, pFz, pV, pC, eP, eo1, eo2, eoN, aP, aNil, aCons, eAn, eOr, eNt, eIf, eFz, eNw, fP, fN, f2, f1, tTupE, tLstF, tTr, tTb, tAn, tOrr, tNt, tYs, eSeal, eMt, poMt, mPure, eCh, pCh, ok_bind, ok_map, ok_some, ok_none, ok_gd, ok_ite, List.getElem?_cons_zero, List.getElem?_cons_succ, List.set_cons_zero, List.set_cons_succ, Option.join_some, Option.bind_some, Option.map_some, Option.bind_none, Option.map_none, ix_ref, ix_tup, ix_lst, ix_bor, ix_scr, add_int, add_str, add_tup, sub_int, mul_int, fdiv_int, mod_int, pow_int, neg_int, lt_int, le_int, gt_int, ge_int, eq_int, eq_str, eq_bl, ne_int, ne_str, ne_bl, is_bl, isnt_bl, is_non, isnt_non, len_tup, len_lst, len_ref, len_bor, len_scr, int_bl, int_int, abs_int, min_int, max_int, blD_bl, cell_lst, cellA_lst, cellA_dk, st_ref, at_0, at_1, at_2, at_3, at_4, ixN_10, ixN_20, ixN_21, ixN_30, ixN_31, ixN_32, dataS_d, datas_nil, datas_cons, truth_bl, notD, intS, blS, nonB, List.length_cons, List.length_nil, Nat.reduceAdd, endsF_rt, endsF_nx, rvQ_d, rvQ_new, rvQ_newK, rv_d, rv_ref, rv_cl, rv_ck, okRef_d, okRef_ref, List.not_mem_nil, List.nil_append, true_and, and_true, List.take_succ_cons, List.take_zero, Nat.zero_add, decide_eq_true_eq, Bool.false_eq_true, if_false, if_true, callS, handS_n, handS_tr, handS_fr, handS_fd, handS_fb, cellsAt_c, cellsAt_0, Option.getD_some, backS_0, backS_1, eCall, tup_lst, tup_tup, tup_ref, fLc, iRg, rng_1, rng_2, wipeS_c, wipeS_n, iPq, iSq, seq_tup, seq_lst, seq_bor, lst_lst, lst_bor, gdS_d, gdS_b, sFor, gNm, gcS_c, gcS_n, gcO_d, gcO_n, mapp, rcv_0, rcv_1, rcv_l, gcO_r0, gcO_r1, gcO_z, seal_d, eq_self, List.take_nil, List.cons_append, poSl, poI, poNo, slD_t, intO_i, list_t, list_l, in_str2, ofS_inj, String.reduceEq, or_false, false_or, or_true, true_or, or_self, decide_true, decide_false, Bool.not_true, Bool.not_false, at_m1_2, at_m1_3, cut_2, cut_3, all_bls, any_bls, count_bls, lcg_nm, lcg_tp, lst_ref, laid_l, laid_b, laid_r, list_b, list_r, len_refI, lenOf_ref, rcv_2, rcv_3, rcv_b, slF_l, slF_b, slF_r, cat_l, repr_d, plSl, backS_2, List.mem_singleton, one_ne, if_false, callS, seal_r, Nat.le_refl, cat_get, cat_set, List.append_assoc, List.length_append, List.append_nil, at_ite, Nat.zero_le, iTq, tupD])
  | `(tactic| simp only [VLY, $xs,*]) => `(tactic| simp only [sSeq, sIf, sSet, sSub, sRet, sRetN, sNil, sDrop, sAsg, sPar, sParT, sAug, cP, bB, bTr, bNt, bAn, bOr, po1, po2, poN, pArgs, poIf, poAn, poOr, poNt, poTup, plLst, plN, pl2, pl1, pFz, pV, pC, eP, eo1, eo2, eoN, aP, aNil, aCons, eAn, eOr, eNt, eIf, eFz, eNw, fP, fN, f2, f1, tTupE, tLstF, tTr, tTb, tAn, tOrr, tNt, tYs, eSeal, eMt, poMt, mPure, eCh, pCh, ok_bind, ok_map, ok_some, ok_none, ok_gd, ok_ite, List.getElem?_cons_zero, List.getElem?_cons_succ, List.set_cons_zero, List.set_cons_succ, Option.join_some, Option.bind_some, Option.map_some, Option.bind_none, Option.map_none, ix_ref, ix_tup, ix_lst, ix_bor, ix_scr, add_int, add_str, add_tup, sub_int, mul_int, fdiv_int, mod_int, pow_int, neg_int, lt_int, le_int, gt_int, ge_int, eq_int, eq_str, eq_bl, ne_int, ne_str, ne_bl, is_bl, isnt_bl, is_non, isnt_non, len_tup, len_lst, len_ref, len_bor, len_scr, int_bl, int_int, abs_int, min_int, max_int, blD_bl, cell_lst, cellA_lst, cellA_dk, st_ref, at_0, at_1, at_2, at_3, at_4, ixN_10, ixN_20, ixN_21, ixN_30, ixN_31, ixN_32, dataS_d, datas_nil, datas_cons, truth_bl, notD, intS, blS, nonB, List.length_cons, List.length_nil, Nat.reduceAdd, endsF_rt, endsF_nx, rvQ_d, rvQ_new, rvQ_newK, rv_d, rv_ref, rv_cl, rv_ck, okRef_d, okRef_ref, List.not_mem_nil, List.nil_append, true_and, and_true, List.take_succ_cons, List.take_zero, Nat.zero_add, decide_eq_true_eq, Bool.false_eq_true, if_false, if_true, callS, handS_n, handS_tr, handS_fr, handS_fd, handS_fb, cellsAt_c, cellsAt_0, Option.getD_some, backS_0, backS_1, eCall, tup_lst, tup_tup, tup_ref, fLc, iRg, rng_1, rng_2, wipeS_c, wipeS_n, iPq, iSq, seq_tup, seq_lst, seq_bor, lst_lst, lst_bor, gdS_d, gdS_b, sFor, gNm, gcS_c, gcS_n, gcO_d, gcO_n, mapp, rcv_0, rcv_1, rcv_l, gcO_r0, gcO_r1, gcO_z, seal_d, eq_self, List.take_nil, List.cons_append, poSl, poI, poNo, slD_t, intO_i, list_t, list_l, in_str2, ofS_inj, String.reduceEq, or_false, false_or, or_true, true_or, or_self, decide_true, decide_false, Bool.not_true, Bool.not_false, at_m1_2, at_m1_3, cut_2, cut_3, all_bls, any_bls, count_bls, lcg_nm, lcg_tp, lst_ref, laid_l, laid_b, laid_r, list_b, list_r, len_refI, lenOf_ref, rcv_2, rcv_3, rcv_b, slF_l, slF_b, slF_r, cat_l, repr_d, plSl, backS_2, List.mem_singleton, one_ne, if_false, callS, seal_r, Nat.le_refl, cat_get, cat_set, List.append_assoc, List.length_append, List.append_nil, at_ite, Nat.zero_le, iTq, tupD, $xs,*])
theorem pure_bfleft (as : List Sv) (M : Mem) (Q : Rv → Mem → Prop) (h : sp_bfleft as M Q) : r_bfleft sp_bfof (endsF M.length Q) (startD 1 as) M := by
  obtain ⟨N, h, b, dl, k, o, rfl, rfl, hN, hl, hbl, I1, I2, hB, hH, z⟩ := h
  show r_bfleft sp_bfof (endsF 4 Q) [some (.ref 3)] [.dk h, .dk b, .lst dl, bkC (N : Int) o k]
  obtain ⟨ns, hn⟩ := I1.int
  have e1 : listDF [.dk h, .dk b, .lst dl, bkC (N : Int) o k] [.ref 0] = _ := f_listK (kv_ref (j := 0) rfl) hn hl
  unfold r_bfleft eMeth
  simp only [VLY, poFld, fld_held, e1, ob_fof, call_Sa]
  refine ⟨_, ns, N, h, b, dl, k, o, rfl, .inl rfl, rfl, hN, hbl, I2, hB, fun n hm => ?_, by rw [keysI_len hn]; exact hl, ?_⟩
  · obtain ⟨d, hd⟩ := Option.isSome_iff_exists.mp ((keysI_mem hn).mp hm)
    exact ⟨d, hd, hH n d hd⟩
  · rw [leftL_S hn]
    simp only [VLY, back_S]
    exact z
def r_bcount (sp_Book__fillings_left : SpD) : TS' :=
  (sRet (eoN lenD (aCons (eMeth "Book" "fillings_left" [true] sp_Book__fillings_left (eP (pV 0)) (aP [])) (aP []))))
def sp_bcount : SpD := fun as M Q => ∃ (N : Nat) (h b : Kv) (dl : List D) (k : Int) (o : D), as = [.ref 3] ∧ M = [.dk h, .dk b, .lst dl, bkC (N : Int) o k] ∧ N ≤ 12 ∧ h.length ≤ 1000000 ∧ b.length ≤ 1000000 ∧ IK h ∧ IK b ∧ (∀ n d, vI b n = some d → SeD N n d) ∧ (∀ n d, vI h n = some d → ClD N d) ∧
  Q (.d (.int ((leftS N (vI b) (vI h)).length : Int))) [.dk h, .dk b, .lst dl, bkC (N : Int) o k]
theorem pure_bcount (as : List Sv) (M : Mem) (Q : Rv → Mem → Prop) (h : sp_bcount as M Q) : r_bcount sp_bfleft (endsF M.length Q) (startD 1 as) M := by
  obtain ⟨N, h, b, dl, k, o, rfl, rfl, hN, hl, hbl, I1, I2, hB, hH, z⟩ := h
  show r_bcount sp_bfleft (endsF 4 Q) [some (.ref 3)] [.dk h, .dk b, .lst dl, bkC (N : Int) o k]
  have el : ∀ xs : List D, lenD [.dk h, .dk b, .lst dl, bkC (N : Int) o k, .lst xs] [.ref 4] = some (.d (.int (xs.length : Int))) := fun xs => rfl
  unfold r_bcount eMeth
  simp only [VLY, ob_fleft, call_S]
  refine ⟨N, h, b, dl, k, o, rfl, rfl, hN, hl, hbl, I1, I2, hB, hH, ?_⟩
  simp only [VLY, back_S, el, List.length_map]
  exact z
end VL
set_option Elab.async false
set_option linter.all false
set_option maxRecDepth 100000
set_option maxHeartbeats 2000000
namespace VL
open PySem PySem.Spec L2
theorem lc_tp2 {i j : Nat} {te : TE'} {δw : DS} {gd : Mem → Prop} {Q : List D → Mem → Prop} {f : D → D} {M : Mem} {ds : List D} (hg : gd M) (h : ∀ d ∈ ds, ∃ x y, d = .tup [x, y] ∧ ∀ R : QD, R (.d (f d)) M → te ((δw.set i (some (.d x))).set j (some (.d y))) M R) (q : Q (ds.map f) M) :
    lcL (LcG.tp [i, j]).to tYs te δw gd Q ds [] M := by
  have : ∀ (l acc : List D), (∀ d ∈ l, d ∈ ds) → Q (acc ++ l.map f) M → lcL (LcG.tp [i, j]).to tYs te δw gd Q l acc M := by
    intro l
    induction l with
    | nil => intro acc _ q; exact ⟨hg, by simpa using q⟩
    | cons d l ih =>
      intro acc hl q
      obtain ⟨x, y, e, hd⟩ := h d (hl d List.mem_cons_self)
      refine ⟨hg, ?_⟩
      have goal : te ((δw.set i (some (.d x))).set j (some (.d y))) M fun s M4 => ok (dataS s) fun y => lcL (LcG.tp [i, j]).to tYs te δw gd Q l (acc ++ [y]) M4 :=
        hd _ (ih (acc ++ [f d]) (fun x hx => hl x (List.mem_cons_of_mem _ hx)) (by simpa using q))
      subst e
      exact goal
  exact this ds [] (fun _ h => h) (by simpa using q)
def fitDD (f : List Bool) : D → D
  | .tup [.int n, .int j] => .bl (decide (bitI (f.getD n.toNat false) = j))
  | d => d
theorem fitDD_map {N : Nat} {f : List Bool} : ∀ {b : Kv}, (∀ p ∈ b, ∃ n, p.1 = .inl n ∧ SeD N n p.2) → (b.map fun p => D.tup [kDa p.1, p.2]).map (fitDD f) = (fitL f b).map D.bl
  | [], _ => rfl
  | p :: r, h => by
    obtain ⟨k, d⟩ := p
    obtain ⟨n, hk, j, hd, _⟩ := h _ List.mem_cons_self
    cases (show k = .inl n from hk)
    cases (show d = .int j from hd)
    rw [List.map_cons, List.map_cons, fitDD_map fun q hq => h q (List.mem_cons_of_mem _ hq)]
    rfl
def r_lleft (sp__law_all_fillings : SpD) (sp__law_holds : SpD) : TS' :=
  (sSeq (sSet 2 (eNw (fP (plLst []))))
  (sSeq (sFor (iSq (eSeal 1 (eCall [false] sp__law_all_fillings (aP [(pV 1)])))) (gNm 3)
  (sIf (tTr (eoN allD (aCons (eFz (fLc (iIk (eP (po2 dgetA (pV 0) (pC (.str "bits"))))) (.tp [4, 5]) tYs (eP (po2 eqD (po2 ixD (pV 3) (pV 4)) (pV 5))) [4, 5])) (aP []))))
  (sIf (tTr (eoN allD (aCons (eFz (fLc (iVk (eP (po2 dgetA (pV 0) (pC (.str "claims"))))) (.nm 6) tYs (eCall [false, false] sp__law_holds (aP [(pV 6), (pV 3)])) [6])) (aP []))))
  (sDrop (eMt "list" mApp (eP (pV 2)) (aP [(pV 3)])))
  sNil)
  sNil))
  (sRet (eP (pV 2)))))
def sp_lleft : SpD := fun as M Q => ∃ (N t : Nat) (C E : Kv) (k : Int) (ps : List Snap), as = [.ref 0, .d (.int (N : Int))] ∧ M = [.dk (ownK C E k ps)] ∧ N ≤ 12 ∧ t ≤ 1000000 ∧ Good N t C E k ∧ Q (.new ((leftS N (vI E) (vI C)).map fD)) [.dk (ownK C E k ps)]
open Classical in
noncomputable def hvDB (f : List Bool) (d : D) : Bool := decide (∀ c : Cm, d = cD c → c.hv f = true)
open Classical in
theorem hvDB_iff {f : List Bool} {d : D} : hvDB f d = true ↔ ∀ c : Cm, d = cD c → c.hv f = true := decide_eq_true_iff
theorem hvDB_eq {f : List Bool} {c : Cm} : hvDB f (cD c) = c.hv f := by
  rw [Bool.eq_iff_iff, hvDB_iff]
  exact ⟨fun g => g c rfl, fun h c' e => by rw [← cD_inj c c' e]; exact h⟩
noncomputable def hvDD (f : List Bool) (d : D) : D := .bl (hvDB f d)
theorem hvAll {f : List Bool} {C : Kv} (I : IK C) : ((C.map fun p => hvDB f p.2).all id = true) ↔ ∀ n, ∀ c : Cm, vI C n = some (cD c) → c.hv f = true := by
  rw [List.all_eq_true]
  constructor
  · intro g n c hc
    have hm := (mem_vI I.nd).mpr hc
    exact hvDB_iff.mp (g _ (List.mem_map.mpr ⟨_, hm, rfl⟩)) c rfl
  · intro g x hx
    obtain ⟨⟨k, d⟩, hp, rfl⟩ := List.mem_map.mp hx
    obtain ⟨n, rfl⟩ := keysI_keys.mp I.int k (List.mem_map.mpr ⟨_, hp, rfl⟩)
    exact hvDB_iff.mpr fun c e => g n c (by rw [(mem_vI I.nd).mp hp]; exact congrArg some e)
theorem hvDD_map {f : List Bool} {C : Kv} : (C.map (·.2)).map (hvDD f) = (C.map fun p => hvDB f p.2).map D.bl := by rw [List.map_map, List.map_map]; rfl
local macro_rules
  | `(tactic| simp only [VLY]) => `(tactic| simp only [sSeq, sIf, sSet, sSub, sRet, sRetN, sNil, sDrop, sAsg, sPar, sParT, sAug, cP, bB, bTr, bNt, bAn, bOr, po1, po2, poN, pArgs, poIf, poAn, poOr, poNt, poTup, plLst, plN, pl2, pl1, pFz, pV, pC, eP, eo1, eo2, eoN, aP, aNil, aCons, eAn, eOr, eNt, eIf, eFz, eNw, fP, fN, f2, f1, tTupE, tLstF, tTr, tTb, tAn, tOrr, tNt, tYs, eSeal, eMt, poMt, mPure, eCh, pCh, ok_bind, ok_map, ok_some, ok_none, ok_gd, ok_ite, List.getElem?_cons_zero, List.getElem?_cons_succ, List.set_cons_zero, List.set_cons_succ, Option.join_some, Option.bind_some, Option.map_some, Option.bind_none, Option.map_none, ix_ref, ix_tup, ix_lst, ix_bor, ix_scr, add_int, add_str, add_tup, sub_int, mul_int, fdiv_int, mod_int, pow_int, neg_int, lt_int, le_int, gt_int, ge_int, eq_int, eq_str, eq_bl, ne_int, ne_str, ne_bl, is_bl, isnt_bl, is_non, isnt_non, len_tup, len_lst, len_ref, len_bor, len_scr, int_bl, int_int, abs_int, min_int, max_int, blD_bl, cell_lst, cellA_lst, cellA_dk, st_ref, at_0, at_1, at_2, at_3, at_4, ixN_10, ixN_20, ixN_21, ixN_30, ixN_31, ixN_32, dataS_d, datas_nil, datas_cons, truth_bl, notD, intS, blS, nonB, List.length_cons, List.length_nil, Nat.reduceAdd, endsF_rt, endsF_nx, rvQ_d, rvQ_new, rvQ_newK, rv_d, rv_ref, rv_cl, rv_ck, okRef_d, okRef_ref, List.not_mem_nil, List.nil_append, true_and, and_true, List.take_succ_cons, List.take_zero, Nat.zero_add, decide_eq_true_eq, Bool.false_eq_true, if_false, if_true, callS, handS_n, handS_tr, handS_fr, handS_fd, handS_fb, cellsAt_c, cellsAt_0, Option.getD_some, backS_0, backS_1, eCall, tup_lst, tup_tup, tup_ref, fLc, iRg, rng_1, rng_2, wipeS_c, wipeS_n, iPq, iSq, seq_tup, seq_lst, seq_bor, lst_lst, lst_bor, gdS_d, gdS_b, sFor, gNm, gcS_c, gcS_n, gcO_d, gcO_n, mapp, rcv_0, rcv_1, rcv_l, gcO_r0, gcO_r1, gcO_z, seal_d, eq_self, List.take_nil, List.cons_append, poSl, poI, poNo, slD_t, intO_i, list_t, list_l, in_str2, ofS_inj, String.reduceEq, or_false, false_or, or_true, true_or, or_self, decide_true, decide_false, Bool.not_true, Bool.not_false, at_m1_2, at_m1_3, cut_2, cut_3, all_bls, any_bls, count_bls, lcg_nm, lcg_tp, lst_ref, laid_l, laid_b, laid_r, list_b, list_r, len_refI, lenOf_ref, rcv_2, rcv_3, rcv_b, slF_l, slF_b, slF_r, cat_l, repr_d, plSl, backS_2, List.mem_singleton, one_ne, if_false, callS, seal_r, Nat.le_refl, cat_get, cat_set, List.append_assoc, List.length_append, List.append_nil, at_ite, Nat.zero_le, iTq, tupD])
  | `(tactic| simp only [VLY, $xs,*]) => `(tactic| simp only [sSeq, sIf, sSet, sSub, sRet, sRetN, sNil, sDrop, sAsg, sPar, sParT, sAug, cP, bB, bTr, bNt, bAn, bOr, po1, po2, poN, pArgs, poIf, poAn, poOr, poNt, poTup, plLst, plN, pl2, pl1, pFz, pV, pC, eP, eo1, eo2, eoN, aP, aNil, aCons, eAn, eOr, eNt, eIf, eFz, eNw, fP, fN, f2, f1, tTupE, tLstF, tTr, tTb, tAn, tOrr, tNt, tYs, eSeal, eMt, poMt, mPure, eCh, pCh, ok_bind, ok_map, ok_some, ok_none, ok_gd, ok_ite, List.getElem?_cons_zero, List.getElem?_cons_succ, List.set_cons_zero, List.set_cons_succ, Option.join_some, Option.bind_some, Option.map_some, Option.bind_none, Option.map_none, ix_ref, ix_tup, ix_lst, ix_bor, ix_scr, add_int, add_str, add_tup, sub_int, mul_int, fdiv_int, mod_int, pow_int, neg_int, lt_int, le_int, gt_int, ge_int, eq_int, eq_str, eq_bl, ne_int, ne_str, ne_bl, is_bl, isnt_bl, is_non, isnt_non, len_tup, len_lst, len_ref, len_bor, len_scr, int_bl, int_int, abs_int, min_int, max_int, blD_bl, cell_lst, cellA_lst, cellA_dk, st_ref, at_0, at_1, at_2, at_3, at_4, ixN_10, ixN_20, ixN_21, ixN_30, ixN_31, ixN_32, dataS_d, datas_nil, datas_cons, truth_bl, notD, intS, blS, nonB, List.length_cons, List.length_nil, Nat.reduceAdd, endsF_rt, endsF_nx, rvQ_d, rvQ_new, rvQ_newK, rv_d, rv_ref, rv_cl, rv_ck, okRef_d, okRef_ref, List.not_mem_nil, List.nil_append, true_and, and_true, List.take_succ_cons, List.take_zero, Nat.zero_add, decide_eq_true_eq, Bool.false_eq_true, if_false, if_true, callS, handS_n, handS_tr, handS_fr, handS_fd, handS_fb, cellsAt_c, cellsAt_0, Option.getD_some, backS_0, backS_1, eCall, tup_lst, tup_tup, tup_ref, fLc, iRg, rng_1, rng_2, wipeS_c, wipeS_n, iPq, iSq, seq_tup, seq_lst, seq_bor, lst_lst, lst_bor, gdS_d, gdS_b, sFor, gNm, gcS_c, gcS_n, gcO_d, gcO_n, mapp, rcv_0, rcv_1, rcv_l, gcO_r0, gcO_r1, gcO_z, seal_d, eq_self, List.take_nil, List.cons_append, poSl, poI, poNo, slD_t, intO_i, list_t, list_l, in_str2, ofS_inj, String.reduceEq, or_false, false_or, or_true, true_or, or_self, decide_true, decide_false, Bool.not_true, Bool.not_false, at_m1_2, at_m1_3, cut_2, cut_3, all_bls, any_bls, count_bls, lcg_nm, lcg_tp, lst_ref, laid_l, laid_b, laid_r, list_b, list_r, len_refI, lenOf_ref, rcv_2, rcv_3, rcv_b, slF_l, slF_b, slF_r, cat_l, repr_d, plSl, backS_2, List.mem_singleton, one_ne, if_false, callS, seal_r, Nat.le_refl, cat_get, cat_set, List.append_assoc, List.length_append, List.append_nil, at_ite, Nat.zero_le, iTq, tupD, $xs,*])
theorem pure_lleft (as : List Sv) (M : Mem) (Q : Rv → Mem → Prop) (h : sp_lleft as M Q) : r_lleft sp_afs (spB sp_holds 6) (endsF M.length Q) (startD 7 as) M := by
  obtain ⟨N, t, C, E, k, ps, rfl, rfl, hN, ht, g, z⟩ := h
  show r_lleft sp_afs (spB sp_holds 6) (endsF 1 Q) [some (.ref 0), some (.d (.int (N : Int))), none, none, none, none, none] [.dk (ownK C E k ps)]
  have lC := g.lC
  have lE := g.lE
  have hse := se_mem g.iE g.vE
  unfold r_lleft
  simp only [VLY]
  refine ⟨N, rfl, rfl, hN, ?_⟩
  simp only [VLY, sealD]
  refine for_ix _ (fun i δ M => ∃ o3, δ = [some (.ref 0), some (.d (.int (N : Int))), some (.ref 1), gcO 2 o3, none, none, none] ∧ M = [.dk (ownK C E k ps), .lst ((((afs N).take i).filter (leftSB (vI E) (vI C))).map fD)]) ?_ ?_ _ _ ⟨none, rfl, rfl⟩
  · rintro δ M ⟨o3, rfl, rfl⟩
    refine ⟨trivial, ?_⟩
    rw [List.length_map, List.take_length]
    simp only [VLY]
    exact z
  · rintro i d δ M nx hd ⟨o3, rfl, rfl⟩ kk
    rw [List.getElem?_map, Option.map_eq_some_iff] at hd
    obtain ⟨f, hf, rfl⟩ := hd
    have hfl := afs_mem N f (List.mem_of_getElem? hf)
    refine ⟨trivial, ?_⟩
    have tk : (afs N).take (i + 1) = (afs N).take i ++ [f] := by rw [List.take_add_one, hf]; rfl
    have no : leftSB (vI E) (vI C) f = false → nx [some (.ref 0), some (.d (.int (N : Int))), some (.ref 1), some (.d (fD f)), none, none, none] [.dk (ownK C E k ps), .lst ((((afs N).take i).filter (leftSB (vI E) (vI C))).map fD)] := fun e =>
      kk _ _ ⟨some (.d (fD f)), rfl, by rw [tk, List.filter_append, List.filter_cons_of_neg (by rw [e]; decide), List.filter_nil, List.append_nil]; rfl⟩
    have fi := fit_iff (f := f) g.iE g.vE
    simp only [VLY, gNm, iIk, own_b0, zip_kv]
    refine ⟨by rw [List.length_map, sizeLine_eq]; omega, ?_⟩
    refine lc_tp2 (f := fitDD f) trivial (fun d hd => ?_) ?_
    · obtain ⟨⟨kx, dx⟩, hp, rfl⟩ := List.mem_map.mp hd
      obtain ⟨n, hk, j, hdj, j0, j1, n0, n1⟩ := hse _ hp
      cases (show kx = .inl n from hk)
      cases (show dx = .int j from hdj)
      refine ⟨.int n, .int j, rfl, fun R q => ?_⟩
      obtain ⟨m, rfl⟩ := Int.eq_ofNat_of_zero_le n0
      have e1 : ∀ M, ixD M (.d (fD f)) (.d (.int (m : Int))) = some (.d (bitD (f.getD m false))) := fun M => fD_at (by omega)
      simp only [VLY, e1, bitD]
      exact q
    · rw [fitDD_map hse]
      simp only [VLY, all_bls]
      refine ite_of (fun hfit => ?_) fun hfit => ?_
      · simp only [VLY, iVk, own_c0]
        refine ⟨by rw [List.length_map, sizeLine_eq]; omega, ?_⟩
        refine lc_map (f := hvDD f) trivial (fun d hd R q => ?_) ?_
        · obtain ⟨⟨kx, dx⟩, hp, rfl⟩ := List.mem_map.mp hd
          obtain ⟨n, rfl⟩ := keysI_keys.mp g.iC.int kx (List.mem_map.mpr ⟨_, hp, rfl⟩)
          obtain ⟨c, qq, e, hc, hq, hsz⟩ := g.vC n dx ((mem_vI g.iC.nd).mp hp)
          cases (show dx = cD c from e)
          simp only [VLY]
          refine ⟨qq, by omega, c, f, rfl, rfl, by rw [hfl]; exact hc, ?_⟩
          simp only [VLY]
          have : hvDD f (cD c) = .bl (c.hv f) := by unfold hvDD; rw [hvDB_eq]
          rw [← this]
          exact q
        · rw [hvDD_map]
          simp only [VLY, all_bls]
          refine ite_of (fun hall => ?_) fun hall => ?_
          · have e : leftSB (vI E) (vI C) f = true := leftSB_iff.mpr ⟨fi.mp hfit, (hvAll g.iC).mp hall⟩
            have hl : ((((afs N).take i).filter (leftSB (vI E) (vI C))).map fD).length < sizeLine := by
              rw [List.length_map, sizeLine_eq]
              have h1 := List.length_filter_le (leftSB (vI E) (vI C)) ((afs N).take i)
              have h2 : ((afs N).take i).length ≤ (afs N).length := by rw [List.length_take]; omega
              rw [afs_len] at h2
              have h3 : 2 ^ N ≤ 2 ^ 12 := Nat.pow_le_pow_right (by decide) hN
              have h4 : (2 : Nat) ^ 12 = 4096 := by decide
              omega
            refine ⟨hl, kk _ _ ⟨some (.d (fD f)), rfl, ?_⟩⟩
            rw [tk, List.filter_append, List.filter_cons_of_pos e, List.filter_nil, List.map_append]; rfl
          · exact no (Bool.eq_false_iff.mpr fun e => hall ((hvAll g.iC).mpr (leftSB_iff.mp e).2))
      · exact no (Bool.eq_false_iff.mpr fun e => hfit (fi.mpr (leftSB_iff.mp e).1))
end VL
set_option Elab.async false
set_option linter.all false
set_option maxRecDepth 100000
set_option maxHeartbeats 2000000
namespace VL
open PySem PySem.Spec L2
local macro_rules
  | `(tactic| simp only [VLY]) => `(tactic| simp only [sSeq, sIf, sSet, sSub, sRet, sRetN, sNil, sDrop, sAsg, sPar, sParT, sAug, cP, bB, bTr, bNt, bAn, bOr, po1, po2, poN, pArgs, poIf, poAn, poOr, poNt, poTup, plLst, plN, pl2, pl1, pFz, pV, pC, eP, eo1, eo2, eoN, aP, aNil, aCons, eAn, eOr, eNt, eIf, eFz, eNw, fP, fN, f2, f1, tTupE, tLstF, tTr, tTb, tAn, tOrr, tNt, tYs, eSeal, eMt, poMt, mPure, eCh, pCh, ok_bind, ok_map, ok_some, ok_none, ok_gd, ok_ite, List.getElem?_cons_zero, List.getElem?_cons_succ, List.set_cons_zero, List.set_cons_succ, Option.join_some, Option.bind_some, Option.map_some, Option.bind_none, Option.map_none, ix_ref, ix_tup, ix_lst, ix_bor, ix_scr, add_int, add_str, add_tup, sub_int, mul_int, fdiv_int, mod_int, pow_int, neg_int, lt_int, le_int, gt_int, ge_int, eq_int, eq_str, eq_bl, ne_int, ne_str, ne_bl, is_bl, isnt_bl, is_non, isnt_non, len_tup, len_lst, len_ref, len_bor, len_scr, int_bl, int_int, abs_int, min_int, max_int, blD_bl, cell_lst, cellA_lst, cellA_dk, st_ref, at_0, at_1, at_2, at_3, at_4, ixN_10, ixN_20, ixN_21, ixN_30, ixN_31, ixN_32, dataS_d, datas_nil, datas_cons, truth_bl, notD, intS, blS, nonB, List.length_cons, List.length_nil, Nat.reduceAdd, endsF_rt, endsF_nx, rvQ_d, rvQ_new, rvQ_newK, rv_d, rv_ref, rv_cl, rv_ck, okRef_d, okRef_ref, List.not_mem_nil, List.nil_append, true_and, and_true, List.take_succ_cons, List.take_zero, Nat.zero_add, decide_eq_true_eq, Bool.false_eq_true, if_false, if_true, callS, handS_n, handS_tr, handS_fr, handS_fd, handS_fb, cellsAt_c, cellsAt_0, Option.getD_some, backS_0, backS_1, eCall, tup_lst, tup_tup, tup_ref, fLc, iRg, rng_1, rng_2, wipeS_c, wipeS_n, iPq, iSq, seq_tup, seq_lst, seq_bor, lst_lst, lst_bor, gdS_d, gdS_b, sFor, gNm, gcS_c, gcS_n, gcO_d, gcO_n, mapp, rcv_0, rcv_1, rcv_l, gcO_r0, gcO_r1, gcO_z, seal_d, eq_self, List.take_nil, List.cons_append, poSl, poI, poNo, slD_t, intO_i, list_t, list_l, in_str2, ofS_inj, String.reduceEq, or_false, false_or, or_true, true_or, or_self, decide_true, decide_false, Bool.not_true, Bool.not_false, at_m1_2, at_m1_3, cut_2, cut_3, all_bls, any_bls, count_bls, lcg_nm, lcg_tp, lst_ref, laid_l, laid_b, laid_r, list_b, list_r, len_refI, lenOf_ref, rcv_2, rcv_3, rcv_b, slF_l, slF_b, slF_r, cat_l, repr_d, plSl, backS_2, List.mem_singleton, one_ne, if_false, callS, seal_r, Nat.le_refl, cat_get, cat_set, List.append_assoc, List.length_append, List.append_nil, at_ite, Nat.zero_le, iTq, tupD])
  | `(tactic| simp only [VLY, $xs,*]) => `(tactic| simp only [sSeq, sIf, sSet, sSub, sRet, sRetN, sNil, sDrop, sAsg, sPar, sParT, sAug, cP, bB, bTr, bNt, bAn, bOr, po1, po2, poN, pArgs, poIf, poAn, poOr, poNt, poTup, plLst, plN, pl2, pl1, pFz, pV, pC, eP, eo1, eo2, eoN, aP, aNil, aCons, eAn, eOr, eNt, eIf, eFz, eNw, fP, fN, f2, f1, tTupE, tLstF, tTr, tTb, tAn, tOrr, tNt, tYs, eSeal, eMt, poMt, mPure, eCh, pCh, ok_bind, ok_map, ok_some, ok_none, ok_gd, ok_ite, List.getElem?_cons_zero, List.getElem?_cons_succ, List.set_cons_zero, List.set_cons_succ, Option.join_some, Option.bind_some, Option.map_some, Option.bind_none, Option.map_none, ix_ref, ix_tup, ix_lst, ix_bor, ix_scr, add_int, add_str, add_tup, sub_int, mul_int, fdiv_int, mod_int, pow_int, neg_int, lt_int, le_int, gt_int, ge_int, eq_int, eq_str, eq_bl, ne_int, ne_str, ne_bl, is_bl, isnt_bl, is_non, isnt_non, len_tup, len_lst, len_ref, len_bor, len_scr, int_bl, int_int, abs_int, min_int, max_int, blD_bl, cell_lst, cellA_lst, cellA_dk, st_ref, at_0, at_1, at_2, at_3, at_4, ixN_10, ixN_20, ixN_21, ixN_30, ixN_31, ixN_32, dataS_d, datas_nil, datas_cons, truth_bl, notD, intS, blS, nonB, List.length_cons, List.length_nil, Nat.reduceAdd, endsF_rt, endsF_nx, rvQ_d, rvQ_new, rvQ_newK, rv_d, rv_ref, rv_cl, rv_ck, okRef_d, okRef_ref, List.not_mem_nil, List.nil_append, true_and, and_true, List.take_succ_cons, List.take_zero, Nat.zero_add, decide_eq_true_eq, Bool.false_eq_true, if_false, if_true, callS, handS_n, handS_tr, handS_fr, handS_fd, handS_fb, cellsAt_c, cellsAt_0, Option.getD_some, backS_0, backS_1, eCall, tup_lst, tup_tup, tup_ref, fLc, iRg, rng_1, rng_2, wipeS_c, wipeS_n, iPq, iSq, seq_tup, seq_lst, seq_bor, lst_lst, lst_bor, gdS_d, gdS_b, sFor, gNm, gcS_c, gcS_n, gcO_d, gcO_n, mapp, rcv_0, rcv_1, rcv_l, gcO_r0, gcO_r1, gcO_z, seal_d, eq_self, List.take_nil, List.cons_append, poSl, poI, poNo, slD_t, intO_i, list_t, list_l, in_str2, ofS_inj, String.reduceEq, or_false, false_or, or_true, true_or, or_self, decide_true, decide_false, Bool.not_true, Bool.not_false, at_m1_2, at_m1_3, cut_2, cut_3, all_bls, any_bls, count_bls, lcg_nm, lcg_tp, lst_ref, laid_l, laid_b, laid_r, list_b, list_r, len_refI, lenOf_ref, rcv_2, rcv_3, rcv_b, slF_l, slF_b, slF_r, cat_l, repr_d, plSl, backS_2, List.mem_singleton, one_ne, if_false, callS, seal_r, Nat.le_refl, cat_get, cat_set, List.append_assoc, List.length_append, List.append_nil, at_ite, Nat.zero_le, iTq, tupD, $xs,*])
set_option maxHeartbeats 2000000
set_option maxHeartbeats 2000000
set_option maxHeartbeats 2000000
section
variable {A A2 : Cell} {H B : Kv} {d : List D} {m k : Int} {o : D} {G : Mem}
theorem ob_count5 : isOb "Book" "count" (A :: A2 :: .dk H :: .dk B :: .lst d :: bkX 2 3 4 m o k :: G) (.ref 5) = true := rfl
end
set_option maxHeartbeats 2000000
theorem xtry_all {i : Nat} {ts : TS'} {E : Ends'} {xe : XD} {n : Str} {δ : DS} {M : Mem} (hn : n ∈ exAll) (h : ts (endsS i E) (δ.set i (some (.d (.exc n none)))) M) : xTry i exAll "FormError" ts E xe (.exc n none) δ M := by
  refine ⟨hn, ?_⟩
  rw [if_pos (show exT n "FormError" = true by unfold exT; simp)]
  exact ⟨rfl, h⟩
theorem isx_c {ns : List Str} {M : Mem} {n m : Str} (h1 : n ∈ ns) (h2 : m ∈ ns) : isxD ns M [.d (.exc n none), .d (.cls m)] = some (.d (.bl (exT n m))) := gd_pos ⟨h1, h2⟩
theorem isx_v {ns : List Str} {M : Mem} {n : Str} (h1 : n ∈ ns) : isxD ns M [.d (.exc n none), .d (.ty "ValueError")] = some (.d (.bl true)) := gd_pos ⟨h1, rfl⟩
set_option maxHeartbeats 2000000
variable {h b : Kv} {ds : List D} {m k n : Int} {o a c : D} {sp : SpX} {δ : DS} {R : Rv → Mem → Prop} {xe : XD}
theorem callX_1 : callOX [true, false] sp δ [.dk h, .dk b, .lst ds, bkC m o k] [.ref 3, .d a] R xe = sp [.ref 3, .d a] [.dk h, .dk b, .lst ds, bkC m o k] (fun v Mc => R v (backO [0, 1, 2, 3] Mc [.dk h, .dk b, .lst ds, bkC m o k])) (fun x Mc => xe x δ (backO [0, 1, 2, 3] Mc [.dk h, .dk b, .lst ds, bkC m o k])) := rfl
theorem back_0 : backO [0, 1, 2, 3] [.dk h, .dk b, .lst ds, bkC m o k] [.dk h, .dk b, .lst ds, bkC m o k] = [.dk h, .dk b, .lst ds, bkC m o k] := rfl
set_option maxHeartbeats 2000000
set_option maxHeartbeats 2000000
variable {A A2 : Cell} {O H B O' H' B' : Kv} {d d' : List D} {m k k' : Int} {o x y : D} {G : Mem} {R : Rv → Mem → Prop} {sp : SpD} {tp tp' : List D}
def lawG (tp : List D) (H B C E : Kv) (dl : List Deed) (ps : List Snap) (k m : Int) (o : D) (G : Mem) : Mem := .lst tp :: .gone :: .dk H :: .dk B :: .lst (dl.map deD) :: bkX 2 3 4 m o k :: .dk (ownK C E k ps) :: G
set_option maxHeartbeats 2000000
theorem make_B2 {Q : QD} {ds ord : List D} {m : Int} (q : Q (.ref 5) [.lst ds, .gone, .dk [], .dk [], .lst [], bkX 2 3 4 m (.lst ord) 0]) : makeO "Book" [false, false] sp_binit [.lst ds, .gone] [.d (.int m), .d (.lst ord)] Q := by
  refine ⟨m, .d (.lst ord), ord, rfl, .inl rfl, rfl, ⟨?_, ?_, ?_⟩, q⟩
  · intro j hj
    simp at hj
    rcases hj with rfl | rfl | rfl <;> exact ⟨Nat.zero_le _, by decide⟩
  · rw [sizeLine_eq]; show 6 ≤ 16777216; decide
  · intro cc hcc kd it e
    simp at hcc
    rcases hcc with h | h <;> (rw [h] at e; cases e)
theorem seal_01 {a xs : List D} : sealD 0 [.lst a, .lst xs] (.ref 1) = some (.d (.lst xs), [.lst a, .gone]) := rfl
set_option maxHeartbeats 2000000
set_option maxHeartbeats 2000000
def r_bnthX (sp_Book__fillings_left : SpD) (xe : XD) : TS' :=
  (sSeq (sSet 2 (eMeth "Book" "fillings_left" [true] sp_Book__fillings_left (eP (pV 0)) (aP [])))
  (sSeq (sIf (cP (bB (po2 geD (pV 1) (poN lenD [(pV 2)]))))
  (sRaise "NoFilling" xe)
  sNil)
  (sRet (eP (po2 ixD (pV 2) (pV 1))))))
/-- what a Book is to keep -/
structure BkO (N : Nat) (h b : Kv) : Prop where
  n : N ≤ 12
  lh : h.length ≤ 1000000
  lb : b.length ≤ 1000000
  ih : IK h
  ib : IK b
  vb : ∀ n d, vI b n = some d → SeD N n d
  vh : ∀ n d, vI h n = some d → ClD N d
def sp_bnthX : SpX := fun as M Q X => ∃ (N : Nat) (h b : Kv) (dl : List D) (k i : Int) (o : D), as = [.ref 3, .d (.int i)] ∧ M = [.dk h, .dk b, .lst dl, bkC (N : Int) o k] ∧ BkO N h b ∧ 0 ≤ i ∧
  (∀ (j : Nat) (f : List Bool), i = (j : Int) → (leftS N (vI b) (vI h))[j]? = some f → Q (.d (fD f)) [.dk h, .dk b, .lst dl, bkC (N : Int) o k]) ∧
  (((leftS N (vI b) (vI h)).length : Int) ≤ i → X (.exc "NoFilling" none) [.dk h, .dk b, .lst dl, bkC (N : Int) o k])
theorem pure_bnthX (as : List Sv) (M : Mem) (Q : Rv → Mem → Prop) (X : D → Mem → Prop) (h : sp_bnthX as M Q X) : r_bnthX sp_bfleft (fun x _ M' => X x (M'.take M.length)) (endsF M.length Q) (startD 3 as) M := by
  obtain ⟨N, h, b, dl, k, i, o, rfl, rfl, ⟨hN, hl, hbl, I1, I2, hB, hH⟩, i0, z, zx⟩ := h
  show r_bnthX sp_bfleft (fun x _ M' => X x (M'.take 4)) (endsF 4 Q) [some (.ref 3), some (.d (.int i)), none] [.dk h, .dk b, .lst dl, bkC (N : Int) o k]
  have el : ∀ xs : List D, lenD [.dk h, .dk b, .lst dl, bkC (N : Int) o k, .lst xs] [.ref 4] = some (.d (.int (xs.length : Int))) := fun xs => rfl
  have hml : ((leftS N (vI b) (vI h)).map fD).length = (leftS N (vI b) (vI h)).length := List.length_map ..
  unfold r_bnthX eMeth sRaise
  simp only [VLY, ob_fleft, call_S]
  refine ⟨N, h, b, dl, k, o, rfl, rfl, hN, hl, hbl, I1, I2, hB, hH, ?_⟩
  simp only [VLY, back_S, el, hml]
  by_cases hi : ((leftS N (vI b) (vI h)).length : Int) ≤ i
  · simp only [VLY, hi]
    exact zx hi
  · simp only [VLY, hi]
    obtain ⟨j, rfl⟩ := Int.eq_ofNat_of_zero_le i0
    have hj : j < (leftS N (vI b) (vI h)).length := by omega
    have hx : ((leftS N (vI b) (vI h)).map fD)[j]? = some (fD (leftS N (vI b) (vI h))[j]) := by
      rw [List.getElem?_map, List.getElem?_eq_getElem hj]; rfl
    simp only [VLY, at_nat, hx]
    exact z j _ rfl (List.getElem?_eq_getElem hj)
def r_word54  : TS' :=
  (sSeq (sIf (cP (bB (po2 isD (pV 0) (pC .non))))
  (sRet (eP (pC (.str ""))))
  sNil)
  (sSeq (sSet 1 (eP (pFz (plLst [(poN (isxD exAll) [(pV 0), (pC (.cls "NoClaim"))]), (poN (isxD exAll) [(pV 0), (pC (.cls "Settled"))]), (poN (isxD exAll) [(pV 0), (pC (.cls "NotSettled"))])]))))
  (sSeq (sSet 1 (eP (pFz (pl2 catF (pV 1) (pFz (plLst [(poN (isxD exAll) [(pV 0), (pC (.cls "NoFilling"))]), (poN (isxD exAll) [(pV 0), (pC (.cls "NoWeight"))]), (poN (isxD exAll) [(pV 0), (pC (.cls "TooGreat"))])]))))))
  (sSeq (sSet 1 (eP (pFz (pl2 catF (pV 1) (pFz (plLst [(poN (isxD exAll) [(pV 0), (pC (.cls "BadWord"))]), (poN (isxD exAll) [(pV 0), (pC (.cls "BadText"))]), (poN (isxD exAll) [(pV 0), (pC (.cls "BadRow"))])]))))))
  (sSeq (sIf (cP (bOr (bB (po2 neD (poMt "list" countD (pV 1) [(pC (.bl true))]) (pC (.int 1)))) (bNt (bTr (poN (isxD exAll) [(pV 0), (pC (.ty "ValueError"))])))))
  (sRet (eP (pC (.str "other"))))
  sNil)
  (sSeq (sSet 2 (eP (pFz (plLst [(pC (.str "NoClaim")), (pC (.str "Settled")), (pC (.str "NotSettled")), (pC (.str "NoFilling")), (pC (.str "NoWeight")), (pC (.str "TooGreat")), (pC (.str "BadWord")), (pC (.str "BadText")), (pC (.str "BadRow"))]))))
  (sRet (eP (po2 ixD (pV 2) (poMt "list" indexD (pV 1) [(pC (.bl true))]))))))))))
def sp_word54 : SpD := fun as M Q => as = [.d (.exc "NoFilling" none)] ∧ M = [] ∧ Q (.d (.str "NoFilling")) []
theorem pure_word54 (as : List Sv) (M : Mem) (Q : Rv → Mem → Prop) (h : sp_word54 as M Q) : r_word54 (endsF M.length Q) (startD 3 as) M := by
  obtain ⟨rfl, rfl, z⟩ := h
  show r_word54 (endsF 0 Q) [some (.d (.exc "NoFilling" none)), none, none] []
  have e1 : ∀ M, isxD exAll M [.d (.exc "NoFilling" none), .d (.cls "NoClaim")] = some (.d (.bl false)) := fun M => isx_c (by decide) (by decide)
  have e2 : ∀ M, isxD exAll M [.d (.exc "NoFilling" none), .d (.cls "Settled")] = some (.d (.bl false)) := fun M => isx_c (by decide) (by decide)
  have e3 : ∀ M, isxD exAll M [.d (.exc "NoFilling" none), .d (.cls "NotSettled")] = some (.d (.bl false)) := fun M => isx_c (by decide) (by decide)
  have e4 : ∀ M, isxD exAll M [.d (.exc "NoFilling" none), .d (.cls "NoFilling")] = some (.d (.bl true)) := fun M => isx_c (by decide) (by decide)
  have e5 : ∀ M, isxD exAll M [.d (.exc "NoFilling" none), .d (.cls "NoWeight")] = some (.d (.bl false)) := fun M => isx_c (by decide) (by decide)
  have e6 : ∀ M, isxD exAll M [.d (.exc "NoFilling" none), .d (.cls "TooGreat")] = some (.d (.bl false)) := fun M => isx_c (by decide) (by decide)
  have e7 : ∀ M, isxD exAll M [.d (.exc "NoFilling" none), .d (.cls "BadWord")] = some (.d (.bl false)) := fun M => isx_c (by decide) (by decide)
  have e8 : ∀ M, isxD exAll M [.d (.exc "NoFilling" none), .d (.cls "BadText")] = some (.d (.bl false)) := fun M => isx_c (by decide) (by decide)
  have e9 : ∀ M, isxD exAll M [.d (.exc "NoFilling" none), .d (.cls "BadRow")] = some (.d (.bl false)) := fun M => isx_c (by decide) (by decide)
  have e0 : ∀ M, isxD exAll M [.d (.exc "NoFilling" none), .d (.ty "ValueError")] = some (.d (.bl true)) := fun M => isx_v (by decide)
  have c1 : ∀ M, countD M (.d (.lst [D.bl false, .bl false, .bl false, .bl true, .bl false, .bl false, .bl false, .bl false, .bl false])) [.d (.bl true)] = some (.d (.int 1)) := fun M => rfl
  have c2 : ∀ M, indexD M (.d (.lst [D.bl false, .bl false, .bl false, .bl true, .bl false, .bl false, .bl false, .bl false, .bl false])) [.d (.bl true)] = some (.d (.int 3)) := fun M => rfl
  simp only [r_word54]
  simp only [VLY, e1, e2, e3, e4, e5, e6, e7, e8, e9, e0, c1, c2]
  exact ⟨by rw [sizeLine_eq]; decide, by rw [sizeLine_eq]; decide, z⟩
def r_lnth (sp_Book__nthX : SpX) (sp__law_word : SpD) : TS' :=
  (sSeq (sParT [2, 3] (aP [(pC .non), (pC .non)]))
  (sSeq (sTry 4 exAll "FormError" (fun k xd => (sSet 2 (eMethX "Book" "nth" [true, false] sp_Book__nthX xd (eP (pV 0)) (aP [(pV 1)]))))
  (sSet 3 (eP (pV 4))) xNo)
  (sRet (eIf (cP (bB (po2 isD (pV 3) (pC .non)))) (eP (pV 2)) (eCall [false] sp__law_word (aP [(pV 3)]))))))
def nthF (L : List (List Bool)) (i : Int) : D := if i < (L.length : Int) then ((L[i.toNat]?).map fD).getD .non else .str "NoFilling"
def sp_lnth : SpD := fun as M Q => ∃ (N : Nat) (h b : Kv) (dl : List D) (k i : Int) (o : D), as = [.ref 3, .d (.int i)] ∧ M = [.dk h, .dk b, .lst dl, bkC (N : Int) o k] ∧ BkO N h b ∧ 0 ≤ i ∧
  Q (.d (nthF (leftS N (vI b) (vI h)) i)) [.dk h, .dk b, .lst dl, bkC (N : Int) o k]
theorem ob_nth0 {h b : Kv} {ds : List D} {m k : Int} {o : D} : isOb "Book" "nth" [.dk h, .dk b, .lst ds, bkC m o k] (.ref 3) = true := rfl
theorem pure_lnth (as : List Sv) (M : Mem) (Q : Rv → Mem → Prop) (h : sp_lnth as M Q) : r_lnth sp_bnthX sp_word54 (endsF M.length Q) (startD 5 as) M := by
  obtain ⟨N, h, b, dl, k, i, o, rfl, rfl, B, i0, z⟩ := h
  show r_lnth sp_bnthX sp_word54 (endsF 4 Q) [some (.ref 3), some (.d (.int i)), none, none, none] [.dk h, .dk b, .lst dl, bkC (N : Int) o k]
  unfold r_lnth
  simp only [VLY, setAllS]
  refine ⟨rfl, ?_⟩
  simp only [VLY, eMethX, ob_nth0, callX_1]
  refine ⟨N, h, b, dl, k, i, o, rfl, rfl, B, i0, fun j f e hf => ?_, fun hi => ?_⟩
  · simp only [VLY, back_0]
    unfold nthF at z
    subst e
    have hj := (List.getElem?_eq_some_iff.mp hf).1
    rw [if_pos (by omega), Int.toNat_natCast, hf] at z
    exact z
  · simp only [back_0]
    refine xtry_all (by decide) ?_
    simp only [VLY, endsS]
    refine ⟨rfl, rfl, ?_⟩
    simp only [VLY]
    unfold nthF at z
    rw [if_neg (by omega)] at z
    exact z
set_option maxHeartbeats 2000000
theorem same_i10 {i : Int} {R : Rv → Mem → Prop} (h : R (.d (.bl true)) []) : spB sp_same 10 [.d (.int i), .d (.int i)] [] R := ⟨2, by decide, _, _, .int i, rfl, .inl rfl, .inl rfl, rfl, .int, h⟩
theorem nthF_sm {L : List (List Bool)} {i : Int} (h : ∀ f ∈ L, f.length ≤ 60) : Sm 2 (nthF L i) := by
  unfold nthF
  split
  · cases e : L[i.toNat]? with
    | none => exact .non
    | some f =>
      refine .tup (by rw [List.length_map]; have := h f (List.mem_of_getElem? e); omega) fun d hd => ?_
      obtain ⟨b, _, rfl⟩ := List.mem_map.mp hd
      exact .int
  · exact .str
theorem same_nth {L : List (List Bool)} {i : Int} {R : Rv → Mem → Prop} (hL : ∀ f ∈ L, f.length ≤ 60) (h : R (.d (.bl true)) []) : spB sp_same 10 [.d (nthF L i), .d (nthF L i)] [] R := ⟨2, by decide, _, _, nthF L i, rfl, .inl rfl, .inl rfl, rfl, nthF_sm hL, h⟩
def t_lright54 (sp__law_left : SpD) (sp__law_same : SpD) (sp_Book__count : SpD) (sp__law_take : SpD) (sp__law_nth : SpD) : TS' :=
  (sSeq (sFor (iSq (eFz (f2 catF (eP (pV 5)) (eFz (fLc (iRg true (aP [(pC (.int 3))])) (.nm 8) tYs (eCall [true, false] sp__law_take (aP [(pV 0), (po2 addD (poN lenD [(pV 4)]) (pC (.int 1)))])) [8]))))) (gNm 6)
  (sSeq (sSet 7 (eP (poIf (bB (po2 ltD (pV 6) (poN lenD [(pV 4)]))) (po2 ixD (pV 4) (pV 6)) (pC (.str "NoFilling")))))
  (sIf (tNt (tTr (eCall [false, false] sp__law_same (aCons (eCallO [true, false] sp__law_nth (aP [(pV 2), (pV 6)])) (aP [(pV 7)])))))
  (sRet (eP (pC (.bl false))))
  sNil)))
  (sRet (eCall [false, false] sp__law_same (aCons (eMeth "Book" "count" [true] sp_Book__count (eP (pV 2)) (aP [])) (aP [(poN lenD [(pV 4)])])))))
def r_lright54 (sp__law_left : SpD) (sp__law_same : SpD) (sp_Book__count : SpD) (sp__law_take : SpD) (sp__law_nth : SpD) : TS' :=
  (sSeq (sSet 4 (eSeal 6 (eCall [true, false] sp__law_left (aP [(pV 1), (pV 3)]))))
  (sSeq (sIf (tNt (tTr (eCall [false, false] sp__law_same (aCons (eMeth "Book" "count" [true] sp_Book__count (eP (pV 2)) (aP [])) (aP [(poN lenD [(pV 4)])])))))
  (sRet (eP (pC (.bl false))))
  sNil)
  (sSeq (sSet 5 (eP (pFz (plLst [(pC (.int 0)), (poN lenD [(pV 4)]), (po2 addD (poN lenD [(pV 4)]) (pC (.int 1))), (po2 powD (pC (.int 10)) (pC (.int 20))), (poN maxD [(pC (.int 0)), (po2 subD (poN lenD [(pV 4)]) (pC (.int 1)))])]))))
  (t_lright54 sp__law_left sp__law_same sp_Book__count sp__law_take sp__law_nth))))
def b_lright54 (sp__law_same : SpD) (sp__law_nth : SpD) : TS' :=
  (sSeq (sSet 7 (eP (poIf (bB (po2 ltD (pV 6) (poN lenD [(pV 4)]))) (po2 ixD (pV 4) (pV 6)) (pC (.str "NoFilling")))))
  (sIf (tNt (tTr (eCall [false, false] sp__law_same (aCons (eCallO [true, false] sp__law_nth (aP [(pV 2), (pV 6)])) (aP [(pV 7)])))))
  (sRet (eP (pC (.bl false))))
  sNil))
def sp_lright54 : SpD := fun as M Q => ∃ (N T b : Nat) (H B C E : Kv) (dl : List Deed) (ps : List Snap) (k : Int) (o : D) (tp : List D), as = [.ref 0, .ref 1, .ref 5, .d (.int (N : Int))] ∧ M = [.lst tp, .dk (ownK C E k ps), .dk H, .dk B, .lst (dl.map deD), bkX 2 3 4 (N : Int) o k] ∧
  BkI N T H B dl k C E ps ∧ T ≤ 1000 ∧ N ≤ 8 ∧ Tp b tp ∧ b + 10 < 1099511627776 ∧
  ∀ tp', Tp (b + 3) tp' → Q (.d (.bl true)) [.lst tp', .dk (ownK C E k ps), .dk H, .dk B, .lst (dl.map deD), bkX 2 3 4 (N : Int) o k]
theorem call_left1 {δ : DS} {Q : QD} {N T : Nat} {A c1 c2 c3 c4 : Cell} {C E : Kv} {ps : List Snap} {k : Int} (h3 : (δ[3]?).join = some (.d (.int (N : Int)))) (h1 : (δ[1]?).join = some (.ref 1))
    (hN : N ≤ 12) (hT : T ≤ 1000000) (g : Good N T C E k) (z : Q (.ref 6) [A, .dk (ownK C E k ps), c1, c2, c3, c4, .lst ((leftS N (vI E) (vI C)).map fD)]) :
    eCall [true, false] sp_lleft (aP [pV 1, pV 3]) δ [A, .dk (ownK C E k ps), c1, c2, c3, c4] Q := by
  show aP [pV 1, pV 3] δ _ _
  unfold aP pArgs pArgs pArgs pV
  rw [h1, h3]
  exact ⟨N, T, C, E, k, ps, rfl, rfl, hN, hT, g, z⟩
theorem BkI.bo {N T : Nat} {H B C E : Kv} {dl : List Deed} {ps : List Snap} {k : Int} (I : BkI N T H B dl k C E ps) (hT : T ≤ 1000) (hN : N ≤ 8) : BkO N H B := by
  have lH := I.lH
  have lB := I.lB
  exact ⟨by omega, by omega, by omega, I.iH, I.iB, fun n d h => I.g.vE n d (by rw [← I.b]; exact h), fun n d h => I.g.vC n d (by rw [← I.h]; exact h)⟩
theorem left_len {N : Nat} {e c : Int → Option D} : (leftS N e c).length ≤ 2 ^ N ∧ ∀ f ∈ leftS N e c, f.length = N := by
  unfold leftS
  refine ⟨by rw [← afs_len N]; exact List.length_filter_le _ _, fun f h => afs_mem N f (List.mem_filter.mp h).1⟩
theorem call_N {A : Cell} {O H B : Kv} {d : List D} {m k : Int} {o a : D} {G : Mem} {R : Rv → Mem → Prop} {sp : SpD} : callO [true, false] sp (A :: .dk O :: .dk H :: .dk B :: .lst d :: bkX 2 3 4 m o k :: G) [.ref 5, .d a] R = sp [.ref 3, .d a] [.dk H, .dk B, .lst d, bkC m o k] fun v Mc => R v (backO [2, 3, 4, 5] Mc (A :: .dk O :: .dk H :: .dk B :: .lst d :: bkX 2 3 4 m o k :: G)) := rfl
theorem lright_loop {N : Nat} {H B C E : Kv} {dl : List Deed} {ps : List Snap} {k : Int} {o : D} {tp : List D} {E0 : Ends'} {x5 : D} {x6 x7 x8 : Option Sv} {L : List (List Bool)} {Is : List D} (eL : L = leftS N (vI B) (vI H)) (O : BkO N H B) (hlf : ∀ f ∈ L, f.length ≤ 60)
    (hI : ∀ d ∈ Is, ∃ i : Int, d = .int i ∧ 0 ≤ i) (h6 : gcO 7 x6 = x6) (h7 : gcO 7 x7 = x7) (h8 : gcO 7 x8 = x8)
    (z : ∀ x6 x7, E0.nx [some (.ref 0), some (.ref 1), some (.ref 5), some (.d (.int (N : Int))), some (.d (.lst (L.map fD))), some (.d x5), x6, x7, x8] [.lst tp, .dk (ownK C E k ps), .dk H, .dk B, .lst (dl.map deD), bkX 2 3 4 (N : Int) o k, .gone]) :
    forL 7 (gNm 6) (b_lright54 (spB sp_same 10) sp_lnth) E0 (fun _ => True) Is [some (.ref 0), some (.ref 1), some (.ref 5), some (.d (.int (N : Int))), some (.d (.lst (L.map fD))), some (.d x5), x6, x7, x8]
      [.lst tp, .dk (ownK C E k ps), .dk H, .dk B, .lst (dl.map deD), bkX 2 3 4 (N : Int) o k, .gone] := by
  have hml : (L.map fD).length = L.length := List.length_map ..
  refine for_kp (fun δ M => ∃ x6 x7, gcO 7 x6 = x6 ∧ gcO 7 x7 = x7 ∧ δ = [some (.ref 0), some (.ref 1), some (.ref 5), some (.d (.int (N : Int))), some (.d (.lst (L.map fD))), some (.d x5), x6, x7, x8] ∧ M = [.lst tp, .dk (ownK C E k ps), .dk H, .dk B, .lst (dl.map deD), bkX 2 3 4 (N : Int) o k, .gone]) ?_ ?_ ⟨x6, x7, h6, h7, rfl, rfl⟩
  · rintro δ M ⟨x6, x7, h6, h7, rfl, rfl⟩
    exact ⟨trivial, z _ _⟩
  · rintro d hd δ M nx ⟨x6, x7, h6, h7, rfl, rfl⟩ kk
    obtain ⟨i, rfl, i0⟩ := hI d hd
    refine ⟨trivial, ?_⟩
    have fin : nx [some (.ref 0), some (.ref 1), some (.ref 5), some (.d (.int (N : Int))), some (.d (.lst (L.map fD))), some (.d x5), some (.d (.int i)), some (.d (nthF L i)), x8] [.lst tp, .dk (ownK C E k ps), .dk H, .dk B, .lst (dl.map deD), bkX 2 3 4 (N : Int) o k, .gone] := by
      refine kk _ _ ⟨some (.d (.int i)), some (.d (nthF L i)), rfl, rfl, ?_, rfl⟩
      simp only [gcS_c, gcS_n, gcO_d, gcO_r (show 0 < 7 by decide), gcO_r (show 1 < 7 by decide), gcO_r (show 5 < 7 by decide), h8]
    have hs := fun (R : Rv → Mem → Prop) (h : R (.d (.bl true)) []) => same_nth (i := i) hlf h
    unfold b_lright54 eCallO
    by_cases hi : i < (L.length : Int)
    · obtain ⟨j, rfl⟩ := Int.eq_ofNat_of_zero_le i0
      have hj : j < L.length := by omega
      have hx : (L.map fD)[j]? = some (nthF L (j : Int)) := by
        unfold nthF
        rw [if_pos hi, Int.toNat_natCast, List.getElem?_map, List.getElem?_eq_getElem hj]; rfl
      generalize nthF L (j : Int) = dn at hs fin hx
      simp only [VLY, gNm, hml, hi, at_nat, hx, call_N]
      refine ⟨N, H, B, dl.map deD, k, (j : Int), o, rfl, rfl, O, i0, ?_⟩
      rw [← eL]
      have hd2 : nthF L (j : Int) = dn := by
        have := hx
        unfold nthF
        rw [if_pos hi, Int.toNat_natCast]
        rw [List.getElem?_map] at this
        rw [this]; rfl
      rw [hd2]
      simp only [VLY, back_B5]
      refine hs _ ?_
      simp only [VLY]
      exact fin
    · have hd2 : nthF L i = .str "NoFilling" := by unfold nthF; rw [if_neg hi]
      rw [hd2] at hs fin
      simp only [VLY, gNm, hml, hi, call_N]
      refine ⟨N, H, B, dl.map deD, k, i, o, rfl, rfl, O, i0, ?_⟩
      rw [← eL, hd2]
      simp only [VLY, back_B5]
      refine hs _ ?_
      simp only [VLY]
      exact fin
theorem lright_tail {N T b : Nat} {H B C E : Kv} {dl : List Deed} {ps : List Snap} {k : Int} {o : D} {tp : List D} {Q : Rv → Mem → Prop} {x6 x7 x8 : Option Sv} {L : List (List Bool)} (eL : L = leftS N (vI E) (vI C))
    (I : BkI N T H B dl k C E ps) (hT : T ≤ 1000) (hN : N ≤ 8) (t : Tp b tp) (hb : b + 5 < 1099511627776) (z : ∀ tp', Tp (b + 3) tp' → Q (.d (.bl true)) [.lst tp', .dk (ownK C E k ps), .dk H, .dk B, .lst (dl.map deD), bkX 2 3 4 (N : Int) o k])
    (h7 : gcO 7 x7 = x7) (h6 : gcO 7 x6 = x6) (h8 : gcO 7 x8 = x8) :
    t_lright54 sp_lleft (spB sp_same 10) sp_bcount sp_take sp_lnth (endsF 6 Q) [some (.ref 0), some (.ref 1), some (.ref 5), some (.d (.int (N : Int))), some (.d (.lst (L.map fD))), some (.d (.lst [.int 0, .int (L.length : Int), .int ((L.length : Int) + 1), .int 100000000000000000000, .int (if 0 < (L.length : Int) - 1 then (L.length : Int) - 1 else 0)])), x6, x7, x8]
      [.lst tp, .dk (ownK C E k ps), .dk H, .dk B, .lst (dl.map deD), bkX 2 3 4 (N : Int) o k, .gone] := by
  have hH : vI H = vI C := funext I.h
  have hB : vI B = vI E := funext I.b
  have O := I.bo hT hN
  obtain ⟨ll, lf⟩ := left_len (N := N) (e := vI E) (c := vI C)
  rw [← eL] at ll lf
  have h2 : 2 ^ N ≤ 2 ^ 8 := Nat.pow_le_pow_right (by decide) hN
  have h256 : L.length ≤ 256 := by omega
  have eLH : leftS N (vI B) (vI H) = L := by rw [hH, hB, eL]
  have hml : (L.map fD).length = L.length := List.length_map ..
  have end_ : ∀ (tp' : List D) (x6 x7 : Option Sv), Tp (b + 3) tp' → (sRet (eCall [false, false] (spB sp_same 10) (aCons (eMeth "Book" "count" [true] sp_bcount (eP (pV 2)) (aP [])) (aP [(poN lenD [(pV 4)])])))) (endsF 6 Q)
      [some (.ref 0), some (.ref 1), some (.ref 5), some (.d (.int (N : Int))), some (.d (.lst (L.map fD))), some (.d (.lst [.int 0, .int (L.length : Int), .int ((L.length : Int) + 1), .int 100000000000000000000, .int (if 0 < (L.length : Int) - 1 then (L.length : Int) - 1 else 0)])), x6, x7, x8]
      [.lst tp', .dk (ownK C E k ps), .dk H, .dk B, .lst (dl.map deD), bkX 2 3 4 (N : Int) o k, .gone] := by
    intro tp' x6 x7 t'
    unfold eMeth
    simp only [VLY, ob_count5, call_B5]
    refine ⟨N, H, B, dl.map deD, k, o, rfl, rfl, O.n, O.lh, O.lb, O.ih, O.ib, O.vb, O.vh, ?_⟩
    rw [eLH]
    simp only [VLY, back_B5, hml]
    refine same_i10 ?_
    simp only [VLY]
    exact z tp' t'
  have loop := fun (tp' : List D) (Is : List D) (t' : Tp (b + 3) tp') (hI : ∀ d ∈ Is, ∃ i : Int, d = .int i ∧ 0 ≤ i) => lright_loop (C := C) (E := E) (dl := dl) (ps := ps) (k := k) (o := o) (tp := tp') (E0 := ⟨fun δ' M' => (sRet (eCall [false, false] (spB sp_same 10) (aCons (eMeth "Book" "count" [true] sp_bcount (eP (pV 2)) (aP [])) (aP [(poN lenD [(pV 4)])])))) (endsF 6 Q) δ' M', (endsF 6 Q).rt, (endsF 6 Q).bk, (endsF 6 Q).ct⟩)
    (x5 := .lst [.int 0, .int (L.length : Int), .int ((L.length : Int) + 1), .int 100000000000000000000, .int (if 0 < (L.length : Int) - 1 then (L.length : Int) - 1 else 0)]) eLH.symm O (fun f hf => by rw [lf f hf]; omega) hI h6 h7 h8 fun x6 x7 => end_ tp' x6 x7 t'
  unfold t_lright54
  show sSeq (sFor _ (gNm 6) (b_lright54 (spB sp_same 10) sp_lnth)) (sRet (eCall [false, false] (spB sp_same 10) (aCons (eMeth "Book" "count" [true] sp_bcount (eP (pV 2)) (aP [])) (aP [(poN lenD [(pV 4)])])))) _ _ _
  rw [sSeq_app]
  generalize (sRet (eCall [false, false] (spB sp_same 10) (aCons (eMeth "Book" "count" [true] sp_bcount (eP (pV 2)) (aP [])) (aP [(poN lenD [(pV 4)])])))) = TT at loop ⊢
  generalize b_lright54 (spB sp_same 10) sp_lnth = BB at loop ⊢
  simp only [VLY, hml]
  refine ⟨⟨by decide, by decide⟩, fun _ => by rw [rgL_len, sizeLine_eq]; decide, ?_⟩
  refine lc_inv (fun rest acc M => ∃ tp', M = [.lst tp', .dk (ownK C E k ps), .dk H, .dk B, .lst (dl.map deD), bkX 2 3 4 (N : Int) o k, .gone] ∧ Tp (b + acc.length) tp' ∧ (∀ d ∈ acc, ∃ i : Int, d = .int i ∧ 0 ≤ i) ∧ acc.length + rest.length = 3) ?_ ?_ _ _ _ ⟨tp, rfl, t.mono (by simp), (fun d h => absurd h List.not_mem_nil), by rw [rgL_len]; rfl⟩
  · rintro acc M ⟨tp', rfl, t', hacc, h3⟩
    have h3 : acc.length = 3 := by simpa using h3
    refine ⟨trivial, by rw [sizeLine_eq]; omega, ?_⟩
    refine loop tp' _ (t'.mono (by omega)) fun d hd => ?_
    simp only [List.mem_cons] at hd
    rcases hd with rfl | rfl | rfl | rfl | rfl | hd
    · exact ⟨_, rfl, by decide⟩
    · exact ⟨_, rfl, Int.natCast_nonneg _⟩
    · exact ⟨_, rfl, by omega⟩
    · exact ⟨_, rfl, by decide⟩
    · exact ⟨_, rfl, by split <;> omega⟩
    · exact hacc d hd
  · rintro d rest acc M R ⟨tp', rfl, t', hacc, h3⟩ kk
    simp only [List.length_cons] at h3
    refine ⟨trivial, ?_⟩
    simp only [VLY, hml]
    refine take_ok t' (by omega) (by omega) (by omega) fun v tp2 v0 v1 t2 => ?_
    simp only [VLY]
    exact kk _ _ ⟨tp2, rfl, t2.mono (by simp; omega), fun d hd => by
      rcases List.mem_append.mp hd with h | h
      · exact hacc d h
      · rw [List.mem_singleton.mp h]; exact ⟨v, rfl, v0⟩, by simp; omega⟩
theorem pure_lright54 (as : List Sv) (M : Mem) (Q : Rv → Mem → Prop) (h : sp_lright54 as M Q) : r_lright54 sp_lleft (spB sp_same 10) sp_bcount sp_take sp_lnth (endsF M.length Q) (startD 9 as) M := by
  obtain ⟨N, T, b, H, B, C, E, dl, ps, k, o, tp, rfl, rfl, I, hT, hN, t, hb, z⟩ := h
  show r_lright54 sp_lleft (spB sp_same 10) sp_bcount sp_take sp_lnth (endsF 6 Q) [some (.ref 0), some (.ref 1), some (.ref 5), some (.d (.int (N : Int))), none, none, none, none, none] [.lst tp, .dk (ownK C E k ps), .dk H, .dk B, .lst (dl.map deD), bkX 2 3 4 (N : Int) o k]
  have hH : vI H = vI C := funext I.h
  have hB : vI B = vI E := funext I.b
  have O := I.bo hT hN
  have tail := lright_tail (x6 := none) (x7 := none) (x8 := none) (o := o) (Q := Q) rfl I hT hN t (by omega) z rfl rfl rfl
  have eLH : leftS N (vI B) (vI H) = leftS N (vI E) (vI C) := by rw [hH, hB]
  generalize hL : leftS N (vI E) (vI C) = L at tail eLH
  have hml : (L.map fD).length = L.length := List.length_map ..
  unfold r_lright54
  rw [sSeq_app]
  unfold sSet eSeal
  refine call_left1 (T := T) rfl rfl (by omega) (by omega) I.g ?_
  rw [hL]
  have es : ∀ xs : List D, sealD 6 [.lst tp, .dk (ownK C E k ps), .dk H, .dk B, .lst (dl.map deD), bkX 2 3 4 (N : Int) o k, .lst xs] (.ref 6) = some (.d (.lst xs), [.lst tp, .dk (ownK C E k ps), .dk H, .dk B, .lst (dl.map deD), bkX 2 3 4 (N : Int) o k, .gone]) := fun xs => rfl
  refine ok_of (es _) ?_
  rw [show t_lright54 sp_lleft (spB sp_same 10) sp_bcount sp_take sp_lnth = t_lright54 sp_lleft (spB sp_same 10) sp_bcount sp_take sp_lnth from rfl]
  generalize t_lright54 sp_lleft (spB sp_same 10) sp_bcount sp_take sp_lnth = TT at tail ⊢
  have c20 : CPow 10 20 := by decide
  have e20 : (10 : Int) ^ Int.toNat 20 = 100000000000000000000 := by decide
  unfold eMeth
  simp only [VLY, ob_count5, call_B5]
  refine ⟨N, H, B, dl.map deD, k, o, rfl, rfl, O.n, O.lh, O.lb, O.ih, O.ib, O.vb, O.vh, ?_⟩
  rw [eLH]
  simp only [VLY, back_B5, hml]
  refine same_i10 ?_
  simp only [VLY, hml, e20]
  exact ⟨c20, tail⟩
set_option maxHeartbeats 2000000
def d_k54 (sp__law_tape : SpD) (sp__law_many : SpD) (sp_Book____init__ : SpI) (sp__law_order : SpD) (sp__law_new : SpD) (sp__law_right : SpD) (sp__law_take : SpD) (sp__law_deed : SpD) : TS' :=
  (sFor (iRg false (aCons (eo2 addD (eP (pC (.int 3))) (eCall [true, false] sp__law_take (aP [(pV 2), (pC (.int 14))]))) (aP []))) (gNm 4)
  (sIf (tOrr (tNt (tTr (eCallO [true, false, true, true] sp__law_deed (aP [(pV 2), (pV 3), (pV 6), (pV 5)])))) (tNt (tTr (eCallO [true, true, true, false] sp__law_right (aP [(pV 2), (pV 6), (pV 5), (pV 3)])))))
  (sRet (eP (pC (.bl false))))
  sNil))
def r_k54 (sp__law_tape : SpD) (sp__law_many : SpD) (sp_Book____init__ : SpI) (sp__law_order : SpD) (sp__law_new : SpD) (sp__law_right : SpD) (sp__law_take : SpD) (sp__law_deed : SpD) : TS' :=
  (sSeq (sIf (tNt (tTr (eCallO [true, true, true, false] sp__law_right (aP [(pV 2), (pV 6), (pV 5), (pV 3)]))))
  (sRet (eP (pC (.bl false))))
  sNil)
  (d_k54 sp__law_tape sp__law_many sp_Book____init__ sp__law_order sp__law_new sp__law_right sp__law_take sp__law_deed))
def b_k54 (sp__law_tape : SpD) (sp__law_many : SpD) (sp_Book____init__ : SpI) (sp__law_order : SpD) (sp__law_new : SpD) (sp__law_right : SpD) (sp__law_take : SpD) (sp__law_deed : SpD) : TS' :=
  (sSeq (sPar 5 6 (aCons (eMake "Book" [false, false] sp_Book____init__ (aCons (eP (pV 3)) (aCons (eSeal 0 (eCall [true, false] sp__law_order (aP [(pV 2), (pV 3)]))) (aP [])))) (aCons (eCall [] sp__law_new (aP [])) (aP []))))
  (r_k54 sp__law_tape sp__law_many sp_Book____init__ sp__law_order sp__law_new sp__law_right sp__law_take sp__law_deed))
def r_law54 (sp__law_tape : SpD) (sp__law_many : SpD) (sp_Book____init__ : SpI) (sp__law_order : SpD) (sp__law_new : SpD) (sp__law_right : SpD) (sp__law_take : SpD) (sp__law_deed : SpD) : TS' :=
  (sSeq (sFor (iRg false (aP [(po2 addD (pC (.int 1)) (poN minD [(pC (.int 4)), (poN lenD [(pV 0)])]))])) (gNm 1)
  (sSeq (sSet 2 (eCall [false, false] sp__law_tape (aP [(pV 0), (pV 1)])))
  (sSeq (sSet 3 (eCall [true] sp__law_many (aP [(pV 2)])))
  (b_k54 sp__law_tape sp__law_many sp_Book____init__ sp__law_order sp__law_new sp__law_right sp__law_take sp__law_deed))))
  (sRet (eP (pC (.bl true)))))
theorem call_R {A A2 : Cell} {O H B : Kv} {d : List D} {m k : Int} {o a : D} {G : Mem} {R : Rv → Mem → Prop} {sp : SpD} {tp : List D} : callO [true, true, true, false] sp (.lst tp :: A2 :: .dk H :: .dk B :: .lst d :: bkX 2 3 4 m o k :: .dk O :: G) [.ref 0, .ref 6, .ref 5, .d a] R = sp [.ref 0, .ref 1, .ref 5, .d a] [.lst tp, .dk O, .dk H, .dk B, .lst d, bkX 2 3 4 m o k] fun v Mc => R v (backO [0, 6, 2, 3, 4, 5] Mc (.lst tp :: A2 :: .dk H :: .dk B :: .lst d :: bkX 2 3 4 m o k :: .dk O :: G)) := rfl
def dl54 (ns : List Int) (j : Int) (N : Nat) (x4 : Option Sv) : DS := [some (.d (.scr ns)), some (.d (.int j)), some (.ref 0), some (.d (.int (N : Int))), x4, some (.ref 5), some (.ref 6)]
theorem dl54_gc {ns : List Int} {j : Int} {N : Nat} {x4 : Option Sv} (h4 : gcO 7 x4 = x4) : gcS 7 (dl54 ns j N x4) = dl54 ns j N x4 := by
  unfold dl54
  simp only [gcS_c, gcS_n, gcO_d, gcO_r (show 0 < 7 by decide), gcO_r (show 5 < 7 by decide), gcO_r (show 6 < 7 by decide), h4]
theorem k54_d {N b : Nat} {j : Int} {ns : List Int} {E0 : Ends'} {o : D} {x4 : Option Sv} {tp : List D} {a c e f : SpD} {q : SpI} (h4 : gcO 7 x4 = x4) (hN : N ≤ 8) (t : Tp b tp) (hb : b + 400000 < 1099511627776) (z : ∀ x4 M, E0.nx (dl54 ns j N x4) M) :
    d_k54 a c q e f sp_lright54 sp_take sp_ldeed E0 (dl54 ns j N x4) (lawG tp [] [] [] [] [] [] 0 (N : Int) o []) := by
  have main : ∀ (n b : Nat) (tp : List D), n ≤ 20 → Tp b tp → b + 390000 < 1099511627776 → forL 7 (gNm 4) (sIf (tOrr (tNt (tTr (eCallO [true, false, true, true] sp_ldeed (aP [(pV 2), (pV 3), (pV 6), (pV 5)])))) (tNt (tTr (eCallO [true, true, true, false] sp_lright54 (aP [(pV 2), (pV 6), (pV 5), (pV 3)]))))) (sRet (eP (pC (.bl false)))) sNil)
      E0 (fun _ => True) (rgL 0 n) (dl54 ns j N x4) (lawG tp [] [] [] [] [] [] 0 (N : Int) o []) := by
    intro n b tp hn t hb
    refine for_ix _ (fun i δ M => ∃ x4 H B C E dl ps k tp, gcO 7 x4 = x4 ∧ δ = dl54 ns j N x4 ∧ M = lawG tp H B C E dl ps k (N : Int) o [] ∧ BkI N i H B dl k C E ps ∧ Tp (b + i * 1010) tp) ?_ ?_ _ _ ⟨x4, [], [], [], [], [], [], 0, tp, h4, rfl, rfl, .nil, t.mono (by omega)⟩
    · rintro δ M ⟨x4, H, B, C, E, dl, ps, k, tp, h4, rfl, rfl, I, T⟩
      exact ⟨trivial, z _ _⟩
    · rintro i d δ M nx hd ⟨x4, H, B, C, E, dl, ps, k, tp, h4, rfl, rfl, I, T⟩ kk
      obtain ⟨hi, rfl⟩ := rg_at hd
      have him : i * 1010 ≤ 20 * 1010 := Nat.mul_le_mul_right _ (by omega)
      refine ⟨trivial, ?_⟩
      unfold lawG dl54 eCallO
      simp only [VLY, gNm, call_L4]
      refine ⟨i, b + i * 1010, N, H, B, C, E, dl, ps, k, _, o, tp, rfl, rfl, I, by omega, T, by omega, hN, fun H' B' C' E' dl' ps' k' tp' J T' => ?_⟩
      simp only [VLY, back_L4, call_R]
      refine ⟨N, i + 1, b + i * 1010 + 1001, H', B', C', E', dl', ps', k', o, tp', rfl, rfl, J, by omega, hN, T', by omega, fun tp2 t2 => ?_⟩
      simp only [VLY, back_L4]
      exact kk _ _ ⟨some (.d (.int (0 + (i : Nat)))), H', B', C', E', dl', ps', k', tp2, rfl, dl54_gc (x4 := some (.d (.int (0 + (i : Nat))))) rfl, rfl, J, t2.mono (by rw [Nat.add_mul]; omega)⟩
  unfold d_k54
  unfold lawG dl54 at main ⊢
  simp only [VLY]
  refine take_ok t (by omega) (by decide) (by decide) fun u tp1 u0 u1 t1 => ?_
  simp only [VLY]
  refine ⟨⟨by omega, by omega⟩, fun h => h.elim, ?_⟩
  exact main _ _ tp1 (by omega) t1 (by omega)
theorem k54_r {N b : Nat} {j : Int} {ns : List Int} {E0 : Ends'} {o : D} {x4 : Option Sv} {tp : List D} {a c e f : SpD} {q : SpI} (h4 : gcO 7 x4 = x4) (hN : N ≤ 8) (t : Tp b tp) (hb : b + 500000 < 1099511627776) (z : ∀ x4 M, E0.nx (dl54 ns j N x4) M) :
    r_k54 a c q e f sp_lright54 sp_take sp_ldeed E0 (dl54 ns j N x4) (lawG tp [] [] [] [] [] [] 0 (N : Int) o []) := by
  have fin := fun (tp : List D) (t : Tp (b + 3) tp) => k54_d (o := o) (a := a) (c := c) (e := e) (f := f) (q := q) h4 hN t (by omega) z
  unfold r_k54
  rw [sSeq_app]
  generalize d_k54 a c q e f sp_lright54 sp_take sp_ldeed = TT at fin ⊢
  unfold lawG dl54 at fin ⊢
  unfold eCallO
  simp only [VLY, call_R]
  refine ⟨N, 0, b, [], [], [], [], [], [], 0, o, tp, rfl, rfl, .nil, by decide, hN, t, by omega, fun tp2 t2 => ?_⟩
  simp only [VLY, back_L4]
  exact fin tp2 t2
theorem k54_b {N b : Nat} {j : Int} {ns : List Int} {E0 : Ends'} {x4 x5 x6 : Option Sv} {tp : List D} {a c : SpD} (h4 : gcO 7 x4 = x4) (hN : N ≤ 8) (t : Tp b tp) (hb : b + 600000 < 1099511627776) (z : ∀ x4 M, E0.nx (dl54 ns j N x4) M) :
    b_k54 a c sp_binit sp_orderN sp_lnew sp_lright54 sp_take sp_ldeed E0 [some (.d (.scr ns)), some (.d (.int j)), some (.ref 0), some (.d (.int (N : Int))), x4, x5, x6] [.lst tp] := by
  have fin := fun (o : D) (tp : List D) (b : Nat) (t : Tp b tp) (hb : b + 500000 < 1099511627776) => k54_r (o := o) (a := a) (c := c) (e := sp_orderN) (f := sp_lnew) (q := sp_binit) h4 hN t hb z
  unfold b_k54
  rw [sSeq_app]
  generalize r_k54 a c sp_binit sp_orderN sp_lnew sp_lright54 sp_take sp_ldeed = TT at fin ⊢
  unfold eMake
  simp only [VLY]
  refine ⟨tp, b, N, rfl, rfl, t, by omega, by omega, fun ks ds2 hk t2 => ?_⟩
  simp only [VLY, seal_01]
  refine make_B2 ?_
  refine ⟨rfl, rfl, ?_⟩
  simp only [VLY, setAll]
  exact fin _ ds2 _ t2 (by omega)
theorem pure_law54 (as : List Sv) (M : Mem) (Q : Rv → Mem → Prop) (h : sp_law as M Q) : r_law54 sp_tape sp_many sp_binit sp_orderN sp_lnew sp_lright54 sp_take sp_ldeed (endsF M.length Q) (startD 7 as) M := by
  obtain ⟨ns, rfl, rfl, hns, z⟩ := h
  show r_law54 sp_tape sp_many sp_binit sp_orderN sp_lnew sp_lright54 sp_take sp_ldeed (endsF 0 Q) [some (.d (.scr ns)), none, none, none, none, none, none] []
  unfold r_law54
  simp only [VLY]
  have hJ : 0 ≤ (1 + if (ns.length : Int) < 4 then (ns.length : Int) else 4) ∧ (1 + if (ns.length : Int) < 4 then (ns.length : Int) else 4) ≤ 6 := by split <;> omega
  generalize (1 + if (ns.length : Int) < 4 then (ns.length : Int) else 4) = J at hJ
  refine ⟨⟨by omega, by omega⟩, fun h => h.elim, ?_⟩
  refine for_kp (fun δ M => ∃ o1 o2 o3 o4 o5 o6, δ = [some (.d (.scr ns)), gcO 0 o1, gcO 0 o2, gcO 0 o3, gcO 0 o4, gcO 0 o5, gcO 0 o6] ∧ M = []) ?_ ?_ ⟨none, none, none, none, none, none, rfl, rfl⟩
  · rintro δ M ⟨o1, o2, o3, o4, o5, o6, rfl, rfl⟩
    exact ⟨trivial, z⟩
  · rintro d hd δ M nx ⟨o1, o2, o3, o4, o5, o6, rfl, rfl⟩ k
    obtain ⟨j, hj, rfl⟩ := rg_mem hd
    refine ⟨trivial, ?_⟩
    have up : ∀ o : Option Sv, gcO 7 (gcO 0 o) = gcO 0 o := fun o => gcO_up (Nat.zero_le _)
    have fin : ∀ (N b : Nat) (ds : List D), N ≤ 8 → b ≤ 100 → Tp b ds → b_k54 sp_tape sp_many sp_binit sp_orderN sp_lnew sp_lright54 sp_take sp_ldeed ⟨nx, (endsF 0 Q).rt, fun δ' M' => Q (.d (.bl true)) [], nx⟩
        [some (.d (.scr ns)), some (.d (.int (j : Int))), some (.ref 0), some (.d (.int (N : Int))), gcO 0 o4, gcO 0 o5, gcO 0 o6] [.lst ds] := fun N b ds hN hb t =>
      k54_b (up _) hN t (by omega) fun x4 M => k _ _ ⟨_, _, _, x4, _, _, rfl, rfl⟩
    simp only [gNm, sSeq, sSet, List.set_cons_succ, List.set_cons_zero]
    refine call_tape rfl rfl (by omega) (by omega) fun ds0 t0 => ?_
    generalize b_k54 sp_tape sp_many sp_binit sp_orderN sp_lnew sp_lright54 sp_take sp_ldeed = TT at fin ⊢
    simp only [VLY]
    refine ⟨ds0, 0, rfl, rfl, t0, by decide, fun m ds1 hm t1 => ?_⟩
    simp only [VLY]
    exact fin m _ ds1 hm (by decide) t1
end VL
set_option Elab.async false
set_option linter.all false
set_option maxRecDepth 100000
set_option maxHeartbeats 1000000
open PySem PySem.Spec L2 RT RZ VL
namespace Zk54
def dd_inner_claims : He.DefD := ⟨("inner_claims", none), "inner_claims", "inner_claims", defArgs s_inner_claims, defBody s_inner_claims, defScope s_inner_claims, [], []⟩
def dd_holds : He.DefD := ⟨("holds", none), "holds", "holds", defArgs s_holds, defBody s_holds, defScope s_holds, [], []⟩
def dd_all_fillings : He.DefD := ⟨("all_fillings", none), "all_fillings", "all_fillings", defArgs s_all_fillings, defBody s_all_fillings, defScope s_all_fillings, [], []⟩
def dd_Book____init__ : He.DefD := ⟨("Book", some "__init__"), "__init__", "Book.__init__", defArgs s_Book____init__, defBody s_Book____init__, defScope s_Book____init__, [], []⟩
def dd_Book__come : He.DefD := ⟨("Book", some "come"), "come", "Book.come", defArgs s_Book__come, defBody s_Book__come, defScope s_Book__come, [], []⟩
def dd_Book__go : He.DefD := ⟨("Book", some "go"), "go", "Book.go", defArgs s_Book__go, defBody s_Book__go, defScope s_Book__go, [], []⟩
def dd_Book__settle : He.DefD := ⟨("Book", some "settle"), "settle", "Book.settle", defArgs s_Book__settle, defBody s_Book__settle, defScope s_Book__settle, [], []⟩
def dd_Book__free : He.DefD := ⟨("Book", some "free"), "free", "Book.free", defArgs s_Book__free, defBody s_Book__free, defScope s_Book__free, [], []⟩
def dd_Book__undo : He.DefD := ⟨("Book", some "undo"), "undo", "Book.undo", defArgs s_Book__undo, defBody s_Book__undo, defScope s_Book__undo, [], []⟩
def dd_Book__fillings_of : He.DefD := ⟨("Book", some "fillings_of"), "fillings_of", "Book.fillings_of", defArgs s_Book__fillings_of, defBody s_Book__fillings_of, defScope s_Book__fillings_of, [], []⟩
def dd_Book__fillings_left : He.DefD := ⟨("Book", some "fillings_left"), "fillings_left", "Book.fillings_left", defArgs s_Book__fillings_left, defBody s_Book__fillings_left, defScope s_Book__fillings_left, [], []⟩
def dd_Book__count : He.DefD := ⟨("Book", some "count"), "count", "Book.count", defArgs s_Book__count, defBody s_Book__count, defScope s_Book__count, [], []⟩
def dd_Book__nth : He.DefD := ⟨("Book", some "nth"), "nth", "Book.nth", defArgs s_Book__nth, defBody s_Book__nth, defScope s_Book__nth, [], []⟩
def dd__law_cell_at : He.DefD := ⟨("_law_cell_at", none), "_law_cell_at", "_law_cell_at", defArgs s__law_cell_at, defBody s__law_cell_at, defScope s__law_cell_at, [], []⟩
def dd__law_tape : He.DefD := ⟨("_law_tape", none), "_law_tape", "_law_tape", defArgs s__law_tape, defBody s__law_tape, defScope s__law_tape, [], []⟩
def dd__law_take : He.DefD := ⟨("_law_take", none), "_law_take", "_law_take", defArgs s__law_take, defBody s__law_take, defScope s__law_take, [], []⟩
def dd__law_mixed : He.DefD := ⟨("_law_mixed", none), "_law_mixed", "_law_mixed", defArgs s__law_mixed, defBody s__law_mixed, defScope s__law_mixed, [], []⟩
def dd__law_claim : He.DefD := ⟨("_law_claim", none), "_law_claim", "_law_claim", defArgs s__law_claim, defBody s__law_claim, defScope s__law_claim, [], []⟩
def dd__law_many : He.DefD := ⟨("_law_many", none), "_law_many", "_law_many", defArgs s__law_many, defBody s__law_many, defScope s__law_many, [], []⟩
def dd__law_order : He.DefD := ⟨("_law_order", none), "_law_order", "_law_order", defArgs s__law_order, defBody s__law_order, defScope s__law_order, [], []⟩
def dd__law_same : He.DefD := ⟨("_law_same", none), "_law_same", "_law_same", defArgs s__law_same, defBody s__law_same, defScope s__law_same, [], []⟩
def dd__law_holds : He.DefD := ⟨("_law_holds", none), "_law_holds", "_law_holds", defArgs s__law_holds, defBody s__law_holds, defScope s__law_holds, [], []⟩
def dd__law_all_fillings : He.DefD := ⟨("_law_all_fillings", none), "_law_all_fillings", "_law_all_fillings", defArgs s__law_all_fillings, defBody s__law_all_fillings, defScope s__law_all_fillings, [], []⟩
def dd__law_new : He.DefD := ⟨("_law_new", none), "_law_new", "_law_new", defArgs s__law_new, defBody s__law_new, defScope s__law_new, [], []⟩
def dd__law_undone : He.DefD := ⟨("_law_undone", none), "_law_undone", "_law_undone", defArgs s__law_undone, defBody s__law_undone, defScope s__law_undone, [], []⟩
def dd__law_deed : He.DefD := ⟨("_law_deed", none), "_law_deed", "_law_deed", defArgs s__law_deed, defBody s__law_deed, defScope s__law_deed, [], []⟩
def dd__law_left : He.DefD := ⟨("_law_left", none), "_law_left", "_law_left", defArgs s__law_left, defBody s__law_left, defScope s__law_left, [], []⟩
def dd__law_word : He.DefD := ⟨("_law_word", none), "_law_word", "_law_word", defArgs s__law_word, defBody s__law_word, defScope s__law_word, [], []⟩
def dd__law_nth : He.DefD := ⟨("_law_nth", none), "_law_nth", "_law_nth", defArgs s__law_nth, defBody s__law_nth, defScope s__law_nth, [], []⟩
def dd__law_right : He.DefD := ⟨("_law_right", none), "_law_right", "_law_right", defArgs s__law_right, defBody s__law_right, defScope s__law_right, [], []⟩
def dd_law : He.DefD := ⟨("law", none), "law", "law", defArgs s_law, defBody s_law, defScope s_law, [], []⟩
def fn : List He.DefD := [dd_inner_claims, dd_holds, dd_all_fillings, dd_Book____init__, dd_Book__come, dd_Book__go, dd_Book__settle, dd_Book__free, dd_Book__undo, dd_Book__fillings_of, dd_Book__fillings_left, dd_Book__count, dd_Book__nth, dd__law_cell_at, dd__law_tape, dd__law_take, dd__law_mixed, dd__law_claim, dd__law_many, dd__law_order, dd__law_same, dd__law_holds, dd__law_all_fillings, dd__law_new, dd__law_undone, dd__law_deed, dd__law_left, dd__law_word, dd__law_nth, dd__law_right, dd_law]
def fa : List He.Fa := [.glo "inner_claims", .glo "holds", .glo "all_fillings", .mkr "Book", .meth "Book" "come", .meth "Book" "go", .meth "Book" "settle", .meth "Book" "free", .meth "Book" "undo", .meth "Book" "fillings_of", .meth "Book" "fillings_left", .meth "Book" "count", .meth "Book" "nth", .glo "_law_cell_at", .glo "_law_tape", .glo "_law_take", .glo "_law_mixed", .glo "_law_claim", .glo "_law_many", .glo "_law_order", .glo "_law_same", .glo "_law_holds", .glo "_law_all_fillings", .glo "_law_new", .glo "_law_undone", .glo "_law_deed", .glo "_law_left", .glo "_law_word", .glo "_law_nth", .glo "_law_right", .glo "law", .free "list", .free "all", .free "any", .free "range", .free "len", .free "abs", .free "int", .free "max", .free "tuple", .free "isinstance", .free "zip", .free "str", .free "bool", .free "dict", .free "sorted", .free "ValueError", .free "min", .glo "NoClaim", .glo "Settled", .glo "NotSettled", .glo "NoFilling", .glo "NoWeight", .glo "TooGreat", .glo "BadWord", .glo "BadText", .glo "BadRow", .glo "FormError", .exc "NoFilling", .cls "Book", .glo "Book", .noat "Book" "many", .noat "Book" "order", .noat "Book" "held", .noat "Book" "bits", .noat "Book" "came", .noat "Book" "deeds"]
def cs : List (Str × D) := [("PLAIN", c_PLAIN)]
theorem ok_law {P : Program} {w : World} {K : PySem.W.Frag} {mg : Str → Option Value} {h base : Heap} (X : K.In h) (G : h.Ns mainGlobals mg) (cX : SaysX fa fn cs exAll K) {fd : FuncData} (F : FunD K "law" "law" (defArgs s_law) (defBody s_law) (defScope s_law) [] [] (He.fAd K ("law", none)) fd) :
    FnG P w K mg base C8.CX0 46 (He.fAd K ("law", none)) fd ["_law_script"] (lP K 1 sp_law) := by
  have c := cX.v
  have m_list := He.free_ok X G (c.d.fact 31 (f := .free "list") rfl)
  have m_all := He.free_ok X G (c.d.fact 32 (f := .free "all") rfl)
  have m_any := He.free_ok X G (c.d.fact 33 (f := .free "any") rfl)
  have m_range := He.free_ok X G (c.d.fact 34 (f := .free "range") rfl)
  have m_len := He.free_ok X G (c.d.fact 35 (f := .free "len") rfl)
  have m_abs := He.free_ok X G (c.d.fact 36 (f := .free "abs") rfl)
  have m_int := He.free_ok X G (c.d.fact 37 (f := .free "int") rfl)
  have m_max := He.free_ok X G (c.d.fact 38 (f := .free "max") rfl)
  have m_tuple := He.free_ok X G (c.d.fact 39 (f := .free "tuple") rfl)
  have m_isinstance := He.free_ok X G (c.d.fact 40 (f := .free "isinstance") rfl)
  have m_zip := He.free_ok X G (c.d.fact 41 (f := .free "zip") rfl)
  have m_str := He.free_ok X G (c.d.fact 42 (f := .free "str") rfl)
  have m_bool := He.free_ok X G (c.d.fact 43 (f := .free "bool") rfl)
  have m_dict := He.free_ok X G (c.d.fact 44 (f := .free "dict") rfl)
  have m_sorted := He.free_ok X G (c.d.fact 45 (f := .free "sorted") rfl)
  have m_ValueError := He.free_ok X G (c.d.fact 46 (f := .free "ValueError") rfl)
  have m_min := He.free_ok X G (c.d.fact 47 (f := .free "min") rfl)
  have gx_NoClaim := He.glo_ok X G (c.d.fact 48 (f := .glo "NoClaim") rfl)
  have gx_Settled := He.glo_ok X G (c.d.fact 49 (f := .glo "Settled") rfl)
  have gx_NotSettled := He.glo_ok X G (c.d.fact 50 (f := .glo "NotSettled") rfl)
  have gx_NoFilling := He.glo_ok X G (c.d.fact 51 (f := .glo "NoFilling") rfl)
  have gx_NoWeight := He.glo_ok X G (c.d.fact 52 (f := .glo "NoWeight") rfl)
  have gx_TooGreat := He.glo_ok X G (c.d.fact 53 (f := .glo "TooGreat") rfl)
  have gx_BadWord := He.glo_ok X G (c.d.fact 54 (f := .glo "BadWord") rfl)
  have gx_BadText := He.glo_ok X G (c.d.fact 55 (f := .glo "BadText") rfl)
  have gx_BadRow := He.glo_ok X G (c.d.fact 56 (f := .glo "BadRow") rfl)
  have gx_FormError := He.glo_ok X G (c.d.fact 57 (f := .glo "FormError") rfl)
  have ex_NoFilling := c.d.fact 58 (f := .exc "NoFilling") rfl
  have hcl_Book := He.cls_ok (c.d.fact 59 (f := .cls "Book") rfl)
  have hgl_Book := He.glo_ok X G (c.d.fact 60 (f := .glo "Book") rfl)
  have hna_Book_many := He.noat_ok (c.d.fact 61 (f := .noat "Book" "many") rfl)
  have hna_Book_order := He.noat_ok (c.d.fact 62 (f := .noat "Book" "order") rfl)
  have hna_Book_held := He.noat_ok (c.d.fact 63 (f := .noat "Book" "held") rfl)
  have hna_Book_bits := He.noat_ok (c.d.fact 64 (f := .noat "Book" "bits") rfl)
  have hna_Book_came := He.noat_ok (c.d.fact 65 (f := .noat "Book" "came") rfl)
  have hna_Book_deeds := He.noat_ok (c.d.fact 66 (f := .noat "Book" "deeds") rfl)
  have hC : ObC K clsT := by
    intro p hp
    simp only [clsT, List.mem_cons, List.not_mem_nil, or_false] at hp
    rcases hp with rfl
    · refine ⟨hcl_Book, fun z hz => ?_⟩
      simp only [List.mem_cons, List.not_mem_nil, or_false] at hz
      rcases hz with rfl | rfl | rfl | rfl | rfl | rfl <;> assumption
  have hXF := cX.x
  obtain ⟨u_PLAIN, hm_PLAIN, kv_PLAIN⟩ := c.con X G 0 (x := "PLAIN") (d := c_PLAIN) rfl
  obtain ⟨fd_inner_claims, F_inner_claims⟩ := c.d.def_ 0 (d := dd_inner_claims) rfl
  have g_inner_claims : mg "inner_claims" = some (.ref (He.fAd K ("inner_claims", none))) := He.glo_ok X G (c.d.fact 0 (f := .glo "inner_claims") rfl)
  have b_inner_claims : Binds K fd_inner_claims ["claim"] [] := FunD.bindsN F_inner_claims fun _ _ _ _ _ _ us hl => match us, hl with | [_], _ => rfl
  have ca_inner : Ca P w K mg base 1 "inner_claims" 1 sp_inner := ca_of (k := 0) F_inner_claims g_inner_claims b_inner_claims sc_inner_claims (m0 := 0) (by rintro as M Q ⟨_, _,  rfl, _⟩; rfl) (d_inner_claims m_list hm_PLAIN kv_PLAIN) (fun as M Q _ h => pure_inner as M Q h)
  obtain ⟨fd_holds, F_holds⟩ := c.d.def_ 1 (d := dd_holds) rfl
  have g_holds : mg "holds" = some (.ref (He.fAd K ("holds", none))) := He.glo_ok X G (c.d.fact 1 (f := .glo "holds") rfl)
  have b_holds : Binds K fd_holds ["claim", "filling"] [] := FunD.bindsN F_holds fun _ _ _ _ _ _ us hl => match us, hl with | [_, _], _ => rfl
  have ca_holds : ∀ d, Ca P w K mg base (1 + d) "holds" 2 (spB sp_holds d) := fun d => by
    induction d with
    | zero => exact ca_bot F_holds g_holds b_holds 2
    | succ d ih => exact ca_of (k := 1 + d) F_holds g_holds b_holds sc_holds (m0 := 0) (by rintro as M Q ⟨_, _, _, _, _, rfl, _⟩; rfl) (d_holds m_all m_any hm_PLAIN kv_PLAIN ca_inner (by omega) ih (by omega)) (fun as M Q _ h => pure_holds as M Q h)
  obtain ⟨fd_all_fillings, F_all_fillings⟩ := c.d.def_ 2 (d := dd_all_fillings) rfl
  have g_all_fillings : mg "all_fillings" = some (.ref (He.fAd K ("all_fillings", none))) := He.glo_ok X G (c.d.fact 2 (f := .glo "all_fillings") rfl)
  have b_all_fillings : Binds K fd_all_fillings ["many"] [] := FunD.bindsN F_all_fillings fun _ _ _ _ _ _ us hl => match us, hl with | [_], _ => rfl
  have ca_afs : Ca P w K mg base 1 "all_fillings" 1 sp_afs := ca_of (k := 0) F_all_fillings g_all_fillings b_all_fillings sc_all_fillings (m0 := 0) (by rintro as M Q ⟨_, _,  rfl, _⟩; rfl) (d_all_fillings m_range) (fun as M Q _ h => pure_afs as M Q h)
  obtain ⟨fd_Book____init__, F_Book____init__⟩ := c.d.def_ 3 (d := dd_Book____init__) rfl
  have h_Book____init__ := He.mkr_ok (c.d.fact 3 (f := .mkr "Book") rfl)
  have b_Book____init__ : Binds K fd_Book____init__ ["self", "many", "order"] [] := FunD.bindsN F_Book____init__ fun _ _ _ _ _ _ us hl => match us, hl with | [_, _, _], _ => rfl
  have ci_book : CaI P w K mg base 1 "Book" 2 sp_binit := ci_of (k := 0) F_Book____init__ hgl_Book h_Book____init__ b_Book____init__ sc_Book____init__ rfl (by decide) (m0 := 0) (by rintro as M Q ⟨_, _, _, _, _,  rfl, _⟩; rfl) (d_Book____init__ m_list hcl_Book hna_Book_many hna_Book_order hna_Book_held hna_Book_bits hna_Book_came hna_Book_deeds) (fun as M Q _ h => pure_binit as M Q h)
  obtain ⟨fd_Book__come, F_Book__come⟩ := c.d.def_ 4 (d := dd_Book__come) rfl
  have h_Book__come := He.meth_ok (c.d.fact 4 (f := .meth "Book" "come") rfl)
  have b_Book__come : Binds K fd_Book__come ["self", "claim"] [] := FunD.bindsN F_Book__come fun _ _ _ _ _ _ us hl => match us, hl with | [_, _], _ => rfl
  have cm_come : CaM P w K mg base 1 "Book" "come" 2 sp_bcome := cm_of (k := 0) F_Book__come hcl_Book h_Book__come b_Book__come sc_Book__come (m0 := 4) (by rintro as M Q ⟨_, _, _, _, _, _, _, _,  rfl, _⟩; rfl) (d_Book__come hC) (fun as M Q _ h => pure_bcome as M Q h)
  obtain ⟨fd_Book__go, F_Book__go⟩ := c.d.def_ 5 (d := dd_Book__go) rfl
  have h_Book__go := He.meth_ok (c.d.fact 5 (f := .meth "Book" "go") rfl)
  have b_Book__go : Binds K fd_Book__go ["self", "number"] [] := FunD.bindsN F_Book__go fun _ _ _ _ _ _ us hl => match us, hl with | [_, _], _ => rfl
  have cm_go : CaM P w K mg base 1 "Book" "go" 2 sp_bgo := cm_of (k := 0) F_Book__go hcl_Book h_Book__go b_Book__go sc_Book__go (m0 := 4) (by rintro as M Q ⟨_, _, _, _, _, _, _, _, _,  rfl, _⟩; rfl) (d_Book__go hC) (fun as M Q _ h => pure_bgo as M Q h)
  obtain ⟨fd_Book__settle, F_Book__settle⟩ := c.d.def_ 6 (d := dd_Book__settle) rfl
  have h_Book__settle := He.meth_ok (c.d.fact 6 (f := .meth "Book" "settle") rfl)
  have b_Book__settle : Binds K fd_Book__settle ["self", "name", "bit"] [] := FunD.bindsN F_Book__settle fun _ _ _ _ _ _ us hl => match us, hl with | [_, _, _], _ => rfl
  have cm_settle : CaM P w K mg base 1 "Book" "settle" 3 sp_bsettle := cm_of (k := 0) F_Book__settle hcl_Book h_Book__settle b_Book__settle sc_Book__settle (m0 := 4) (by rintro as M Q ⟨_, _, _, _, _, _, _, _, _,  rfl, _⟩; rfl) (d_Book__settle hC) (fun as M Q _ h => pure_bsettle as M Q h)
  obtain ⟨fd_Book__free, F_Book__free⟩ := c.d.def_ 7 (d := dd_Book__free) rfl
  have h_Book__free := He.meth_ok (c.d.fact 7 (f := .meth "Book" "free") rfl)
  have b_Book__free : Binds K fd_Book__free ["self", "name"] [] := FunD.bindsN F_Book__free fun _ _ _ _ _ _ us hl => match us, hl with | [_, _], _ => rfl
  have cm_free : CaM P w K mg base 1 "Book" "free" 2 sp_bfree := cm_of (k := 0) F_Book__free hcl_Book h_Book__free b_Book__free sc_Book__free (m0 := 4) (by rintro as M Q ⟨_, _, _, _, _, _, _, _, _,  rfl, _⟩; rfl) (d_Book__free hC) (fun as M Q _ h => pure_bfree as M Q h)
  obtain ⟨fd_Book__undo, F_Book__undo⟩ := c.d.def_ 8 (d := dd_Book__undo) rfl
  have h_Book__undo := He.meth_ok (c.d.fact 8 (f := .meth "Book" "undo") rfl)
  have b_Book__undo : Binds K fd_Book__undo ["self"] [] := FunD.bindsN F_Book__undo fun _ _ _ _ _ _ us hl => match us, hl with | [_], _ => rfl
  have cm_undo : CaM P w K mg base 1 "Book" "undo" 1 sp_bundo := cm_of (k := 0) F_Book__undo hcl_Book h_Book__undo b_Book__undo sc_Book__undo (m0 := 4) (by rintro as M Q ⟨_, _, _, _, _, _, _,  rfl, _⟩; rfl) (d_Book__undo m_len hC) (fun as M Q _ h => pure_bundo as M Q h)
  obtain ⟨fd_Book__fillings_of, F_Book__fillings_of⟩ := c.d.def_ 9 (d := dd_Book__fillings_of) rfl
  have h_Book__fillings_of := He.meth_ok (c.d.fact 9 (f := .meth "Book" "fillings_of") rfl)
  have b_Book__fillings_of : Binds K fd_Book__fillings_of ["self", "numbers"] [] := FunD.bindsN F_Book__fillings_of fun _ _ _ _ _ _ us hl => match us, hl with | [_, _], _ => rfl
  have cm_fof : CaM P w K mg base 13 "Book" "fillings_of" 2 sp_bfof := cm_of (k := 12) F_Book__fillings_of hcl_Book h_Book__fillings_of b_Book__fillings_of sc_Book__fillings_of (m0 := 4) (by rintro as M Q ⟨_, _, _, _, _, _, _, _, _, _,  rfl, _⟩; rfl) (d_Book__fillings_of m_all hC ca_afs (by omega) (ca_holds 6) (by omega)) (fun as M Q _ h => pure_bfof as M Q h)
  obtain ⟨fd_Book__fillings_left, F_Book__fillings_left⟩ := c.d.def_ 10 (d := dd_Book__fillings_left) rfl
  have h_Book__fillings_left := He.meth_ok (c.d.fact 10 (f := .meth "Book" "fillings_left") rfl)
  have b_Book__fillings_left : Binds K fd_Book__fillings_left ["self"] [] := FunD.bindsN F_Book__fillings_left fun _ _ _ _ _ _ us hl => match us, hl with | [_], _ => rfl
  have cm_fleft : CaM P w K mg base 14 "Book" "fillings_left" 1 sp_bfleft := cm_of (k := 13) F_Book__fillings_left hcl_Book h_Book__fillings_left b_Book__fillings_left sc_Book__fillings_left (m0 := 4) (by rintro as M Q ⟨_, _, _, _, _, _, _,  rfl, _⟩; rfl) (d_Book__fillings_left m_list hC cm_fof (by omega)) (fun as M Q _ h => pure_bfleft as M Q h)
  obtain ⟨fd_Book__count, F_Book__count⟩ := c.d.def_ 11 (d := dd_Book__count) rfl
  have h_Book__count := He.meth_ok (c.d.fact 11 (f := .meth "Book" "count") rfl)
  have b_Book__count : Binds K fd_Book__count ["self"] [] := FunD.bindsN F_Book__count fun _ _ _ _ _ _ us hl => match us, hl with | [_], _ => rfl
  have cm_count : CaM P w K mg base 15 "Book" "count" 1 sp_bcount := cm_of (k := 14) F_Book__count hcl_Book h_Book__count b_Book__count sc_Book__count (m0 := 4) (by rintro as M Q ⟨_, _, _, _, _, _, _,  rfl, _⟩; rfl) (d_Book__count m_len cm_fleft (by omega)) (fun as M Q _ h => pure_bcount as M Q h)
  obtain ⟨fd_Book__nth, F_Book__nth⟩ := c.d.def_ 12 (d := dd_Book__nth) rfl
  have h_Book__nth := He.meth_ok (c.d.fact 12 (f := .meth "Book" "nth") rfl)
  have b_Book__nth : Binds K fd_Book__nth ["self", "number"] [] := FunD.bindsN F_Book__nth fun _ _ _ _ _ _ us hl => match us, hl with | [_, _], _ => rfl
  have cmx_nth : CaMX P w K mg base 15 "Book" "nth" 2 sp_bnthX := cm_ofX (k := 14) F_Book__nth hcl_Book h_Book__nth b_Book__nth sc_Book__nthX (m0 := 4) (fun as M Q X h => by obtain ⟨_, _, _, _, _, _, _, _,  rfl, _⟩ := h; rfl) (d_Book__nthX m_len gx_NoFilling ex_NoFilling cm_fleft (by omega)) (fun as M Q X _ h => pure_bnthX as M Q X h)
  obtain ⟨fd__law_cell_at, F__law_cell_at⟩ := c.d.def_ 13 (d := dd__law_cell_at) rfl
  have g__law_cell_at : mg "_law_cell_at" = some (.ref (He.fAd K ("_law_cell_at", none))) := He.glo_ok X G (c.d.fact 13 (f := .glo "_law_cell_at") rfl)
  have b__law_cell_at : Binds K fd__law_cell_at ["_law_script", "_law_k"] [] := FunD.bindsN F__law_cell_at fun _ _ _ _ _ _ us hl => match us, hl with | [_, _], _ => rfl
  have ca_cell : Ca P w K mg base 1 "_law_cell_at" 2 sp_cell := ca_of (k := 0) F__law_cell_at g__law_cell_at b__law_cell_at sc__law_cell_at (m0 := 0) (by rintro as M Q ⟨_, _, _,  rfl, _⟩; rfl) (d__law_cell_at m_len) (fun as M Q _ h => pure_cell as M Q h)
  obtain ⟨fd__law_tape, F__law_tape⟩ := c.d.def_ 14 (d := dd__law_tape) rfl
  have g__law_tape : mg "_law_tape" = some (.ref (He.fAd K ("_law_tape", none))) := He.glo_ok X G (c.d.fact 14 (f := .glo "_law_tape") rfl)
  have b__law_tape : Binds K fd__law_tape ["_law_script", "_law_k"] [] := FunD.bindsN F__law_tape fun _ _ _ _ _ _ us hl => match us, hl with | [_, _], _ => rfl
  have ca_tape : Ca P w K mg base 2 "_law_tape" 2 sp_tape := ca_of (k := 1) F__law_tape g__law_tape b__law_tape sc__law_tape (m0 := 0) (by rintro as M Q ⟨_, _, _,  rfl, _⟩; rfl) (d__law_tape m_abs m_int ca_cell (by omega)) (fun as M Q _ h => pure_tape as M Q h)
  obtain ⟨fd__law_take, F__law_take⟩ := c.d.def_ 15 (d := dd__law_take) rfl
  have g__law_take : mg "_law_take" = some (.ref (He.fAd K ("_law_take", none))) := He.glo_ok X G (c.d.fact 15 (f := .glo "_law_take") rfl)
  have b__law_take : Binds K fd__law_take ["_law_tape_here", "_law_many_here"] [] := FunD.bindsN F__law_take fun _ _ _ _ _ _ us hl => match us, hl with | [_, _], _ => rfl
  have bot__law_take : Ca P w K mg base 0 "_law_take" 2 (spB (fun _ => fun _ _ _ => False) 0) := ca_bot F__law_take g__law_take b__law_take 2
  have ca_take : Ca P w K mg base 1 "_law_take" 2 sp_take := ca_of (k := 0) F__law_take g__law_take b__law_take sc__law_take (m0 := 1) (by rintro as M Q ⟨_, _, _, _,  rfl, _⟩; rfl) (d__law_take bot__law_take (by omega)) (fun as M Q _ h => pure_take as M Q h)
  obtain ⟨fd__law_mixed, F__law_mixed⟩ := c.d.def_ 16 (d := dd__law_mixed) rfl
  have g__law_mixed : mg "_law_mixed" = some (.ref (He.fAd K ("_law_mixed", none))) := He.glo_ok X G (c.d.fact 16 (f := .glo "_law_mixed") rfl)
  have b__law_mixed : Binds K fd__law_mixed ["_law_tape_here", "_law_some"] [] := FunD.bindsN F__law_mixed fun _ _ _ _ _ _ us hl => match us, hl with | [_, _], _ => rfl
  have ca_mixed : Ca P w K mg base 2 "_law_mixed" 2 sp_mixed := ca_of (k := 1) F__law_mixed g__law_mixed b__law_mixed sc__law_mixed (m0 := 1) (by rintro as M Q ⟨_, _, _, _, _, _,  rfl, _⟩; rfl) (d__law_mixed m_list m_len ca_take (by omega)) (fun as M Q _ h => pure_mixed as M Q h)
  obtain ⟨fd__law_claim, F__law_claim⟩ := c.d.def_ 17 (d := dd__law_claim) rfl
  have g__law_claim : mg "_law_claim" = some (.ref (He.fAd K ("_law_claim", none))) := He.glo_ok X G (c.d.fact 17 (f := .glo "_law_claim") rfl)
  have b__law_claim : Binds K fd__law_claim ["_law_tape_here", "_law_many_here", "_law_deep"] [] := FunD.bindsN F__law_claim fun _ _ _ _ _ _ us hl => match us, hl with | [_, _, _], _ => rfl
  have ca_claims : ∀ d, Ca P w K mg base (1 + d) "_law_claim" 3 (spB sp_claim d) := fun d => by
    induction d with
    | zero => exact ca_bot F__law_claim g__law_claim b__law_claim 3
    | succ d ih => exact ca_of (k := 1 + d) F__law_claim g__law_claim b__law_claim sc__law_claim (m0 := 1) (by rintro as M Q ⟨_, _, _, _, _, _, rfl, _⟩; rfl) (d__law_claim m_max m_range m_tuple m_len ca_take (by omega) ih (by omega)) (fun as M Q _ h => pure_claim as M Q h)
  have ca_claim : Ca P w K mg base 5 "_law_claim" 3 (sp_claim 3) := (ca_claims 4).imp fun as M Q h => ⟨3, by decide, h⟩
  obtain ⟨fd__law_many, F__law_many⟩ := c.d.def_ 18 (d := dd__law_many) rfl
  have g__law_many : mg "_law_many" = some (.ref (He.fAd K ("_law_many", none))) := He.glo_ok X G (c.d.fact 18 (f := .glo "_law_many") rfl)
  have b__law_many : Binds K fd__law_many ["_law_tape_here"] [] := FunD.bindsN F__law_many fun _ _ _ _ _ _ us hl => match us, hl with | [_], _ => rfl
  have ca_many : Ca P w K mg base 2 "_law_many" 1 sp_many := ca_of (k := 1) F__law_many g__law_many b__law_many sc__law_many (m0 := 1) (by rintro as M Q ⟨_, _, _,  rfl, _⟩; rfl) (d__law_many ca_take (by omega)) (fun as M Q _ h => pure_many as M Q h)
  obtain ⟨fd__law_order, F__law_order⟩ := c.d.def_ 19 (d := dd__law_order) rfl
  have g__law_order : mg "_law_order" = some (.ref (He.fAd K ("_law_order", none))) := He.glo_ok X G (c.d.fact 19 (f := .glo "_law_order") rfl)
  have b__law_order : Binds K fd__law_order ["_law_tape_here", "_law_many_here"] [] := FunD.bindsN F__law_order fun _ _ _ _ _ _ us hl => match us, hl with | [_, _], _ => rfl
  have ca_order : Ca P w K mg base 3 "_law_order" 2 sp_orderN := ca_of (k := 2) F__law_order g__law_order b__law_order sc__law_order (m0 := 1) (by rintro as M Q ⟨_, _, _, _,  rfl, _⟩; rfl) (d__law_order m_list m_range ca_mixed (by omega) ca_take (by omega)) (fun as M Q _ h => pure_orderN as M Q h)
  obtain ⟨fd__law_same, F__law_same⟩ := c.d.def_ 20 (d := dd__law_same) rfl
  have g__law_same : mg "_law_same" = some (.ref (He.fAd K ("_law_same", none))) := He.glo_ok X G (c.d.fact 20 (f := .glo "_law_same") rfl)
  have b__law_same : Binds K fd__law_same ["_law_found", "_law_due"] [] := FunD.bindsN F__law_same fun _ _ _ _ _ _ us hl => match us, hl with | [_, _], _ => rfl
  have ca_same : ∀ d, Ca P w K mg base (0 + d) "_law_same" 2 (spB sp_same d) := fun d => by
    induction d with
    | zero => exact ca_bot F__law_same g__law_same b__law_same 2
    | succ d ih => exact ca_of (k := 0 + d) F__law_same g__law_same b__law_same sc__law_same (m0 := 0) (by rintro as M Q ⟨_, _, _, _, _, _, _, _, rfl, _⟩; rfl) (d__law_same m_list m_tuple m_isinstance m_len m_zip m_all m_str m_bool m_int ih (by omega)) (fun as M Q _ h => pure_same as M Q h)
  obtain ⟨fd__law_holds, F__law_holds⟩ := c.d.def_ 21 (d := dd__law_holds) rfl
  have g__law_holds : mg "_law_holds" = some (.ref (He.fAd K ("_law_holds", none))) := He.glo_ok X G (c.d.fact 21 (f := .glo "_law_holds") rfl)
  have b__law_holds : Binds K fd__law_holds ["_law_claim_here", "_law_filling"] [] := FunD.bindsN F__law_holds fun _ _ _ _ _ _ us hl => match us, hl with | [_, _], _ => rfl
  have ca_lholds : ∀ d, Ca P w K mg base (1 + d) "_law_holds" 2 (spB sp_holds d) := fun d => by
    induction d with
    | zero => exact ca_bot F__law_holds g__law_holds b__law_holds 2
    | succ d ih => exact ca_of (k := 1 + d) F__law_holds g__law_holds b__law_holds sc__law_holds (m0 := 0) (by rintro as M Q ⟨_, _, _, _, _, rfl, _⟩; rfl) (d__law_holds m_all m_any ih (by omega)) (fun as M Q _ h => pure_lholds as M Q h)
  obtain ⟨fd__law_all_fillings, F__law_all_fillings⟩ := c.d.def_ 22 (d := dd__law_all_fillings) rfl
  have g__law_all_fillings : mg "_law_all_fillings" = some (.ref (He.fAd K ("_law_all_fillings", none))) := He.glo_ok X G (c.d.fact 22 (f := .glo "_law_all_fillings") rfl)
  have b__law_all_fillings : Binds K fd__law_all_fillings ["_law_many_here"] [] := FunD.bindsN F__law_all_fillings fun _ _ _ _ _ _ us hl => match us, hl with | [_], _ => rfl
  have ca_lafs : Ca P w K mg base 1 "_law_all_fillings" 1 sp_afs := ca_of (k := 0) F__law_all_fillings g__law_all_fillings b__law_all_fillings sc__law_all_fillings (m0 := 0) (by rintro as M Q ⟨_, _,  rfl, _⟩; rfl) (d__law_all_fillings m_range) (fun as M Q _ h => pure_afs as M Q h)
  obtain ⟨fd__law_new, F__law_new⟩ := c.d.def_ 23 (d := dd__law_new) rfl
  have g__law_new : mg "_law_new" = some (.ref (He.fAd K ("_law_new", none))) := He.glo_ok X G (c.d.fact 23 (f := .glo "_law_new") rfl)
  have b__law_new : Binds K fd__law_new [] [] := FunD.bindsN F__law_new fun _ _ _ _ _ _ us hl => match us, hl with | [], _ => rfl
  have ca_lnew : Ca P w K mg base 1 "_law_new" 0 sp_lnew := ca_of (k := 0) F__law_new g__law_new b__law_new sc__law_new (m0 := 0) (by rintro as M Q ⟨_,  rfl, _⟩; rfl) (d__law_new ) (fun as M Q _ h => pure_lnew as M Q h)
  obtain ⟨fd__law_undone, F__law_undone⟩ := c.d.def_ 24 (d := dd__law_undone) rfl
  have g__law_undone : mg "_law_undone" = some (.ref (He.fAd K ("_law_undone", none))) := He.glo_ok X G (c.d.fact 24 (f := .glo "_law_undone") rfl)
  have b__law_undone : Binds K fd__law_undone ["_law_own", "_law_book"] [] := FunD.bindsN F__law_undone fun _ _ _ _ _ _ us hl => match us, hl with | [_, _], _ => rfl
  have ca_lundone : Ca P w K mg base 2 "_law_undone" 2 sp_lundone := ca_of (k := 1) F__law_undone g__law_undone b__law_undone sc__law_undone (m0 := 5) (by rintro as M Q ⟨_, _, _, _, _, _, _, _, _, _, _, _,  rfl, _⟩; rfl) (d__law_undone cm_undo (by omega)) (fun as M Q _ h => pure_lundone as M Q h)
  obtain ⟨fd__law_deed, F__law_deed⟩ := c.d.def_ 25 (d := dd__law_deed) rfl
  have g__law_deed : mg "_law_deed" = some (.ref (He.fAd K ("_law_deed", none))) := He.glo_ok X G (c.d.fact 25 (f := .glo "_law_deed") rfl)
  have b__law_deed : Binds K fd__law_deed ["_law_tape_here", "_law_many_here", "_law_own", "_law_book"] [] := FunD.bindsN F__law_deed fun _ _ _ _ _ _ us hl => match us, hl with | [_, _, _, _], _ => rfl
  have ca_ldeed : Ca P w K mg base 31 "_law_deed" 4 sp_ldeed := ca_of (k := 30) F__law_deed g__law_deed b__law_deed sc__law_deed (m0 := 6) (by rintro as M Q ⟨_, _, _, _, _, _, _, _, _, _, _, _, _, _,  rfl, _⟩; rfl) (d__law_deed m_dict m_sorted m_len ca_take (by omega) ca_lundone (by omega) cm_go (by omega) cm_free (by omega) cm_settle (by omega) (ca_claims 4) (by omega) (ca_same 10) (by omega) cm_come (by omega)) (fun as M Q _ h => pure_ldeed as M Q h)
  obtain ⟨fd__law_left, F__law_left⟩ := c.d.def_ 26 (d := dd__law_left) rfl
  have g__law_left : mg "_law_left" = some (.ref (He.fAd K ("_law_left", none))) := He.glo_ok X G (c.d.fact 26 (f := .glo "_law_left") rfl)
  have b__law_left : Binds K fd__law_left ["_law_own", "_law_many_here"] [] := FunD.bindsN F__law_left fun _ _ _ _ _ _ us hl => match us, hl with | [_, _], _ => rfl
  have ca_lleft : Ca P w K mg base 13 "_law_left" 2 sp_lleft := ca_of (k := 12) F__law_left g__law_left b__law_left sc__law_left (m0 := 1) (by rintro as M Q ⟨_, _, _, _, _, _, _,  rfl, _⟩; rfl) (d__law_left m_all ca_lafs (by omega) (ca_lholds 6) (by omega)) (fun as M Q _ h => pure_lleft as M Q h)
  obtain ⟨fd__law_word, F__law_word⟩ := c.d.def_ 27 (d := dd__law_word) rfl
  have g__law_word : mg "_law_word" = some (.ref (He.fAd K ("_law_word", none))) := He.glo_ok X G (c.d.fact 27 (f := .glo "_law_word") rfl)
  have b__law_word : Binds K fd__law_word ["_law_caught"] [] := FunD.bindsN F__law_word fun _ _ _ _ _ _ us hl => match us, hl with | [_], _ => rfl
  have ca_word : Ca P w K mg base 1 "_law_word" 1 sp_word54 := ca_of (k := 0) F__law_word g__law_word b__law_word sc__law_word (m0 := 0) (by rintro as M Q ⟨_,  rfl, _⟩; rfl) (d__law_word m_isinstance m_ValueError gx_NoClaim gx_Settled gx_NotSettled gx_NoFilling gx_NoWeight gx_TooGreat gx_BadWord gx_BadText gx_BadRow hXF) (fun as M Q _ h => pure_word54 as M Q h)
  obtain ⟨fd__law_nth, F__law_nth⟩ := c.d.def_ 28 (d := dd__law_nth) rfl
  have g__law_nth : mg "_law_nth" = some (.ref (He.fAd K ("_law_nth", none))) := He.glo_ok X G (c.d.fact 28 (f := .glo "_law_nth") rfl)
  have b__law_nth : Binds K fd__law_nth ["_law_book", "_law_number"] [] := FunD.bindsN F__law_nth fun _ _ _ _ _ _ us hl => match us, hl with | [_, _], _ => rfl
  have ca_lnth : Ca P w K mg base 17 "_law_nth" 2 sp_lnth := ca_of (k := 16) F__law_nth g__law_nth b__law_nth sc__law_nth (m0 := 4) (by rintro as M Q ⟨_, _, _, _, _, _, _, _,  rfl, _⟩; rfl) (d__law_nth gx_FormError hXF cmx_nth (by omega) ca_word (by omega)) (fun as M Q _ h => pure_lnth as M Q h)
  obtain ⟨fd__law_right, F__law_right⟩ := c.d.def_ 29 (d := dd__law_right) rfl
  have g__law_right : mg "_law_right" = some (.ref (He.fAd K ("_law_right", none))) := He.glo_ok X G (c.d.fact 29 (f := .glo "_law_right") rfl)
  have b__law_right : Binds K fd__law_right ["_law_tape_here", "_law_own", "_law_book", "_law_many_here"] [] := FunD.bindsN F__law_right fun _ _ _ _ _ _ us hl => match us, hl with | [_, _, _, _], _ => rfl
  have ca_lright : Ca P w K mg base 21 "_law_right" 4 sp_lright54 := ca_of (k := 20) F__law_right g__law_right b__law_right sc__law_right (m0 := 6) (by rintro as M Q ⟨_, _, _, _, _, _, _, _, _, _, _, _, _,  rfl, _⟩; rfl) (d__law_right m_len m_max m_range ca_lleft (by omega) (ca_same 10) (by omega) cm_count (by omega) ca_take (by omega) ca_lnth (by omega)) (fun as M Q _ h => pure_lright54 as M Q h)
  obtain ⟨fd_law, F_law⟩ := c.d.def_ 30 (d := dd_law) rfl
  have g_law : mg "law" = some (.ref (He.fAd K ("law", none))) := He.glo_ok X G (c.d.fact 30 (f := .glo "law") rfl)
  exact fg_of (k := 45) F sc_law (m0 := 0) (by rintro as M Q ⟨_, _,  rfl, _⟩; rfl) (d_law m_len m_min m_range ca_tape (by omega) ca_many (by omega) ci_book (by omega) ca_order (by omega) ca_lnew (by omega) ca_lright (by omega) ca_take (by omega) ca_ldeed (by omega)) (fun as M Q _ h => pure_law54 as M Q h)
abbrev hk : PySem.W.Hook := hookX 4 fa fn cs exAll
def ob (s : PySem.W.SharedT) : AlX := obsXG 4 fa fn cs exAll (HandSHeadRun.getT s)
theorem ob_eq (s : PySem.W.SharedT) : ob s = hk.obs s.abs := obsXG_eq (HandSHeadRun.getT_eq s)
abbrev R : PySem.W.OpenRow := PySem.W.OpenLaw.row PySem.Challenge.rw_countforms_k54_counts_of_books
theorem run (w : World) : HandSHeadRun.RunEq R (PySem.W.view R.prog [50]) hk ob 20000 ((["_wall", "PLAIN", "inner_claims", "holds", "all_fillings", "FormError", "NoFilling", "NoWeight", "TooGreat", "BadWord", "NoClaim", "Settled", "NotSettled", "BadText", "BadRow", "all_settings", "filling_by", "meaning_of", "halves_of", "is_constant", "asked_at", "all_rests", "rows_at", "ladder_from", "ladder", "ladder_ladders", "Book", "_law_cell_at", "_law_tape", "_law_take"] : List PySem.Str) ++ (["_law_mixed", "_law_claim", "_law_many", "_law_order", "_law_same", "_law_holds", "_law_all_fillings", "_law_new", "_law_undone", "_law_deed", "_law_left", "_law_word", "_law_nth", "_law_right"] : List PySem.Str)) w := by
  intro os
  kernel_rfl
end Zk54
open PySem PySem.W PySem.Calls PyProof.Rows
theorem PySem.Challenge.cw_countforms_k54_counts_of_books_holds : PySem.Challenge.rw_countforms_k54_counts_of_books.Holds := by
  w_on; o_law
  refine HandSHeadRun.head_any (r := OpenLaw.row PySem.Challenge.rw_countforms_k54_counts_of_books) (q := view (OpenLaw.row PySem.Challenge.rw_countforms_k54_counts_of_books).prog [50]) (H := Zk54.hk) (ob := Zk54.ob) (M := 20000) (loose := ((["_wall", "PLAIN", "inner_claims", "holds", "all_fillings", "FormError", "NoFilling", "NoWeight", "TooGreat", "BadWord", "NoClaim", "Settled", "NotSettled", "BadText", "BadRow", "all_settings", "filling_by", "meaning_of", "halves_of", "is_constant", "asked_at", "all_rests", "rows_at", "ladder_from", "ladder", "ladder_ladders", "Book", "_law_cell_at", "_law_tape", "_law_take"] : List PySem.Str) ++ (["_law_mixed", "_law_claim", "_law_many", "_law_order", "_law_same", "_law_holds", "_law_all_fillings", "_law_new", "_law_undone", "_law_deed", "_law_left", "_law_word", "_law_nth", "_law_right"] : List PySem.Str))) (d := HandSHeadRun.topDef (OpenLaw.row PySem.Challenge.rw_countforms_k54_counts_of_books).prog 50) (kwd := []) Zk54.ob_eq
    (by kernel_rfl) (fun s => by kernel_rfl) Zk54.run (by kernel_rfl) (by kernel_rfl) (by kernel_rfl) (by rfl) (by first | assumption | decide +kernel) (by decide +kernel) ⟨rfl, rfl, rfl, rfl, rfl, by decide +kernel⟩ ?hw ?hc
  case hw => w_witness2
  case hc =>
    refine VL.walk_g (l := PySem.Challenge.rw_countforms_k54_counts_of_books) (n := 63) (k := 46) (x := "_law_script") (CX := C8.CX0) rfl (by decide) (by kernel_rfl) ⟨rfl, by decide, by decide⟩ ?F (fun _ _ _ _ z => z)
    intro w mg fa h Y G hmg0
    obtain ⟨K, KX, cX⟩ := Y
    have c := cX.v
    have hmg : mg ("law" : PySem.Str) = some (.ref fa) := by
      have e : (HandSHeadRun.topDef (OpenLaw.row PySem.Challenge.rw_countforms_k54_counts_of_books).prog 50).name = ("law" : PySem.Str) := by kernel_rfl
      rw [← e]
      exact hmg0
    obtain ⟨fd, F⟩ := c.d.def_ 30 (d := Zk54.dd_law) rfl
    have e := hmg.symm.trans (He.glo_ok KX G (c.d.fact 30 (f := .glo "law") rfl))
    cases e
    have b := L2.FunD.bindsA (ps := ["_law_script"]) F fun _ _ _ _ _ _ us hl => match us, hl with | [_], _ => rfl
    exact ⟨K, fd, VL.lP K 1 VL.sp_law, KX, fun s v => b s [v] rfl, fun H a ns hl hO hS => VL.lawSp hl hO hS, fun base _ _ => Zk54.ok_law KX G cX F⟩
