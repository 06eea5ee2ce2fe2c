import PyProof.Rows.All
import HandS.ForMost
import HandS.Walk
import HandS.IsInst
import HandS.Conv
import HandS.Zip
import HandS.Rev
import HandS.RevRange
import HandS.TupAny
import HandS.TupMul
import HandS.TupLe
import HandS.SortInts
import HandS.Deep
import HandS.Wide
import HandS.WideBits
import HandS.Flow
import HandS.Exc
import HandS.ExcOwn
import HandS.ExcInit
import HandS.Strs
import HandS.More
import HandS.Style
import HandS.Defaults
import HandS.Codes
import HandS.WordsExc
import HandS.Head0
import HandS.Head1
import HandS.Head2
import HandS.HeadEnd
import HandS.HeadHook1
import HandS.HeadHook2
import KE.KDictKeyed
import KE.KeyNested
import HandS.RaiseMore
import HandS.SetFor
import HandS.Small
import KE.KDictPairs
import PyProof.SumAny
import PyProof.FactsAll.subtypes_4
import KE.DataMinMax
import KE.GoesEnum
import HandS.TupSets
import PyProof.Rows.SortShellAny
import KE.KStateDown
import KE.KRevSl
import PyProof.Rows.IntBool
import PyProof.CallStr
import KE.SortData
import KE.GoesZip
import HandS.Dict
import HandS.Iter
import KE.KDictCopyH
import HandS.Keys
import HandS.ExcIs
import HandS.ExcValue
import KE.GoesMore
import KE.KDictZip
import HandS.ListItems
import PyProof.TupleOfSeq
import HandS.DictTup
import HandS.SortOrd
import PySem.Challenge.RW_countforms_k36_papers_of_rests
set_option Elab.async false
set_option linter.all false
set_option maxRecDepth 100000
set_option maxHeartbeats 4000000
namespace VL
open PySem PySem.Spec L2
/-- data; lst: a list that nobody changes any more -/
inductive D where
  | non | bl (b : Bool) | int (i : Int) | str (s : Str) | tup (ds : List D) | lst (ds : List D) | scr (ns : List Int) | fn (a : Addr) | ty (n : String)
  | dn (ks ds : List D) | dk (ks : List Key) (ds : List D) | cls (n : Str) | exc (n : Str) (f : Option (Str × Int))
  deriving Inhabited
/-- a value: data, the n-th changing object, or a list that is lent -/
inductive Sv where
  | d (x : D) | ref (n : Nat) | bor (ds : List D)
  deriving Inhabited
/-- what holds names of changing things: an object of a class with fields -/
inductive Kd where
  | ob (c : Str) (fs : List Str)
  deriving Inhabited, DecidableEq
inductive Cell where
  | gone | lst (ds : List D) | dk (kvs : List (Key × D)) | dn (kvs : List (D × D)) | nd (k : Kd) (its : List (D ⊕ Nat))
  deriving Inhabited
/-- what a cell names stands ahead of it -/
def Cell.wf (n : Nat) : Cell → Prop
  | .nd _ its => ∀ j, Sum.inr j ∈ its → j < n
  | _ => True
abbrev Mem := List Cell
abbrev DS := List (Option Sv)
/-- where the changing objects stand (none: one that is no more) -/
abbrev Ix := List (Option Addr)
/-- a tuple of the written part -/
def KT (K : PySem.W.Frag) (a : Addr) (xs : List V) : Prop :=
  ∃ (o : Obj) (its : Array Value) (n : Nat), K.lookup a = some o ∧ o.cls = .type "tuple" ∧ o.data = .seq its n ∧ its.size ≤ sizeLine ∧ Vals xs its.toList
/-- a list of the written part -/
def KL (K : PySem.W.Frag) (a : Addr) (xs : List V) : Prop :=
  ∃ (o : Obj) (its : Array Value) (n : Nat), K.lookup a = some o ∧ o.cls = .type "list" ∧ o.dict = none ∧ o.data = .seq its n ∧ its.size ≤ sizeLine ∧ Vals xs its.toList
mutual
/-- a key's hash: no text within -/
def nhash : NestedKey → Int
  | .none => reduceHash 0xFCA86420
  | .num i => hashInt i
  | .text _ => 0
  | .tup ks => reduceHash (Builtin.Tuple.tupleHashOf (nhashes ks))
def nhashes : List NestedKey → List Int
  | [] => []
  | k :: ks => nhash k :: nhashes ks
end
mutual
def nplain : NestedKey → Bool
  | .none => true
  | .num _ => true
  | .text _ => false
  | .tup ks => nplains ks
def nplains : List NestedKey → Bool
  | [] => true
  | k :: ks => nplain k && nplains ks
end
mutual
theorem nhash_eq (w : World) : ∀ k : NestedKey, nplain k = true → k.hash w = nhash k
  | .none, _ => rfl
  | .num _, _ => rfl
  | .text _, h => by cases h
  | .tup ks, h => by rw [NestedKey.hash, nhash, nhashes_eq w ks h]
theorem nhashes_eq (w : World) : ∀ ks : List NestedKey, nplains ks = true → NestedKey.hashes w ks = nhashes ks
  | [], _ => rfl
  | k :: ks, h => by
    have h : (nplain k && nplains ks) = true := h
    rw [Bool.and_eq_true] at h
    rw [NestedKey.hashes, nhashes, nhash_eq w k h.1, nhashes_eq w ks h.2]
end
def nEnt (x : NestedKey × Addr × Value) : DictEntry := ⟨nhash x.1, .ref x.2.1, x.2.2⟩
/-- at a stands a dict of such keys -/
def DnP (a : Addr) (xs : List (NestedKey × Addr × V)) : Heap → Prop := fun h => (a == sysModules) = false ∧ xs.length ≤ sizeLine ∧ ∃ (ys : List (NestedKey × Addr × Value)) (o : Obj) (es : Array DictEntry) (ep : Nat),
  Paired (fun (p : NestedKey × Addr × V) (q : NestedKey × Addr × Value) => p.1 = q.1 ∧ p.2.1 = q.2.1 ∧ RelV p.2.2 q.2.2) xs ys ∧ h.get? a = some o ∧ o.ExactDict ∧ o.data = .dict es ep ∧ es.toList = ys.map nEnt ∧ (ys.map (·.1)).Nodup
def DnO (a : Addr) (xs : List (NestedKey × Addr × V)) : HO := .ext (DnP a xs)
mutual
def nk0 : D → Option NestedKey
  | .non => some .none
  | .int i => some (.num i)
  | .tup ds => (nk0s ds).map .tup
  | _ => none
def nk0s : List D → Option (List NestedKey)
  | [] => some []
  | d :: ds => (nk0 d).bind fun k => (nk0s ds).map fun ks => k :: ks
end
def nkD (d : D) : Option NestedKey := match d with
  | .tup ds => (nk0s ds).bind fun ks => if (NestedKey.tup ks).depth ≤ 8 then some (.tup ks) else none
  | _ => none
/-- what is told of a caught error's own dict -/
def ExR (H : Hp) (ι : Ix) (f : Option (Str × Int)) (oe : Obj) : Prop := match f with
  | none => oe.dict = none
  | some (x, i) => ∃ dd od, oe.dict = some dd ∧ H dd = some (.frz od (.xd [(x, .int i)])) ∧ some dd ∉ ι
def ExH (a : Addr) (oe : Obj) : HO := .frz oe (.ext fun h => h.get? a = some oe)
mutual
def RD (K : PySem.W.Frag) (N : Bool → Addr → Prop) (H : Hp) (ι : Ix) : D → V → Prop
  | .non, v => v = .non
  | .bl b, v => v = .bl b
  | .int i, v => v = .int i
  | .str s, v => v = .str s
  | .tup ds, v => ∃ a xs, v = .ref a ∧ ((H a = some (.tup xs) ∧ some a ∉ ι) ∨ KT K a xs) ∧ ds.length ≤ sizeLine ∧ RDs K N H ι ds xs
  | .lst ds, v => ∃ a xs, v = .ref a ∧ H a = some (.lst xs) ∧ some a ∉ ι ∧ N true a ∧ ds.length ≤ sizeLine ∧ RDs K N H ι ds xs
  | .scr ns, v => ∃ a, v = .ref a ∧ ((∃ o, H a = some (.frz o (.lst (ns.map V.int))) ∧ some a ∉ ι) ∨ KL K a (ns.map V.int)) ∧ ns.length ≤ sizeLine
  | .fn a, v => v = .ref a
  | .ty n, v => v = .ty n
  | .cls n, v => v = .ref (He.ga K n)
  | .exc n f, v => ∃ a oe vs, v = .ref a ∧ H a = some (ExH a oe) ∧ some a ∉ ι ∧ oe.cls = .ref (He.ga K n) ∧ oe.data = .fields vs ∧ ExR H ι f oe
  | .dn ks ds, v => ∃ a xs o, v = .ref a ∧ H a = some (.frz o (DnO a xs)) ∧ some a ∉ ι ∧ ks.map nkD = xs.map (fun x => some x.1) ∧ RDs K N H ι ks (xs.map fun x => V.ref x.2.1) ∧ RDs K N H ι ds (xs.map fun x => x.2.2)
  | .dk ks ds, v => ∃ a ws o, v = .ref a ∧ H a = some (.frz o (.dK ws)) ∧ some a ∉ ι ∧ ks = ws.map (·.1) ∧ RDs K N H ι ds (ws.map (·.2))
def RDs (K : PySem.W.Frag) (N : Bool → Addr → Prop) (H : Hp) (ι : Ix) : List D → List V → Prop
  | [], xs => xs = []
  | d :: ds, xs => ∃ x r, xs = x :: r ∧ RD K N H ι d x ∧ RDs K N H ι ds r
end
/-- an item that is data, or the n-th changing thing -/
def RI (K : PySem.W.Frag) (N : Bool → Addr → Prop) (H : Hp) (ι : Ix) : D ⊕ Nat → V → Prop
  | .inl d, v => RD K N H ι d v
  | .inr n, v => ∃ a, v = .ref a ∧ (ι[n]? = some (some a) ∨ ι[n]? = some none)
def RIs (K : PySem.W.Frag) (N : Bool → Addr → Prop) (H : Hp) (ι : Ix) : List (D ⊕ Nat) → List V → Prop
  | [], xs => xs = []
  | d :: ds, xs => ∃ x r, xs = x :: r ∧ RI K N H ι d x ∧ RIs K N H ι ds r
def RS (K : PySem.W.Frag) (N : Bool → Addr → Prop) (H : Hp) (ι : Ix) : Sv → V → Prop
  | .d x, v => RD K N H ι x v
  | .ref n, v => ∃ a, v = .ref a ∧ (ι[n]? = some (some a) ∨ ι[n]? = some none)
  | .bor ds, v => ∃ a xs, v = .ref a ∧ H a = some (.lst xs) ∧ some a ∉ ι ∧ N false a ∧ ds.length ≤ sizeLine ∧ RDs K N H ι ds xs
def RSs (K : PySem.W.Frag) (N : Bool → Addr → Prop) (H : Hp) (ι : Ix) : List Sv → List V → Prop
  | [], xs => xs = []
  | d :: ds, xs => ∃ x r, xs = x :: r ∧ RS K N H ι d x ∧ RSs K N H ι ds r
/-- what is not changing stays -/
def Kp (ι : Ix) (H : Hp) (ι' : Ix) (H' : Hp) : Prop := ∀ a o, H a = some o → some a ∉ ι → H' a = some o ∧ some a ∉ ι'
theorem Kp.refl (ι : Ix) (H : Hp) : Kp ι H ι H := fun _ _ h n => ⟨h, n⟩
theorem Kp.trans {ι ι1 ι2 : Ix} {H H1 H2 : Hp} (a : Kp ι H ι1 H1) (b : Kp ι1 H1 ι2 H2) : Kp ι H ι2 H2 := fun c o h n =>
  let ⟨h1, n1⟩ := a c o h n
  b c o h1 n1
/-- names stay, or go -/
def Ex (ι ι' : Ix) : Prop := ∀ (n : Nat) (o : Option Addr), ι[n]? = some o → ι'[n]? = some o ∨ ι'[n]? = some none
theorem Ex.refl (ι : Ix) : Ex ι ι := fun _ _ h => .inl h
theorem Ex.trans {a b c : Ix} (h : Ex a b) (g : Ex b c) : Ex a c := fun n o e => by
  rcases h n o e with h | h
  · exact g n o h
  · rcases g n none h with g | g <;> exact .inr g
theorem Ex.app (ι r : Ix) : Ex ι (ι ++ r) := fun n o e => by
  have hlt := (List.getElem?_eq_some_iff.mp e).1
  rw [List.getElem?_append_left hlt]; exact .inl e
theorem ExR.map {H H' : Hp} {ι ι' : Ix} {f : Option (Str × Int)} {oe : Obj} (k : ∀ a o l, H a = some (.frz o l) → some a ∉ ι → H' a = some (.frz o l) ∧ some a ∉ ι') (h : ExR H ι f oe) : ExR H' ι' f oe := by
  cases f with
  | none => exact h
  | some p =>
    obtain ⟨dd, od, e, q, n⟩ := h
    exact ⟨dd, od, e, (k dd _ _ q n).1, (k dd _ _ q n).2⟩
section
variable {K : PySem.W.Frag} {N N' : Bool → Addr → Prop} {H H' : Hp} {ι ι' : Ix}
mutual
theorem RD.mono (k : Kp ι H ι' H') (hn : ∀ b a o, H a = some o → N b a → N' b a) : ∀ (d : D) (v : V), RD K N H ι d v → RD K N' H' ι' d v
  | .non, _, h => h
  | .bl _, _, h => h
  | .int _, _, h => h
  | .str _, _, h => h
  | .fn _, _, h => h
  | .ty _, _, h => h
  | .cls _, _, h => h
  | .exc _ f, v, h => by
    obtain ⟨a, oe, vs, e, q, n, c, d, x⟩ := h
    exact ⟨a, oe, vs, e, (k a _ q n).1, (k a _ q n).2, c, d, x.map fun b o l q n => k b _ q n⟩
  | .dn ks ds, v, h => by
    obtain ⟨a, xs, o, e, q, n, z, r1, r2⟩ := h
    exact ⟨a, xs, o, e, (k a _ q n).1, (k a _ q n).2, z, RDs.mono k hn ks _ r1, RDs.mono k hn ds _ r2⟩
  | .dk ks ds, v, h => by
    obtain ⟨a, ws, o, e, q, n, z, r⟩ := h
    exact ⟨a, ws, o, e, (k a _ q n).1, (k a _ q n).2, z, RDs.mono k hn ds _ r⟩
  | .scr ns, v, h => by
    obtain ⟨a, e, ⟨o, q, n⟩ | q, l⟩ := h
    · exact ⟨a, e, .inl ⟨o, k a _ q n⟩, l⟩
    · exact ⟨a, e, .inr q, l⟩
  | .tup ds, v, h => by
    obtain ⟨a, xs, e, q, l, r⟩ := h
    refine ⟨a, xs, e, ?_, l, RDs.mono k hn ds xs r⟩
    rcases q with ⟨q, n⟩ | q
    · exact .inl (k a _ q n)
    · exact .inr q
  | .lst ds, v, h => by
    obtain ⟨a, xs, e, q, n, z, l, r⟩ := h
    exact ⟨a, xs, e, (k a _ q n).1, (k a _ q n).2, hn _ a _ q z, l, RDs.mono k hn ds xs r⟩
theorem RDs.mono (k : Kp ι H ι' H') (hn : ∀ b a o, H a = some o → N b a → N' b a) : ∀ (ds : List D) (vs : List V), RDs K N H ι ds vs → RDs K N' H' ι' ds vs
  | [], _, h => h
  | d :: ds, vs, h => by
    obtain ⟨x, r, e, h1, h2⟩ := h
    exact ⟨x, r, e, RD.mono k hn d x h1, RDs.mono k hn ds r h2⟩
end
theorem RI.mono (k : Kp ι H ι' H') (p : Ex ι ι') (hn : ∀ b a o, H a = some o → N b a → N' b a) : ∀ {x : D ⊕ Nat} {v : V}, RI K N H ι x v → RI K N' H' ι' x v
  | .inl d, v, h => RD.mono k hn d v h
  | .inr n, v, h => by
    obtain ⟨a, e, q | q⟩ := h
    · exact ⟨a, e, p n _ q⟩
    · rcases p n _ q with z | z <;> exact ⟨a, e, .inr z⟩
theorem RIs.mono (k : Kp ι H ι' H') (p : Ex ι ι') (hn : ∀ b a o, H a = some o → N b a → N' b a) : ∀ {xs : List (D ⊕ Nat)} {vs : List V}, RIs K N H ι xs vs → RIs K N' H' ι' xs vs
  | [], _, h => h
  | d :: ds, vs, h => by
    obtain ⟨x, r, e, h1, h2⟩ := h
    exact ⟨x, r, e, RI.mono k p hn h1, RIs.mono k p hn h2⟩
theorem RIs.length : ∀ {ds : List (D ⊕ Nat)} {vs : List V}, RIs K N H ι ds vs → ds.length = vs.length
  | [], _, h => by cases (show _ = _ from h); rfl
  | d :: ds, _, h => by
    obtain ⟨x, r, rfl, _, h2⟩ := h
    simp [RIs.length h2]
theorem RIs.get : ∀ {ds : List (D ⊕ Nat)} {vs : List V} {i : Nat} {d : D ⊕ Nat}, RIs K N H ι ds vs → ds[i]? = some d → ∃ v, vs[i]? = some v ∧ RI K N H ι d v
  | [], _, i, _, _, e => by simp at e
  | d :: ds, _, 0, _, h, e => by
    obtain ⟨x, r, rfl, h1, _⟩ := h
    simp at e; subst e; exact ⟨x, rfl, h1⟩
  | d :: ds, _, i + 1, _, h, e => by
    obtain ⟨x, r, rfl, _, h2⟩ := h
    simp at e ⊢
    exact RIs.get h2 e
theorem RS.mono {x : Sv} {v : V} (k : Kp ι H ι' H') (p : Ex ι ι') (hn : ∀ b a o, H a = some o → N b a → N' b a) (h : RS K N H ι x v) : RS K N' H' ι' x v := by
  cases x with
  | d x => exact RD.mono k hn x v h
  | ref n =>
    obtain ⟨a, e, q | q⟩ := h
    · exact ⟨a, e, p n _ q⟩
    · rcases p n _ q with z | z <;> exact ⟨a, e, .inr z⟩
  | bor ds =>
    obtain ⟨a, xs, e, q, n, z, l, r⟩ := h
    exact ⟨a, xs, e, (k a _ q n).1, (k a _ q n).2, hn _ a _ q z, l, RDs.mono k hn ds xs r⟩
theorem RSs.mono (k : Kp ι H ι' H') (p : Ex ι ι') (hn : ∀ b a o, H a = some o → N b a → N' b a) : ∀ {xs : List Sv} {vs : List V}, RSs K N H ι xs vs → RSs K N' H' ι' xs vs
  | [], _, h => h
  | d :: ds, vs, h => by
    obtain ⟨x, r, e, h1, h2⟩ := h
    exact ⟨x, r, e, h1.mono k p hn, RSs.mono k p hn h2⟩
theorem RDs.length : ∀ {ds : List D} {vs : List V}, RDs K N H ι ds vs → ds.length = vs.length
  | [], _, h => by cases (show _ = _ from h); rfl
  | d :: ds, _, h => by
    obtain ⟨x, r, rfl, _, h2⟩ := h
    simp [RDs.length h2]
theorem RDs.get : ∀ {ds : List D} {vs : List V} {i : Nat} {d : D}, RDs K N H ι ds vs → ds[i]? = some d → ∃ v, vs[i]? = some v ∧ RD K N H ι d v
  | [], _, _, _, _, e => by simp at e
  | d :: ds, _, i, d', h, e => by
    obtain ⟨x, r, rfl, h1, h2⟩ := h
    cases i with
    | zero => simp at e; subst e; exact ⟨x, rfl, h1⟩
    | succ i => exact RDs.get (i := i) h2 (by simpa using e)
theorem RDs.append : ∀ {ds es : List D} {vs ws : List V}, RDs K N H ι ds vs → RDs K N H ι es ws → RDs K N H ι (ds ++ es) (vs ++ ws)
  | [], _, _, _, h, g => by cases (show _ = _ from h); exact g
  | d :: ds, _, _, _, h, g => by
    obtain ⟨x, r, rfl, h1, h2⟩ := h
    exact ⟨x, _, rfl, h1, RDs.append h2 g⟩
theorem RDs.set : ∀ {ds : List D} {vs : List V} {d : D} {v : V} (i : Nat), RD K N H ι d v → RDs K N H ι ds vs → RDs K N H ι (ds.set i d) (vs.set i v)
  | [], _, _, _, _, _, h => by cases (show _ = _ from h); rfl
  | e :: ds, _, d, v, i, r, h => by
    obtain ⟨x, t, rfl, h1, h2⟩ := h
    cases i with
    | zero => exact ⟨v, t, rfl, r, h2⟩
    | succ i => exact ⟨x, _, rfl, h1, RDs.set i r h2⟩
theorem RDs.take : ∀ {ds : List D} {vs : List V} (n : Nat), RDs K N H ι ds vs → RDs K N H ι (ds.take n) (vs.take n)
  | [], _, n, h => by cases (show _ = _ from h); cases n <;> rfl
  | e :: ds, _, n, h => by
    obtain ⟨x, t, rfl, h1, h2⟩ := h
    cases n with
    | zero => exact rfl
    | succ n => exact ⟨x, _, rfl, h1, RDs.take n h2⟩
theorem RDs.drop : ∀ {ds : List D} {vs : List V} (n : Nat), RDs K N H ι ds vs → RDs K N H ι (ds.drop n) (vs.drop n)
  | [], _, n, h => by cases (show _ = _ from h); cases n <;> rfl
  | e :: ds, _, n, h => by
    obtain ⟨x, t, rfl, h1, h2⟩ := h
    cases n with
    | zero => exact ⟨x, t, rfl, h1, h2⟩
    | succ n => exact RDs.drop n h2
theorem RDs.eraseIdx : ∀ {ds : List D} {vs : List V} (i : Nat), RDs K N H ι ds vs → RDs K N H ι (ds.eraseIdx i) (vs.eraseIdx i)
  | [], _, n, h => by cases (show _ = _ from h); rfl
  | e :: ds, _, n, h => by
    obtain ⟨x, t, rfl, h1, h2⟩ := h
    cases n with
    | zero => exact h2
    | succ n => exact ⟨x, _, rfl, h1, RDs.eraseIdx n h2⟩
theorem RDs.ints {ns : List Int} : ∀ {vs : List V}, RDs K N H ι (ns.map D.int) vs → vs = ns.map V.int := by
  induction ns with
  | nil => intro vs h; exact h
  | cons n ns ih =>
    intro vs h
    obtain ⟨x, r, rfl, h1, h2⟩ := h
    rw [ih h2]; cases (show _ = _ from h1); rfl
theorem RDs.of_ints : ∀ (ns : List Int), RDs K N H ι (ns.map D.int) (ns.map V.int)
  | [] => rfl
  | n :: ns => ⟨_, _, rfl, rfl, RDs.of_ints ns⟩
theorem RDs.bls {ns : List Bool} : ∀ {vs : List V}, RDs K N H ι (ns.map D.bl) vs → vs = ns.map V.bl := by
  induction ns with
  | nil => intro vs h; exact h
  | cons n ns ih =>
    intro vs h
    obtain ⟨x, r, rfl, h1, h2⟩ := h
    rw [ih h2]; cases (show _ = _ from h1); rfl
theorem tup_sq {a : Addr} {xs : List V} (h : (H a = some (.tup xs) ∧ some a ∉ ι) ∨ KT K a xs) : SqT K H a xs := by
  rcases h with h | h
  · exact SqT.of h.1
  · exact .inr h
end
def NdH (K : PySem.W.Frag) (H : Hp) (ι : Ix) (a : Addr) (xs : List V) : Kd → Prop
  | .ob c fs => ∃ dx, H a = some (.ins (He.ga K c) dx (fs.zip xs)) ∧ H dx = some (.own a) ∧ some dx ∉ ι ∧ fs.length = xs.length
theorem NdH.has {K : PySem.W.Frag} {H : Hp} {ι : Ix} {a : Addr} {xs : List V} {k : Kd} (h : NdH K H ι a xs k) : ∃ o, H a = some o := by
  cases k with
  | ob c fs => exact ⟨_, h.choose_spec.1⟩
theorem NdH.mono {K : PySem.W.Frag} {H H' : Hp} {ι ι' : Ix} {a : Addr} {xs : List V} {k : Kd} (kp : Kp ι H ι' H') (e : H' a = H a) (h : NdH K H ι a xs k) : NdH K H' ι' a xs k := by
  cases k with
  | ob c fs => obtain ⟨dx, q1, q2, q3, q4⟩ := h; exact ⟨dx, e.trans q1, (kp dx _ q2 q3).1, (kp dx _ q2 q3).2, q4⟩
def RC (K : PySem.W.Frag) (N : Bool → Addr → Prop) (H : Hp) (ι : Ix) : Cell → Addr → Prop
  | .gone, _ => False
  | .lst ds, a => ∃ xs, H a = some (.lst xs) ∧ ds.length ≤ sizeLine ∧ RDs K N H ι ds xs
  | .dk kvs, a => ∃ ws, H a = some (.dK ws) ∧ kvs.map (·.1) = ws.map (·.1) ∧ RDs K N H ι (kvs.map (·.2)) (ws.map (·.2))
  | .dn kvs, a => ∃ xs, H a = some (DnO a xs) ∧ (kvs.map (·.1)).map nkD = xs.map (fun x => some x.1) ∧ RDs K N H ι (kvs.map (·.1)) (xs.map fun x => V.ref x.2.1) ∧ RDs K N H ι (kvs.map (·.2)) (xs.map fun x => x.2.2)
  | .nd k its, a => ∃ xs, NdH K H ι a xs k ∧ its.length ≤ sizeLine ∧ RIs K N H ι its xs
structure RM (K : PySem.W.Frag) (N : Bool → Addr → Prop) (H : Hp) (ι : Ix) (M : Mem) : Prop where
  len : M.length = ι.length
  nod : ∀ (n m : Nat) (a : Addr), ι[n]? = some (some a) → ι[m]? = some (some a) → n = m
  cell : ∀ (n : Nat) (c : Cell) (a : Addr), M[n]? = some c → ι[n]? = some (some a) → RC K N H ι c a
  gone : ∀ (n : Nat), ι[n]? = some none → M[n]? = some .gone
  wf : ∀ (n : Nat) (c : Cell), M[n]? = some c → c.wf n
theorem RC.has {K : PySem.W.Frag} {N : Bool → Addr → Prop} {H : Hp} {ι : Ix} {c : Cell} {a : Addr} (h : RC K N H ι c a) : ∃ o, H a = some o := by
  cases c with
  | gone => exact h.elim
  | lst ds => exact ⟨_, h.choose_spec.1⟩
  | dk kvs => exact ⟨_, h.choose_spec.1⟩
  | dn kvs => exact ⟨_, h.choose_spec.1⟩
  | nd k its => exact h.choose_spec.1.has
theorem RM.fresh {K : PySem.W.Frag} {N : Bool → Addr → Prop} {H : Hp} {ι : Ix} {M : Mem} (r : RM K N H ι M) {p : Addr} (h : H p = none) : some p ∉ ι := fun hp => by
  obtain ⟨n, hn, e⟩ := List.getElem_of_mem hp
  have hM : n < M.length := by rw [r.len]; exact hn
  obtain ⟨o, q⟩ := (r.cell n M[n] p (List.getElem?_eq_getElem hM) (by rw [List.getElem?_eq_getElem hn, e])).has
  rw [h] at q; cases q
/-- a name that is not gone -/
theorem RM.at {K : PySem.W.Frag} {N : Bool → Addr → Prop} {H : Hp} {ι : Ix} {M : Mem} (r : RM K N H ι M) {n : Nat} {c : Cell} {v : V} (h : RS K N H ι (.ref n) v) (e : M[n]? = some c) (hc : c ≠ .gone) : ∃ a, v = .ref a ∧ ι[n]? = some (some a) ∧ RC K N H ι c a := by
  obtain ⟨a, e1, q | q⟩ := h
  · exact ⟨a, e1, q, r.cell n c a e q⟩
  · rw [r.gone n q] at e; cases e; exact absurd rfl hc
theorem RC.mono {K : PySem.W.Frag} {N N' : Bool → Addr → Prop} {H H' : Hp} {ι ι' : Ix} {c : Cell} {a : Addr} (k : Kp ι H ι' H') (p : Ex ι ι') (hn : ∀ b a o, H a = some o → N b a → N' b a) (e : H' a = H a) (h : RC K N H ι c a) : RC K N' H' ι' c a := by
  cases c with
  | gone => exact h.elim
  | lst ds => obtain ⟨xs, q, l, r⟩ := h; exact ⟨xs, e.trans q, l, r.mono k hn⟩
  | dk kvs => obtain ⟨ws, q, z, r⟩ := h; exact ⟨ws, e.trans q, z, r.mono k hn⟩
  | dn kvs => obtain ⟨xs, q, z, r1, r2⟩ := h; exact ⟨xs, e.trans q, z, r1.mono k hn, r2.mono k hn⟩
  | nd kd its => obtain ⟨xs, q, z, r⟩ := h; exact ⟨xs, q.mono k e, z, r.mono k p hn⟩
/-- names below k stay -/
theorem RIs.taken {K : PySem.W.Frag} {N N' : Bool → Addr → Prop} {H : Hp} {ι : Ix} {k : Nat} (kk : Kp ι H (ι.take k) H) (hn : ∀ b a o, H a = some o → N b a → N' b a) : ∀ {its : List (D ⊕ Nat)} {xs : List V}, (∀ j, Sum.inr j ∈ its → j < k) → RIs K N H ι its xs → RIs K N' H (ι.take k) its xs
  | [], _, _, h => h
  | .inl d :: its, xs, hl, h => by
    obtain ⟨x, r, rfl, h1, h2⟩ := h
    exact ⟨x, r, rfl, RD.mono kk hn d x h1, RIs.taken kk hn (fun j hj => hl j (List.mem_cons_of_mem _ hj)) h2⟩
  | .inr n :: its, xs, hl, h => by
    obtain ⟨x, r, rfl, ⟨a, e, q⟩, h2⟩ := h
    exact ⟨x, r, rfl, ⟨a, e, by rw [List.getElem?_take, if_pos (hl n List.mem_cons_self)]; exact q⟩, RIs.taken kk hn (fun j hj => hl j (List.mem_cons_of_mem _ hj)) h2⟩
theorem RC.taken {K : PySem.W.Frag} {N N' : Bool → Addr → Prop} {H : Hp} {ι : Ix} {k n : Nat} {c : Cell} {a : Addr} (kk : Kp ι H (ι.take k) H) (hn : ∀ b a o, H a = some o → N b a → N' b a) (w : c.wf n) (hk : n < k) (h : RC K N H ι c a) : RC K N' H (ι.take k) c a := by
  cases c with
  | gone => exact h.elim
  | lst ds => obtain ⟨xs, q, l, r⟩ := h; exact ⟨xs, q, l, r.mono kk hn⟩
  | dk kvs => obtain ⟨ws, q, z, r⟩ := h; exact ⟨ws, q, z, r.mono kk hn⟩
  | dn kvs => obtain ⟨xs, q, z, r1, r2⟩ := h; exact ⟨xs, q, z, r1.mono kk hn, r2.mono kk hn⟩
  | nd kd its => obtain ⟨xs, q, z, r⟩ := h; exact ⟨xs, q.mono kk rfl, z, RIs.taken kk hn (fun j hj => Nat.lt_trans (w j hj) hk) r⟩
/-- names below n stay, or go -/
def ExB (n : Nat) (ι ι' : Ix) : Prop := ∀ j, j < n → ∀ o, ι[j]? = some o → ι'[j]? = some o ∨ ι'[j]? = some none
theorem Ex.b {n : Nat} {ι ι' : Ix} (p : Ex ι ι') : ExB n ι ι' := fun j _ o e => p j o e
theorem RIs.monoB {K : PySem.W.Frag} {N N' : Bool → Addr → Prop} {H H' : Hp} {ι ι' : Ix} {n : Nat} (k : Kp ι H ι' H') (p : ExB n ι ι') (hn : ∀ b a o, H a = some o → N b a → N' b a) : ∀ {its : List (D ⊕ Nat)} {xs : List V}, (∀ j, Sum.inr j ∈ its → j < n) → RIs K N H ι its xs → RIs K N' H' ι' its xs
  | [], _, _, h => h
  | .inl d :: its, xs, hl, h => by
    obtain ⟨x, r, rfl, h1, h2⟩ := h
    exact ⟨x, r, rfl, RD.mono k hn d x h1, RIs.monoB k p hn (fun j hj => hl j (List.mem_cons_of_mem _ hj)) h2⟩
  | .inr m :: its, xs, hl, h => by
    obtain ⟨x, r, rfl, ⟨a, e, q⟩, h2⟩ := h
    have hm := hl m List.mem_cons_self
    refine ⟨x, r, rfl, ⟨a, e, ?_⟩, RIs.monoB k p hn (fun j hj => hl j (List.mem_cons_of_mem _ hj)) h2⟩
    rcases q with q | q
    · exact p m hm _ q
    · rcases p m hm _ q with z | z <;> exact .inr z
theorem RC.monoB {K : PySem.W.Frag} {N N' : Bool → Addr → Prop} {H H' : Hp} {ι ι' : Ix} {n : Nat} {c : Cell} {a : Addr} (k : Kp ι H ι' H') (p : ExB n ι ι') (hn : ∀ b a o, H a = some o → N b a → N' b a) (w : c.wf n) (e : H' a = H a) (h : RC K N H ι c a) : RC K N' H' ι' c a := by
  cases c with
  | gone => exact h.elim
  | lst ds => obtain ⟨xs, q, l, r⟩ := h; exact ⟨xs, e.trans q, l, r.mono k hn⟩
  | dk kvs => obtain ⟨ws, q, z, r⟩ := h; exact ⟨ws, e.trans q, z, r.mono k hn⟩
  | dn kvs => obtain ⟨xs, q, z, r1, r2⟩ := h; exact ⟨xs, e.trans q, z, r1.mono k hn, r2.mono k hn⟩
  | nd kd its => obtain ⟨xs, q, z, r⟩ := h; exact ⟨xs, q.mono k e, z, RIs.monoB k p hn w r⟩
/-- the ground of a def: the heap at its entry, its changing arguments, what its callers may change -/
structure Gd where
  He : Hp
  i0 : List Addr
  B : Addr → Prop
  /-- what a comprehension is just making -/
  Hd : Addr → Prop
abbrev Gd.N (G : Gd) : Bool → Addr → Prop := fun b a => ¬ G.Hd a ∧ (b = true → ¬ G.B a)
/-- fields alike: what is a reference stays, an int may be another -/
def SameF : List (Str × V) → List (Str × V) → Prop := Paired fun p q => p.1 = q.1 ∧ (p.2 = q.2 ∨ ∃ i j, p.2 = .int i ∧ q.2 = .int j)
theorem SameF.refl : ∀ fs : List (Str × V), SameF fs fs
  | [] => .nil
  | p :: fs => .cons ⟨rfl, .inl rfl⟩ (SameF.refl fs)
theorem SameF.trans : ∀ {a b c : List (Str × V)}, SameF a b → SameF b c → SameF a c
  | _, _, _, .nil, .nil => .nil
  | _, _, _, .cons ⟨h1, h2⟩ h, .cons ⟨g1, g2⟩ g => .cons ⟨h1.trans g1, by
      rcases h2 with h2 | ⟨i, j, e1, e2⟩
      · rw [h2]; exact g2
      · rcases g2 with g2 | ⟨i', j', e3, e4⟩
        · exact .inr ⟨i, j, e1, g2 ▸ e2⟩
        · exact .inr ⟨i, j', e1, e4⟩⟩ (SameF.trans h g)
/-- the objects among these are still of their classes, with their fields -/
def ObK (l : List Addr) (H H' : Hp) : Prop := ∀ a ∈ l, (∀ C dx fs, H a = some (.ins C dx fs) → ∃ fs', H' a = some (.ins C dx fs') ∧ SameF fs fs') ∧ ∀ C dx fs', H' a = some (.ins C dx fs') → ∃ fs, H a = some (.ins C dx fs)
theorem ObK.refl (l : List Addr) (H : Hp) : ObK l H H := fun _ _ => ⟨fun _ _ fs e => ⟨fs, e, SameF.refl fs⟩, fun _ _ fs e => ⟨fs, e⟩⟩
theorem ObK.trans {l : List Addr} {H H1 H2 : Hp} (p : ObK l H H1) (q : ObK l H1 H2) : ObK l H H2 := fun a ha => ⟨fun C dx fs e => by
    obtain ⟨f1, e1, s1⟩ := (p a ha).1 C dx fs e
    obtain ⟨f2, e2, s2⟩ := (q a ha).1 C dx f1 e1
    exact ⟨f2, e2, s1.trans s2⟩, fun C dx fs e => by
    obtain ⟨f1, e1⟩ := (q a ha).2 C dx fs e
    exact (p a ha).2 C dx f1 e1⟩
/-- a turn that leaves an object an object -/
def ObT (H : Hp) (p : Addr) (o : HO) : Prop := (∀ C dx fs, H p = some (.ins C dx fs) → ∃ fs', o = .ins C dx fs' ∧ SameF fs fs') ∧ ∀ C dx fs', o = .ins C dx fs' → ∃ fs, H p = some (.ins C dx fs)
theorem ObT.of {H : Hp} {p : Addr} {o u : HO} (e : H p = some u) (h : ∀ C dx fs, u ≠ .ins C dx fs) (h2 : ∀ C dx fs, o ≠ .ins C dx fs) : ObT H p o := ⟨fun C dx fs q => by
  rw [e] at q; exact absurd (Option.some.inj q) (h C dx fs), fun C dx fs q => absurd q (h2 C dx fs)⟩
theorem ObK.turn {l : List Addr} {H0 H : Hp} {p : Addr} {o : HO} (k : ObK l H0 H) (t : ObT H p o) : ObK l H0 (upd H p o) := fun a ha => by
  by_cases hp : a = p
  · subst hp
    refine ⟨fun C dx fs e => ?_, fun C dx fs e => ?_⟩
    · obtain ⟨fs', e', s⟩ := (k a ha).1 C dx fs e
      obtain ⟨fs2, rfl, s2⟩ := t.1 C dx fs' e'
      exact ⟨fs2, upd_same, s.trans s2⟩
    · rw [upd_same] at e
      obtain ⟨fs', e'⟩ := t.2 C dx fs (Option.some.inj e)
      exact (k a ha).2 C dx fs' e'
  · rw [upd_ne hp]; exact k a ha
theorem ObK.laid {l : List Addr} {H0 H : Hp} {p : Addr} {o : HO} (k : ObK l H0 H) (t : H p = none) (hl : ∀ a ∈ l, ∃ u, H a = some u) : ObK l H0 (upd H p o) := fun a ha => by
  have hp : a ≠ p := fun e => by
    obtain ⟨u, q⟩ := hl a ha
    rw [e, t] at q; cases q
  rw [upd_ne hp]; exact k a ha
structure Sr (K : PySem.W.Frag) (G : Gd) (δ : DS) (M : Mem) (ι : Ix) (σ : L2.St) (H : Hp) : Prop where
  len : δ.length = σ.length
  slot : ∀ (i : Nat) (d : Sv), δ[i]? = some (some d) → ∃ v, σ[i]? = some (some v) ∧ RS K G.N H ι d v
  mem : RM K G.N H ι M
  pre : ∀ (n : Nat) (a : Addr), G.i0[n]? = some a → ι[n]? = some (some a)
  kp : Kp (G.i0.map some) G.He ι H
  new : ∀ a, some a ∈ ι → a ∉ G.i0 → G.He a = none
  bad : ∀ a, G.B a → ∃ o, G.He a = some o
  hid : ∀ a, G.Hd a → some a ∉ ι ∧ ∃ o, H a = some o
  obk : ObK G.i0 G.He H
theorem RM.there {K : PySem.W.Frag} {N : Bool → Addr → Prop} {H : Hp} {ι : Ix} {M : Mem} (r : RM K N H ι M) {a : Addr} (h : some a ∈ ι) : ∃ o, H a = some o := by
  obtain ⟨n, hn, e⟩ := List.getElem_of_mem h
  have hM : n < M.length := by rw [r.len]; exact hn
  exact (r.cell n M[n] a (List.getElem?_eq_getElem hM) (by rw [List.getElem?_eq_getElem hn, e])).has
theorem Sr.i0there {K : PySem.W.Frag} {G : Gd} {δ : DS} {M : Mem} {ι : Ix} {σ : L2.St} {H : Hp} (S : Sr K G δ M ι σ H) : ∀ a ∈ G.i0, ∃ u, H a = some u := fun a ha => by
  obtain ⟨n, hn⟩ := List.getElem?_of_mem ha
  exact S.mem.there (List.mem_of_getElem? (S.pre n a hn))
/-- H' is H with a new thing, or a turned changing object -/
theorem Kp.laid {ι : Ix} {H : Hp} {p : Addr} {o : HO} (h : H p = none) : Kp ι H ι (upd H p o) := fun a u e n => by
  refine ⟨?_, n⟩
  rw [upd_ne (ne_of_none e h)]; exact e
theorem Kp.named {ι : Ix} {H : Hp} {p : Addr} {o : HO} (h : H p = none) : Kp ι H (ι ++ [some p]) (upd H p o) := fun a u e n => by
  have hne := ne_of_none e h
  refine ⟨?_, ?_⟩
  · rw [upd_ne hne]; exact e
  · simp only [List.mem_append, List.mem_singleton, Option.some.injEq, not_or]; exact ⟨n, hne⟩
theorem Kp.turned {ι : Ix} {H : Hp} {p : Addr} {o : HO} (h : some p ∈ ι) : Kp ι H ι (upd H p o) := fun a u e n => by
  refine ⟨?_, n⟩
  rw [upd_ne (fun z => n (by rw [z]; exact h))]; exact e
theorem Kp.take {ι : Ix} {H : Hp} (k : Nat) : Kp ι H (ι.take k) H := fun a u e n => ⟨e, fun h => n (List.mem_of_mem_take h)⟩
section
variable {K : PySem.W.Frag} {G : Gd} {δ : DS} {M : Mem} {ι : Ix} {σ : L2.St} {H : Hp}
/-- a thing that is not tracked by name is laid -/
theorem Sr.laid {p : Addr} {o : HO} (S : Sr K G δ M ι σ H) (h : H p = none) : Sr K G δ M ι σ (upd H p o) := by
  have k := Kp.laid (ι := ι) (o := o) h
  refine ⟨S.len, fun i d e => ?_, ⟨S.mem.len, S.mem.nod, fun n c a e1 e2 => ?_, S.mem.gone, S.mem.wf⟩, S.pre, S.kp.trans k, S.new, S.bad, fun a ha => ⟨(S.hid a ha).1, ?_⟩, S.obk.laid h S.i0there⟩
  · obtain ⟨v, e1, r⟩ := S.slot i d e
    exact ⟨v, e1, r.mono k (Ex.refl _) (fun _ _ _ _ z => z)⟩
  · refine (S.mem.cell n c a e1 e2).mono k (Ex.refl _) (fun _ _ _ _ z => z) (upd_ne ?_)
    rintro rfl
    exact S.mem.fresh h (List.mem_of_getElem? e2)
  · obtain ⟨u, q⟩ := (S.hid a ha).2
    exact ⟨u, by rw [upd_ne (ne_of_none q h)]; exact q⟩
/-- a new changing object -/
theorem Sr.named {p : Addr} {o : HO} {c : Cell} (S : Sr K G δ M ι σ H) (h : H p = none) (hc : RC K G.N (upd H p o) (ι ++ [some p]) c p) (hw : c.wf M.length := by trivial) : Sr K G δ (M ++ [c]) (ι ++ [some p]) σ (upd H p o) := by
  have k := Kp.named (ι := ι) (o := o) h
  have hp := S.mem.fresh h
  have hpre : Ex ι (ι ++ [some p]) := Ex.app _ _
  refine ⟨S.len, fun i d e => ?_, ⟨by simp [S.mem.len], fun n m a e1 e2 => ?_, fun n c' a e1 e2 => ?_, fun n e => ?_, fun n c' e1 => ?_⟩, fun n a e => ?_, S.kp.trans k, fun a ha hn => ?_, ?_, fun a ha => ?_, S.obk.laid h S.i0there⟩
  · obtain ⟨v, e1, r⟩ := S.slot i d e
    exact ⟨v, e1, r.mono k hpre (fun _ _ _ _ z => z)⟩
  · by_cases hn : n < ι.length
    · rw [List.getElem?_append_left hn] at e1
      by_cases hm : m < ι.length
      · rw [List.getElem?_append_left hm] at e2
        exact S.mem.nod n m a e1 e2
      · rw [List.getElem?_append_right (by omega)] at e2
        have : a = p := by
          cases q : m - ι.length with
          | zero => rw [q] at e2; simpa using e2.symm
          | succ j => rw [q] at e2; simp at e2
        subst this
        exact absurd (List.mem_of_getElem? e1) hp
    · rw [List.getElem?_append_right (by omega)] at e1
      have h1 : n = ι.length ∧ a = p := by
        cases q : n - ι.length with
        | zero => rw [q] at e1; exact ⟨by omega, by simpa using e1.symm⟩
        | succ j => rw [q] at e1; simp at e1
      obtain ⟨h1, rfl⟩ := h1
      by_cases hm : m < ι.length
      · rw [List.getElem?_append_left hm] at e2
        exact absurd (List.mem_of_getElem? e2) hp
      · have h2 := (List.getElem?_eq_some_iff.mp e2).1
        simp at h2; omega
  · by_cases hn : n < M.length
    · rw [List.getElem?_append_left hn] at e1
      rw [List.getElem?_append_left (by rw [← S.mem.len]; exact hn)] at e2
      refine (S.mem.cell n c' a e1 e2).mono k hpre (fun _ _ _ _ z => z) (upd_ne ?_)
      rintro rfl
      exact hp (List.mem_of_getElem? e2)
    · have h1 : n = M.length := by
        have := (List.getElem?_eq_some_iff.mp e1).1
        simp at this; omega
      subst h1
      rw [List.getElem?_append_right (Nat.le_refl _)] at e1
      rw [List.getElem?_append_right (by rw [S.mem.len]; exact Nat.le_refl _)] at e2
      simp [S.mem.len] at e1 e2
      subst e1 e2
      exact hc
  · by_cases hn : n < ι.length
    · rw [List.getElem?_append_left hn] at e
      rw [List.getElem?_append_left (by rw [S.mem.len]; exact hn)]
      exact S.mem.gone n e
    · rw [List.getElem?_append_right (by omega)] at e
      cases q : n - ι.length with
      | zero => rw [q] at e; simp at e
      | succ j => rw [q] at e; simp at e
  · by_cases hn : n < M.length
    · rw [List.getElem?_append_left hn] at e1
      exact S.mem.wf n c' e1
    · have h1 : n = M.length := by
        have := (List.getElem?_eq_some_iff.mp e1).1
        simp at this; omega
      subst h1
      rw [List.getElem?_append_right (Nat.le_refl _)] at e1
      simp at e1
      subst e1
      exact hw
  · have e1 := S.pre n a e
    rw [List.getElem?_append_left (List.getElem?_eq_some_iff.mp e1).1]; exact e1
  · rcases List.mem_append.mp ha with z | z
    · exact S.new a z hn
    · simp only [List.mem_singleton, Option.some.injEq] at z; subst z
      cases q : G.He a with
      | none => rfl
      | some u => rw [(S.kp a u q (by simpa using hn)).1] at h; cases h
  · exact S.bad
  · obtain ⟨n1, u, q⟩ := S.hid a ha
    have hne := ne_of_none q h
    refine ⟨?_, u, by rw [upd_ne hne]; exact q⟩
    simp only [List.mem_append, List.mem_singleton, Option.some.injEq, not_or]; exact ⟨n1, hne⟩
/-- a changing object turns -/
theorem Sr.turned {n : Nat} {p : Addr} {o : HO} {c : Cell} (S : Sr K G δ M ι σ H) (hp : ι[n]? = some (some p)) (hc : RC K G.N (upd H p o) ι c p) (hw : c.wf n := by trivial) (ho : ObT H p o := by refine ObT.of (by assumption) ?_ ?_ <;> (intro C dx fs z; cases z)) : Sr K G δ (M.set n c) ι σ (upd H p o) := by
  have k := Kp.turned (H := H) (o := o) (List.mem_of_getElem? hp)
  refine ⟨S.len, fun i d e => ?_, ⟨by simp [S.mem.len], S.mem.nod, fun m c' a e1 e2 => ?_, fun m e => ?_, fun m c' e1 => ?_⟩, S.pre, S.kp.trans k, S.new, S.bad, fun a ha => ⟨(S.hid a ha).1, ?_⟩, S.obk.turn ho⟩
  · obtain ⟨v, e1, r⟩ := S.slot i d e
    exact ⟨v, e1, r.mono k (Ex.refl _) (fun _ _ _ _ z => z)⟩
  · by_cases hm : n = m
    · subst hm
      have hlt : n < M.length := by
        have := (List.getElem?_eq_some_iff.mp e1).1
        simpa using this
      rw [List.getElem?_set_self hlt] at e1
      cases e1
      rw [hp] at e2; cases e2
      exact hc
    · rw [List.getElem?_set_ne hm] at e1
      refine (S.mem.cell m c' a e1 e2).mono k (Ex.refl _) (fun _ _ _ _ z => z) (upd_ne ?_)
      rintro rfl
      exact hm (S.mem.nod _ _ _ hp e2)
  · by_cases hm : n = m
    · subst hm; rw [hp] at e; cases e
    · rw [List.getElem?_set_ne hm]; exact S.mem.gone m e
  · by_cases hm : n = m
    · subst hm
      have hlt : n < M.length := by
        have := (List.getElem?_eq_some_iff.mp e1).1
        simpa using this
      rw [List.getElem?_set_self hlt] at e1
      cases e1
      exact hw
    · rw [List.getElem?_set_ne hm] at e1
      exact S.mem.wf m c' e1
  · obtain ⟨n1, u, q⟩ := S.hid a ha
    refine ⟨u, ?_⟩
    rw [upd_ne (fun z => n1 (by rw [z]; exact List.mem_of_getElem? hp))]; exact q
theorem Sr.set {i : Nat} {d : Sv} {v : V} (S : Sr K G δ M ι σ H) (r : RS K G.N H ι d v) : Sr K G (δ.set i (some d)) M ι (σ.set i (some v)) H := by
  refine ⟨by simp [S.len], fun j d' e => ?_, S.mem, S.pre, S.kp, S.new, S.bad, S.hid, S.obk⟩
  by_cases hj : i = j
  · subst hj
    have hlt : i < δ.length := by
      have := (List.getElem?_eq_some_iff.mp e).1
      simpa using this
    rw [List.getElem?_set_self hlt] at e
    cases e
    exact ⟨v, by rw [List.getElem?_set_self (by rw [← S.len]; exact hlt)], r⟩
  · rw [List.getElem?_set_ne hj] at e
    obtain ⟨w, e1, r1⟩ := S.slot j d' e
    exact ⟨w, by rw [List.getElem?_set_ne hj]; exact e1, r1⟩
/-- names from k on are forgotten -/
def gcO (k : Nat) : Option Sv → Option Sv
  | some (.d x) => some (.d x)
  | some (.ref n) => if n < k then some (.ref n) else none
  | some (.bor ds) => some (.bor ds)
  | none => none
def gcS (k : Nat) (δ : DS) : DS := δ.map (gcO k)
theorem Sr.gc (S : Sr K G δ M ι σ H) (k : Nat) (hk : G.i0.length ≤ k) : Sr K G (gcS k δ) (M.take k) (ι.take k) σ H := by
  have kk := Kp.take (ι := ι) (H := H) k
  have tk : ∀ (n : Nat) (o : Option Addr), (ι.take k)[n]? = some o → ι[n]? = some o := fun n o e => by
    rw [List.getElem?_take] at e
    split at e
    · exact e
    · cases e
  refine ⟨by simp [gcS, S.len], fun i d e => ?_, ⟨by simp [S.mem.len], fun n m a e1 e2 => S.mem.nod n m a (tk _ _ e1) (tk _ _ e2), fun n c a e1 e2 => ?_, fun n e => ?_, fun n c e1 => ?_⟩, fun n a e => ?_, S.kp.trans kk, fun a ha hn => S.new a (List.mem_of_mem_take ha) hn, S.bad, fun a ha => ⟨fun z => (S.hid a ha).1 (List.mem_of_mem_take z), (S.hid a ha).2⟩, S.obk⟩
  · unfold gcS at e
    rw [List.getElem?_map] at e
    cases q : δ[i]? with
    | none => rw [q] at e; cases e
    | some o =>
      rw [q] at e
      cases o with
      | none => cases e
      | some w =>
        obtain ⟨v, e1, r⟩ := S.slot i w q
        cases w with
        | d x => cases e; exact ⟨v, e1, RD.mono kk (fun _ _ _ _ z => z) x v r⟩
        | bor ds =>
          cases e
          obtain ⟨a, xs, e2, q1, q2, q4, l, q3⟩ := r
          exact ⟨v, e1, a, xs, e2, q1, (kk a _ q1 q2).2, q4, l, q3.mono kk fun _ _ _ _ z => z⟩
        | ref n =>
          simp only [Option.map_some, gcO] at e
          split at e
          · rename_i hn
            cases e
            obtain ⟨a, e2, z⟩ := r
            refine ⟨v, e1, a, e2, ?_⟩
            rw [List.getElem?_take, if_pos hn]; exact z
          · cases e
  · rw [List.getElem?_take] at e1
    split at e1
    · rename_i hnk
      exact (S.mem.cell n c a e1 (tk _ _ e2)).taken kk (fun _ _ _ _ z => z) (S.mem.wf n c e1) hnk
    · cases e1
  · have h1 := (List.getElem?_eq_some_iff.mp e).1
    rw [List.getElem?_take, if_pos (by simp at h1; omega)]
    exact S.mem.gone n (tk _ _ e)
  · rw [List.getElem?_take] at e1
    split at e1
    · exact S.mem.wf n c e1
    · cases e1
  · have h1 := (List.getElem?_eq_some_iff.mp e).1
    rw [List.getElem?_take, if_pos (by omega)]
    exact S.pre n a e
end
abbrev QD := Sv → Mem → Prop
abbrev TE' := DS → Mem → QD → Prop
structure Ends' where
  nx : DS → Mem → Prop
  rt : Sv → Mem → Prop
  bk : DS → Mem → Prop := fun _ _ => False
  ct : DS → Mem → Prop := fun _ _ => False
abbrev TS' := Ends' → DS → Mem → Prop
def lE (K : PySem.W.Frag) (G : Gd) (t : TE') : TE := fun σ H Q => ∃ δ M ι Q0, Sr K G δ M ι σ H ∧ t δ M Q0 ∧
  ∀ d M' ι' H' v, Q0 d M' → Ex ι ι' → Kp ι H ι' H' → Sr K G δ M' ι' σ H' → RS K G.N H' ι' d v → Q v H'
structure EndsR (K : PySem.W.Frag) (G : Gd) (ι : Ix) (H : Hp) (E0 : Ends') (E : Ends) : Prop where
  nx : ∀ δ' M' ι' σ' H', E0.nx δ' M' → Ex ι ι' → Kp ι H ι' H' → Sr K G δ' M' ι' σ' H' → E.nx σ' H'
  rt : ∀ d δ' M' ι' σ' H' v, E0.rt d M' → Sr K G δ' M' ι' σ' H' → RS K G.N H' ι' d v → E.rt v H'
  bk : ∀ δ' M' ι' σ' H', E0.bk δ' M' → Ex ι ι' → Kp ι H ι' H' → Sr K G δ' M' ι' σ' H' → E.bk σ' H'
  ct : ∀ δ' M' ι' σ' H', E0.ct δ' M' → Ex ι ι' → Kp ι H ι' H' → Sr K G δ' M' ι' σ' H' → E.ct σ' H'
theorem EndsR.to {K : PySem.W.Frag} {G : Gd} {ι ι1 : Ix} {H H1 : Hp} {E0 : Ends'} {E : Ends} (z : EndsR K G ι H E0 E) (p : Ex ι ι1) (k : Kp ι H ι1 H1) : EndsR K G ι1 H1 E0 E :=
  ⟨fun δ' M' ι' σ' H' q p' k' S => z.nx δ' M' ι' σ' H' q (p.trans p') (k.trans k') S, z.rt, fun δ' M' ι' σ' H' q p' k' S => z.bk δ' M' ι' σ' H' q (p.trans p') (k.trans k') S,
    fun δ' M' ι' σ' H' q p' k' S => z.ct δ' M' ι' σ' H' q (p.trans p') (k.trans k') S⟩
def lS (K : PySem.W.Frag) (G : Gd) (t : TS') : TS := fun E σ H => ∃ δ M ι E0, Sr K G δ M ι σ H ∧ t E0 δ M ∧ EndsR K G ι H E0 E
abbrev VE (X : Cx) (G : Gd) (e : Expr) (t : TE') : Prop := PE X e (lE X.K G t)
abbrev VS (X : Cx) (G : Gd) (s : Stmt) (t : TS') : Prop := PS X s (lS X.K G t)
abbrev VSs (X : Cx) (G : Gd) (s : List Stmt) (t : TS') : Prop := PSs X s (lS X.K G t)
theorem PE.weak {X : Cx} {e : Expr} {t t' : TE} (h : PE X e t) (w : ∀ σ H Q, t' σ H Q → t σ H Q) : PE X e t' := ⟨fun pins s σ H Q I q => h.run pins s σ H Q I (w _ _ _ q)⟩
theorem PS.weak {X : Cx} {e : Stmt} {t t' : TS} (h : PS X e t) (w : ∀ D σ H, t' D σ H → t D σ H) : PS X e t' := ⟨fun pins s σ H Q I q => h.run pins s σ H Q I (w _ _ _ q)⟩
theorem PSs.weak {X : Cx} {e : List Stmt} {t t' : TS} (h : PSs X e t) (w : ∀ D σ H, t' D σ H → t D σ H) : PSs X e t' := ⟨fun pins s σ H Q I q => h.run pins s σ H Q I (w _ _ _ q)⟩
end VL
set_option Elab.async false
set_option linter.all false
set_option maxRecDepth 100000
set_option maxHeartbeats 4000000
namespace VL
open PySem PySem.Spec L2
abbrev PV := DS → Mem → Option Sv
abbrev TA' := DS → Mem → (List Sv → Mem → Prop) → Prop
def ok {α : Type} (o : Option α) (k : α → Prop) : Prop := match o with | some d => k d | none => False
theorem ok_some {α : Type} {d : α} {k : α → Prop} : ok (some d) k = k d := rfl
theorem ok_none {α : Type} {k : α → Prop} : ok none k = False := rfl
theorem ok_of {α : Type} {o : Option α} {d : α} {k : α → Prop} (e : o = some d) (h : k d) : ok o k := by subst e; exact h
theorem ok_elim {α : Type} {o : Option α} {k : α → Prop} (h : ok o k) : ∃ d, o = some d ∧ k d := by
  cases o with
  | none => exact h.elim
  | some d => exact ⟨d, rfl, h⟩
theorem ok_bind {α β : Type} {o : Option α} {f : α → Option β} {k : β → Prop} : ok (o.bind f) k = ok o fun d => ok (f d) k := by
  cases o <;> rfl
theorem ok_map {α β : Type} {o : Option α} {f : α → β} {k : β → Prop} : ok (o.map f) k = ok o fun d => k (f d) := by
  cases o <;> rfl
def eP (p : PV) : TE' := fun δ M Q => ok (p δ M) fun d => Q d M
def pArgs : List PV → DS → Mem → Option (List Sv)
  | [], _, _ => some []
  | p :: ps, δ, M => (p δ M).bind fun d => (pArgs ps δ M).map fun ds => d :: ds
def aP (ps : List PV) : TA' := fun δ M Q => ok (pArgs ps δ M) fun ds => Q ds M
def aNil : TA' := fun _ M Q => Q [] M
def aCons (t : TE') (r : TA') : TA' := fun δ M Q => t δ M fun d M1 => r δ M1 fun ds M2 => Q (d :: ds) M2
def lA (K : PySem.W.Frag) (G : Gd) (n : Nat) (t : TA') : TA := fun σ H Q => ∃ δ M ι Q0, Sr K G δ M ι σ H ∧ t δ M Q0 ∧
  ∀ ds M' ι' H' vs, ds.length = n → Q0 ds M' → Ex ι ι' → Kp ι H ι' H' → Sr K G δ M' ι' σ H' → RSs K G.N H' ι' ds vs → Q vs H'
abbrev VA (X : Cx) (G : Gd) (es : List Expr) (n : Nat) (t : TA') : Prop := PA X es (lA X.K G n t)
section
variable {X : Cx} {G : Gd} {e a b : Expr} {es : List Expr} {pos : Pos} {ta tb t : TE'} {p q : PV}
theorem VE.weak {t' : TE'} (h : VE X G e t) (w : ∀ δ M Q, t' δ M Q → t δ M Q) : VE X G e t' :=
  PE.weak h fun _ _ _ ⟨δ, M, ι, Q0, S, q, z⟩ => ⟨δ, M, ι, Q0, S, w _ _ _ q, z⟩
theorem VA.weak {n : Nat} {t t' : TA'} (h : VA X G es n t) (w : ∀ δ M Q, t' δ M Q → t δ M Q) : VA X G es n t' :=
  ⟨fun pos pins s σ H Q I ⟨δ, M, ι, Q0, S, q, z⟩ => h.run pos pins s σ H Q I ⟨δ, M, ι, Q0, S, w _ _ _ q, z⟩⟩
def pV (i : Nat) : PV := fun δ _ => (δ[i]?).join
theorem ve_var {i : Nat} {x : Str} (hN : X.N[i]? = some x) (hv : Vis X.env.scope x) (hd : (x == ("__debug__" : Str)) = false := by decide) (hcd : (x == ("__classdict__" : Str)) = false := by decide) : VE X G (.Name x pos) (eP (pV i)) := by
  refine PE.weak (pe_var hN hv hd hcd) fun σ H Q ⟨δ, M, ι, Q0, S, h, z⟩ => ?_
  obtain ⟨d, e1, h⟩ := ok_elim h
  have e2 : δ[i]? = some (some d) := by
    unfold pV at e1
    cases q : δ[i]? with
    | none => rw [q] at e1; cases e1
    | some o =>
      rw [q] at e1
      cases o with
      | none => cases e1
      | some u => cases e1; rfl
  obtain ⟨v, e3, r⟩ := S.slot i d e2
  exact ⟨v, e3, z d M ι H v h (Ex.refl _) (Kp.refl _ _) S r⟩
theorem ve_v (i : Nat) {x : Str} (hN : X.N[i]? = some x := by rfl) (hv : Vis X.env.scope x := by first | exact Or.inl rfl | exact Or.inr (Or.inl rfl) | exact Or.inr (Or.inr rfl)) (hd : (x == ("__debug__" : Str)) = false := by decide)
    (hcd : (x == ("__classdict__" : Str)) = false := by decide) : VE X G (.Name x pos) (eP (pV i)) := ve_var hN hv hd hcd
def pC (d : D) : PV := fun _ _ => some (.d d)
theorem ve_const {v : V} {d : D} (h : PE X e (tC v)) (r : ∀ K N H ι, RD K N H ι d v) : VE X G e (eP (pC d)) :=
  PE.weak h fun σ H Q ⟨δ, M, ι, Q0, S, h, z⟩ => z _ M ι H v h (Ex.refl _) (Kp.refl _ _) S (r _ _ _ _)
theorem ve_int {i j} : VE X G (.Constant (.int i) j pos) (eP (pC (.int i))) := ve_const pe_int fun _ _ _ _ => rfl
theorem ve_bl {i j} : VE X G (.Constant (.bool i) j pos) (eP (pC (.bl i))) := ve_const pe_bl fun _ _ _ _ => rfl
theorem ve_non {j} : VE X G (.Constant .none j pos) (eP (pC .non)) := ve_const pe_non fun _ _ _ _ => rfl
theorem ve_str {i j} : VE X G (.Constant (.str i) j pos) (eP (pC (.str i))) := ve_const pe_str fun _ _ _ _ => rfl
/-- a rule by values, read over data -/
def Rd2 (K : PySem.W.Frag) (r : R2) (f : Mem → Sv → Sv → Option Sv) : Prop := ∀ (G : Gd) (δ : DS) (M : Mem) (ι : Ix) (σ : L2.St) (H : Hp) (x y : Sv) (v u : V) (d : Sv), Sr K G δ M ι σ H → RS K G.N H ι x v → RS K G.N H ι y u → f M x y = some d →
  ∀ Q : VK, (∀ ι' H' w, Ex ι ι' → Kp ι H ι' H' → Sr K G δ M ι' σ H' → RS K G.N H' ι' d w → Q w H') → r v u H Q
def Rd1 (K : PySem.W.Frag) (r : V → Hp → VK → Prop) (f : Mem → Sv → Option Sv) : Prop := ∀ (G : Gd) (δ : DS) (M : Mem) (ι : Ix) (σ : L2.St) (H : Hp) (x : Sv) (v : V) (d : Sv), Sr K G δ M ι σ H → RS K G.N H ι x v → f M x = some d →
  ∀ Q : VK, (∀ ι' H' w, Ex ι ι' → Kp ι H ι' H' → Sr K G δ M ι' σ H' → RS K G.N H' ι' d w → Q w H') → r v H Q
def RdN (K : PySem.W.Frag) (r : List V → Hp → VK → Prop) (f : Mem → List Sv → Option Sv) : Prop := ∀ (G : Gd) (δ : DS) (M : Mem) (ι : Ix) (σ : L2.St) (H : Hp) (xs : List Sv) (vs : List V) (d : Sv), Sr K G δ M ι σ H → RSs K G.N H ι xs vs → f M xs = some d →
  ∀ Q : VK, (∀ ι' H' w, Ex ι ι' → Kp ι H ι' H' → Sr K G δ M ι' σ H' → RS K G.N H' ι' d w → Q w H') → r vs H Q
def eo1 (f : Mem → Sv → Option Sv) (ta : TE') : TE' := fun δ M Q => ta δ M fun x M1 => ok (f M1 x) fun d => Q d M1
def eo2 (f : Mem → Sv → Sv → Option Sv) (ta tb : TE') : TE' := fun δ M Q => ta δ M fun x M1 => tb δ M1 fun y M2 => ok (f M2 x y) fun d => Q d M2
def po1 (f : Mem → Sv → Option Sv) (a : PV) : PV := fun δ M => (a δ M).bind (f M)
def po2 (f : Mem → Sv → Sv → Option Sv) (a b : PV) : PV := fun δ M => (a δ M).bind fun x => (b δ M).bind fun y => f M x y
def eoN (f : Mem → List Sv → Option Sv) (t : TA') : TE' := fun δ M Q => t δ M fun xs M1 => ok (f M1 xs) fun d => Q d M1
def poN (f : Mem → List Sv → Option Sv) (ps : List PV) : PV := fun δ M => (pArgs ps δ M).bind (f M)
theorem VE.pure1 {f : Mem → Sv → Option Sv} (h : VE X G e (eo1 f (eP p))) : VE X G e (eP (po1 f p)) := h.weak fun δ M Q h => by
  unfold eP po1 at h; rw [ok_bind] at h; exact h
theorem VE.pure2 {f : Mem → Sv → Sv → Option Sv} (h : VE X G e (eo2 f (eP p) (eP q))) : VE X G e (eP (po2 f p q)) := h.weak fun δ M Q h => by
  unfold eP po2 at h
  rw [ok_bind] at h
  obtain ⟨d, e1, h⟩ := ok_elim h
  rw [ok_bind] at h
  exact ok_of e1 h
theorem VE.pureN {f : Mem → List Sv → Option Sv} {ps : List PV} (h : VE X G e (eoN f (aP ps))) : VE X G e (eP (poN f ps)) := h.weak fun δ M Q h => by
  unfold eP poN at h; rw [ok_bind] at h; exact h
/-- one value, then more -/
theorem th1 {K : PySem.W.Frag} {σ : L2.St} {H : Hp} {δ : DS} {M : Mem} {ι : Ix} {Q0 : QD} {R : VK} (S : Sr K G δ M ι σ H) (h : ta δ M Q0)
    (k : ∀ d M' ι' H' v, Q0 d M' → Ex ι ι' → Kp ι H ι' H' → Sr K G δ M' ι' σ H' → RS K G.N H' ι' d v → R v H') : lE K G ta σ H R := ⟨δ, M, ι, Q0, S, h, k⟩
theorem thA {K : PySem.W.Frag} {n : Nat} {tA : TA'} {σ : L2.St} {H : Hp} {δ : DS} {M : Mem} {ι : Ix} {Q0 : List Sv → Mem → Prop} {R : List V → Hp → Prop} (S : Sr K G δ M ι σ H) (h : tA δ M Q0)
    (k : ∀ d M' ι' H' v, d.length = n → Q0 d M' → Ex ι ι' → Kp ι H ι' H' → Sr K G δ M' ι' σ H' → RSs K G.N H' ι' d v → R v H') : lA K G n tA σ H R := ⟨δ, M, ι, Q0, S, h, k⟩
theorem fin2 {K : PySem.W.Frag} {r : R2} {f : Mem → Sv → Sv → Option Sv} (hf : Rd2 K r f) {σ : L2.St} {H : Hp} {Q : VK} (h : lE K G (eo2 f ta tb) σ H Q) : tOp r (lE K G ta) (lE K G tb) σ H Q := by
  obtain ⟨δ, M, ι, Q0, S, h, z⟩ := h
  refine th1 S h fun x M1 ι1 H1 v h1 p1 k1 S1 r1 => ?_
  refine th1 S1 h1 fun y M2 ι2 H2 u h2 p2 k2 S2 r2 => ?_
  obtain ⟨d, e, h2⟩ := ok_elim h2
  exact hf G δ M2 ι2 σ H2 x y v u d S2 (r1.mono k2 p2 (fun _ _ _ _ q => q)) r2 e Q fun ι3 H3 w p3 k3 S3 r3 => z d M2 ι3 H3 w h2 ((p1.trans p2).trans p3) ((k1.trans k2).trans k3) S3 r3
theorem fin1 {K : PySem.W.Frag} {r : V → Hp → VK → Prop} {f : Mem → Sv → Option Sv} (hf : Rd1 K r f) {σ : L2.St} {H : Hp} {Q : VK} (h : lE K G (eo1 f ta) σ H Q) : lE K G ta σ H fun v H1 => r v H1 Q := by
  obtain ⟨δ, M, ι, Q0, S, h, z⟩ := h
  refine th1 S h fun x M1 ι1 H1 v h1 p1 k1 S1 r1 => ?_
  obtain ⟨d, e, h1⟩ := ok_elim h1
  exact hf G δ M1 ι1 σ H1 x v d S1 r1 e Q fun ι3 H3 w p3 k3 S3 r3 => z d M1 ι3 H3 w h1 (p1.trans p3) (k1.trans k3) S3 r3
theorem finN {K : PySem.W.Frag} {n : Nat} {tA : TA'} {r : List V → Hp → VK → Prop} {f : Mem → List Sv → Option Sv} (hf : RdN K r f) {σ : L2.St} {H : Hp} {Q : VK} (h : lE K G (eoN f tA) σ H Q)   : lA K G n tA σ H fun v H1 => r v H1 Q := by
  obtain ⟨δ, M, ι, Q0, S, h, z⟩ := h
  refine thA S h fun x M1 ι1 H1 v hn h1 p1 k1 S1 r1 => ?_
  obtain ⟨d, e, h1⟩ := ok_elim h1
  exact hf G δ M1 ι1 σ H1 x v d S1 r1 e Q fun ι3 H3 w p3 k3 S3 r3 => z d M1 ι3 H3 w h1 (p1.trans p3) (k1.trans k3) S3 r3
theorem ve_bin {op : Operator} {r : R2} {f : Mem → Sv → Sv → Option Sv} (ho : OpR X (binaryOp op) r) (hf : Rd2 X.K r f) (ha : VE X G a ta) (hb : VE X G b tb) : VE X G (.BinOp a op b pos) (eo2 f ta tb) :=
  PE.weak (pe_op ho ha hb) fun σ H Q h => fin2 hf h
theorem ve_cmp {op : CmpOp} {r : R2} {f : Mem → Sv → Sv → Option Sv} (ho : OpR X (compareOp op) r) (hf : Rd2 X.K r f) (ha : VE X G a ta) (hb : VE X G b tb) (hm : behindInMarks op b = false) : VE X G (.Compare a [op] [b] pos) (eo2 f ta tb) :=
  PE.weak (pe_cmpR ho ha hb hm) fun σ H Q h => fin2 hf h
theorem ve_un {op : UnaryOp} {r : V → Hp → VK → Prop} {f : Mem → Sv → Option Sv} (ho : UnR X (unaryOp op) r) (hf : Rd1 X.K r f) (ha : VE X G a ta) : VE X G (.UnaryOp op a pos) (eo1 f ta) :=
  PE.weak (pe_un ho ha) fun σ H Q h => fin1 hf h
theorem ve_ix {r : R2} {f : Mem → Sv → Sv → Option Sv} (hr : IxR X r) (hf : Rd2 X.K r f) (ha : VE X G a ta) (hb : VE X G b tb) (hs : PlainIx b) : VE X G (.Subscript a b pos) (eo2 f ta tb) :=
  PE.weak (pe_ix hr ha hb hs) fun σ H Q h => fin2 hf h
theorem va_nil : VA X G [] 0 aNil := ⟨fun pos pins s σ H Q I ⟨δ, M, ι, Q0, S, h, z⟩ => pa_nil.run pos pins s σ H Q I (z [] M ι H [] rfl h (Ex.refl _) (Kp.refl _ _) S rfl)⟩
theorem va_cons {n : Nat} {tA : TA'} (ha : VE X G e ta) (hr : VA X G es n tA) (hs : starEach (e :: es) X.env = (false, eval e X.env) :: starEach es X.env := by rfl) : VA X G (e :: es) (n + 1) (aCons ta tA) := by
  refine ⟨fun pos pins s σ H Q I ⟨δ, M, ι, Q0, S, h, z⟩ => (pa_cons ha hr hs).run pos pins s σ H Q I ?_⟩
  refine th1 S h fun x M1 ι1 H1 v h1 p1 k1 S1 r1 => ?_
  refine thA S1 h1 fun y M2 ι2 H2 u hn h2 p2 k2 S2 r2 => ?_
  exact z _ M2 ι2 H2 _ (by rw [List.length_cons, hn]) h2 (p1.trans p2) (k1.trans k2) S2 ⟨v, u, rfl, r1.mono k2 p2 (fun _ _ _ _ q => q), r2⟩
theorem va_p0 : VA X G [] 0 (aP []) := va_nil.weak fun δ M Q h => h
theorem va_p {n : Nat} {ps : List PV} (ha : VE X G e (eP p)) (hr : VA X G es n (aP ps)) (hs : starEach (e :: es) X.env = (false, eval e X.env) :: starEach es X.env := by rfl) : VA X G (e :: es) (n + 1) (aP (p :: ps)) :=
  (va_cons ha hr hs).weak fun δ M Q h => by
    have h : ok (pArgs (p :: ps) δ M) fun ds => Q ds M := h
    unfold pArgs at h
    rw [ok_bind] at h
    obtain ⟨d, e1, h⟩ := ok_elim h
    rw [ok_map] at h
    exact ok_of e1 h
theorem ve_callB {x : Str} {id : String} {p : Pos} {n : Nat} {tA : TA'} {r : List V → Hp → VK → Prop} {f : Mem → List Sv → Option Sv} (hc : CallR X (.builtin id) r) (hf : RdN X.K r f) (hg : Gl X x) (hm : X.mg x = none) (hv : bootBuiltins x = some (.builtin id)) (ha : VA X G (e :: es) n tA) (hn : x ≠ "__name__" := by decide) (hdb : (x == ("__debug__" : Str)) = false := by decide)
    (he : starEach (e :: es) X.env = (false, eval e X.env) :: starEach es X.env := by rfl) (hpl : (backTo pos (starEach es X.env)).any (·.1) = false := by rfl) : VE X G (.Call (.Name x p) (e :: es) [] pos) (eoN f tA) :=
  PE.weak (pe_callB hc hg hm hv ha hn hdb he hpl) fun σ H Q h => finN hf h
theorem ve_callTy {x : Str} {T : String} {p : Pos} {n : Nat} {tA : TA'} {r : List V → Hp → VK → Prop} {f : Mem → List Sv → Option Sv} (hc : CallR X (.type T) r) (hf : RdN X.K r f) (hg : Gl X x) (hm : X.mg x = none) (hv : bootBuiltins x = some (.type T)) (ha : VA X G (e :: es) n tA) (hn : x ≠ "__name__" := by decide) (hdb : (x == ("__debug__" : Str)) = false := by decide)
    (he : starEach (e :: es) X.env = (false, eval e X.env) :: starEach es X.env := by rfl) (hpl : (backTo pos (starEach es X.env)).any (·.1) = false := by rfl) : VE X G (.Call (.Name x p) (e :: es) [] pos) (eoN f tA) :=
  PE.weak (pe_callTy hc hg hm hv ha hn hdb he hpl) fun σ H Q h => finN hf h
end
end VL
set_option Elab.async false
set_option linter.all false
set_option maxRecDepth 100000
set_option maxHeartbeats 4000000
namespace VL
open PySem PySem.Spec L2
def cellL : Option Cell → Option (List D)
  | some (.lst ds) => some ds
  | _ => none
theorem cellL_some {c : Option Cell} {ds : List D} (h : cellL c = some ds) : c = some (.lst ds) := by
  unfold cellL at h
  split at h
  · cases h; rfl
  · cases h
def seqD (M : Mem) : Sv → Option (List D)
  | .d (.lst ds) => some ds
  | .bor ds => some ds
  | .d (.tup ds) => some ds
  | .d (.scr ns) => some (ns.map D.int)
  | .ref n => cellL M[n]?
  | _ => none
section
variable {K : PySem.W.Frag} {G : Gd} {δ : DS} {M : Mem} {ι : Ix} {σ : L2.St} {H : Hp}
/-- a sequence's value and items -/
theorem seq_of {d : Sv} {v : V} {ds : List D} (S : Sr K G δ M ι σ H) (h : RS K G.N H ι d v) (e : seqD M d = some ds) : ∃ a xs, v = .ref a ∧ (SqL K H a xs ∨ SqT K H a xs) ∧ RDs K G.N H ι ds xs := by
  cases d with
  | ref n =>
    obtain ⟨a, e1, hn, xs, q, _, r⟩ := S.mem.at h (cellL_some (show cellL M[n]? = some ds from e)) (fun z => nomatch z)
    exact ⟨a, xs, e1, .inl (SqL.of q), r⟩
  | bor es =>
    cases e
    obtain ⟨a, xs, e1, q, n, _, _, r⟩ := h
    exact ⟨a, xs, e1, .inl (SqL.of q), r⟩
  | d d =>
    cases d with
    | lst es =>
      cases e
      obtain ⟨a, xs, e1, q, n, z, _, r⟩ := h
      exact ⟨a, xs, e1, .inl (SqL.of q), r⟩
    | tup es =>
      cases e
      obtain ⟨a, xs, e1, q, _, r⟩ := h
      exact ⟨a, xs, e1, .inr (tup_sq q), r⟩
    | scr ns =>
      cases e
      obtain ⟨a, e1, ⟨o, q, n⟩ | q, _⟩ := h
      · exact ⟨a, _, e1, .inl (.inl (.inr ⟨o, q⟩)), RDs.of_ints ns⟩
      · exact ⟨a, _, e1, .inl (.inr q), RDs.of_ints ns⟩
    | _ => cases e
theorem RDs.atI {ds : List D} {vs : List V} {i : Int} {d : D} (h : RDs K G.N H ι ds vs) (e : atI ds i = some d) : ∃ v, atI vs i = some v ∧ RD K G.N H ι d v := by
  unfold L2.atI at e ⊢
  rw [← h.length]
  cases q : ixN ds.length i with
  | none => rw [q] at e; cases e
  | some j => rw [q] at e; exact h.get e
theorem fin_same {d : Sv} {w : V} {Q : VK} (S : Sr K G δ M ι σ H) (z : ∀ ι' H' w, Ex ι ι' → Kp ι H ι' H' → Sr K G δ M ι' σ H' → RS K G.N H' ι' d w → Q w H') (r : RS K G.N H ι d w) : Q w H :=
  z ι H w (Ex.refl _) (Kp.refl _ _) S r
theorem RDs.laid {ds : List D} {xs : List V} {p : Addr} {o : HO} (r : RDs K G.N H ι ds xs) (hp : H p = none) : RDs K G.N (upd H p o) ι ds xs := r.mono (Kp.laid hp) fun _ _ _ _ q => q
theorem fin_tup {ds : List D} {xs : List V} {p : Addr} {Q : VK} (S : Sr K G δ M ι σ H) (z : ∀ ι' H' w, Ex ι ι' → Kp ι H ι' H' → Sr K G δ M ι' σ H' → RS K G.N H' ι' (.d (.tup ds)) w → Q w H') (r : RDs K G.N H ι ds xs) (hl : ds.length ≤ sizeLine) (hp : H p = none) : Q (.ref p) (upd H p (.tup xs)) :=
  z ι _ _ (Ex.refl _) (Kp.laid hp) (S.laid hp) ⟨p, xs, rfl, .inl ⟨upd_same, S.mem.fresh hp⟩, hl, r.laid hp⟩
theorem Sr.newN {p : Addr} {b : Bool} (S : Sr K G δ M ι σ H) (hp : H p = none) : G.N b p := by
  refine ⟨fun hh => ?_, fun _ hb => ?_⟩
  · obtain ⟨_, u, q⟩ := S.hid p hh
    rw [hp] at q; cases q
  · obtain ⟨u, q⟩ := S.bad p hb
    by_cases hi : p ∈ G.i0
    · obtain ⟨n, hn⟩ := List.getElem?_of_mem hi
      exact absurd (List.mem_of_getElem? (S.pre n p hn)) (S.mem.fresh hp)
    · rw [(S.kp p u q (by simpa using hi)).1] at hp; cases hp
theorem fin_lst {ds : List D} {xs : List V} {p : Addr} {Q : VK} (S : Sr K G δ M ι σ H) (z : ∀ ι' H' w, Ex ι ι' → Kp ι H ι' H' → Sr K G δ M ι' σ H' → RS K G.N H' ι' (.d (.lst ds)) w → Q w H') (r : RDs K G.N H ι ds xs) (hl : ds.length ≤ sizeLine) (hp : H p = none) : Q (.ref p) (upd H p (.lst xs)) :=
  z ι _ _ (Ex.refl _) (Kp.laid hp) (S.laid hp) ⟨p, xs, rfl, upd_same, S.mem.fresh hp, S.newN hp, hl, r.laid hp⟩
end
instance {i j : Int} : Decidable (CPow i j) := by unfold CPow; infer_instance
def gd {α : Type} (c : Prop) [Decidable c] (d : α) : Option α := if c then some d else none
theorem gd_pos {α : Type} {c : Prop} [Decidable c] {d : α} (h : c) : gd c d = some d := if_pos h
theorem gd_some {α : Type} {c : Prop} [Decidable c] {d e : α} (h : gd c d = some e) : c ∧ d = e := by
  unfold gd at h
  split at h
  · cases h; exact ⟨by assumption, rfl⟩
  · cases h
def addD (_ : Mem) : Sv → Sv → Option Sv
  | .d (.int i), .d (.int j) => some (.d (.int (i + j)))
  | .d (.str i), .d (.str j) => gd (i.length + j.length ≤ sizeLine) (.d (.str (i ++ j)))
  | .d (.tup a), .d (.tup b) => gd (a.length + b.length ≤ sizeLine) (.d (.tup (a ++ b)))
  | _, _ => none
def subD (_ : Mem) : Sv → Sv → Option Sv
  | .d (.int i), .d (.int j) => some (.d (.int (i - j)))
  | _, _ => none
abbrev MulOk (i j : Int) : Prop := (-(2 ^ 64) < i ∧ i < 2 ^ 64) ∨ (-(2 ^ 64) < j ∧ j < 2 ^ 64) ∨ i.natAbs.log2 + j.natAbs.log2 < 1000000
def mulD (_ : Mem) : Sv → Sv → Option Sv
  | .d (.int i), .d (.int j) => gd (MulOk i j) (.d (.int (i * j)))
  | _, _ => none
def fdivD (_ : Mem) : Sv → Sv → Option Sv
  | .d (.int i), .d (.int j) => gd (0 < j ∧ j.natAbs.log2 < 9000) (.d (.int (i / j)))
  | _, _ => none
def modD (_ : Mem) : Sv → Sv → Option Sv
  | .d (.int i), .d (.int j) => gd (0 < j) (.d (.int (i % j)))
  | _, _ => none
def powD (_ : Mem) : Sv → Sv → Option Sv
  | .d (.int i), .d (.int j) => gd (CPow i j) (.d (.int (i ^ j.toNat)))
  | _, _ => none
def shlD (_ : Mem) : Sv → Sv → Option Sv
  | .d (.int i), .d (.int j) => gd (CPow i j) (.d (.int (i * 2 ^ j.toNat)))
  | _, _ => none
def negD (_ : Mem) : Sv → Option Sv
  | .d (.int i) => some (.d (.int (-i)))
  | _ => none
section
variable {K : PySem.W.Frag} {X : Cx} {G : Gd} {e a b : Expr} {pos : Pos} {ta tb : TE'}
theorem rd_add : Rd2 K (fun x y H Q => (fun x y H Q => rI0 (fun i j => .int (i + j)) x y H Q ∨ (fun x y H Q => ∃ i j, x = .str i ∧ y = .str j ∧ i.length + j.length ≤ sizeLine ∧ Q (.str (i ++ j)) H) x y H Q) x y H Q ∨ rCatA K x y H Q) addD := by
  intro G δ M ι σ H x y v u d S rx ry e Q z
  unfold addD at e
  split at e
  · cases e; cases (show _ = _ from rx); cases (show _ = _ from ry)
    exact .inl (.inl ⟨_, _, rfl, rfl, fin_same S z rfl⟩)
  · obtain ⟨hc, rfl⟩ := gd_some e
    cases (show _ = _ from rx); cases (show _ = _ from ry)
    exact .inl (.inr ⟨_, _, rfl, rfl, hc, fin_same S z rfl⟩)
  · obtain ⟨hc, rfl⟩ := gd_some e
    obtain ⟨p, xs, rfl, qa, la, ra⟩ := id rx
    obtain ⟨p', ys, rfl, qb, lb, rb⟩ := id ry
    refine .inr ⟨p, p', xs, ys, rfl, rfl, tup_sq qa, tup_sq qb, by rw [← ra.length, ← rb.length]; exact hc, fun h => ?_, fun _ h => ?_, fun _ _ q hq => ?_⟩
    · subst h
      have hl := ra.length
      have : _ = [] := List.length_eq_zero_iff.mp (by simpa using hl)
      subst this
      exact fin_same S z ⟨p', ys, rfl, qb, by simpa using lb, by simpa using rb⟩
    · subst h
      have hl := rb.length
      have : _ = [] := List.length_eq_zero_iff.mp (by simpa using hl)
      subst this
      exact fin_same S z ⟨p, xs, rfl, qa, by simpa using la, by simpa using ra⟩
    · exact fin_tup S z (ra.append rb) (by rw [List.length_append]; exact hc) hq
  · cases e
theorem ve_add (ha : VE X G a ta) (hb : VE X G b tb) : VE X G (.BinOp a .Add b pos) (eo2 addD ta tb) := ve_bin ((op_add.or op_add_str).or op_catA) rd_add ha hb
theorem rd_int {C : Int → Int → Prop} {g : Int → Int → Int} {f : Mem → Sv → Sv → Option Sv} (hf : ∀ M x y d, f M x y = some d → ∃ i j, x = .d (.int i) ∧ y = .d (.int j) ∧ C i j ∧ d = .d (.int (g i j))) : Rd2 K (rI C fun i j => .int (g i j)) f := by
  intro G δ M ι σ H x y v u d S rx ry e Q z
  obtain ⟨i, j, rfl, rfl, hc, rfl⟩ := hf _ _ _ _ e
  cases (show _ = _ from rx); cases (show _ = _ from ry)
  exact ⟨_, _, rfl, rfl, hc, fin_same S z rfl⟩
theorem ve_sub (ha : VE X G a ta) (hb : VE X G b tb) : VE X G (.BinOp a .Sub b pos) (eo2 subD ta tb) := by
  refine ve_bin op_sub ?_ ha hb
  intro G δ M ι σ H x y v u d S rx ry e Q z
  unfold subD at e
  split at e
  · cases e; cases (show _ = _ from rx); cases (show _ = _ from ry)
    exact ⟨_, _, rfl, rfl, fin_same S z rfl⟩
  · cases e
theorem ve_mul (ha : VE X G a ta) (hb : VE X G b tb) : VE X G (.BinOp a .Mult b pos) (eo2 mulD ta tb) := by
  refine ve_bin (op_mul.or op_mulW) ?_ ha hb
  intro G δ M ι σ H x y v u d S rx ry e Q z
  unfold mulD at e
  split at e
  · obtain ⟨hc, rfl⟩ := gd_some e
    cases (show _ = _ from rx); cases (show _ = _ from ry)
    rcases hc with hc | hc | hc
    · exact .inl ⟨_, _, rfl, rfl, .inl hc, fin_same S z rfl⟩
    · exact .inl ⟨_, _, rfl, rfl, .inr hc, fin_same S z rfl⟩
    · exact .inr ⟨_, _, rfl, rfl, hc, fin_same S z rfl⟩
  · cases e
theorem ve_fdiv (ha : VE X G a ta) (hb : VE X G b tb) : VE X G (.BinOp a .FloorDiv b pos) (eo2 fdivD ta tb) := by
  refine ve_bin op_fdivW (rd_int fun M x y d e => ?_) ha hb
  unfold fdivD at e
  split at e
  · obtain ⟨hc, rfl⟩ := gd_some e; exact ⟨_, _, rfl, rfl, hc, rfl⟩
  · cases e
theorem ve_mod (ha : VE X G a ta) (hb : VE X G b tb) : VE X G (.BinOp a .Mod b pos) (eo2 modD ta tb) := by
  refine ve_bin op_mod (rd_int fun M x y d e => ?_) ha hb
  unfold modD at e
  split at e
  · obtain ⟨hc, rfl⟩ := gd_some e; exact ⟨_, _, rfl, rfl, hc, rfl⟩
  · cases e
theorem ve_pow (ha : VE X G a ta) (hb : VE X G b tb) : VE X G (.BinOp a .Pow b pos) (eo2 powD ta tb) := by
  refine ve_bin op_pow (rd_int fun M x y d e => ?_) ha hb
  unfold powD at e
  split at e
  · obtain ⟨hc, rfl⟩ := gd_some e; exact ⟨_, _, rfl, rfl, hc, rfl⟩
  · cases e
theorem ve_shl (ha : VE X G a ta) (hb : VE X G b tb) : VE X G (.BinOp a .LShift b pos) (eo2 shlD ta tb) := by
  refine ve_bin op_shl (rd_int fun M x y d e => ?_) ha hb
  unfold shlD at e
  split at e
  · obtain ⟨hc, rfl⟩ := gd_some e; exact ⟨_, _, rfl, rfl, hc, rfl⟩
  · cases e
theorem ve_neg (ha : VE X G a ta) : VE X G (.UnaryOp .USub a pos) (eo1 negD ta) := by
  refine ve_un un_neg ?_ ha
  intro G δ M ι σ H x v d S rx e Q z
  unfold negD at e
  split at e
  · cases e; cases (show _ = _ from rx)
    exact ⟨_, rfl, fin_same S z rfl⟩
  · cases e
def ixD (M : Mem) (x y : Sv) : Option Sv := match y with
  | .d (.int i) => (match x with
    | .d (.str s) => (gd (s.length ≤ sizeLine) ()).bind fun _ => (atI s.cps.toList i).map fun c => .d (.str ⟨#[c]⟩)
    | x => (seqD M x).bind fun ds => (atI ds i).map .d)
  | _ => none
theorem rd_ix : Rd2 K (rIx K) ixD := by
  intro G δ M ι σ H x y v u d S rx ry e Q z
  unfold ixD at e
  split at e
  · cases (show _ = _ from ry)
    split at e
    · rename_i s
      cases (show _ = _ from rx)
      cases hq : gd (s.length ≤ sizeLine) () with
      | none => rw [hq] at e; cases e
      | some _ =>
        rw [hq] at e
        obtain ⟨hc, _⟩ := gd_some hq
        cases ha : atI s.cps.toList _ with
        | none => rw [ha] at e; cases e
        | some c =>
          rw [ha] at e; cases e
          exact .inr (.inr ⟨_, _, c, rfl, rfl, hc, ha, fin_same S z rfl⟩)
    · cases hs : seqD M x with
      | none => rw [hs] at e; cases e
      | some ds =>
        rw [hs] at e
        obtain ⟨a, xs, rfl, q, r⟩ := seq_of S rx hs
        obtain ⟨d', ha, rfl⟩ := Option.map_eq_some_iff.mp (show (atI ds _).map Sv.d = some d from e)
        · obtain ⟨w, e3, r3⟩ := r.atI ha
          rcases q with q | q
          · exact .inl ⟨a, xs, _, w, rfl, rfl, q, e3, fin_same (d := .d d') S z r3⟩
          · exact .inr (.inl ⟨a, xs, _, w, rfl, rfl, q, e3, fin_same (d := .d d') S z r3⟩)
  · cases e
theorem ve_idx (ha : VE X G a ta) (hb : VE X G b tb) (hs : PlainIx b := by first | exact fun _ _ => rfl) : VE X G (.Subscript a b pos) (eo2 ixD ta tb) := ve_ix ix_seq rd_ix ha hb hs
end
end VL
set_option Elab.async false
set_option linter.all false
set_option maxRecDepth 100000
set_option maxHeartbeats 4000000
namespace VL
open PySem PySem.Spec L2
mutual
def py : D → PyData
  | .non => .none
  | .bl b => .bool b
  | .int i => .int i
  | .str s => .str s
  | .tup ds => .tuple (pys ds)
  | .lst ds => .list (pys ds)
  | .scr _ => .none
  | .fn _ => .none
  | .dn _ _ => .none
  | .dk _ _ => .none
  | .cls _ => .none
  | .exc _ _ => .none
  | .ty _ => .none
def pys : List D → List PyData
  | [] => []
  | d :: ds => py d :: pys ds
end
mutual
/-- data alone -/
def noR : D → Bool
  | .tup ds => noRs ds
  | .lst ds => noRs ds
  | .scr _ => false
  | .fn _ => false
  | .dn _ _ => false
  | .dk _ _ => false
  | .cls _ => false
  | .exc _ _ => false
  | .ty _ => false
  | .non => true
  | .bl _ => true
  | .int _ => true
  | .str _ => true
def noRs : List D → Bool
  | [] => true
  | d :: ds => noR d && noRs ds
end
mutual
def eqvD : D → D → Bool
  | .non, .non => true
  | .bl a, .bl b => a == b
  | .bl a, .int j => (if a then 1 else 0) == j
  | .int i, .bl b => i == (if b then 1 else 0)
  | .int i, .int j => i == j
  | .str a, .str b => a == b
  | .tup a, .tup b => eqvDs a b
  | .lst a, .lst b => eqvDs a b
  | _, _ => false
def eqvDs : List D → List D → Bool
  | [], [] => true
  | a :: as, b :: bs => eqvD a b && eqvDs as bs
  | _, _ => false
end
mutual
theorem eqv_py : ∀ (x y : D), noR x = true → noR y = true → PyData.eqv (py x) (py y) = eqvD x y
  | .non, y, _, hy => by cases y <;> simp_all [py, eqvD, PyData.eqv, noR]
  | .bl _, y, _, hy => by cases y <;> simp_all [py, eqvD, PyData.eqv, noR]
  | .int _, y, _, hy => by cases y <;> simp_all [py, eqvD, PyData.eqv, noR]
  | .str _, y, _, hy => by cases y <;> simp_all [py, eqvD, PyData.eqv, noR]
  | .scr _, _, hx, _ => by simp [noR] at hx
  | .fn _, _, hx, _ => by simp [noR] at hx
  | .dn _ _, _, hx, _ => by simp [noR] at hx
  | .dk _ _, _, hx, _ => by simp [noR] at hx
  | .cls _, _, hx, _ => by simp [noR] at hx
  | .exc _ _, _, hx, _ => by simp [noR] at hx
  | .ty _, _, hx, _ => by simp [noR] at hx
  | .tup a, y, hx, hy => by
    cases y with
    | tup b =>
      simp only [py, eqvD, PyData.eqv]
      exact eqvs_py a b (by simpa [noR] using hx) (by simpa [noR] using hy)
    | _ => first | (simp [noR] at hy; done) | simp [py, eqvD, PyData.eqv]
  | .lst a, y, hx, hy => by
    cases y with
    | lst b =>
      simp only [py, eqvD, PyData.eqv]
      exact eqvs_py a b (by simpa [noR] using hx) (by simpa [noR] using hy)
    | _ => first | (simp [noR] at hy; done) | simp [py, eqvD, PyData.eqv]
theorem eqvs_py : ∀ (x y : List D), noRs x = true → noRs y = true → PyData.eqvAll (pys x) (pys y) = eqvDs x y
  | [], [], _, _ => by simp [pys, eqvDs, PyData.eqvAll]
  | [], _ :: _, _, _ => by simp [pys, eqvDs, PyData.eqvAll]
  | _ :: _, [], _, _ => by simp [pys, eqvDs, PyData.eqvAll]
  | a :: as, b :: bs, hx, hy => by
    simp only [noRs, Bool.and_eq_true] at hx hy
    simp only [pys, eqvDs, PyData.eqvAll, eqv_py a b hx.1 hy.1, eqvs_py as bs hx.2 hy.2]
end
/-- the top resolved -/
def rsv (M : Mem) : Sv → D
  | .ref n => match cellL M[n]? with
    | some ds => .lst ds
    | none => .ty ""
  | .bor ds => .lst ds
  | .d d => d
/-- data that == may look at -/
def okE (d : D) : Bool := noR d && SeqAt.shaped (py d)
def atomD : D → Bool
  | .non => true | .bl _ => true | .int _ => true | .str _ => true | _ => false
def eqD (M : Mem) : Sv → Sv → Option Sv
  | .d (.int i), .d (.int j) => some (.d (.bl (decide (i = j))))
  | .d (.str i), .d (.str j) => some (.d (.bl (decide (i = j))))
  | .d (.bl i), .d (.bl j) => some (.d (.bl (decide (i = j))))
  | .d .non, .d .non => some (.d (.bl true))
  | .d (.int _), .d (.str _) => some (.d (.bl false))
  | .d (.str _), .d (.int _) => some (.d (.bl false))
  | x, y => gd (okE (rsv M x) = true ∧ okE (rsv M y) = true) (.d (.bl (eqvD (rsv M x) (rsv M y))))
def notD : Sv → Sv
  | .d (.bl b) => .d (.bl (!b))
  | d => d
def neD (M : Mem) (x y : Sv) : Option Sv := (eqD M x y).map notD
section
variable {K : PySem.W.Frag} {G : Gd} {δ : DS} {M : Mem} {ι : Ix} {σ : L2.St} {H : Hp} {N : Bool → Addr → Prop}
mutual
theorem RD.dp : ∀ (d : D) (v : V), RD K N H ι d v → noR d = true → Dp K H v (py d)
  | .non, _, h, _ => by cases (show _ = _ from h); exact .non
  | .bl _, _, h, _ => by cases (show _ = _ from h); exact .bl _
  | .int _, _, h, _ => by cases (show _ = _ from h); exact .int _
  | .str _, _, h, _ => by cases (show _ = _ from h); exact .str _
  | .scr _, _, _, h => by simp [noR] at h
  | .fn _, _, _, h => by simp [noR] at h
  | .dn _ _, _, _, h => by simp [noR] at h
  | .dk _ _, _, _, h => by simp [noR] at h
  | .cls _, _, _, h => by simp [noR] at h
  | .exc _ _, _, _, h => by simp [noR] at h
  | .ty _, _, _, h => by simp [noR] at h
  | .tup ds, _, h, n => by
    obtain ⟨a, xs, rfl, q, _, r⟩ := h
    simp only [py]
    exact .tup (tup_sq q) (RDs.dp ds xs r (by simpa [noR] using n))
  | .lst ds, _, h, n => by
    obtain ⟨a, xs, rfl, q, _, _, _, r⟩ := h
    simp only [py]
    exact .lst (SqL.of q) (RDs.dp ds xs r (by simpa [noR] using n))
theorem RDs.dp : ∀ (ds : List D) (vs : List V), RDs K N H ι ds vs → noRs ds = true → DpAll K H vs (pys ds)
  | [], _, h, _ => by cases (show _ = _ from h); simp only [pys]; exact .nil
  | d :: ds, _, h, n => by
    obtain ⟨x, r, rfl, h1, h2⟩ := h
    simp only [noRs, Bool.and_eq_true] at n
    simp only [pys]
    exact .cons (RD.dp d x h1 n.1) (RDs.dp ds r h2 n.2)
end
theorem rsv_dp {d : Sv} {v : V} (S : Sr K G δ M ι σ H) (h : RS K G.N H ι d v) (n : noR (rsv M d) = true) : Dp K H v (py (rsv M d)) := by
  cases d with
  | ref k =>
    unfold rsv at n ⊢
    cases q : cellL M[k]? with
    | none => simp only [q] at n; simp [noR] at n
    | some ds =>
      simp only [q] at n ⊢
      obtain ⟨a, rfl, hn, xs, hH, _, r⟩ := S.mem.at h (cellL_some q) (fun z => nomatch z)
      simp only [py]
      exact .lst (SqL.of hH) (RDs.dp ds xs r (by simpa [noR] using n))
  | bor ds =>
    obtain ⟨a, xs, rfl, q, _, _, _, r⟩ := h
    simp only [rsv, py]
    exact .lst (SqL.of q) (RDs.dp ds xs r (by simpa [rsv, noR] using n))
  | d d => exact RD.dp _ v h n
theorem okE_and {d : D} (h : okE d = true) : noR d = true ∧ SeqAt.shaped (py d) = true := by
  unfold okE at h; simpa using h
def rEqX (K : PySem.W.Frag) : R2 := fun x y H Q => (rEq x y H Q) ∨ rEqD K x y H Q
theorem rd_eq : Rd2 K (rEqX K) eqD := by
  intro G δ M ι σ H x y v u d S rx ry e Q z
  unfold eqD at e
  split at e
  · cases e; cases (show _ = _ from rx); cases (show _ = _ from ry)
    refine .inl ⟨rfl, fin_same S z ?_⟩
    show _ = _; simp
  · cases e; cases (show _ = _ from rx); cases (show _ = _ from ry)
    refine .inl ⟨rfl, fin_same S z ?_⟩
    show _ = _; simp
  · cases e; cases (show _ = _ from rx); cases (show _ = _ from ry)
    refine .inl ⟨rfl, fin_same S z ?_⟩
    show _ = _; simp
  · cases e; cases (show _ = _ from rx); cases (show _ = _ from ry)
    exact .inl ⟨rfl, fin_same S z rfl⟩
  · cases e; cases (show _ = _ from rx); cases (show _ = _ from ry)
    exact .inl ⟨rfl, fin_same S z rfl⟩
  · cases e; cases (show _ = _ from rx); cases (show _ = _ from ry)
    exact .inl ⟨rfl, fin_same S z rfl⟩
  · obtain ⟨⟨hx, hy⟩, rfl⟩ := gd_some e
    obtain ⟨nx, sx⟩ := okE_and hx
    obtain ⟨ny, sy⟩ := okE_and hy
    exact .inr ⟨_, _, rsv_dp S rx nx, rsv_dp S ry ny, sx, sy, fin_same S z (by rw [eqv_py _ _ nx ny]; rfl)⟩
def rNeX (K : PySem.W.Frag) : R2 := fun x y H Q => (rNe x y H Q) ∨ rNeD K x y H Q
theorem eqD_bl {x y d : Sv} (h : eqD M x y = some d) : ∃ b, d = .d (.bl b) := by
  unfold eqD at h
  split at h
  all_goals first | (cases h; exact ⟨_, rfl⟩) | (obtain ⟨_, rfl⟩ := gd_some h; exact ⟨_, rfl⟩)
theorem rd_ne : Rd2 K (rNeX K) neD := by
  intro G δ M ι σ H x y v u d S rx ry e Q z
  unfold neD at e
  cases q : eqD M x y with
  | none => rw [q] at e; cases e
  | some d' =>
    rw [q] at e
    obtain ⟨b, rfl⟩ := eqD_bl q
    have hd : d = .d (.bl (!b)) := by simpa [notD] using e.symm
    subst hd
    unfold eqD at q
    split at q
    · cases q; cases (show _ = _ from rx); cases (show _ = _ from ry)
      refine .inl ⟨rfl, fin_same S z ?_⟩
      show _ = _; simp
    · cases q; cases (show _ = _ from rx); cases (show _ = _ from ry)
      refine .inl ⟨rfl, fin_same S z ?_⟩
      show _ = _; simp
    · cases q; cases (show _ = _ from rx); cases (show _ = _ from ry)
      refine .inl ⟨rfl, fin_same S z ?_⟩
      show _ = _; simp
    · cases q; cases (show _ = _ from rx); cases (show _ = _ from ry)
      exact .inl ⟨rfl, fin_same S z rfl⟩
    · cases q; cases (show _ = _ from rx); cases (show _ = _ from ry)
      exact .inl ⟨rfl, fin_same S z rfl⟩
    · cases q; cases (show _ = _ from rx); cases (show _ = _ from ry)
      exact .inl ⟨rfl, fin_same S z rfl⟩
    · obtain ⟨⟨hx, hy⟩, hq⟩ := gd_some q
      cases hq
      obtain ⟨nx, sx⟩ := okE_and hx
      obtain ⟨ny, sy⟩ := okE_and hy
      exact .inr ⟨_, _, rsv_dp S rx nx, rsv_dp S ry ny, sx, sy, fin_same S z (by rw [eqv_py _ _ nx ny]; rfl)⟩
end
end VL
set_option Elab.async false
set_option linter.all false
set_option maxRecDepth 100000
set_option maxHeartbeats 4000000
namespace VL
open PySem PySem.Spec L2
def ltD (_ : Mem) : Sv → Sv → Option Sv
  | .d (.int i), .d (.int j) => some (.d (.bl (decide (i < j))))
  | _, _ => none
def leD (_ : Mem) : Sv → Sv → Option Sv
  | .d (.int i), .d (.int j) => some (.d (.bl (decide (i ≤ j))))
  | _, _ => none
def gtD (_ : Mem) : Sv → Sv → Option Sv
  | .d (.int i), .d (.int j) => some (.d (.bl (decide (j < i))))
  | _, _ => none
def geD (_ : Mem) : Sv → Sv → Option Sv
  | .d (.int i), .d (.int j) => some (.d (.bl (decide (j ≤ i))))
  | _, _ => none
def isTupD : Sv → Bool
  | .d (.tup _) => true
  | _ => false
def inL (M : Mem) (x y : Sv) : Option Bool := match x with
  | .d x => (seqD M y).bind fun ds => gd ((atomD x = true ∧ ds.all atomD = true) ∨ (okE x = true ∧ isTupD y = false ∧ okE (.lst ds) = true)) (ds.any fun z => eqvD z x)
  | _ => none
def blS (b : Bool) : Sv := .d (.bl b)
def inD (M : Mem) (x y : Sv) : Option Sv := (inL M x y).map blS
def nonB : Sv → Bool
  | .d .non => true
  | _ => false
def isD (_ : Mem) : Sv → Sv → Option Sv
  | x, .d .non => some (.d (.bl (nonB x)))
  | .d (.bl a), .d (.bl b) => some (.d (.bl (decide (a = b))))
  | _, _ => none
def isntD (_ : Mem) : Sv → Sv → Option Sv
  | x, .d .non => some (.d (.bl (!nonB x)))
  | .d (.bl a), .d (.bl b) => some (.d (.bl (!decide (a = b))))
  | _, _ => none
section
variable {K : PySem.W.Frag} {X : Cx} {G : Gd} {e a b : Expr} {es : List Expr} {pos : Pos} {ta tb : TE'} {N : Bool → Addr → Prop} {H : Hp} {ι : Ix}
theorem rd_cmpI {g : Int → Int → Bool} {f : Mem → Sv → Sv → Option Sv} (hf : ∀ M x y d, f M x y = some d → ∃ i j, x = .d (.int i) ∧ y = .d (.int j) ∧ d = .d (.bl (g i j))) : Rd2 K (rI0 fun i j => .bl (g i j)) f := by
  intro G δ M ι σ H x y v u d S rx ry e Q z
  obtain ⟨i, j, rfl, rfl, rfl⟩ := hf _ _ _ _ e
  cases (show _ = _ from rx); cases (show _ = _ from ry)
  exact ⟨_, _, rfl, rfl, fin_same S z rfl⟩
theorem rd_lt : Rd2 K (rI0 fun i j => .bl (decide (i < j))) ltD := rd_cmpI fun M x y d e => by
  unfold ltD at e
  split at e
  · cases e; exact ⟨_, _, rfl, rfl, rfl⟩
  · cases e
theorem rd_gt : Rd2 K (rI0 fun i j => .bl (decide (j < i))) gtD := rd_cmpI fun M x y d e => by
  unfold gtD at e
  split at e
  · cases e; exact ⟨_, _, rfl, rfl, rfl⟩
  · cases e
theorem rd_ge : Rd2 K (rI0 fun i j => .bl (decide (j ≤ i))) geD := rd_cmpI fun M x y d e => by
  unfold geD at e
  split at e
  · cases e; exact ⟨_, _, rfl, rfl, rfl⟩
  · cases e
theorem atom_flat {d : D} {v : V} (h : RD K N H ι d v) (a : atomD d = true) : flatV v = true := by
  cases d with
  | non => cases (show _ = _ from h); rfl
  | bl b => cases (show _ = _ from h); rfl
  | int b => cases (show _ = _ from h); rfl
  | str b => cases (show _ = _ from h); rfl
  | _ => cases (show false = true from a)
theorem atom_eqV {d d' : D} {v v' : V} (h : RD K N H ι d v) (h' : RD K N H ι d' v') (a : atomD d = true) (a' : atomD d' = true) : eqV v v' = eqvD d d' := by
  cases d with
  | non => cases (show _ = _ from h); cases d' <;> first | (cases (show false = true from a')) | (cases (show _ = _ from h'); rfl)
  | bl b => cases (show _ = _ from h); cases d' <;> first | (cases (show false = true from a')) | (cases (show _ = _ from h'); rfl)
  | int b => cases (show _ = _ from h); cases d' <;> first | (cases (show false = true from a')) | (cases (show _ = _ from h'); rfl)
  | str b => cases (show _ = _ from h); cases d' <;> first | (cases (show false = true from a')) | (cases (show _ = _ from h'); rfl)
  | _ => cases (show false = true from a)
theorem atoms_in {x : D} {v : V} (hx : RD K N H ι x v) (ax : atomD x = true) : ∀ {ds : List D} {vs : List V}, RDs K N H ι ds vs → ds.all atomD = true → vs.all flatV = true ∧ inV v vs = ds.any fun z => eqvD z x
  | [], _, h, _ => by cases (show _ = _ from h); exact ⟨rfl, rfl⟩
  | d :: ds, _, h, a => by
    obtain ⟨y, r, rfl, h1, h2⟩ := h
    rw [List.all_cons, Bool.and_eq_true] at a
    obtain ⟨i1, i2⟩ := atoms_in hx ax h2 a.2
    refine ⟨by rw [List.all_cons, atom_flat h1 a.1, i1]; rfl, ?_⟩
    unfold inV at i2 ⊢
    rw [List.any_cons, List.any_cons, i2, atom_eqV h1 hx a.1 ax]
def rInX (K : PySem.W.Frag) (neg : Bool) : R2 := fun x y H Q => rIn K neg x y H Q ∨ (if neg then rNotInD K else rInD K) x y H Q
theorem any_py {x : D} (nx : noR x = true) : ∀ {ds : List D}, noRs ds = true → (pys ds).any (fun z => PyData.eqv z (py x)) = ds.any fun z => eqvD z x
  | [], _ => by simp [pys]
  | d :: ds, h => by
    simp only [noRs, Bool.and_eq_true] at h
    simp only [pys, List.any_cons, any_py nx h.2, eqv_py d x h.1 nx]
theorem inL_rd {neg : Bool} {δ : DS} {M : Mem} {σ : L2.St} {x y : Sv} {v u : V} {c : Bool} {Q : VK} (S : Sr K G δ M ι σ H) (rx : RS K G.N H ι x v) (ry : RS K G.N H ι y u) (e : inL M x y = some c) (q : Q (.bl (if neg then !c else c)) H) : rInX K neg v u H Q := by
  cases x with
  | ref n => cases e
  | bor n => cases e
  | d x =>
  simp only [inL] at e
  cases hs : seqD M y with
  | none => rw [hs] at e; cases e
  | some ds =>
    rw [hs] at e
    obtain ⟨hc, hb⟩ := gd_some (show gd _ _ = some c from e)
    obtain ⟨a, xs, rfl, hq, r⟩ := seq_of S ry hs
    rcases hc with ⟨ax, ads⟩ | ⟨ox, ty, ods⟩
    · obtain ⟨f1, f2⟩ := atoms_in (show RD K G.N H ι x v from rx) ax r ads
      refine .inl ⟨a, xs, rfl, hq, atom_flat (show RD K G.N H ι x v from rx) ax, f1, ?_⟩
      rw [f2, hb]; exact q
    · obtain ⟨nx, sx⟩ := okE_and ox
      obtain ⟨ny, sy⟩ := okE_and ods
      simp only [noR] at ny
      have hl : Dp K H (.ref a) (.list (pys ds)) := by
        cases y with
        | ref n =>
          obtain ⟨a', e1, hn, xs', hH, _, r'⟩ := S.mem.at ry (cellL_some (show cellL M[n]? = some ds from hs)) (fun z => nomatch z)
          cases e1
          exact .lst (SqL.of hH) (RDs.dp ds xs' r' ny)
        | bor es =>
          cases hs
          obtain ⟨a', xs', e1, hH, _, _, _, r'⟩ := ry
          cases e1
          exact .lst (SqL.of hH) (RDs.dp ds xs' r' ny)
        | d y =>
          cases y with
          | tup es => cases (show true = false from ty)
          | lst es => cases hs; exact RD.dp (.lst _) _ ry (by simpa [noR] using ny)
          | scr ns =>
            cases hs
            obtain ⟨a', e1, q', _⟩ := ry
            cases e1
            have hsq : SqL K H a (ns.map V.int) := by
              rcases q' with ⟨o, q', _⟩ | q'
              · exact .inl (.inr ⟨o, q'⟩)
              · exact .inr q'
            exact .lst hsq (RDs.dp (N := G.N) (ι := ι) _ _ (RDs.of_ints ns) ny)
          | _ => cases hs
      have hq' : Q (.bl (if neg then !((pys ds).any fun z => PyData.eqv z (py x)) else (pys ds).any fun z => PyData.eqv z (py x))) H := by
        rw [any_py nx ny, hb]; exact q
      refine .inr ?_
      cases neg with
      | false => exact ⟨_, _, RD.dp x v rx nx, hl, sx, by simpa [py] using sy, hq'⟩
      | true => exact ⟨_, _, RD.dp x v rx nx, hl, sx, by simpa [py] using sy, hq'⟩
theorem rd_in : Rd2 K (rInX K false) inD := by
  intro G δ M ι σ H x y v u d S rx ry e Q z
  unfold inD at e
  cases q : inL M x y with
  | none => rw [q] at e; cases e
  | some c => rw [q] at e; cases e; exact inL_rd S rx ry q (fin_same S z rfl)
theorem op_inX (hu : X.A.units + 65 < cLine) : OpR X (compareOp .In) (rInX X.K false) := op_in_seq.or (op_inD hu)
theorem op_eqX (hu : X.A.units + 64 < cLine) : OpR X (compareOp .Eq) (rEqX X.K) := op_eq.or (op_eqD hu)
theorem op_neX (hu : X.A.units + 64 < cLine) : OpR X (compareOp .NotEq) (rNeX X.K) := op_ne.or (op_neD hu)
theorem nonB_of {d : Sv} {v : V} (h : RS K N H ι d v) : decide (v = .non) = nonB d := by
  cases d with
  | ref n => obtain ⟨a, rfl, _⟩ := h; rfl
  | bor ds => obtain ⟨a, xs, rfl, _⟩ := h; rfl
  | d d =>
  cases d with
  | non => cases (show _ = _ from h); rfl
  | bl b => cases (show _ = _ from h); rfl
  | int b => cases (show _ = _ from h); rfl
  | str b => cases (show _ = _ from h); rfl
  | fn b => cases (show _ = _ from h); rfl
  | dn ks ds => obtain ⟨a, xs, o, rfl, _⟩ := h; rfl
  | dk ks ds => obtain ⟨a, xs, o, rfl, _⟩ := h; rfl
  | cls n => cases (show _ = _ from h); rfl
  | exc n f => obtain ⟨a, oe, vs, rfl, _⟩ := h; rfl
  | ty b => cases (show _ = _ from h); rfl
  | tup ds => obtain ⟨a, xs, rfl, _⟩ := h; rfl
  | lst ds => obtain ⟨a, xs, rfl, _⟩ := h; rfl
  | scr ds => obtain ⟨a, rfl, _⟩ := h; rfl
def rIsX : R2 := fun x y H Q => (y = .non ∧ Q (.bl (decide (x = .non))) H) ∨ rIsB x y H Q
theorem op_isX : OpR X (compareOp .Is) rIsX := op_isN.or op_isBl
theorem rd_is : Rd2 K rIsX isD := by
  intro G δ M ι σ H x y v u d S rx ry e Q z
  unfold isD at e
  split at e
  · cases e; cases (show _ = _ from ry)
    refine .inl ⟨rfl, ?_⟩
    rw [nonB_of rx]; exact fin_same S z rfl
  · cases e; cases (show _ = _ from rx); cases (show _ = _ from ry)
    exact .inr ⟨_, _, rfl, rfl, fin_same S z rfl⟩
  · cases e
end
def tyN (M : Mem) : Sv → Option String
  | .d .non => some "NoneType"
  | .d (.bl _) => some "bool"
  | .d (.int _) => some "int"
  | .d (.str _) => some "str"
  | .d (.tup _) => some "tuple"
  | .d (.lst _) => some "list"
  | .bor _ => some "list"
  | .d (.scr _) => some "list"
  | .ref n => match M[n]? with
    | some (.lst _) => some "list"
    | some (.dk _) => some "dict"
    | _ => none
  | _ => none
/-- whether a thing of the first type is one of the second -/
def subT (a t : String) : Bool := decide (a = t) || (decide (a = "bool") && decide (t = "int"))
def known (t : String) : Bool := decide (t = "int") || decide (t = "bool") || decide (t = "str") || decide (t = "tuple") || decide (t = "list") || decide (t = "dict")
def isiD (M : Mem) : List Sv → Option Sv
  | [x, .d (.ty t)] => (tyN M x).bind fun a => gd (known t = true) (.d (.bl (subT a t)))
  | [x, .d (.tup [.ty t, .ty u])] => (tyN M x).bind fun a => gd (known t = true ∧ known u = true) (.d (.bl (subT a t || subT a u)))
  | _ => none
section
variable {K : PySem.W.Frag} {X : Cx} {G : Gd} {e a b : Expr} {es : List Expr} {pos : Pos} {ta tb : TE'} {N : Bool → Addr → Prop} {H : Hp} {ι : Ix}
theorem kit_all : ∀ a ∈ ["NoneType", "bool", "int", "str", "tuple", "list", "dict"], ∀ t ∈ ["int", "bool", "str", "tuple", "list", "dict"], kitB a t = some (subT a t) := by decide +kernel
theorem known_mem {t : String} (h : known t = true) : t ∈ ["int", "bool", "str", "tuple", "list", "dict"] := by
  unfold known at h
  simp only [Bool.or_eq_true, decide_eq_true_eq] at h
  simp only [List.mem_cons, List.not_mem_nil, or_false]
  rcases h with ((((h | h) | h) | h) | h) | h <;> simp [h]
theorem ty_of {δ : DS} {M : Mem} {σ : L2.St} {d : Sv} {v : V} {t : String} (S : Sr K G δ M ι σ H) (h : RS K G.N H ι d v) (e : tyN M d = some t) : TyX K H v (.type t) ∧ t ∈ ["NoneType", "bool", "int", "str", "tuple", "list", "dict"] := by
  cases d with
  | ref n =>
    simp only [tyN] at e
    split at e
    · rename_i ds hM
      cases e
      obtain ⟨a, rfl, hn, xs, q, _⟩ := S.mem.at h hM (fun z => nomatch z)
      exact ⟨.base (.lst q), by decide⟩
    · rename_i ds hM
      cases e
      obtain ⟨a, rfl, hn, xs, q, _⟩ := S.mem.at h hM (fun z => nomatch z)
      exact ⟨.base (.dK q), by decide⟩
    · cases e
  | bor ds => cases e; obtain ⟨a, xs, rfl, q, _⟩ := h; exact ⟨.base (.lst q), by decide⟩
  | d d =>
  cases d with
  | non => cases e; cases (show _ = _ from h); exact ⟨.base .non, by decide⟩
  | bl b => cases e; cases (show _ = _ from h); exact ⟨.base (.bl _), by decide⟩
  | int b => cases e; cases (show _ = _ from h); exact ⟨.base (.int _), by decide⟩
  | str b => cases e; cases (show _ = _ from h); exact ⟨.base (.str _), by decide⟩
  | tup ds =>
    cases e
    obtain ⟨a, xs, rfl, q, _⟩ := h
    rcases q with ⟨q, _⟩ | ⟨o, its, n, q, hc, _⟩
    · exact ⟨.base (.tup q), by decide⟩
    · exact ⟨.kTuple q hc, by decide⟩
  | lst ds => cases e; obtain ⟨a, xs, rfl, q, _⟩ := h; exact ⟨.base (.lst q), by decide⟩
  | scr ns =>
    cases e
    obtain ⟨a, rfl, ⟨o, q, _⟩ | ⟨o, its, n, q, hc, _⟩, _⟩ := h
    · exact ⟨.base (.frz q), by decide⟩
    · exact ⟨.kList q hc, by decide⟩
  | fn b => cases e
  | dn ks ds => cases e
  | dk ks ds => cases e
  | cls n => cases e
  | exc n f => cases e
  | ty b => cases e
theorem rd_isi : RdN K (fun xs H Q => (fun xs H Q => rIsi K xs H Q ∨ rIsiT K xs H Q) xs H Q ∨ rIsiK K xs H Q) isiD := by
  intro G δ M ι σ H xs vs d S rx e Q z
  unfold isiD at e
  split at e
  · rename_i x t
    obtain ⟨v, r, rfl, h1, h2⟩ := rx
    obtain ⟨u, r', rfl, h3, h4⟩ := h2
    cases (show _ = _ from h3); cases (show _ = _ from h4)
    cases q : tyN M x with
    | none => rw [q] at e; cases e
    | some a =>
      rw [q] at e
      obtain ⟨hc, rfl⟩ := gd_some (show gd _ _ = some d from e)
      obtain ⟨h5, h6⟩ := ty_of S h1 q
      exact .inl (.inl ⟨v, .ty t, _, _, _, rfl, .ty t, h5, kit_ty (kit_all a h6 t (known_mem hc)), fin_same S z rfl⟩)
  · rename_i x t u
    obtain ⟨v, r, rfl, h1, h2⟩ := rx
    obtain ⟨w, r', rfl, h3, h4⟩ := h2
    cases (show _ = _ from h4)
    obtain ⟨tp, cs, rfl, hq, _, h7⟩ := h3
    obtain ⟨c1, r1, rfl, h8, h9⟩ := h7
    obtain ⟨c2, r2, rfl, h10, h11⟩ := h9
    cases (show _ = _ from h11); cases (show _ = _ from h8); cases (show _ = _ from h10)
    cases q : tyN M x with
    | none => rw [q] at e; cases e
    | some a =>
      rw [q] at e
      obtain ⟨⟨hc, hc2⟩, rfl⟩ := gd_some (show gd _ _ = some d from e)
      obtain ⟨h5, h6⟩ := ty_of S h1 q
      have hk : PySem.W.kitAny K (.type a) [.type t, .type u] = some (subT a t || subT a u) := by
        refine kitAny_cons (kit_ty (kit_all a h6 t (known_mem hc))) (fun h => ?_) fun h => by rw [h]; rfl
        refine kitAny_cons (kit_ty (kit_all a h6 u (known_mem hc2))) (fun h' => ?_) fun h' => by rw [h, h']; rfl
        rw [h, h']; exact kitAny_nil
      rcases hq with ⟨hq, _⟩ | ⟨o, its, n, hq, hcl, hda, hsz, hv⟩
      · exact .inl (.inr ⟨v, tp, _, _, _, _, rfl, hq, .cons (.ty t) (.cons (.ty u) .nil), h5, hk, fin_same S z rfl⟩)
      · obtain ⟨oc, od, dt, sl⟩ := o
        simp only at hcl hda
        subst hcl hda
        obtain ⟨u1, u2, e3, r1, r2⟩ := vals2 hv
        cases (show _ = _ from r1); cases (show _ = _ from r2)
        exact .inr ⟨v, tp, od, [.type t, .type u], n, sl, _, _, rfl, by rw [← e3]; exact hq, h5, hk, fin_same S z rfl⟩
  · cases e
end
end VL
set_option Elab.async false
set_option linter.all false
set_option maxRecDepth 100000
set_option maxHeartbeats 4000000
namespace VL
open PySem PySem.Spec L2
def lenOf (M : Mem) (d : Sv) : Option Int := match d with
  | .d (.str s) => gd (s.length ≤ sizeLine) (s.length : Int)
  | .ref n => (match M[n]? with
    | some (.lst ds) => some (ds.length : Int)
    | some (.dk kvs) => some (kvs.length : Int)
    | _ => none)
  | d => (seqD M d).map fun ds => (ds.length : Int)
def intS (i : Int) : Sv := .d (.int i)
def lenD (M : Mem) : List Sv → Option Sv
  | [d] => (lenOf M d).map intS
  | _ => none
def absD (_ : Mem) : List Sv → Option Sv
  | [.d (.int i)] => some (.d (.int (if i < 0 then -i else i)))
  | _ => none
def intsOf : List D → Option (List Int)
  | [] => some []
  | .int i :: ds => (intsOf ds).map (i :: ·)
  | _ => none
def blsOf : List D → Option (List Bool)
  | [] => some []
  | .bl i :: ds => (blsOf ds).map (i :: ·)
  | _ => none
/-- the items of a list (no tuple) -/
def lstD (M : Mem) : Sv → Option (List D)
  | .d (.lst ds) => some ds
  | .bor ds => some ds
  | .d (.scr ns) => some (ns.map D.int)
  | .ref n => cellL M[n]?
  | _ => none
def minI : List Int → Int
  | [] => 0
  | [x] => x
  | x :: xs => let m := minI xs; if m < x then m else x
def maxI : List Int → Int
  | [] => 0
  | [x] => x
  | x :: xs => let m := maxI xs; if x < m then m else x
def minD (M : Mem) : List Sv → Option Sv
  | [.d (.int i), .d (.int j)] => some (.d (.int (if j < i then j else i)))
  | [d] => (lstD M d).bind fun ds => (intsOf ds).bind fun ns => gd (ns ≠ []) (intS (minI ns))
  | _ => none
def maxD (M : Mem) : List Sv → Option Sv
  | [.d (.int i), .d (.int j)] => some (.d (.int (if j > i then j else i)))
  | [d] => (lstD M d).bind fun ds => (intsOf ds).bind fun ns => gd (ns ≠ []) (intS (maxI ns))
  | _ => none
def intD (_ : Mem) : List Sv → Option Sv
  | [.d (.int i)] => some (.d (.int i))
  | [.d (.bl k)] => some (.d (.int (if k then 1 else 0)))
  | _ => none
def allD (M : Mem) : List Sv → Option Sv
  | [d] => (lstD M d).bind fun ds => (blsOf ds).map fun bs => blS (bs.all id)
  | _ => none
def anyD (M : Mem) : List Sv → Option Sv
  | [d] => (lstD M d).bind fun ds => (blsOf ds).map fun bs => blS (bs.any id)
  | _ => none
section
variable {K : PySem.W.Frag} {X : Cx} {G : Gd} {e a b : Expr} {es : List Expr} {pos : Pos} {ta tb : TE'} {N : Bool → Addr → Prop} {H : Hp} {ι : Ix}
theorem intsOf_some : ∀ {ds : List D} {ns : List Int}, intsOf ds = some ns → ds = ns.map .int
  | [], _, h => by cases h; rfl
  | .int i :: ds, ns, h => by
    simp only [intsOf] at h
    cases q : intsOf ds with
    | none => rw [q] at h; cases h
    | some ms => rw [q] at h; cases h; rw [intsOf_some q]; rfl
  | .non :: _, _, h => by cases h
  | .bl _ :: _, _, h => by cases h
  | .str _ :: _, _, h => by cases h
  | .tup _ :: _, _, h => by cases h
  | .lst _ :: _, _, h => by cases h
  | .scr _ :: _, _, h => by cases h
  | .fn _ :: _, _, h => by cases h
  | .dn _ _ :: _, _, h => by cases h
  | .dk _ _ :: _, _, h => by cases h
  | .cls _ :: _, _, h => by cases h
  | .exc _ _ :: _, _, h => by cases h
  | .ty _ :: _, _, h => by cases h
theorem blsOf_some : ∀ {ds : List D} {ns : List Bool}, blsOf ds = some ns → ds = ns.map .bl
  | [], _, h => by cases h; rfl
  | .bl i :: ds, ns, h => by
    simp only [blsOf] at h
    cases q : blsOf ds with
    | none => rw [q] at h; cases h
    | some ms => rw [q] at h; cases h; rw [blsOf_some q]; rfl
  | .non :: _, _, h => by cases h
  | .int _ :: _, _, h => by cases h
  | .str _ :: _, _, h => by cases h
  | .tup _ :: _, _, h => by cases h
  | .lst _ :: _, _, h => by cases h
  | .scr _ :: _, _, h => by cases h
  | .fn _ :: _, _, h => by cases h
  | .dn _ _ :: _, _, h => by cases h
  | .dk _ _ :: _, _, h => by cases h
  | .cls _ :: _, _, h => by cases h
  | .exc _ _ :: _, _, h => by cases h
  | .ty _ :: _, _, h => by cases h
theorem intsOf_map (ns : List Int) : intsOf (ns.map .int) = some ns := by
  induction ns with
  | nil => rfl
  | cons n ns ih => simp [intsOf, ih]
theorem blsOf_map (ns : List Bool) : blsOf (ns.map .bl) = some ns := by
  induction ns with
  | nil => rfl
  | cons n ns ih => simp [blsOf, ih]
/-- a list's value and items -/
theorem lst_of {δ : DS} {M : Mem} {σ : L2.St} {d : Sv} {v : V} {ds : List D} (S : Sr K G δ M ι σ H) (h : RS K G.N H ι d v) (e : lstD M d = some ds) : ∃ a xs, v = .ref a ∧ SqL K H a xs ∧ RDs K G.N H ι ds xs := by
  cases d with
  | ref n =>
    obtain ⟨a, e1, hn, xs, q, _, r⟩ := S.mem.at h (cellL_some (show cellL M[n]? = some ds from e)) (fun z => nomatch z)
    exact ⟨a, xs, e1, SqL.of q, r⟩
  | bor es => cases e; obtain ⟨a, xs, e1, q, n, _, _, r⟩ := h; exact ⟨a, xs, e1, SqL.of q, r⟩
  | d d =>
    cases d with
    | lst es => cases e; obtain ⟨a, xs, e1, q, n, z, _, r⟩ := h; exact ⟨a, xs, e1, SqL.of q, r⟩
    | scr ns =>
      cases e
      obtain ⟨a, e1, ⟨o, q, n⟩ | q, _⟩ := h
      · exact ⟨a, _, e1, .inl (.inr ⟨o, q⟩), RDs.of_ints ns⟩
      · exact ⟨a, _, e1, .inr q, RDs.of_ints ns⟩
    | _ => cases e
theorem one_of {x : Sv} {vs : List V} (h : RSs K N H ι [x] vs) : ∃ v, vs = [v] ∧ RS K N H ι x v := by
  obtain ⟨v, r, rfl, h1, h2⟩ := h
  cases (show _ = _ from h2)
  exact ⟨v, rfl, h1⟩
theorem two_of {x y : Sv} {vs : List V} (h : RSs K N H ι [x, y] vs) : ∃ v u, vs = [v, u] ∧ RS K N H ι x v ∧ RS K N H ι y u := by
  obtain ⟨v, r, rfl, h1, h2⟩ := h
  obtain ⟨u, rfl, h3⟩ := one_of h2
  exact ⟨v, u, rfl, h1, h3⟩
def rLenX (K : PySem.W.Frag) : List V → Hp → VK → Prop := fun xs H Q => (∃ x n, xs = [x] ∧ LenV K x H n ∧ Q (.int n) H) ∨ (∃ a kvs, xs = [V.ref a] ∧ H a = some (.dK kvs) ∧ Q (.int kvs.length) H)
theorem call_lenX : CallR X (.builtin "len") (rLenX X.K) := call_len.or call_lenD
theorem rd_len : RdN K (rLenX K) lenD := by
  intro G δ M ι σ H xs vs d S rx e Q z
  unfold lenD at e
  split at e
  · rename_i x
    obtain ⟨v, rfl, r⟩ := one_of rx
    cases q : lenOf M x with
    | none => rw [q] at e; cases e
    | some n =>
      rw [q] at e; cases e
      unfold lenOf at q
      split at q
      · obtain ⟨hc, rfl⟩ := gd_some q
        cases (show _ = _ from r)
        exact .inl ⟨_, _, rfl, ⟨hc, rfl⟩, fin_same S z rfl⟩
      · split at q
        · rename_i ds hM
          cases q
          obtain ⟨a, rfl, hn, ys, hH, _, ry⟩ := S.mem.at r hM (fun z => nomatch z)
          refine .inl ⟨_, ys.length, rfl, .inl ⟨ys, SqL.of hH, rfl⟩, ?_⟩
          rw [← ry.length]; exact fin_same S z rfl
        · rename_i kvs hM
          cases q
          obtain ⟨a, rfl, hn, ws, hH, e1, ry⟩ := S.mem.at r hM (fun z => nomatch z)
          refine .inr ⟨a, ws, rfl, hH, ?_⟩
          have hl : kvs.length = ws.length := by simpa using congrArg List.length e1
          rw [← hl]; exact fin_same S z rfl
        · cases q
      · cases hs : seqD M x with
        | none => rw [hs] at q; cases q
        | some ds =>
          rw [hs] at q; cases q
          obtain ⟨a, ys, rfl, hq, ry⟩ := seq_of S r hs
          refine .inl ⟨_, ys.length, rfl, ?_, ?_⟩
          · rcases hq with hq | hq
            · exact .inl ⟨ys, hq, rfl⟩
            · exact .inr ⟨ys, hq, rfl⟩
          · rw [← ry.length]; exact fin_same S z rfl
  · cases e
theorem rd_abs : RdN K (fun xs H Q => ∃ i, xs = [V.int i] ∧ Q (.int (if i < 0 then -i else i)) H) absD := by
  intro G δ M ι σ H xs vs d S rx e Q z
  unfold absD at e
  split at e
  · cases e
    obtain ⟨v, rfl, r⟩ := one_of rx
    cases (show _ = _ from r)
    exact ⟨_, rfl, fin_same S z rfl⟩
  · cases e
theorem minI_cons {x y : Int} {ns : List Int} : minI (x :: y :: ns) = if minI (y :: ns) < x then minI (y :: ns) else x := rfl
theorem maxI_cons {x y : Int} {ns : List Int} : maxI (x :: y :: ns) = if x < maxI (y :: ns) then maxI (y :: ns) else x := rfl
theorem minI_mem : ∀ {ns : List Int}, ns ≠ [] → minI ns ∈ ns ∧ ∀ y ∈ ns, minI ns ≤ y
  | [], h => (h rfl).elim
  | [x], _ => ⟨by simp [minI], by simp [minI]⟩
  | x :: y :: ns, _ => by
    obtain ⟨h1, h2⟩ := minI_mem (ns := y :: ns) (by simp)
    rw [minI_cons]
    by_cases hc : (minI (y :: ns)) < x
    · rw [if_pos hc]
      refine ⟨List.mem_cons_of_mem _ h1, fun z hz => ?_⟩
      rcases List.mem_cons.mp hz with rfl | hz
      · omega
      · exact h2 z hz
    · rw [if_neg hc]
      refine ⟨List.mem_cons_self, fun z hz => ?_⟩
      rcases List.mem_cons.mp hz with rfl | hz
      · omega
      · have := h2 z hz; omega
theorem maxI_mem : ∀ {ns : List Int}, ns ≠ [] → maxI ns ∈ ns ∧ ∀ y ∈ ns, y ≤ maxI ns
  | [], h => (h rfl).elim
  | [x], _ => ⟨by simp [maxI], by simp [maxI]⟩
  | x :: y :: ns, _ => by
    obtain ⟨h1, h2⟩ := maxI_mem (ns := y :: ns) (by simp)
    rw [maxI_cons]
    by_cases hc : x < (maxI (y :: ns))
    · rw [if_pos hc]
      refine ⟨List.mem_cons_of_mem _ h1, fun z hz => ?_⟩
      rcases List.mem_cons.mp hz with rfl | hz
      · omega
      · exact h2 z hz
    · rw [if_neg hc]
      refine ⟨List.mem_cons_self, fun z hz => ?_⟩
      rcases List.mem_cons.mp hz with rfl | hz
      · omega
      · have := h2 z hz; omega
def rMinX (K : PySem.W.Frag) : List V → Hp → VK → Prop := fun xs H Q => (∃ i j, xs = [V.int i, .int j] ∧ Q (.int (if j < i then j else i)) H) ∨ rMin K xs H Q
def rMaxX (K : PySem.W.Frag) : List V → Hp → VK → Prop := fun xs H Q => (∃ i j, xs = [V.int i, .int j] ∧ Q (.int (if j > i then j else i)) H) ∨ rMax K xs H Q
theorem call_minX (hc : X.calm = true) : CallR X (.builtin "min") (rMinX X.K) := (call_min2 hc).or (cr_min hc)
theorem call_maxX (hc : X.calm = true) : CallR X (.builtin "max") (rMaxX X.K) := (call_max2 hc).or (cr_max hc)
theorem lints_of {δ : DS} {M : Mem} {σ : L2.St} {x d : Sv} {v : V} {f : List Int → Option Sv} (S : Sr K G δ M ι σ H) (r : RS K G.N H ι x v) (e : ((lstD M x).bind fun ds => (intsOf ds).bind f) = some d) :
    ∃ a ns, v = .ref a ∧ SqL K H a (ns.map V.int) ∧ f ns = some d := by
  cases q : lstD M x with
  | none => rw [q] at e; cases e
  | some ds =>
    rw [q] at e
    obtain ⟨a, xs, rfl, hs, ry⟩ := lst_of S r q
    cases qi : intsOf ds with
    | none => simp only [Option.bind_some, qi] at e; cases e
    | some ns =>
      simp only [Option.bind_some, qi] at e
      rw [intsOf_some qi] at ry
      rw [ry.ints] at hs
      exact ⟨a, ns, rfl, hs, e⟩
theorem lbls_of {δ : DS} {M : Mem} {σ : L2.St} {x d : Sv} {v : V} {f : List Bool → Option Sv} (S : Sr K G δ M ι σ H) (r : RS K G.N H ι x v) (e : ((lstD M x).bind fun ds => (blsOf ds).bind f) = some d) :
    ∃ a ns, v = .ref a ∧ SqL K H a (ns.map V.bl) ∧ f ns = some d := by
  cases q : lstD M x with
  | none => rw [q] at e; cases e
  | some ds =>
    rw [q] at e
    obtain ⟨a, xs, rfl, hs, ry⟩ := lst_of S r q
    cases qi : blsOf ds with
    | none => simp only [Option.bind_some, qi] at e; cases e
    | some ns =>
      simp only [Option.bind_some, qi] at e
      rw [blsOf_some qi] at ry
      rw [ry.bls] at hs
      exact ⟨a, ns, rfl, hs, e⟩
theorem rd_min : RdN K (rMinX K) minD := by
  intro G δ M ι σ H xs vs d S rx e Q z
  unfold minD at e
  split at e
  · cases e
    obtain ⟨v, u, rfl, r1, r2⟩ := two_of rx
    cases (show _ = _ from r1); cases (show _ = _ from r2)
    exact .inl ⟨_, _, rfl, fin_same S z rfl⟩
  · obtain ⟨v, rfl, r⟩ := one_of rx
    obtain ⟨a, ns, rfl, hs, e⟩ := lints_of S r e
    obtain ⟨hc, rfl⟩ := gd_some e
    refine .inr ⟨a, ns, rfl, hs, List.length_pos_iff.mpr hc, fun m hm hl => ?_⟩
    obtain ⟨h1, h2⟩ := minI_mem hc
    have : m = minI ns := by have := h2 m hm; have := hl _ h1; omega
    subst this
    exact fin_same S z rfl
  · cases e
theorem rd_max : RdN K (rMaxX K) maxD := by
  intro G δ M ι σ H xs vs d S rx e Q z
  unfold maxD at e
  split at e
  · cases e
    obtain ⟨v, u, rfl, r1, r2⟩ := two_of rx
    cases (show _ = _ from r1); cases (show _ = _ from r2)
    exact .inl ⟨_, _, rfl, fin_same S z rfl⟩
  · obtain ⟨v, rfl, r⟩ := one_of rx
    obtain ⟨a, ns, rfl, hs, e⟩ := lints_of S r e
    obtain ⟨hc, rfl⟩ := gd_some e
    refine .inr ⟨a, ns, rfl, hs, List.length_pos_iff.mpr hc, fun m hm hl => ?_⟩
    obtain ⟨h1, h2⟩ := maxI_mem hc
    have : m = maxI ns := by have := h2 m hm; have := hl _ h1; omega
    subst this
    exact fin_same S z rfl
  · cases e
theorem rd_intC : RdN K (fun xs H Q => (∃ i, xs = [V.int i] ∧ Q (.int i) H) ∨ ∃ k, xs = [V.bl k] ∧ Q (.int (if k then 1 else 0)) H) intD := by
  intro G δ M ι σ H xs vs d S rx e Q z
  unfold intD at e
  split at e
  · cases e
    obtain ⟨v, rfl, r⟩ := one_of rx
    cases (show _ = _ from r)
    exact .inl ⟨_, rfl, fin_same S z rfl⟩
  · cases e
    obtain ⟨v, rfl, r⟩ := one_of rx
    cases (show _ = _ from r)
    exact .inr ⟨_, rfl, fin_same S z rfl⟩
  · cases e
theorem rd_all : RdN K (rAll K) allD := by
  intro G δ M ι σ H xs vs d S rx e Q z
  unfold allD at e
  split at e
  · obtain ⟨v, rfl, r⟩ := one_of rx
    obtain ⟨a, ns, rfl, hs, e⟩ := lbls_of (f := fun ns => some (blS (ns.all id))) S r (by simpa only [Option.map_eq_bind, Function.comp_def] using e)
    cases e
    exact ⟨a, ns, rfl, hs, fin_same S z rfl⟩
  · cases e
theorem rd_any : RdN K (rAny K) anyD := by
  intro G δ M ι σ H xs vs d S rx e Q z
  unfold anyD at e
  split at e
  · obtain ⟨v, rfl, r⟩ := one_of rx
    obtain ⟨a, ns, rfl, hs, e⟩ := lbls_of (f := fun ns => some (blS (ns.any id))) S r (by simpa only [Option.map_eq_bind, Function.comp_def] using e)
    cases e
    exact ⟨a, ns, rfl, hs, fin_same S z rfl⟩
  · cases e
end
def truth (M : Mem) : Sv → Option Bool
  | .d .non => some false
  | .d (.bl b) => some b
  | .d (.int i) => some (i != 0)
  | .d (.str s) => gd (s.length ≤ sizeLine) ((s.length : Int) != 0)
  | .ref n => match M[n]? with
    | some (.lst ds) => some !ds.isEmpty
    | some (.dk kvs) => some !kvs.isEmpty
    | _ => none
  | d => (seqD M d).map fun ds => !ds.isEmpty
abbrev TT' := DS → Mem → (Bool → Mem → Prop) → Prop
def lT (K : PySem.W.Frag) (G : Gd) (t : TT') : TT := fun σ H Q => ∃ δ M ι Q0, Sr K G δ M ι σ H ∧ t δ M Q0 ∧
  ∀ b M' ι' H', Q0 b M' → Ex ι ι' → Kp ι H ι' H' → Sr K G δ M' ι' σ H' → Q b H'
abbrev VT (X : Cx) (G : Gd) (e : Expr) (t : TT') : Prop := PT X e (lT X.K G t)
abbrev VW (X : Cx) (G : Gd) (e : Expr) (t : TT') : Prop := PW X e (lT X.K G t)
abbrev PB := DS → Mem → Option Bool
def cP (p : PB) : TT' := fun δ M Q => ok (p δ M) fun b => Q b M
def tTr (t : TE') : TT' := fun δ M Q => t δ M fun d M' => ok (truth M' d) fun b => Q b M'
def bTr (p : PV) : PB := fun δ M => (p δ M).bind (truth M)
def blD : Sv → Option Bool
  | .d (.bl b) => some b
  | _ => none
def tTb (t : TE') : TT' := fun δ M Q => t δ M fun d M' => ok (blD d) fun b => Q b M'
def bB (p : PV) : PB := fun δ M => (p δ M).bind blD
def tAn (t u : TT') : TT' := fun δ M Q => t δ M fun b M' => if b then u δ M' Q else Q false M'
def tOrr (t u : TT') : TT' := fun δ M Q => t δ M fun b M' => if b then Q true M' else u δ M' Q
def tNt (t : TT') : TT' := fun δ M Q => t δ M fun b M' => Q (!b) M'
def bAn (p q : PB) : PB := fun δ M => (p δ M).bind fun b => if b then q δ M else some false
def bOr (p q : PB) : PB := fun δ M => (p δ M).bind fun b => if b then some true else q δ M
def bNt (p : PB) : PB := fun δ M => (p δ M).map fun b => !b
section
variable {K : PySem.W.Frag} {X : Cx} {G : Gd} {e a b c : Expr} {es rest : List Expr} {pos : Pos} {ta tb : TE'} {t u : TT'} {p q : PB}
theorem VT.weak {t' : TT'} (h : VT X G e t) (w : ∀ δ M Q, t' δ M Q → t δ M Q) : VT X G e t' :=
  ⟨fun pins s σ H Q I ⟨δ, M, ι, Q0, S, q, z⟩ => h.run pins s σ H Q I ⟨δ, M, ι, Q0, S, w _ _ _ q, z⟩⟩
theorem VW.weak {t' : TT'} (h : VW X G e t) (w : ∀ δ M Q, t' δ M Q → t δ M Q) : VW X G e t' :=
  ⟨fun wh pins s σ H Q I ⟨δ, M, ι, Q0, S, q, z⟩ => h.run wh pins s σ H Q I ⟨δ, M, ι, Q0, S, w _ _ _ q, z⟩⟩
theorem truth_of {δ : DS} {M : Mem} {ι : Ix} {σ : L2.St} {H : Hp} {d : Sv} {v : V} {k : Bool} (S : Sr K G δ M ι σ H) (h : RS K G.N H ι d v) (e : truth M d = some k) : TruV K v H k := by
  cases d with
  | ref n =>
    simp only [truth] at e
    split at e
    · rename_i ds hM
      cases e
      obtain ⟨a, rfl, hn, xs, q, _, r⟩ := S.mem.at h hM (fun z => nomatch z)
      refine .inl ⟨xs, SqL.of q, ?_⟩
      have := r.length
      cases ds <;> cases xs <;> simp_all
    · rename_i kvs hM
      cases e
      obtain ⟨a, rfl, hn, ws, q, e1, r⟩ := S.mem.at h hM (fun z => nomatch z)
      refine .inr (.inr ⟨ws, q, ?_⟩)
      have hl : kvs.length = ws.length := by simpa using congrArg List.length e1
      cases kvs <;> cases ws <;> simp_all
    · cases e
  | bor ds =>
    cases e
    obtain ⟨a, xs, rfl, q, _, _, _, r⟩ := h
    refine .inl ⟨xs, SqL.of q, ?_⟩
    have := r.length
    cases ds <;> cases xs <;> simp_all
  | d d =>
  cases d with
  | non => cases e; cases (show _ = _ from h); rfl
  | bl b => cases e; cases (show _ = _ from h); rfl
  | int i => cases e; cases (show _ = _ from h); rfl
  | str s => obtain ⟨hc, rfl⟩ := gd_some (show gd _ _ = some k from e); cases (show _ = _ from h); exact ⟨hc, rfl⟩
  | fn b => cases e
  | dn ks ds => cases e
  | dk ks ds => cases e
  | cls n => cases e
  | exc n f => cases e
  | ty b => cases e
  | tup ds =>
    cases e
    obtain ⟨a, xs, rfl, q, _, r⟩ := h
    refine .inr (.inl ⟨xs, tup_sq q, ?_⟩)
    have := r.length
    cases ds <;> cases xs <;> simp_all
  | lst ds =>
    cases e
    obtain ⟨a, xs, rfl, q, _, _, _, r⟩ := h
    refine .inl ⟨xs, SqL.of q, ?_⟩
    have := r.length
    cases ds <;> cases xs <;> simp_all
  | scr ns =>
    cases e
    obtain ⟨a, rfl, q, _⟩ := h
    have hsq : SqL K H a (ns.map V.int) := by
      rcases q with ⟨o, q', _⟩ | q'
      · exact .inl (.inr ⟨o, q'⟩)
      · exact .inr q'
    refine .inl ⟨_, hsq, ?_⟩
    cases ns <;> rfl
theorem fin_tr {σ : L2.St} {H : Hp} {Q : Bool → Hp → Prop} (h : lT K G (tTr ta) σ H Q) : lE K G ta σ H fun x H' => ∃ k, TruV K x H' k ∧ Q k H' := by
  obtain ⟨δ, M, ι, Q0, S, h, z⟩ := h
  refine th1 S h fun x M1 ι1 H1 v h1 p1 k1 S1 r1 => ?_
  obtain ⟨k, e, h1⟩ := ok_elim h1
  exact ⟨k, truth_of S1 r1 e, z k M1 ι1 H1 h1 p1 k1 S1⟩
/-- the test of a value's truth -/
theorem vt_val (ha : VE X G a ta) (he : ∀ whole, isTrue a X.env whole = (do let v ← whole; standAt a.pos; holding [v] (truthy v)) := by exact fun _ => rfl) : VT X G a (tTr ta) := by
  have h := pt_truth ha he
  exact ⟨fun pins s σ H Q I q => h.run pins s σ H Q I (fin_tr q)⟩
theorem VT.pure (h : VT X G a (tTr (eP v))) : VT X G a (cP (bTr v)) := h.weak fun δ M Q h => by
  unfold cP bTr at h; rw [ok_bind] at h; exact h
theorem fin_tb {σ : L2.St} {H : Hp} {Q : Bool → Hp → Prop} (h : lT K G (tTb ta) σ H Q) : lE K G ta σ H fun x H' => ∃ k, x = .bl k ∧ Q k H' := by
  obtain ⟨δ, M, ι, Q0, S, h, z⟩ := h
  refine th1 S h fun x M1 ι1 H1 v h1 p1 k1 S1 r1 => ?_
  obtain ⟨k, e, h1⟩ := ok_elim h1
  unfold blD at e
  split at e
  · cases e; cases (show _ = _ from r1); exact ⟨_, rfl, z _ M1 ι1 H1 h1 p1 k1 S1⟩
  · cases e
theorem vt_cmp {op : CmpOp} {r : R2} {f : Mem → Sv → Sv → Option Sv} (ho : OpR X (compareOp op) r) (hf : Rd2 X.K r f) (ha : VE X G a ta) (hb : VE X G b tb) (hm : behindInMarks op b = false) : VT X G (.Compare a [op] [b] pos) (tTb (eo2 f ta tb)) := by
  have h := pt_cmpR (pos := pos) ho ha hb hm
  exact ⟨fun pins s σ H Q I q => h.run pins s σ H Q I (fin2 hf (fin_tb q))⟩
theorem VT.pureB2 {f : Mem → Sv → Sv → Option Sv} {v w : PV} (h : VT X G a (tTb (eo2 f (eP v) (eP w)))) : VT X G a (cP (bB (po2 f v w))) := h.weak fun δ M Q h => by
  unfold cP bB po2 at h
  rw [ok_bind, ok_bind] at h
  obtain ⟨d, q1, h⟩ := ok_elim h
  rw [ok_bind] at h
  exact ok_of q1 h
theorem vt_not (h : VT X G a t) : VT X G (.UnaryOp .Not a pos) (tNt t) := by
  have hn := pt_not (pos := pos) h
  exact ⟨fun pins s σ H Q I ⟨δ, M, ι, Q0, S, q, z⟩ => hn.run pins s σ H Q I ⟨δ, M, ι, _, S, q, fun b M' ι' H' q1 p1 k1 S1 => z (!b) M' ι' H' q1 p1 k1 S1⟩⟩
theorem vw_and1 (h : VT X G a t) : VW X G (.BoolOp .And [a] pos) t := pw_and1 h
theorem vw_or1 (h : VT X G a t) : VW X G (.BoolOp .Or [a] pos) t := pw_or1 h
theorem vw_and (h : VT X G a t) (h2 : VW X G (.BoolOp .And (b :: rest) pos) u) : VW X G (.BoolOp .And (a :: b :: rest) pos) (tAn t u) := by
  have hn := pw_and h h2
  refine ⟨fun wh pins s σ H Q I ⟨δ, M, ι, Q0, S, q, z⟩ => hn.run wh pins s σ H Q I ⟨δ, M, ι, _, S, q, fun b M' ι' H' q1 p1 k1 S1 => ?_⟩⟩
  cases b with
  | false => exact z false M' ι' H' q1 p1 k1 S1
  | true => exact ⟨δ, M', ι', Q0, S1, q1, fun b M2 ι2 H2 q2 p2 k2 S2 => z b M2 ι2 H2 q2 (p1.trans p2) (k1.trans k2) S2⟩
theorem vw_or (h : VT X G a t) (h2 : VW X G (.BoolOp .Or (b :: rest) pos) u) : VW X G (.BoolOp .Or (a :: b :: rest) pos) (tOrr t u) := by
  have hn := pw_or h h2
  refine ⟨fun wh pins s σ H Q I ⟨δ, M, ι, Q0, S, q, z⟩ => hn.run wh pins s σ H Q I ⟨δ, M, ι, _, S, q, fun b M' ι' H' q1 p1 k1 S1 => ?_⟩⟩
  cases b with
  | true => exact z true M' ι' H' q1 p1 k1 S1
  | false => exact ⟨δ, M', ι', Q0, S1, q1, fun b M2 ι2 H2 q2 p2 k2 S2 => z b M2 ι2 H2 q2 (p1.trans p2) (k1.trans k2) S2⟩
theorem VW.vt (h : VW X G a t) : VT X G a t := PW.pt h
theorem VW.pAn (h : VW X G a (tAn (cP p) (cP q))) : VW X G a (cP (bAn p q)) := h.weak fun δ M Q h => by
  unfold cP bAn at h
  rw [ok_bind] at h
  obtain ⟨d, q1, h⟩ := ok_elim h
  refine ok_of q1 ?_
  cases d <;> exact h
theorem VW.pOr (h : VW X G a (tOrr (cP p) (cP q))) : VW X G a (cP (bOr p q)) := h.weak fun δ M Q h => by
  unfold cP bOr at h
  rw [ok_bind] at h
  obtain ⟨d, q1, h⟩ := ok_elim h
  refine ok_of q1 ?_
  cases d <;> exact h
def eAn (ta tb : TE') : TE' := fun δ M Q => ta δ M fun x M1 => ok (truth M1 x) fun k => if k then tb δ M1 Q else Q x M1
def eOr (ta tb : TE') : TE' := fun δ M Q => ta δ M fun x M1 => ok (truth M1 x) fun k => if k then Q x M1 else tb δ M1 Q
def eNt (ta : TE') : TE' := fun δ M Q => ta δ M fun x M1 => ok (truth M1 x) fun k => Q (blS (!k)) M1
def eIf (t : TT') (ta tb : TE') : TE' := fun δ M Q => t δ M fun b M1 => if b then ta δ M1 Q else tb δ M1 Q
def poAn (a b : PV) : PV := fun δ M => (a δ M).bind fun x => (truth M x).bind fun k => if k then b δ M else some x
def poOr (a b : PV) : PV := fun δ M => (a δ M).bind fun x => (truth M x).bind fun k => if k then some x else b δ M
def poNt (a : PV) : PV := fun δ M => (a δ M).bind fun x => (truth M x).map fun k => blS (!k)
def poIf (t : PB) (a b : PV) : PV := fun δ M => (t δ M).bind fun k => if k then a δ M else b δ M
theorem ve_one {op} (h : VE X G a ta) : VE X G (.BoolOp op [a] pos) ta := pe_one h
theorem ve_and (ha : VE X G a ta) (hb : VE X G (.BoolOp .And (b :: rest) pos) tb) : VE X G (.BoolOp .And (a :: b :: rest) pos) (eAn ta tb) := by
  refine PE.weak (pe_andT ha hb) fun σ H Q ⟨δ, M, ι, Q0, S, h, z⟩ => ?_
  refine th1 S h fun x M1 ι1 H1 v h1 p1 k1 S1 r1 => ?_
  obtain ⟨k, e, h1⟩ := ok_elim h1
  refine ⟨k, truth_of S1 r1 e, ?_⟩
  cases k with
  | false => exact z x M1 ι1 H1 v h1 p1 k1 S1 r1
  | true => exact th1 S1 h1 fun y M2 ι2 H2 w h2 p2 k2 S2 r2 => z y M2 ι2 H2 w h2 (p1.trans p2) (k1.trans k2) S2 r2
theorem ve_not (ha : VE X G a ta) : VE X G (.UnaryOp .Not a pos) (eNt ta) := by
  refine PE.weak (pe_notT ha) fun σ H Q ⟨δ, M, ι, Q0, S, h, z⟩ => ?_
  refine th1 S h fun x M1 ι1 H1 v h1 p1 k1 S1 r1 => ?_
  obtain ⟨k, e, h1⟩ := ok_elim h1
  exact ⟨k, truth_of S1 r1 e, z _ M1 ι1 H1 _ h1 p1 k1 S1 rfl⟩
theorem ve_if (hc : VT X G c t) (ha : VE X G a ta) (hb : VE X G b tb) : VE X G (.IfExp c a b pos) (eIf t ta tb) := by
  refine PE.weak (pe_ifExp hc ha hb) fun σ H Q ⟨δ, M, ι, Q0, S, h, z⟩ => ⟨δ, M, ι, _, S, h, fun k M1 ι1 H1 h1 p1 k1 S1 => ?_⟩
  cases k with
  | true => exact th1 S1 h1 fun y M2 ι2 H2 w h2 p2 k2 S2 r2 => z y M2 ι2 H2 w h2 (p1.trans p2) (k1.trans k2) S2 r2
  | false => exact th1 S1 h1 fun y M2 ι2 H2 w h2 p2 k2 S2 r2 => z y M2 ι2 H2 w h2 (p1.trans p2) (k1.trans k2) S2 r2
theorem VE.pAn {v w : PV} (h : VE X G a (eAn (eP v) (eP w))) : VE X G a (eP (poAn v w)) := h.weak fun δ M Q h => by
  unfold eP poAn at h
  rw [ok_bind] at h
  obtain ⟨d, q1, h⟩ := ok_elim h
  rw [ok_bind] at h
  obtain ⟨k, q2, h⟩ := ok_elim h
  refine ok_of q1 (ok_of q2 ?_)
  cases k <;> exact h
theorem VE.pNt {v : PV} (h : VE X G a (eNt (eP v))) : VE X G a (eP (poNt v)) := h.weak fun δ M Q h => by
  unfold eP poNt at h
  rw [ok_bind] at h
  obtain ⟨d, q1, h⟩ := ok_elim h
  rw [ok_map] at h
  exact ok_of q1 h
theorem VE.pIf {v w : PV} (h : VE X G a (eIf (cP p) (eP v) (eP w))) : VE X G a (eP (poIf p v w)) := h.weak fun δ M Q h => by
  unfold eP poIf at h
  rw [ok_bind] at h
  obtain ⟨d, q1, h⟩ := ok_elim h
  refine ok_of q1 ?_
  cases d <;> exact h
end
end VL
set_option Elab.async false
set_option linter.all false
set_option maxRecDepth 100000
set_option maxHeartbeats 4000000
namespace VL
open PySem PySem.Spec L2
def dataS : Sv → Option D
  | .d x => some x
  | _ => none
def datas : List Sv → Option (List D)
  | [] => some []
  | x :: xs => (dataS x).bind fun d => (datas xs).map fun ds => d :: ds
/-- a new list of these -/
abbrev TF' := DS → Mem → (List D → Mem → Prop) → Prop
def lF (K : PySem.W.Frag) (G : Gd) (t : TF') : TE := fun σ H Q => ∃ δ M ι Q0, Sr K G δ M ι σ H ∧ t δ M Q0 ∧
  ∀ ds M' ι' H' xs p, Q0 ds M' → Ex ι ι' → Kp ι H ι' H' → Sr K G δ M' ι' σ H' → RDs K G.N H' ι' ds xs → ds.length ≤ sizeLine → H' p = none → Q (.ref p) (upd H' p (.lst xs))
abbrev VF (X : Cx) (G : Gd) (e : Expr) (t : TF') : Prop := PE X e (lF X.K G t)
def tTupE (t : TA') : TE' := fun δ M Q => t δ M fun xs M1 => ok (datas xs) fun ds => Q (.d (.tup ds)) M1
def tLstF (t : TA') : TF' := fun δ M Q => t δ M fun xs M1 => ok (datas xs) fun ds => Q ds M1
def eFz (t : TF') : TE' := fun δ M Q => t δ M fun ds M' => Q (.d (.lst ds)) M'
def eNw (t : TF') : TE' := fun δ M Q => t δ M fun ds M' => Q (.ref M'.length) (M' ++ [.lst ds])
abbrev PL := DS → Mem → Option (List D)
def fP (p : PL) : TF' := fun δ M Q => ok (p δ M) fun ds => Q ds M
def pFz (p : PL) : PV := fun δ M => (p δ M).map fun ds => .d (.lst ds)
def poTup (ps : List PV) : PV := fun δ M => ((pArgs ps δ M).bind datas).map fun ds => .d (.tup ds)
def plLst (ps : List PV) : PL := fun δ M => (pArgs ps δ M).bind datas
section
variable {K : PySem.W.Frag} {X : Cx} {G : Gd} {e a b : Expr} {es : List Expr} {pos : Pos} {ta tb t : TE'} {N : Bool → Addr → Prop} {H : Hp} {ι : Ix} {tf : TF'}
theorem VF.weak {t' : TF'} (h : VF X G e tf) (w : ∀ δ M Q, t' δ M Q → tf δ M Q) : VF X G e t' :=
  PE.weak h fun _ _ _ ⟨δ, M, ι, Q0, S, q, z⟩ => ⟨δ, M, ι, Q0, S, w _ _ _ q, z⟩
theorem datas_of : ∀ {xs : List Sv} {ds : List D} {vs : List V}, datas xs = some ds → RSs K N H ι xs vs → RDs K N H ι ds vs ∧ ds.length = xs.length
  | [], ds, vs, e, h => by cases e; exact ⟨h, rfl⟩
  | x :: xs, ds, vs, e, h => by
    obtain ⟨v, r, rfl, h1, h2⟩ := h
    cases x with
    | d d =>
      obtain ⟨ds', e2, rfl⟩ := Option.map_eq_some_iff.mp (show (datas xs).map (fun ds => d :: ds) = some ds from e)
      obtain ⟨h3, h4⟩ := datas_of e2 h2
      exact ⟨⟨v, r, rfl, h1, h3⟩, by simp [h4]⟩
    | ref n => cases e
    | bor n => cases e
theorem ve_tup {n k : Nat} {tA : TA'} (h : VA X G es n tA) (hn : n ≤ sizeLine := by decide) : VE X G (.Tuple es k pos) (tTupE tA) := by
  refine PE.weak (pe_tup h) fun σ H Q ⟨δ, M, ι, Q0, S, q, z⟩ => ?_
  refine thA S q fun xs M1 ι1 H1 vs hl h1 p1 k1 S1 r1 => ?_
  obtain ⟨ds, e, h1⟩ := ok_elim h1
  obtain ⟨r2, l2⟩ := datas_of e r1
  refine ⟨by rw [← r2.length, l2, hl]; exact hn, fun p hp => ?_⟩
  exact fin_tup S1 (fun ι' H' w e2 k2 S2 r3 => z _ M1 ι' H' w h1 (p1.trans e2) (k1.trans k2) S2 r3) r2 (by rw [l2, hl]; exact hn) hp
theorem vf_lst {n : Nat} {tA : TA'} (h : VA X G es n tA) (hn : n ≤ sizeLine := by decide) : VF X G (.List es pos) (tLstF tA) := by
  refine PE.weak (pe_lst h) fun σ H Q ⟨δ, M, ι, Q0, S, q, z⟩ => ?_
  refine thA S q fun xs M1 ι1 H1 vs hl h1 p1 k1 S1 r1 => ?_
  obtain ⟨ds, e, h1⟩ := ok_elim h1
  obtain ⟨r2, l2⟩ := datas_of e r1
  exact ⟨by rw [← r2.length, l2, hl]; exact hn, fun p hp => z ds M1 ι1 H1 vs p h1 p1 k1 S1 r2 (by rw [l2, hl]; exact hn) hp⟩
theorem VF.fz (h : VF X G e tf) : VE X G e (eFz tf) :=
  PE.weak h fun σ H Q ⟨δ, M, ι, Q0, S, q, z⟩ => ⟨δ, M, ι, _, S, q, fun ds M' ι' H' xs p h1 p1 k1 S1 r1 hl hp =>
    fin_lst S1 (fun ι2 H2 w e2 k2 S2 r3 => z _ M' ι2 H2 w h1 (p1.trans e2) (k1.trans k2) S2 r3) r1 hl hp⟩
theorem VF.nw (h : VF X G e tf) : VE X G e (eNw tf) :=
  PE.weak h fun σ H Q ⟨δ, M, ι, Q0, S, q, z⟩ => ⟨δ, M, ι, _, S, q, fun ds M' ι' H' xs p h1 p1 k1 S1 r1 hl hp => by
    have S2 := S1.named (o := .lst xs) (c := .lst ds) hp ⟨xs, upd_same, hl, r1.mono (Kp.named hp) fun _ _ _ _ q => q⟩
    refine z _ _ _ _ _ h1 (p1.trans (Ex.app _ _)) (k1.trans (Kp.named hp)) S2 ⟨p, rfl, .inl ?_⟩
    rw [S1.mem.len]; simp⟩
theorem VF.pure {p : PL} (h : VF X G e (fP p)) : VE X G e (eP (pFz p)) := h.fz.weak fun δ M Q h => by
  unfold eP pFz at h; rw [ok_map] at h; exact h
theorem VE.pTup {ps : List PV} (h : VE X G e (tTupE (aP ps))) : VE X G e (eP (poTup ps)) := h.weak fun δ M Q h => by
  unfold eP poTup at h
  rw [ok_map, ok_bind] at h
  exact h
theorem VF.pLst {ps : List PV} (h : VF X G e (tLstF (aP ps))) : VF X G e (fP (plLst ps)) := h.weak fun δ M Q h => by
  unfold fP plLst at h
  rw [ok_bind] at h
  exact h
end
def sSeq (t u : TS') : TS' := fun E δ M => t { E with nx := fun δ' M' => u E δ' M' } δ M
def sNil : TS' := fun E δ M => E.nx δ M
def sRet (t : TE') : TS' := fun E δ M => t δ M fun d M' => E.rt d M'
def sRetN : TS' := fun E δ M => E.rt (.d .non) M
def sDrop (t : TE') : TS' := fun E δ M => t δ M fun _ M' => E.nx δ M'
def sSet (i : Nat) (t : TE') : TS' := fun E δ M => t δ M fun d M' => E.nx (δ.set i (some d)) M'
def sIf (c : TT') (t u : TS') : TS' := fun E δ M => c δ M fun b M' => if b then t E δ M' else u E δ M'
section
variable {K : PySem.W.Frag} {X : Cx} {G : Gd} {e a b c : Expr} {st : Stmt} {ss ss' : List Stmt} {es : List Expr} {pos : Pos} {ta tb t : TE'} {tc : TT'} {s u : TS'}
theorem VS.weak {u' : TS'} (h : VS X G st u) (w : ∀ E δ M, u' E δ M → u E δ M) : VS X G st u' :=
  PS.weak h fun _ _ _ ⟨δ, M, ι, E0, S, q, z⟩ => ⟨δ, M, ι, E0, S, w _ _ _ q, z⟩
theorem VSs.weak {u' : TS'} (h : VSs X G ss u) (w : ∀ E δ M, u' E δ M → u E δ M) : VSs X G ss u' :=
  PSs.weak h fun _ _ _ ⟨δ, M, ι, E0, S, q, z⟩ => ⟨δ, M, ι, E0, S, w _ _ _ q, z⟩
theorem vss_nil : VSs X G [] sNil := PSs.weak pss_nil fun E σ H ⟨δ, M, ι, E0, S, q, z⟩ => z.nx δ M ι σ H q (Ex.refl _) (Kp.refl _ _) S
theorem vss_one (h : VS X G st s) : VSs X G [st] s := pss_one h
theorem vss_cons (h : VS X G st s) (h2 : VSs X G ss u) : VSs X G (st :: ss) (sSeq s u) :=
  PSs.weak (pss_cons h h2) fun E σ H ⟨δ, M, ι, E0, S, q, z⟩ => ⟨δ, M, ι, _, S, q, ⟨fun δ' M' ι' σ' H' q' p' k' S' => ⟨δ', M', ι', E0, S', q', z.to p' k'⟩, z.rt, z.bk, z.ct⟩⟩
theorem vs_ret (h : VE X G e t) : VS X G (.Return (some e) pos) (sRet t) :=
  PS.weak (ps_ret h) fun E σ H ⟨δ, M, ι, E0, S, q, z⟩ => ⟨δ, M, ι, _, S, q, fun d M' ι' H' v q' p' k' S' r' => z.rt d δ M' ι' σ H' v q' S' r'⟩
theorem vs_expr (h : VE X G e t) (hs : swapsWith e none pos.line X.env = pure false := by rfl) : VS X G (.Expr e pos) (sDrop t) :=
  PS.weak (ps_expr h hs) fun E σ H ⟨δ, M, ι, E0, S, q, z⟩ => ⟨δ, M, ι, _, S, q, fun d M' ι' H' v q' p' k' S' r' => z.nx δ M' ι' σ H' q' p' k' S'⟩
theorem vs_set {i : Nat} {x : Str} {pos' : Pos} (hN : X.N.Nodup) (hi : X.N[i]? = some x) (hx : Loc X.env.scope x) (he : VE X G e t) (hs : swapsWith e (some (.Name x pos')) pos.line X.env = pure false := by rfl) (hf : X.fn x = true ∨ X.env.scope.names.lookup x = some .local := by first | exact .inl rfl | exact .inr rfl | assumption) :
    VS X G (.Assign [.Name x pos'] e pos) (sSet i t) :=
  PS.weak (ps_set hN hi hx he hs hf) fun E σ H ⟨δ, M, ι, E0, S, q, z⟩ => ⟨δ, M, ι, _, S, q, fun d M' ι' H' v q' p' k' S' r' => z.nx _ M' ι' _ H' q' p' k' (S'.set r')⟩
theorem vs_if (hc : VT X G c tc) (ha : VSs X G ss s) (hb : VSs X G ss' u) : VS X G (.If c ss ss' pos) (sIf tc s u) :=
  PS.weak (ps_if hc ha hb) fun E σ H ⟨δ, M, ι, E0, S, q, z⟩ => ⟨δ, M, ι, _, S, q, fun b M' ι' H' q' p' k' S' => by
    cases b with
    | true => exact ⟨δ, M', ι', E0, S', q', z.to p' k'⟩
    | false => exact ⟨δ, M', ι', E0, S', q', z.to p' k'⟩⟩
end
abbrev TG' := D → DS → Mem → (DS → Mem → Prop) → Prop
def lG (K : PySem.W.Frag) (G : Gd) (t : TG') : TG := fun v σ H Q => ∃ d δ M ι Q0, Sr K G δ M ι σ H ∧ RD K G.N H ι d v ∧ t d δ M Q0 ∧
  ∀ δ' M' ι' σ' H', Q0 δ' M' → Ex ι ι' → Kp ι H ι' H' → Sr K G δ' M' ι' σ' H' → Q σ' H'
abbrev VG (X : Cx) (G : Gd) (e : Expr) (t : TG') : Prop := PG X e (lG X.K G t)
def gNm (i : Nat) : TG' := fun d δ M Q => Q (δ.set i (some (.d d))) M
/-- names for a tuple's items -/
def setAll : List Nat → List D → DS → Option DS
  | [], [], δ => some δ
  | i :: is, d :: ds, δ => setAll is ds (δ.set i (some (.d d)))
  | _, _, _ => none
def gTp (is : List Nat) : TG' := fun d δ M Q => match d with
  | .tup ds => ok (setAll is ds δ) fun δ' => Q δ' M
  | _ => False
def lGs (K : PySem.W.Frag) (G : Gd) (is : List Nat) : TGs := fun vs σ H Q => ∃ ds δ M ι δ', Sr K G δ M ι σ H ∧ RDs K G.N H ι ds vs ∧ setAll is ds δ = some δ' ∧
  ∀ σ' , Sr K G δ' M ι σ' H → Q σ' H
section
variable {K : PySem.W.Frag} {X : Cx} {G : Gd} {e a b c : Expr} {es : List Expr} {pos : Pos}
theorem vg_name {i : Nat} {x : Str} (hN : X.N.Nodup) (hi : X.N[i]? = some x) (hx : Loc X.env.scope x) (hf : X.fn x = true ∨ X.env.scope.names.lookup x = some .local := by first | exact .inl rfl | exact .inr rfl | assumption) : VG X G (.Name x pos) (gNm i) := by
  have h := pg_name (pos := pos) hN hi hx hf
  refine ⟨fun pins s σ H v u Q I r ⟨d, δ, M, ι, Q0, S, rd, q, z⟩ => h.run pins s σ H v u Q I r ?_⟩
  exact z _ M ι _ H q (Ex.refl _) (Kp.refl _ _) (S.set (d := .d d) rd)
theorem vgs_nil : PGs X [] (lGs X.K G []) := by
  refine ⟨fun pins s σ H vs us Q I r ⟨ds, δ, M, ι, δ', S, rd, q, z⟩ => pgs_nil.run pins s σ H vs us Q I r ?_⟩
  cases ds with
  | nil => cases q; exact ⟨rd, z σ S⟩
  | cons d ds => cases q
theorem vgs_cons {i : Nat} {is : List Nat} {x : Str} {px : Pos} (hN : X.N.Nodup) (hi : X.N[i]? = some x) (hx : Loc X.env.scope x) (hr : PGs X es (lGs X.K G is)) (hf : X.fn x = true ∨ X.env.scope.names.lookup x = some .local := by first | exact .inl rfl | exact .inr rfl | assumption)
    (hs : (assignEach (.Name x px :: es) X.env).map (·.2) = assign (.Name x px) X.env :: (assignEach es X.env).map (·.2) := by rfl) : PGs X (.Name x px :: es) (lGs X.K G (i :: is)) := by
  have h := pgs_cons (pg_name (pos := px) hN hi hx hf) hr hs
  refine ⟨fun pins s σ H vs us Q I r ⟨ds, δ, M, ι, δ', S, rd, q, z⟩ => h.run pins s σ H vs us Q I r ?_⟩
  cases ds with
  | nil => cases q
  | cons d ds =>
    obtain ⟨v, vr, rfl, r1, r2⟩ := rd
    exact ⟨v, vr, rfl, ds, _, M, ι, δ', S.set (d := .d d) r1, r2, q, z⟩
theorem setAll_len : ∀ {is : List Nat} {ds : List D} {δ δ' : DS}, setAll is ds δ = some δ' → ds.length = is.length
  | [], [], _, _, _ => rfl
  | [], _ :: _, _, _, h => by cases h
  | _ :: _, [], _, _, h => by cases h
  | i :: is, d :: ds, δ, δ', h => by simp [setAll_len (is := is) h]
theorem vg_tup {is : List Nat} {k : Nat} (hc : X.calm = true) (h : PGs X es (lGs X.K G is)) (hn : (assignEach es X.env).length = is.length := by rfl) (hst : (assignEach es X.env).findIdx? (·.1) = none := by rfl) : VG X G (.Tuple es k pos) (gTp is) := by
  have hg := pg_tup (pos := pos) (k := k) hc h hn hst
  refine ⟨fun pins s σ H v u Q I r ⟨d, δ, M, ι, Q0, S, rd, q, z⟩ => hg.run pins s σ H v u Q I r ?_⟩
  unfold gTp at q
  split at q
  · rename_i ds
    obtain ⟨δ', e, q⟩ := ok_elim q
    obtain ⟨a, xs, rfl, hq, _, r2⟩ := rd
    exact ⟨a, xs, rfl, tup_sq hq, by rw [← r2.length, setAll_len e], ds, δ, M, ι, δ', S, r2, e, fun σ' S' => z δ' M ι σ' H q (Ex.refl _) (Kp.refl _ _) S'⟩
  · exact q.elim
/-- target = value -/
def sAsg (t : TE') (g : TG') : TS' := fun E δ M => t δ M fun s M' => ok (dataS s) fun d => g d δ M' E.nx
end
end VL
set_option Elab.async false
set_option linter.all false
set_option maxRecDepth 100000
set_option maxHeartbeats 4000000
namespace VL
open PySem PySem.Spec L2
abbrev TI' := DS → Mem → (List D → (Mem → Prop) → Mem → Prop) → Prop
/-- at each turn, while gd stands, the iterator J gives the next of ds -/
def IterD (K : PySem.W.Frag) (G : Gd) (ι : Ix) (H : Hp) (J : It) (ds : List D) (gd : Mem → Prop) : Prop :=
  ∀ (G2 : Gd) (δ2 : DS) (M2 : Mem) (ι2 : Ix) (σ2 : L2.St) (H2 : Hp), (∀ b a o, H a = some o → G.N b a → G2.N b a) → Sr K G2 δ2 M2 ι2 σ2 H2 → Ex ι ι2 → Kp ι H ι2 H2 → gd M2 →
    J.stop ds.length H2 ∧ ∀ i d, ds[i]? = some d → J.go i H2 ∧ ∀ x H3, J.yld i H2 x H3 → (H3 = H2 ∨ ∃ p o, H2 p = none ∧ H3 = upd H2 p o) ∧ Sr K G2 δ2 M2 ι2 σ2 H3 ∧ Kp ι2 H2 ι2 H3 ∧ RD K G2.N H3 ι2 d x
def lI (K : PySem.W.Frag) (G : Gd) (bd : Bool) (it : TI') : TI := fun σ H R => ∃ δ M ι Q0, Sr K G δ M ι σ H ∧ it δ M Q0 ∧
  ∀ ds gd M' ι' H' J, (bd = true → ds.length ≤ sizeLine) → Q0 ds gd M' → Ex ι ι' → Kp ι H ι' H' → Sr K G δ M' ι' σ H' → IterD K G ι' H' J ds gd → R J H'
abbrev VI (X : Cx) (G : Gd) (bd : Bool) (tg e : Expr) (it : TI') : Prop := PI X tg e (lI X.K G bd it)
/-- the turns of a for; k: how many changing objects there were -/
def forL (k : Nat) (g : TG') (b : TS') (E : Ends') (gd : Mem → Prop) : List D → DS → Mem → Prop
  | [], δ, M => gd M ∧ E.nx δ M
  | d :: ds, δ, M => gd M ∧ g d δ M fun δ1 M1 => b ⟨fun δ' M' => forL k g b E gd ds (gcS k δ') (M'.take k), E.rt, E.nx, fun δ' M' => forL k g b E gd ds (gcS k δ') (M'.take k)⟩ δ1 M1
def sFor (it : TI') (g : TG') (b : TS') : TS' := fun E δ M => it δ M fun ds gd M' => forL M'.length g b E gd ds δ M'
section
variable {K : PySem.W.Frag} {X : Cx} {G : Gd} {e a b c tg iter elt : Expr} {st : Stmt} {body : List Stmt} {es : List Expr} {pos : Pos} {ta tb t : TE'} {tc : TT'} {s u : TS'} {it : TI'} {g : TG'}
theorem Sr.i0len {δ : DS} {M : Mem} {ι : Ix} {σ : L2.St} {H : Hp} (S : Sr K G δ M ι σ H) : G.i0.length ≤ M.length := by
  rw [S.mem.len]
  cases q : G.i0.length with
  | zero => exact Nat.zero_le _
  | succ n =>
    have h : n < G.i0.length := by omega
    exact (List.getElem?_eq_some_iff.mp (S.pre n _ (List.getElem?_eq_getElem h))).1
theorem ex_take {a b : Ix} (h : Ex a b) : Ex a (b.take a.length) := fun n o e => by
  have hlt := (List.getElem?_eq_some_iff.mp e).1
  rw [List.getElem?_take, if_pos hlt]; exact h n o e
theorem vs_for {bd : Bool} (hp : PassesOwn (model X.prog X.w) X.A X.env X.xe) (hc : X.calm = true) (hi : VI X G bd tg iter it) (hg : VG X G tg g) (hb : VSs X G body s)
    (hs : ∀ x, foldedSetIterable iter X.env x = pure x := by intro _; rfl) : VS X G (.For tg iter body [] pos) (sFor it g s) := by
  refine PS.weak (ps_for hp hc hi hg hb hs) fun E σ H ⟨δ, M, ι, E0, S, q, z⟩ => ?_
  refine ⟨δ, M, ι, _, S, q, fun ds gd M' ι' H' J _ q1 p1 k1 S1 hJ => ?_⟩
  have hk : G.i0.length ≤ M'.length := S1.i0len
  have hlen : M'.length = ι'.length := S1.mem.len
  refine ⟨fun i m σ2 H2 => m = ds.length - i ∧ i ≤ ds.length ∧ ∃ δ2 M2 ι2, Sr X.K G δ2 M2 ι2 σ2 H2 ∧ Ex ι' ι2 ∧ Kp ι' H' ι2 H2 ∧ forL M'.length g s E0 gd (ds.drop i) δ2 M2,
    ⟨ds.length, by simp, Nat.zero_le _, δ, M', ι', S1, Ex.refl _, Kp.refl _ _, by simpa using q1⟩, ?_⟩
  rintro i m σ2 H2 ⟨rfl, hi, δ2, M2, ι2, S2, e2, k2, q2⟩
  by_cases hlt : i < ds.length
  · have hd : ds.drop i = ds[i] :: ds.drop (i + 1) := List.drop_eq_getElem_cons hlt
    rw [hd] at q2
    obtain ⟨hgd, q2⟩ := q2
    obtain ⟨_, hgo⟩ := hJ G δ2 M2 ι2 σ2 H2 (fun _ _ _ _ z => z) S2 e2 k2 hgd
    obtain ⟨go, hy⟩ := hgo i ds[i] (List.getElem?_eq_getElem hlt)
    refine .inr ⟨go, fun σ3 H3 => ∃ δ3 M3 ι3, Sr X.K G δ3 M3 ι3 σ3 H3 ∧ Ex ι' ι3 ∧ Kp ι' H' ι3 H3 ∧ forL M'.length g s E0 gd (ds.drop (i + 1)) δ3 M3, fun σ3 H3 h3 => ⟨ds.length - (i + 1), by omega, rfl, hlt, h3⟩, fun x H3 y3 => ?_⟩
    obtain ⟨_, S3, k3, r3⟩ := hy x H3 y3
    refine ⟨_, δ2, M2, ι2, _, S3, r3, q2, fun δ4 M4 ι4 σ4 H4 q4 e4 k4 S4 => ?_⟩
    -- the state at the body's start: names since the loop's start
    have fin : ∀ δ5 M5 ι5 σ5 H5, Sr X.K G δ5 M5 ι5 σ5 H5 → Ex ι' ι5 → Kp ι' H' ι5 H5 → forL M'.length g s E0 gd (ds.drop (i + 1)) (gcS M'.length δ5) (M5.take M'.length) →
        ∃ δ3 M3 ι3, Sr X.K G δ3 M3 ι3 σ5 H5 ∧ Ex ι' ι3 ∧ Kp ι' H' ι3 H5 ∧ forL M'.length g s E0 gd (ds.drop (i + 1)) δ3 M3 := fun δ5 M5 ι5 σ5 H5 S5 e5 k5 q5 => by
      refine ⟨_, _, _, S5.gc M'.length hk, ?_, k5.trans (Kp.take _), q5⟩
      rw [hlen]; exact ex_take e5
    have Z := z
    refine ⟨δ4, M4, ι4, _, S4, q4, ⟨fun δ5 M5 ι5 σ5 H5 q5 e5 k5 S5 => ?_, fun d5 δ5 M5 ι5 σ5 H5 v5 q5 S5 r5 => ?_, fun δ5 M5 ι5 σ5 H5 q5 e5 k5 S5 => ?_, fun δ5 M5 ι5 σ5 H5 q5 e5 k5 S5 => ?_⟩⟩
    · exact fin δ5 M5 ι5 σ5 H5 S5 ((e2.trans e4).trans e5) (((k2.trans k3).trans k4).trans k5) q5
    · exact z.rt d5 δ5 M5 ι5 σ5 H5 v5 q5 S5 r5
    · exact z.nx δ5 M5 ι5 σ5 H5 q5 (p1.trans ((e2.trans e4).trans e5)) (k1.trans (((k2.trans k3).trans k4).trans k5)) S5
    · exact fin δ5 M5 ι5 σ5 H5 S5 ((e2.trans e4).trans e5) (((k2.trans k3).trans k4).trans k5) q5
  · have hd : ds.drop i = [] := List.drop_eq_nil_of_le (by omega)
    rw [hd] at q2
    obtain ⟨hgd, q2⟩ := q2
    obtain ⟨hst, _⟩ := hJ G δ2 M2 ι2 σ2 H2 (fun _ _ _ _ z => z) S2 e2 k2 hgd
    have e : i = ds.length := by omega
    subst e
    exact .inl ⟨hst, z.nx δ2 M2 ι2 σ2 H2 q2 (p1.trans e2) (k1.trans k2) S2⟩
end
end VL
set_option Elab.async false
set_option linter.all false
set_option maxRecDepth 100000
set_option maxHeartbeats 4000000
namespace VL
open PySem PySem.Spec L2 RT RZ
def gdS (s : Sv) (ds : List D) : Mem → Prop := match s with
  | .ref n => fun M => cellL M[n]? = some ds
  | _ => fun _ => True
def gdT : Mem → Prop := fun _ => True
/-- over a sequence -/
def iSq (t : TE') : TI' := fun δ M Q => t δ M fun s M1 => ok (lstD M1 s) fun ds => Q ds (gdS s ds) M1
def iPq (p : PV) : TI' := fun δ M Q => ok (p δ M) fun s => ok (seqD M s) fun ds => Q ds (gdS s ds) M
def rgL (lo : Int) (n : Nat) : List D := (List.range n).map fun i => .int (lo + (i : Nat))
def rgC (lo c : Int) (n : Nat) : List D := (List.range n).map fun i => .int (lo + (i : Nat) * c)
abbrev I62 (i : Int) : Prop := -(2 ^ 62) ≤ i ∧ i < 2 ^ 62
def rngD : List Sv → (List D → Prop) → Prop
  | [.d (.int j)], k => I62 j ∧ k (rgL 0 j.toNat)
  | [.d (.int i), .d (.int j)], k => (I62 i ∧ I62 j) ∧ k (rgL i (j - i).toNat)
  | [.d (.int i), .d (.int j), .d (.int c)], k => (c ≠ 0 ∧ c.natAbs < 1073741824 ∧ Builtin.Range.small i j c = true) ∧ k (rgC i c (Builtin.Range.rangeSize i j c).toNat)
  | _, _ => False
def iRg (bd : Bool) (t : TA') : TI' := fun δ M Q => t δ M fun xs M1 => rngD xs fun ds => (bd = true → ds.length ≤ sizeLine) ∧ Q ds gdT M1
def enumL (ds : List D) : List D := ds.zipIdx.map fun p => .tup [.int (p.2 : Nat), p.1]
def iEn (t : TE') : TI' := fun δ M Q => t δ M fun s M1 => ok (lstD M1 s) fun ds => Q (enumL ds) (gdS s ds) M1
def zipL (as bs : List D) : List D := (as.zip bs).map fun p => .tup [p.1, p.2]
def tupD : Sv → Option (List D)
  | .d (.tup ds) => some ds
  | _ => none
section
variable {K : PySem.W.Frag} {X : Cx} {G : Gd} {e e2 a b c tg iter elt : Expr} {es : List Expr} {pos p : Pos} {ta tb t : TE'} {it : TI'}
theorem VI.weak {bd : Bool} {it' : TI'} (h : VI X G bd tg e it) (w : ∀ δ M Q, it' δ M Q → it δ M Q) : VI X G bd tg e it' :=
  ⟨fun pins s σ H R I ⟨δ, M, ι, Q0, S, q, z⟩ => h.run pins s σ H R I ⟨δ, M, ι, Q0, S, w _ _ _ q, z⟩⟩
/-- a list stays to be read -/
theorem list_stays {ι : Ix} {H : Hp} {δ : DS} {M : Mem} {σ : L2.St} {s : Sv} {v : V} {ds : List D} (S : Sr K G δ M ι σ H) (r : RS K G.N H ι s v) (e : lstD M s = some ds) :
    ∃ a, v = .ref a ∧ (∃ xs, SqL K H a xs ∧ RDs K G.N H ι ds xs) ∧ ds.length ≤ sizeLine ∧ ∀ (G2 : Gd) (δ2 : DS) (M2 : Mem) (ι2 : Ix) (σ2 : L2.St) (H2 : Hp), (∀ b a o, H a = some o → G.N b a → G2.N b a) → Sr K G2 δ2 M2 ι2 σ2 H2 → Ex ι ι2 → Kp ι H ι2 H2 → gdS s ds M2 → ∃ xs, SqL K H2 a xs ∧ RDs K G2.N H2 ι2 ds xs := by
  cases s with
  | ref n =>
    obtain ⟨a, rfl, hn, xs, q, hl, r⟩ := S.mem.at r (cellL_some (show cellL M[n]? = some ds from e)) (fun z => nomatch z)
    refine ⟨a, rfl, ⟨xs, SqL.of q, r⟩, hl, fun G2 δ2 M2 ι2 σ2 H2 hn2 S2 e2 k2 hg => ?_⟩
    have hM := cellL_some (show cellL M2[n]? = some ds from hg)
    rcases e2 n _ hn with h | h
    · obtain ⟨xs2, q2, _, r2⟩ := S2.mem.cell n _ a hM h
      exact ⟨xs2, SqL.of q2, r2⟩
    · rw [S2.mem.gone n h] at hM; cases hM
  | bor es =>
    cases e
    obtain ⟨a, xs, rfl, q, n, _, hl, r⟩ := r
    exact ⟨a, rfl, ⟨xs, SqL.of q, r⟩, hl, fun G2 δ2 M2 ι2 σ2 H2 hn2 S2 e2 k2 hg => ⟨xs, SqL.of (k2 a _ q n).1, r.mono k2 hn2⟩⟩
  | d d =>
    cases d with
    | lst es =>
      cases e
      obtain ⟨a, xs, rfl, q, n, _, hl, r⟩ := r
      exact ⟨a, rfl, ⟨xs, SqL.of q, r⟩, hl, fun G2 δ2 M2 ι2 σ2 H2 hn2 S2 e2 k2 hg => ⟨xs, SqL.of (k2 a _ q n).1, r.mono k2 hn2⟩⟩
    | scr ns =>
      cases e
      obtain ⟨a, rfl, ⟨o, q, n⟩ | q, hl⟩ := r
      · exact ⟨a, rfl, ⟨_, .inl (.inr ⟨o, q⟩), RDs.of_ints ns⟩, by simpa using hl, fun G2 δ2 M2 ι2 σ2 H2 hn2 S2 e2 k2 hg => ⟨_, .inl (.inr ⟨o, (k2 a _ q n).1⟩), RDs.of_ints ns⟩⟩
      · exact ⟨a, rfl, ⟨_, .inr q, RDs.of_ints ns⟩, by simpa using hl, fun G2 δ2 M2 ι2 σ2 H2 hn2 S2 e2 k2 hg => ⟨_, .inr q, RDs.of_ints ns⟩⟩
    | _ => cases e
theorem tup_stays {ι : Ix} {H : Hp} {v : V} {ds : List D} (r : RD K G.N H ι (.tup ds) v) :
    ∃ a, v = .ref a ∧ (∃ xs, SqT K H a xs) ∧ ds.length ≤ sizeLine ∧ ∀ (G2 : Gd) (ι2 : Ix) (H2 : Hp), (∀ b a o, H a = some o → G.N b a → G2.N b a) → Kp ι H ι2 H2 → ∃ xs, SqT K H2 a xs ∧ RDs K G2.N H2 ι2 ds xs := by
  obtain ⟨a, xs, rfl, q, hl, r⟩ := r
  refine ⟨a, rfl, ⟨xs, tup_sq q⟩, hl, fun G2 ι2 H2 hn2 k2 => ⟨xs, ?_, r.mono k2 hn2⟩⟩
  rcases q with ⟨q, n⟩ | q
  · exact SqT.of (k2 a _ q n).1
  · exact .inr q
theorem iter_l {ι : Ix} {H : Hp} {a : Addr} {ds : List D} {gd : Mem → Prop}
    (h : ∀ (G2 : Gd) (δ2 : DS) (M2 : Mem) (ι2 : Ix) (σ2 : L2.St) (H2 : Hp), (∀ b a o, H a = some o → G.N b a → G2.N b a) → Sr K G2 δ2 M2 ι2 σ2 H2 → Ex ι ι2 → Kp ι H ι2 H2 → gd M2 → ∃ xs, SqL K H2 a xs ∧ RDs K G2.N H2 ι2 ds xs) : IterD K G ι H (Itl K a) ds gd := by
  intro G2 δ2 M2 ι2 σ2 H2 hn2 S2 e2 k2 hg
  obtain ⟨xs, q, r⟩ := h G2 δ2 M2 ι2 σ2 H2 hn2 S2 e2 k2 hg
  refine ⟨⟨xs, q, by rw [r.length]; exact Nat.le_refl _⟩, fun i d hd => ?_⟩
  obtain ⟨v, hv, rv⟩ := r.get hd
  refine ⟨⟨xs, v, q, hv⟩, fun x H3 y => ?_⟩
  obtain ⟨rfl, y⟩ := y
  have : x = v := Option.some.inj ((y xs q).symm.trans hv)
  subst this
  exact ⟨.inl rfl, S2, Kp.refl _ _, rv⟩
theorem iter_t {ι : Ix} {H : Hp} {a : Addr} {ds : List D} {gd : Mem → Prop}
    (h : ∀ (G2 : Gd) (ι2 : Ix) (H2 : Hp), (∀ b a o, H a = some o → G.N b a → G2.N b a) → Kp ι H ι2 H2 → ∃ xs, SqT K H2 a xs ∧ RDs K G2.N H2 ι2 ds xs) : IterD K G ι H (Itt K a) ds gd := by
  intro G2 δ2 M2 ι2 σ2 H2 hn2 S2 e2 k2 hg
  obtain ⟨xs, q, r⟩ := h G2 ι2 H2 hn2 k2
  refine ⟨⟨xs, q, by rw [r.length]; exact Nat.le_refl _⟩, fun i d hd => ?_⟩
  obtain ⟨v, hv, rv⟩ := r.get hd
  refine ⟨⟨xs, v, q, hv⟩, fun x H3 y => ?_⟩
  obtain ⟨rfl, y⟩ := y
  have : x = v := Option.some.inj ((y xs q).symm.trans hv)
  subst this
  exact ⟨.inl rfl, S2, Kp.refl _ _, rv⟩
/-- a list -/
theorem vi_sq {bd : Bool} (h : VE X G e t) : VI X G bd tg e (iSq t) := by
  have hi := pi_list (tg := tg) h
  refine ⟨fun pins s σ H R I ⟨δ, M, ι, Q0, S, q, z⟩ => hi.run pins s σ H R I ?_⟩
  refine th1 S q fun x M1 ι1 H1 v q1 p1 k1 S1 r1 => ?_
  obtain ⟨ds, e1, q1⟩ := ok_elim q1
  obtain ⟨a, rfl, ⟨xs, hq, _⟩, hl, st⟩ := list_stays S1 r1 e1
  exact ⟨a, rfl, ⟨xs, hq⟩, z ds _ M1 ι1 H1 _ (fun _ => hl) q1 p1 k1 S1 (iter_l st)⟩
/-- a list or a tuple, known ahead -/
theorem vi_pq {bd : Bool} {pv : PV} (h : VE X G e (eP pv)) : VI X G bd tg e (iPq pv) := by
  have hi := pi_list (tg := tg) h
  have ht := pi_tup (tg := tg) h
  refine ⟨fun pins s σ H R I ⟨δ, M, ι, Q0, S, q, z⟩ => ?_⟩
  obtain ⟨x, e1, q⟩ := ok_elim q
  obtain ⟨ds, e2, q⟩ := ok_elim q
  by_cases hx : ∃ es, x = .d (.tup es)
  · obtain ⟨es, rfl⟩ := hx
    cases e2
    refine ht.run pins s σ H R I ?_
    refine th1 (Q0 := fun d M' => d = .d (.tup ds) ∧ M' = M) S (ok_of e1 ⟨rfl, rfl⟩) fun x M1 ι1 H1 v q1 p1 k1 S1 r1 => ?_
    obtain ⟨rfl, rfl⟩ := q1
    obtain ⟨a, rfl, hq, hl, st⟩ := tup_stays (K := X.K) (G := G) r1
    exact ⟨a, rfl, hq, z ds _ M1 ι1 H1 _ (fun _ => hl) q p1 k1 S1 (iter_t st)⟩
  · have e3 : lstD M x = some ds := by
      cases x with
      | d x =>
        cases x with
        | tup es => exact absurd ⟨es, rfl⟩ hx
        | lst es => exact e2
        | scr es => exact e2
        | _ => cases e2
      | ref n => exact e2
      | bor n => exact e2
    refine hi.run pins s σ H R I ?_
    refine th1 (Q0 := fun d M' => d = x ∧ M' = M) S (ok_of e1 ⟨rfl, rfl⟩) fun x M1 ι1 H1 v q1 p1 k1 S1 r1 => ?_
    obtain ⟨rfl, rfl⟩ := q1
    obtain ⟨a, rfl, ⟨xs, hq, _⟩, hl, st⟩ := list_stays S1 r1 e3
    exact ⟨a, rfl, ⟨xs, hq⟩, z ds _ M1 ι1 H1 _ (fun _ => hl) q p1 k1 S1 (iter_l st)⟩
theorem rg_get {lo : Int} {n i : Nat} {d : D} (h : (rgL lo n)[i]? = some d) : i < n ∧ d = .int (lo + (i : Nat)) := by
  unfold rgL at h
  rw [List.getElem?_map] at h
  obtain ⟨j, h1, rfl⟩ := Option.map_eq_some_iff.mp h
  obtain ⟨h2, h3⟩ := List.getElem?_eq_some_iff.mp h1
  simp at h2 h3
  subst h3
  exact ⟨h2, rfl⟩
theorem rgL_len (lo : Int) (n : Nat) : (rgL lo n).length = n := by simp [rgL]
theorem rgc_get {lo c : Int} {n i : Nat} {d : D} (h : (rgC lo c n)[i]? = some d) : i < n ∧ d = .int (lo + (i : Nat) * c) := by
  unfold rgC at h
  rw [List.getElem?_map] at h
  obtain ⟨j, h1, rfl⟩ := Option.map_eq_some_iff.mp h
  obtain ⟨h2, h3⟩ := List.getElem?_eq_some_iff.mp h1
  simp at h2 h3
  subst h3
  exact ⟨h2, rfl⟩
theorem rgC_len (lo c : Int) (n : Nat) : (rgC lo c n).length = n := by simp [rgC]
theorem iter_r {ι : Ix} {H : Hp} {lo : Int} {n : Nat} {gd : Mem → Prop} : IterD K G ι H (Itr lo n) (rgL lo n) gd := by
  intro G2 δ2 M2 ι2 σ2 H2 hn2 S2 e2 k2 hg
  refine ⟨by rw [rgL_len]; exact Nat.le_refl _, fun i d hd => ?_⟩
  obtain ⟨h1, rfl⟩ := rg_get hd
  refine ⟨h1, fun x H3 y => ?_⟩
  obtain ⟨rfl, rfl⟩ := y
  exact ⟨.inl rfl, S2, Kp.refl _ _, rfl⟩
theorem iter_rc {ι : Ix} {H : Hp} {lo c : Int} {n : Nat} {gd : Mem → Prop} : IterD K G ι H (Itc lo c n) (rgC lo c n) gd := by
  intro G2 δ2 M2 ι2 σ2 H2 hn2 S2 e2 k2 hg
  refine ⟨by rw [rgC_len]; exact Nat.le_refl _, fun i d hd => ?_⟩
  obtain ⟨h1, rfl⟩ := rgc_get hd
  refine ⟨h1, fun x H3 y => ?_⟩
  obtain ⟨rfl, rfl⟩ := y
  exact ⟨.inl rfl, S2, Kp.refl _ _, rfl⟩
theorem len2 {α : Type} {xs : List α} (h : xs.length = 2) : ∃ x y, xs = [x, y] := by
  match xs, h with
  | [x, y], _ => exact ⟨x, y, rfl⟩
theorem len3 {α : Type} {xs : List α} (h : xs.length = 3) : ∃ x y z, xs = [x, y, z] := by
  match xs, h with
  | [x, y, z], _ => exact ⟨x, y, z, rfl⟩
theorem vi_range1 {bd : Bool} {tA : TA'} (hg : Gl X "range") (hm : X.mg "range" = none) (ha : VA X G [a] 1 tA) (hs : starEach [a] X.env = [(false, eval a X.env)] := by rfl) : VI X G bd tg (.Call (.Name "range" p) [a] [] pos) (iRg bd tA) := by
  have hi := pi_range1 (tg := tg) (p := p) (pos := pos) hg hm ha hs
  refine ⟨fun pins s σ H R I ⟨δ, M, ι, Q0, S, q, z⟩ => hi.run pins s σ H R I ?_⟩
  refine thA S q fun xs M1 ι1 H1 vs hl q1 p1 k1 S1 r1 => ?_
  obtain ⟨x, rfl⟩ : ∃ x, xs = [x] := List.length_eq_one_iff.mp hl
  obtain ⟨v, rfl, rv⟩ := one_of r1
  unfold rngD at q1
  split at q1
  · rename_i j hj
    cases hj
    cases (show _ = _ from rv)
    exact ⟨_, rfl, q1.1.1, q1.1.2, z _ _ M1 ι1 H1 _ q1.2.1 q1.2.2 p1 k1 S1 iter_r⟩
  · rename_i hj; cases hj
  · rename_i hj; cases hj
  · exact q1.elim
theorem fin_pair {δ : DS} {M : Mem} {ι : Ix} {σ : L2.St} {H : Hp} {d1 d2 : D} {x y : V} {p : Addr} (S : Sr K G δ M ι σ H) (hp : H p = none) (r1 : RD K G.N H ι d1 x) (r2 : RD K G.N H ι d2 y) :
    Sr K G δ M ι σ (upd H p (.tup [x, y])) ∧ Kp ι H ι (upd H p (.tup [x, y])) ∧ RD K G.N (upd H p (.tup [x, y])) ι (.tup [d1, d2]) (.ref p) := by
  refine ⟨S.laid hp, Kp.laid hp, p, [x, y], rfl, .inl ⟨upd_same, S.mem.fresh hp⟩, by show 2 ≤ sizeLine; decide, x, [y], rfl, RD.mono (Kp.laid hp) (fun _ _ _ _ z => z) _ _ r1, y, [], rfl, RD.mono (Kp.laid hp) (fun _ _ _ _ z => z) _ _ r2, rfl⟩
theorem enum_get {ds : List D} {i : Nat} {d : D} (h : (enumL ds)[i]? = some d) : ∃ d0, ds[i]? = some d0 ∧ d = .tup [.int (i : Nat), d0] := by
  unfold enumL at h
  rw [List.getElem?_map, List.getElem?_zipIdx] at h
  cases q : ds[i]? with
  | none => rw [q] at h; cases h
  | some d0 => rw [q] at h; simp at h; exact ⟨d0, rfl, h.symm⟩
theorem enumL_len (ds : List D) : (enumL ds).length = ds.length := by simp [enumL]
theorem zip_get {as bs : List D} {i : Nat} {d : D} (h : (zipL as bs)[i]? = some d) : ∃ d1 d2, as[i]? = some d1 ∧ bs[i]? = some d2 ∧ d = .tup [d1, d2] := by
  unfold zipL at h
  rw [List.getElem?_map] at h
  obtain ⟨⟨d1, d2⟩, h1, rfl⟩ := Option.map_eq_some_iff.mp h
  rw [List.getElem?_zip_eq_some] at h1
  exact ⟨d1, d2, h1.1, h1.2, rfl⟩
theorem vi_enum {bd : Bool} {elts : List Expr} {kk : Nat} {tpos : Pos} (hg : Gl X "enumerate") (hm : X.mg "enumerate" = none) (h : VE X G e t) (hs : starEach [e] X.env = [(false, eval e X.env)] := by rfl) : VI X G bd (.Tuple elts kk tpos) (.Call (.Name "enumerate" p) [e] [] pos) (iEn t) := by
  have hi := pi_enum (tpos := tpos) (elts := elts) (kk := kk) (p := p) (pos := pos) hg hm (pa_cons h pa_nil (by rw [hs]; rfl)) hs
  refine ⟨fun pins s σ H R I ⟨δ, M, ι, Q0, S, q, z⟩ => hi.run pins s σ H R I ?_⟩
  refine th1 S q fun x M1 ι1 H1 v q1 p1 k1 S1 r1 => ?_
  obtain ⟨ds, e1, q1⟩ := ok_elim q1
  obtain ⟨a, rfl, ⟨xs, hq, _⟩, hl, st⟩ := list_stays S1 r1 e1
  refine ⟨a, xs, rfl, hq, z _ _ M1 ι1 H1 _ (fun _ => by rw [enumL_len]; exact hl) q1 p1 k1 S1 ?_⟩
  intro G2 δ2 M2 ι2 σ2 H2 hn2 S2 e2 k2 hg
  obtain ⟨ys, qy, ry⟩ := st G2 δ2 M2 ι2 σ2 H2 hn2 S2 e2 k2 hg
  have w := walk_enum (K := X.K) (a := a) (xs := ys)
  refine ⟨by rw [enumL_len, ry.length]; exact w.stops H2 qy, fun i d hd => ?_⟩
  obtain ⟨d0, h0, rfl⟩ := enum_get hd
  obtain ⟨y, hy, ryy⟩ := ry.get h0
  have hlt := (List.getElem?_eq_some_iff.mp hy).1
  refine ⟨w.goes i H2 hlt qy, fun x H3 hyl => ?_⟩
  obtain ⟨T, x1, y1, rfl, hT, rfl, h5, h6⟩ := w.yields i H2 x H3 hlt qy hyl
  cases h5
  have h6 : ys[i]? = some y1 := h6
  rw [hy] at h6; cases h6
  exact ⟨.inr ⟨T, _, hT, rfl⟩, fin_pair S2 hT rfl ryy⟩
end
end VL
set_option Elab.async false
set_option linter.all false
set_option maxRecDepth 100000
set_option maxHeartbeats 4000000
namespace VL
open PySem PySem.Spec L2 RT RZ
def wipeS (δ : DS) : List Nat → DS
  | [] => δ
  | v :: vs => (wipeS δ vs).set v none
/-- a target in a comprehension -/
inductive LcG where
  | nm (i : Nat) | tp (is : List Nat)
def LcG.names : LcG → List Nat
  | .nm i => [i]
  | .tp is => is
def LcG.to : LcG → TG'
  | .nm i => gNm i
  | .tp is => gTp is
def lcL (g : TG') (tt : TT') (te : TE') (δw : DS) (gd : Mem → Prop) (Q : List D → Mem → Prop) : List D → List D → Mem → Prop
  | [], acc, M => gd M ∧ Q acc M
  | d :: ds, acc, M => gd M ∧ g d δw M fun δ2 M2 => tt δ2 M2 fun b M3 =>
      if b then te δ2 M3 fun s M4 => ok (dataS s) fun y => lcL g tt te δw gd Q ds (acc ++ [y]) M4 else lcL g tt te δw gd Q ds acc M3
def fLc (it : TI') (g : LcG) (tt : TT') (te : TE') (vs : List Nat) : TF' := fun δ M Q => it δ M fun ds gd M1 => lcL g.to tt te (wipeS δ vs) gd Q ds [] M1
def tYs : TT' := fun _ M Q => Q true M
section
variable {K : PySem.W.Frag} {X : Cx} {G : Gd} {δ : DS} {M : Mem} {ι : Ix} {σ : L2.St} {H H' : Hp}
theorem wipe_get (σ : L2.St) (j : Nat) : ∀ vs : List Nat, (wipe σ vs)[j]? = if j ∈ vs then (σ[j]?).map (fun _ => none) else σ[j]?
  | [] => by simp [wipe]
  | v :: vs => by
    unfold wipe
    have ih := wipe_get σ j vs
    by_cases h : v = j
    · subst h
      rw [if_pos List.mem_cons_self, List.getElem?_set_self']
      rw [ih]
      split <;> cases σ[v]? <;> rfl
    · rw [List.getElem?_set_ne h, ih]
      have : (j ∈ v :: vs) ↔ j ∈ vs := by simp [Ne.symm h]
      simp only [this]
theorem wipeS_get (σ : DS) (j : Nat) : ∀ vs : List Nat, (wipeS σ vs)[j]? = if j ∈ vs then (σ[j]?).map (fun _ => none) else σ[j]?
  | [] => by simp [wipeS]
  | v :: vs => by
    unfold wipeS
    have ih := wipeS_get σ j vs
    by_cases h : v = j
    · subst h
      rw [if_pos List.mem_cons_self, List.getElem?_set_self']
      rw [ih]
      split <;> cases σ[v]? <;> rfl
    · rw [List.getElem?_set_ne h, ih]
      have : (j ∈ v :: vs) ↔ j ∈ vs := by simp [Ne.symm h]
      simp only [this]
theorem wipe_set (σ : L2.St) (vs : List Nat) {i : Nat} (x : Option V) (hi : i ∈ vs) : wipe (σ.set i x) vs = wipe σ vs := by
  apply List.ext_getElem?
  intro j
  rw [wipe_get, wipe_get]
  by_cases h : i = j
  · subst h
    rw [if_pos hi, if_pos hi, List.getElem?_set_self']
    cases σ[i]? <;> rfl
  · rw [List.getElem?_set_ne h]
theorem Sr.wiped (S : Sr K G δ M ι σ H) (vs : List Nat) : Sr K G (wipeS δ vs) M ι (wipe σ vs) H := by
  refine ⟨?_, fun i d e => ?_, S.mem, S.pre, S.kp, S.new, S.bad, S.hid, S.obk⟩
  · have h2 : (wipeS δ vs).length = δ.length := by
      induction vs with
      | nil => rfl
      | cons v vs ih => unfold wipeS; rw [List.length_set, ih]
    rw [wipe_length, h2]; exact S.len
  · rw [wipeS_get] at e
    split at e
    · cases q : δ[i]? with
      | none => rw [q] at e; cases e
      | some o => rw [q] at e; cases e
    · rename_i hn
      obtain ⟨v, e1, r⟩ := S.slot i d e
      exact ⟨v, by rw [wipe_get, if_neg hn]; exact e1, r⟩
/-- behind the block: the slots of the def again -/
theorem Sr.back {δ' : DS} {M' : Mem} {ι' : Ix} {σ' : L2.St} (S : Sr K G δ M ι σ H) (S' : Sr K G δ' M' ι' σ' H') (p : Ex ι ι') (k : Kp ι H ι' H') : Sr K G δ M' ι' σ H' :=
  ⟨S.len, fun i d e => by
    obtain ⟨v, e1, r⟩ := S.slot i d e
    exact ⟨v, e1, r.mono k p fun _ _ _ _ z => z⟩, S'.mem, S'.pre, S'.kp, S'.new, S'.bad, S'.hid, S'.obk⟩
/-- the ground while a list at p is just being made -/
def Gd.hide (G : Gd) (p : Addr) : Gd := { G with Hd := fun a => G.Hd a ∨ a = p }
mutual
theorem RD.hide {N N' : Bool → Addr → Prop} {H' : Hp} (hk : ∀ a o, H a = some o → (∀ xs, o = .lst xs → (∃ b, N b a)) → H' a = some o) (hn : ∀ b a o, H a = some o → N b a → N' b a) : ∀ (d : D) (v : V), RD K N H ι d v → RD K N' H' ι d v
  | .non, _, h => h
  | .bl _, _, h => h
  | .int _, _, h => h
  | .str _, _, h => h
  | .fn _, _, h => h
  | .ty _, _, h => h
  | .cls _, _, h => h
  | .exc _ f, v, h => by
    obtain ⟨a, oe, vs, e, q, n, c, d, x⟩ := h
    exact ⟨a, oe, vs, e, hk a _ q (fun xs z => nomatch z), n, c, d, x.map fun b o l q n => ⟨hk b _ q (fun xs z => nomatch z), n⟩⟩
  | .dn ks ds, v, h => by
    obtain ⟨a, xs, o, e, q, n, z, r1, r2⟩ := h
    exact ⟨a, xs, o, e, hk a _ q (fun xs z => nomatch z), n, z, RDs.hide hk hn ks _ r1, RDs.hide hk hn ds _ r2⟩
  | .dk ks ds, v, h => by
    obtain ⟨a, ws, o, e, q, n, z, r⟩ := h
    exact ⟨a, ws, o, e, hk a _ q (fun xs z => nomatch z), n, z, RDs.hide hk hn ds _ r⟩
  | .scr ns, v, h => by
    obtain ⟨a, e, ⟨o, q, n⟩ | q, l⟩ := h
    · exact ⟨a, e, .inl ⟨o, hk a _ q (fun xs z => nomatch z), n⟩, l⟩
    · exact ⟨a, e, .inr q, l⟩
  | .tup ds, v, h => by
    obtain ⟨a, xs, e, q, l, r⟩ := h
    refine ⟨a, xs, e, ?_, l, RDs.hide hk hn ds xs r⟩
    rcases q with ⟨q, n⟩ | q
    · exact .inl ⟨hk a _ q (fun xs z => nomatch z), n⟩
    · exact .inr q
  | .lst ds, v, h => by
    obtain ⟨a, xs, e, q, n, z, l, r⟩ := h
    exact ⟨a, xs, e, hk a _ q (fun _ _ => ⟨_, z⟩), n, hn _ a _ q z, l, RDs.hide hk hn ds xs r⟩
theorem RDs.hide {N N' : Bool → Addr → Prop} {H' : Hp} (hk : ∀ a o, H a = some o → (∀ xs, o = .lst xs → (∃ b, N b a)) → H' a = some o) (hn : ∀ b a o, H a = some o → N b a → N' b a) : ∀ (ds : List D) (vs : List V), RDs K N H ι ds vs → RDs K N' H' ι ds vs
  | [], _, h => h
  | d :: ds, vs, h => by
    obtain ⟨x, r, e, h1, h2⟩ := h
    exact ⟨x, r, e, RD.hide hk hn d x h1, RDs.hide hk hn ds r h2⟩
end
theorem RIs.hide {N N' : Bool → Addr → Prop} {H' : Hp} (hk : ∀ a o, H a = some o → (∀ xs, o = .lst xs → (∃ b, N b a)) → H' a = some o) (hn : ∀ b a o, H a = some o → N b a → N' b a) : ∀ {its : List (D ⊕ Nat)} {vs : List V}, RIs K N H ι its vs → RIs K N' H' ι its vs
  | [], _, h => h
  | .inl d :: its, vs, h => by
    obtain ⟨x, r, e, h1, h2⟩ := h
    exact ⟨x, r, e, RD.hide hk hn d x h1, RIs.hide hk hn h2⟩
  | .inr n :: its, vs, h => by
    obtain ⟨x, r, e, h1, h2⟩ := h
    exact ⟨x, r, e, h1, RIs.hide hk hn h2⟩
/-- the state seen otherwise: all things of it stay, the ground changes in what is hidden -/
theorem Sr.hideG {G' : Gd} {H' : Hp} (S : Sr K G δ M ι σ H) (g1 : G'.He = G.He) (g2 : G'.i0 = G.i0) (g3 : G'.B = G.B) (hk : ∀ a o, H a = some o → (∀ xs, o = .lst xs → (∃ b, G.N b a) ∨ some a ∈ ι) → H' a = some o) (hn : ∀ b a o, H a = some o → G.N b a → G'.N b a)
    (kp : Kp (G.i0.map some) G.He ι H') (hid : ∀ a, G'.Hd a → some a ∉ ι ∧ ∃ o, H' a = some o) : Sr K G' δ M ι σ H' := by
  have hk' : ∀ a o, H a = some o → (∀ xs, o = .lst xs → (∃ b, G.N b a)) → H' a = some o := fun a o e z => hk a o e fun xs h => .inl (z xs h)
  refine ⟨S.len, fun i d e => ?_, ⟨S.mem.len, S.mem.nod, fun n c a e1 e2 => ?_, S.mem.gone, S.mem.wf⟩, by rw [g2]; exact S.pre, by rw [g1, g2]; exact kp, by rw [g1, g2]; exact S.new, by rw [g1, g3]; exact S.bad, hid, by
    rw [g1, g2]
    refine S.obk.trans fun a ha => ?_
    obtain ⟨n, hn⟩ := List.getElem?_of_mem ha
    have hi := List.mem_of_getElem? (S.pre n a hn)
    obtain ⟨u, hu⟩ := S.i0there a ha
    have e9 := hk a u hu (fun xs _ => .inr hi)
    rw [show H' a = H a from e9.trans hu.symm]
    exact ⟨fun C dx fs e => ⟨fs, e, SameF.refl fs⟩, fun C dx fs e => ⟨fs, e⟩⟩⟩
  · obtain ⟨v, e1, r⟩ := S.slot i d e
    refine ⟨v, e1, ?_⟩
    cases d with
    | d x => exact RD.hide hk' hn x v r
    | ref n => exact r
    | bor ds =>
      obtain ⟨a, xs, e2, q, n, z, l, r⟩ := r
      exact ⟨a, xs, e2, hk' a _ q (fun _ _ => ⟨_, z⟩), n, hn _ a _ q z, l, RDs.hide hk' hn ds xs r⟩
  · have h := S.mem.cell n c a e1 e2
    cases c with
    | gone => exact h
    | lst ds => obtain ⟨xs, q, l, r⟩ := h; exact ⟨xs, hk a _ q (fun _ _ => .inr (List.mem_of_getElem? e2)), l, RDs.hide hk' hn ds xs r⟩
    | dk kvs => obtain ⟨ws, q, z, r⟩ := h; exact ⟨ws, hk a _ q (fun xs z => nomatch z), z, RDs.hide hk' hn _ _ r⟩
    | dn kvs => obtain ⟨xs, q, z, r1, r2⟩ := h; exact ⟨xs, hk a _ q (fun xs z => nomatch z), z, RDs.hide hk' hn _ _ r1, RDs.hide hk' hn _ _ r2⟩
    | nd k its =>
      obtain ⟨xs, q, l, r⟩ := h
      refine ⟨xs, ?_, l, RIs.hide hk' hn r⟩
      cases k with
      | ob c fs => obtain ⟨dx, q1, q2, q3, q4⟩ := q; exact ⟨dx, hk a _ q1 (fun xs z => nomatch z), hk dx _ q2 (fun xs z => nomatch z), q3, q4⟩
end
end VL
set_option Elab.async false
set_option linter.all false
set_option maxRecDepth 100000
set_option maxHeartbeats 4000000
namespace VL
open PySem PySem.Spec L2 RT RZ
/-- a comprehension's target, as the layer below reads it -/
def LcG.raw (K : PySem.W.Frag) : LcG → TG
  | .nm i => gName i
  | .tp is => gTup K is.length (is.foldr (fun i r => gCons (gName i) r) gNil)
section
variable {K : PySem.W.Frag} {X : Cx} {G : Gd} {δ : DS} {M : Mem} {ι : Ix} {σ : L2.St} {H H' : Hp}
theorem raw_names {vs : List Nat} {σ0 : L2.St} : ∀ {is : List Nat} {ds : List D} {xs : List V} {δ : DS} {σ : L2.St} {Q : L2.St → Hp → Prop}, Sr K G δ M ι σ H → RDs K G.N H ι ds xs → (∀ i ∈ is, i ∈ vs) → wipe σ vs = wipe σ0 vs →
    ∀ δ', setAll is ds δ = some δ' → (∀ σ', Sr K G δ' M ι σ' H → wipe σ' vs = wipe σ0 vs → Q σ' H) → is.foldr (fun i r => gCons (gName i) r) gNil xs σ H Q
  | [], ds, xs, δ, σ, Q, S, r, hv, hw, δ', e, z => by
    cases ds with
    | nil => cases e; cases (show _ = _ from r); exact ⟨rfl, z σ S hw⟩
    | cons d ds => cases e
  | i :: is, ds, xs, δ, σ, Q, S, r, hv, hw, δ', e, z => by
    cases ds with
    | nil => cases e
    | cons d ds =>
      obtain ⟨v, vr, rfl, r1, r2⟩ := r
      refine ⟨v, vr, rfl, ?_⟩
      exact raw_names (σ := σ.set i (some v)) (S.set (d := .d d) r1) r2 (fun j hj => hv j (List.mem_cons_of_mem _ hj)) ((wipe_set σ vs (some v) (hv i List.mem_cons_self)).trans hw) δ' e z
theorem raw_of {g : LcG} {vs : List Nat} {σ0 : L2.St} {d : D} {v : V} {Q0 : DS → Mem → Prop} {Q : L2.St → Hp → Prop} (S : Sr K G δ M ι σ H) (r : RD K G.N H ι d v) (hv : ∀ i ∈ g.names, i ∈ vs) (hw : wipe σ vs = wipe σ0 vs) (h : g.to d δ M Q0)
    (z : ∀ δ' σ', Q0 δ' M → Sr K G δ' M ι σ' H → wipe σ' vs = wipe σ0 vs → Q σ' H) : g.raw K v σ H Q := by
  cases g with
  | nm i => exact z _ _ h (S.set (d := .d d) r) ((wipe_set σ vs (some v) (hv i List.mem_cons_self)).trans hw)
  | tp is =>
    simp only [LcG.to, gTp] at h
    split at h
    · rename_i ds
      obtain ⟨δ', e, h⟩ := ok_elim h
      obtain ⟨a, xs, rfl, q, _, r⟩ := r
      exact ⟨a, xs, rfl, tup_sq q, by rw [← r.length, setAll_len e], raw_names S r hv hw δ' e fun σ' S' hw' => z δ' σ' h S' hw'⟩
    · exact h.elim
theorem wipe_wipe (σ : L2.St) (vs : List Nat) : wipe (wipe σ vs) vs = wipe σ vs := by
  apply List.ext_getElem?
  intro j
  rw [wipe_get, wipe_get]
  split
  · cases σ[j]? <;> rfl
  · rfl
abbrev VTs (X : Cx) (G : Gd) (es : List Expr) (t : TT') : Prop := PTs X es (lT X.K G t)
theorem vts_nil : VTs X G [] tYs := ⟨fun pins s σ H Q I ⟨δ, M, ι, Q0, S, q, z⟩ => pts_nil.run pins s σ H Q I (z true M ι H q (Ex.refl _) (Kp.refl _ _) S)⟩
theorem vts_one {c : Expr} {t : TT'} (h : VT X G c t) : VTs X G [c] t := pts_one h
/-- a comprehension's reading, in the layer below (the ground of the elements is not known ahead: tests and elements under any ground) -/
theorem lc_low {it : TI'} {g : LcG} {tt : TT'} {te : TE'} {vs : List Nat} (hv : ∀ i ∈ g.names, i ∈ vs) {σ : L2.St} {H : Hp} {Q : VK} (h : lF X.K G (fLc it g tt te vs) σ H Q) :
    tLc (lI X.K G true it) (g.raw X.K) (fun σ H Q => ∃ G', G'.i0 = G.i0 ∧ lT X.K G' tt σ H Q) (fun σ H Q => ∃ G', G'.i0 = G.i0 ∧ lE X.K G' te σ H Q) vs σ H Q := by
  obtain ⟨δ, M, ι, Q0, S, q, z⟩ := h
  refine ⟨δ, M, ι, _, S, q, fun ds gd M1 ι1 H1 J hb q1 p1 k1 S1 hJ => fun Dd hD => ?_⟩
  have hb := hb rfl
  have hDi : some Dd ∉ ι1 := S1.mem.fresh hD
  have kst : Kp ι1 H1 ι1 (upd H1 Dd (.lst [])) := Kp.laid hD
  have S2 : Sr X.K (G.hide Dd) (wipeS δ vs) M1 ι1 (wipe σ vs) (upd H1 Dd (.lst [])) := by
    have hne : ∀ a o, H1 a = some o → a ≠ Dd := fun a o e => ne_of_none e hD
    refine (S1.wiped vs).hideG rfl rfl rfl (fun a o e _ => by rw [upd_ne (hne a o e)]; exact e) (fun b a o e n => ⟨fun hh => ?_, n.2⟩) (S1.kp.trans kst) (fun a ha => ?_)
    · rcases hh with hh | rfl
      · exact n.1 hh
      · exact hne _ o e rfl
    · rcases ha with ha | rfl
      · obtain ⟨h1, o, h2⟩ := S1.hid a ha
        exact ⟨h1, o, (kst a o h2 h1).1⟩
      · exact ⟨hDi, _, upd_same⟩
  have hne : ∀ a o, H1 a = some o → a ≠ Dd := fun a o e => ne_of_none e hD
  have hN0 : ∀ b a o, H1 a = some o → G.N b a → (G.hide Dd).N b a := by
    intro b a o e n
    refine ⟨fun hh => ?_, n.2⟩
    rcases hh with hh | hh
    · exact n.1 hh
    · exact hne a o e hh
  have hHe : ∀ a o, G.He a = some o → some a ∉ G.i0.map some → a ≠ Dd := fun a o e n => hne a o (S1.kp a o e n).1
  -- what is hidden is neither named nor data
  have off : ∀ {ιc : Ix} {Hc : Hp} {δc Mc σc} (Sc : Sr X.K (G.hide Dd) δc Mc ιc σc Hc) {accV : List V} (hDc : Hc Dd = some (.lst accV)) (a : Addr) (o : HO), Hc a = some o → (∀ xs, o = .lst xs → (∃ b, (G.hide Dd).N b a) ∨ some a ∈ ιc) → a ≠ Dd := by
    intro ιc Hc δc Mc σc Sc accV hDc a o e hx hz
    subst hz
    rw [hDc] at e
    rcases hx accV (Option.some.inj e).symm with ⟨b, n⟩ | n
    · exact n.1 (.inr rfl)
    · exact (Sc.hid a (.inr rfl)).1 n
  -- the turns
  refine ⟨fun i m Hc => m = ds.length - i ∧ i ≤ ds.length ∧ ∃ acc accV Mc ιc, Sr X.K (G.hide Dd) (wipeS δ vs) Mc ιc (wipe σ vs) Hc ∧ Ex ι1 ιc ∧ Kp ι1 H1 ιc Hc ∧ Hc Dd = some (.lst accV) ∧ RDs X.K (G.hide Dd).N Hc ιc acc accV ∧ acc.length ≤ i ∧ lcL g.to tt te (wipeS δ vs) gd Q0 (ds.drop i) acc Mc,
    ⟨ds.length, by simp, Nat.zero_le _, [], [], M1, ι1, S2, Ex.refl _, kst, upd_same, rfl, Nat.zero_le _, by simpa using q1⟩, ?_⟩
  rintro i m Hc ⟨rfl, hi', acc, accV, Mc, ιc, Sc, ec, kc, hDc, rc, lc, qc⟩
  by_cases hlt : i < ds.length
  · have hd : ds.drop i = ds[i] :: ds.drop (i + 1) := List.drop_eq_getElem_cons hlt
    rw [hd] at qc
    obtain ⟨hgd, qc⟩ := qc
    obtain ⟨_, hgo⟩ := hJ (G.hide Dd) _ Mc ιc _ Hc hN0 Sc ec kc hgd
    obtain ⟨go, hy⟩ := hgo i ds[i] (List.getElem?_eq_getElem hlt)
    refine .inr ⟨go, fun H' => ∃ acc accV Mc ιc, Sr X.K (G.hide Dd) (wipeS δ vs) Mc ιc (wipe σ vs) H' ∧ Ex ι1 ιc ∧ Kp ι1 H1 ιc H' ∧ H' Dd = some (.lst accV) ∧ RDs X.K (G.hide Dd).N H' ιc acc accV ∧ acc.length ≤ i + 1 ∧ lcL g.to tt te (wipeS δ vs) gd Q0 (ds.drop (i + 1)) acc Mc,
      fun H' h' => ⟨ds.length - (i + 1), by omega, rfl, hlt, h'⟩, fun x H3 y3 => ?_⟩
    obtain ⟨hH3, S3, k3, r3⟩ := hy x H3 y3
    have hidc := (Sc.hid Dd (.inr rfl)).1
    refine raw_of (σ0 := σ) S3 r3 hv (wipe_wipe σ vs) qc fun δ4 σ4 q4 S4 hw4 => ⟨hw4, G.hide Dd, rfl, δ4, Mc, ιc, _, S4, q4, fun b M5 ι5 H5 q5 e5 k5 S5 => ?_⟩
    have S5' := Sc.back S5 e5 (k3.trans k5)
    have hD5 := ((k3.trans k5) Dd _ hDc hidc).1
    have r5 := rc.mono (N' := (G.hide Dd).N) (k3.trans k5) (fun _ _ _ _ z => z)
    cases b with
    | false =>
      simp only [Bool.false_eq_true, if_false] at q5 ⊢
      exact ⟨acc, accV, M5, ι5, S5', ec.trans e5, kc.trans (k3.trans k5), hD5, r5, by omega, q5⟩
    | true =>
      simp only [if_true] at q5 ⊢
      refine ⟨G.hide Dd, rfl, δ4, M5, ι5, _, S5, q5, fun s M6 ι6 H6 v q6 e6 k6 S6 r6 => ?_⟩
      obtain ⟨y, ey, q6⟩ := ok_elim q6
      have hs6 : s = .d y := by
        cases s with
        | d x => cases ey; rfl
        | ref n => cases ey
        | bor n => cases ey
      subst hs6
      have hid5 := (S5.hid Dd (.inr rfl)).1
      have hD6 := (k6 Dd _ hD5 hid5).1
      have S6' := S5'.back S6 e6 k6
      have hid6 := (S6.hid Dd (.inr rfl)).1
      have r6a := r5.mono (N' := (G.hide Dd).N) k6 (fun _ _ _ _ z => z)
      have hlenV : accV.length = acc.length := rc.length.symm
      have o6 := off S6 hD6
      refine ⟨accV, hD6, by omega, acc ++ [y], accV ++ [v], M6, ι6, ?_, (ec.trans e5).trans e6, ?_, upd_same, ?_, by simp; omega, q6⟩
      · refine S6'.hideG rfl rfl rfl (fun a o e hx => by rw [upd_ne (o6 a o e hx)]; exact e) (fun _ _ _ _ z => z) ?_ (fun a ha => ?_)
        · intro a o e n
          obtain ⟨h1, h2⟩ := S6'.kp a o e n
          exact ⟨by rw [upd_ne (hHe a o e n)]; exact h1, h2⟩
        · obtain ⟨h1, o, h2⟩ := S6'.hid a ha
          refine ⟨h1, ?_⟩
          by_cases hz : a = Dd
          · subst hz; exact ⟨_, upd_same⟩
          · exact ⟨o, by rw [upd_ne hz]; exact h2⟩
      · intro a o e n
        obtain ⟨h1, h2⟩ := (kc.trans ((k3.trans k5).trans k6)) a o e n
        exact ⟨by rw [upd_ne (hne a o e)]; exact h1, h2⟩
      · refine RDs.append ?_ ⟨v, [], rfl, ?_, rfl⟩
        · exact RDs.hide (fun a o e hx => by rw [upd_ne (o6 a o e fun xs z => .inl (hx xs z))]; exact e) (fun _ _ _ _ z => z) _ _ r6a
        · exact RD.hide (fun a o e hx => by rw [upd_ne (o6 a o e fun xs z => .inl (hx xs z))]; exact e) (fun _ _ _ _ z => z) _ _ r6
  · have hd : ds.drop i = [] := List.drop_eq_nil_of_le (by omega)
    rw [hd] at qc
    obtain ⟨hgd, qc⟩ := qc
    obtain ⟨hst, _⟩ := hJ (G.hide Dd) _ Mc ιc _ Hc hN0 Sc ec kc hgd
    have e : i = ds.length := by omega
    subst e
    refine .inl ⟨hst, ?_⟩
    have oc := off Sc hDc
    generalize hH' : (fun b => if b = Dd then none else Hc b : Hp) = H'
    have hne' : ∀ a, a ≠ Dd → H' a = Hc a := fun a n => by rw [← hH']; exact if_neg n
    have hDn : H' Dd = none := by rw [← hH']; exact if_pos rfl
    have hback : upd H' Dd (.lst accV) = Hc := by
      funext b
      by_cases hz : b = Dd
      · subst hz; rw [upd_same, hDc]
      · rw [upd_ne hz, hne' b hz]
    rw [← hback]
    have kc' : Kp ι1 H1 ιc H' := fun a o e n => by
      obtain ⟨h1, h2⟩ := kc a o e n
      exact ⟨by rw [hne' a (hne a o e)]; exact h1, h2⟩
    have Sg : Sr X.K G (wipeS δ vs) Mc ιc (wipe σ vs) H' := by
      refine Sc.hideG rfl rfl rfl (fun a o e hx => by rw [hne' a (oc a o e hx)]; exact e) (fun b a o e n => ⟨fun z => n.1 (.inl z), n.2⟩) ?_ (fun a ha => ?_)
      · intro a o e n
        obtain ⟨h1, h2⟩ := Sc.kp a o e n
        exact ⟨by rw [hne' a (hHe a o e n)]; exact h1, h2⟩
      · obtain ⟨h1, o, h2⟩ := Sc.hid a (.inl ha)
        obtain ⟨_, o', h3⟩ := S1.hid a ha
        exact ⟨h1, o, by rw [hne' a (hne a o' h3)]; exact h2⟩
    refine z acc Mc ιc H' accV Dd qc (p1.trans ec) (k1.trans kc') (S1.back Sg ec kc') ?_ (by omega) hDn
    exact RDs.hide (fun a o e hx => by rw [hne' a (oc a o e fun xs z => .inl (hx xs z))]; exact e) (fun b a o e n => ⟨fun z => n.1 (.inl z), n.2⟩) _ _ rc
theorem vf_lc {elt tg iter : Expr} {ifs : List Expr} {scope : Scope} {own : List (Str × Nat)} {pos : Pos} {it : TI'} {g : LcG} {tt : TT'} {te : TE'} (hc : X.calm = true) (hN : X.N.Nodup) (hi : VI X G true tg iter it) (ok' : BlkOk X.N X.env.scope scope own)
    (hg : ∀ (s : Shared) (H : Hp) (C : Addr) (cl : List (Str × Addr)) (fp : List Addr), PG (X.blk s H scope (compEnvC scope cl C X.env) fp) tg (g.raw X.K)) (ht : ∀ (s : Shared) (H : Hp) (C : Addr) (cl : List (Str × Addr)) (fp : List Addr) (G' : Gd), G'.i0 = G.i0 → VTs (X.blk s H scope (compEnvC scope cl C X.env) fp) G' ifs tt)
    (he : ∀ (s : Shared) (H : Hp) (C : Addr) (cl : List (Str × Addr)) (fp : List Addr) (G' : Gd), G'.i0 = G.i0 → VE (X.blk s H scope (compEnvC scope cl C X.env) fp) G' elt te) (hv : ∀ i ∈ g.names, i ∈ own.map (·.2)) (hs : ∀ x, foldedSetIterable iter X.env x = pure x := by intro _; rfl) :
    VF X G (.ListComp elt [⟨tg, iter, ifs, 0⟩] scope pos) (fLc it g tt te (own.map (·.2))) := by
  have h := pe_lc (pos := pos) (te := fun σ H Q => ∃ G', G'.i0 = G.i0 ∧ lE X.K G' te σ H Q) (tt := fun σ H Q => ∃ G', G'.i0 = G.i0 ∧ lT X.K G' tt σ H Q) hc hN hi ok' hg
    (fun s H C cl fp => ⟨fun pins s' σ H' Q I ⟨G', hg', q⟩ => (ht s H C cl fp G' hg').run pins s' σ H' Q I q⟩) (fun s H C cl fp => ⟨fun pins s' σ H' Q I ⟨G', hg', q⟩ => (he s H C cl fp G' hg').run pins s' σ H' Q I q⟩) hs
  exact PE.weak h fun σ H Q q => lc_low hv q
theorem fz_low {K : PySem.W.Frag} {tf : TF'} {σ : L2.St} {H : Hp} {Q : VK} (h : lE K G (eFz tf) σ H Q) : lF K G tf σ H Q := by
  obtain ⟨δ, M, ι, Q0, S, q, z⟩ := h
  exact ⟨δ, M, ι, _, S, q, fun ds M' ι' H' xs p h1 p1 k1 S1 r1 hl hp => fin_lst S1 (fun ι2 H2 w e2 k2 S2 r3 => z _ M' ι2 H2 w h1 (p1.trans e2) (k1.trans k2) S2 r3) r1 hl hp⟩
theorem nw_low {K : PySem.W.Frag} {tf : TF'} {σ : L2.St} {H : Hp} {Q : VK} (h : lE K G (eNw tf) σ H Q) : lF K G tf σ H Q := by
  obtain ⟨δ, M, ι, Q0, S, q, z⟩ := h
  refine ⟨δ, M, ι, _, S, q, fun ds M' ι' H' xs p h1 p1 k1 S1 r1 hl hp => ?_⟩
  have S2 := S1.named (o := .lst xs) (c := .lst ds) hp ⟨xs, upd_same, hl, r1.mono (Kp.named hp) fun _ _ _ _ q => q⟩
  refine z _ _ _ _ _ h1 (p1.trans (Ex.app _ _)) (k1.trans (Kp.named hp)) S2 ⟨p, rfl, .inl ?_⟩
  rw [S1.mem.len]; simp
/-- name = [..] on one line, the name a local -/
theorem vs_setLc {i : Nat} {y : Str} {py : Pos} {elt tg iter : Expr} {ifs : List Expr} {scope : Scope} {own : List (Str × Nat)} {pos spos : Pos} {it : TI'} {g : LcG} {tt : TT'} {te : TE'} (hc : X.calm = true) (hN : X.N.Nodup) (hy : X.N[i]? = some y) (hyl : X.env.scope.names.lookup y = some .local)
    (hsw : swapsWith (.ListComp elt [⟨tg, iter, ifs, 0⟩] scope pos) (some (.Name y py)) spos.line X.env = pure true) (hi : VI X G true tg iter it) (ok' : BlkOk X.N X.env.scope scope own)
    (hg : ∀ (s : Shared) (H : Hp) (C : Addr) (cl : List (Str × Addr)) (fp : List Addr), PG (X.blk s H scope (compEnvC scope cl C X.env) fp) tg (g.raw X.K)) (ht : ∀ (s : Shared) (H : Hp) (C : Addr) (cl : List (Str × Addr)) (fp : List Addr) (G' : Gd), G'.i0 = G.i0 → VTs (X.blk s H scope (compEnvC scope cl C X.env) fp) G' ifs tt)
    (he : ∀ (s : Shared) (H : Hp) (C : Addr) (cl : List (Str × Addr)) (fp : List Addr) (G' : Gd), G'.i0 = G.i0 → VE (X.blk s H scope (compEnvC scope cl C X.env) fp) G' elt te) (hv : ∀ i ∈ g.names, i ∈ own.map (·.2)) {nw : Bool} (hs : ∀ x, foldedSetIterable iter X.env x = pure x := by intro _; rfl) :
    VS X G (.Assign [.Name y py] (.ListComp elt [⟨tg, iter, ifs, 0⟩] scope pos) spos) (sSet i ((if nw then eNw else eFz) (fLc it g tt te (own.map (·.2))))) := by
  have h := ps_setLc (te := fun σ H Q => ∃ G', G'.i0 = G.i0 ∧ lE X.K G' te σ H Q) (tt := fun σ H Q => ∃ G', G'.i0 = G.i0 ∧ lT X.K G' tt σ H Q) hc hN hy hyl hsw hi ok' hg
    (fun s H C cl fp => ⟨fun pins s' σ H' Q I ⟨G', hg', q⟩ => (ht s H C cl fp G' hg').run pins s' σ H' Q I q⟩) (fun s H C cl fp => ⟨fun pins s' σ H' Q I ⟨G', hg', q⟩ => (he s H C cl fp G' hg').run pins s' σ H' Q I q⟩) hs
  refine PS.weak h fun E σ H ⟨δ, M, ι, E0, S, q, z⟩ => ?_
  refine lc_low hv ?_
  have hh : lE X.K G ((if nw then eNw else eFz) (fLc it g tt te (own.map (·.2)))) σ H (fun x H1 => gName i x σ H1 E.nx) :=
    ⟨δ, M, ι, _, S, q, fun d M' ι' H' v q' p' k' S' r' => z.nx _ M' ι' _ H' q' p' k' (S'.set r')⟩
  cases nw with
  | true => exact nw_low hh
  | false => exact fz_low hh
end
end VL
set_option Elab.async false
set_option linter.all false
set_option maxRecDepth 100000
set_option maxHeartbeats 4000000
namespace VL
open PySem PySem.Spec L2 RT RZ
def RdF (K : PySem.W.Frag) (r : List V → Hp → VK → Prop) (f : Mem → List Sv → Option (List D)) : Prop := ∀ (G : Gd) (δ : DS) (M : Mem) (ι : Ix) (σ : L2.St) (H : Hp) (xs : List Sv) (vs : List V) (ds : List D), Sr K G δ M ι σ H → RSs K G.N H ι xs vs → f M xs = some ds →
  ∀ Q : VK, (∀ ys p, RDs K G.N H ι ds ys → ds.length ≤ sizeLine → H p = none → Q (.ref p) (upd H p (.lst ys))) → r vs H Q
def fN (f : Mem → List Sv → Option (List D)) (t : TA') : TF' := fun δ M Q => t δ M fun xs M1 => ok (f M1 xs) fun ds => Q ds M1
def plN (f : Mem → List Sv → Option (List D)) (ps : List PV) : PL := fun δ M => (pArgs ps δ M).bind (f M)
def f2 (f : Mem → Sv → Sv → Option (List D)) (ta tb : TE') : TF' := fun δ M Q => ta δ M fun x M1 => tb δ M1 fun y M2 => ok (f M2 x y) fun ds => Q ds M2
def pl2 (f : Mem → Sv → Sv → Option (List D)) (a b : PV) : PL := fun δ M => (a δ M).bind fun x => (b δ M).bind fun y => f M x y
def RdF2 (K : PySem.W.Frag) (r : R2) (f : Mem → Sv → Sv → Option (List D)) : Prop := ∀ (G : Gd) (δ : DS) (M : Mem) (ι : Ix) (σ : L2.St) (H : Hp) (x y : Sv) (v u : V) (ds : List D), Sr K G δ M ι σ H → RS K G.N H ι x v → RS K G.N H ι y u → f M x y = some ds →
  ∀ Q : VK, (∀ ys p, RDs K G.N H ι ds ys → ds.length ≤ sizeLine → H p = none → Q (.ref p) (upd H p (.lst ys))) → r v u H Q
section
variable {K : PySem.W.Frag} {X : Cx} {G : Gd} {e a b : Expr} {es : List Expr} {pos : Pos} {ta tb t : TE'} {N : Bool → Addr → Prop} {H : Hp} {ι : Ix} {tf : TF'}
theorem vf_callB {x : Str} {id : String} {p : Pos} {n : Nat} {tA : TA'} {r : List V → Hp → VK → Prop} {f : Mem → List Sv → Option (List D)} (hc : CallR X (.builtin id) r) (hf : RdF X.K r f) (hg : Gl X x) (hm : X.mg x = none) (hv : bootBuiltins x = some (.builtin id)) (ha : VA X G (e :: es) n tA) (hn : x ≠ "__name__" := by decide) (hdb : (x == ("__debug__" : Str)) = false := by decide)
    (he : starEach (e :: es) X.env = (false, eval e X.env) :: starEach es X.env := by rfl) (hpl : (backTo pos (starEach es X.env)).any (·.1) = false := by rfl) : VF X G (.Call (.Name x p) (e :: es) [] pos) (fN f tA) :=
  PE.weak (pe_callB hc hg hm hv ha hn hdb he hpl) fun σ H Q ⟨δ, M, ι, Q0, S, q, z⟩ => thA S q fun xs M1 ι1 H1 vs hl q1 p1 k1 S1 r1 => by
    obtain ⟨ds, e, q1⟩ := ok_elim q1
    exact hf G δ M1 ι1 σ H1 xs vs ds S1 r1 e Q fun ys p ry hl hp => z ds M1 ι1 H1 ys p q1 p1 k1 S1 ry hl hp
theorem vf_callTy {x : Str} {T : String} {p : Pos} {n : Nat} {tA : TA'} {r : List V → Hp → VK → Prop} {f : Mem → List Sv → Option (List D)} (hc : CallR X (.type T) r) (hf : RdF X.K r f) (hg : Gl X x) (hm : X.mg x = none) (hv : bootBuiltins x = some (.type T)) (ha : VA X G (e :: es) n tA) (hn : x ≠ "__name__" := by decide) (hdb : (x == ("__debug__" : Str)) = false := by decide)
    (he : starEach (e :: es) X.env = (false, eval e X.env) :: starEach es X.env := by rfl) (hpl : (backTo pos (starEach es X.env)).any (·.1) = false := by rfl) : VF X G (.Call (.Name x p) (e :: es) [] pos) (fN f tA) :=
  PE.weak (pe_callTy hc hg hm hv ha hn hdb he hpl) fun σ H Q ⟨δ, M, ι, Q0, S, q, z⟩ => thA S q fun xs M1 ι1 H1 vs hl q1 p1 k1 S1 r1 => by
    obtain ⟨ds, e, q1⟩ := ok_elim q1
    exact hf G δ M1 ι1 σ H1 xs vs ds S1 r1 e Q fun ys p ry hl hp => z ds M1 ι1 H1 ys p q1 p1 k1 S1 ry hl hp
theorem vf_bin {op : Operator} {r : R2} {f : Mem → Sv → Sv → Option (List D)} (ho : OpR X (binaryOp op) r) (hf : RdF2 X.K r f) (ha : VE X G a ta) (hb : VE X G b tb) : VF X G (.BinOp a op b pos) (f2 f ta tb) :=
  PE.weak (pe_op ho ha hb) fun σ H Q ⟨δ, M, ι, Q0, S, q, z⟩ => th1 S q fun x M1 ι1 H1 v q1 p1 k1 S1 r1 => th1 S1 q1 fun y M2 ι2 H2 u q2 p2 k2 S2 r2 => by
    obtain ⟨ds, e, q2⟩ := ok_elim q2
    exact hf G δ M2 ι2 σ H2 x y v u ds S2 (r1.mono k2 p2 fun _ _ _ _ q => q) r2 e Q fun ys p ry hl hp => z ds M2 ι2 H2 ys p q2 (p1.trans p2) (k1.trans k2) S2 ry hl hp
theorem VF.pN {f : Mem → List Sv → Option (List D)} {ps : List PV} (h : VF X G e (fN f (aP ps))) : VF X G e (fP (plN f ps)) := h.weak fun δ M Q h => by
  unfold fP plN at h; rw [ok_bind] at h; exact h
theorem VF.p2 {f : Mem → Sv → Sv → Option (List D)} {p q : PV} (h : VF X G e (f2 f (eP p) (eP q))) : VF X G e (fP (pl2 f p q)) := h.weak fun δ M Q h => by
  unfold fP pl2 at h
  rw [ok_bind] at h
  obtain ⟨d, e1, h⟩ := ok_elim h
  rw [ok_bind] at h
  exact ok_of e1 h
theorem seq_len {δ : DS} {M : Mem} {σ : L2.St} {d : Sv} {v : V} {ds : List D} (S : Sr K G δ M ι σ H) (h : RS K G.N H ι d v) (e : seqD M d = some ds) : ds.length ≤ sizeLine := by
  cases d with
  | ref n =>
    obtain ⟨a, e1, hn, xs, q, l, r⟩ := S.mem.at h (cellL_some (show cellL M[n]? = some ds from e)) (fun z => nomatch z)
    exact l
  | bor es => cases e; obtain ⟨a, xs, e1, q, n, _, l, r⟩ := h; exact l
  | d d =>
    cases d with
    | lst es => cases e; obtain ⟨a, xs, e1, q, n, z, l, r⟩ := h; exact l
    | tup es => cases e; obtain ⟨a, xs, e1, q, l, r⟩ := h; exact l
    | scr ns => cases e; obtain ⟨a, e1, q, l⟩ := h; simpa using l
    | _ => cases e
theorem lst_seq {M : Mem} {d : Sv} {ds : List D} (e : lstD M d = some ds) : seqD M d = some ds := by
  cases d with
  | ref n => exact e
  | bor n => exact e
  | d d => cases d <;> first | exact e | cases e
def listF (M : Mem) : List Sv → Option (List D)
  | [s] => seqD M s
  | _ => none
theorem rd_list : RdF K (fun xs H Q => ∃ p ys, xs = [V.ref p] ∧ (SqL K H p ys ∨ SqT K H p ys) ∧ ∀ l, H l = none → Q (.ref l) (upd H l (.lst ys))) listF := by
  intro G δ M ι σ H xs vs ds S rx e Q z
  unfold listF at e
  split at e
  · obtain ⟨v, rfl, r⟩ := one_of rx
    obtain ⟨a, ys, rfl, hq, ry⟩ := seq_of S r e
    exact ⟨a, ys, rfl, hq, fun l hl => z ys l ry (by have := seq_len S r e; exact this) hl⟩
  · cases e
/-- the items of a list that is laid (not the script) -/
def laidD (M : Mem) : Sv → Option (List D)
  | .d (.lst ds) => some ds
  | .bor ds => some ds
  | .ref n => cellL M[n]?
  | _ => none
theorem laid_of {δ : DS} {M : Mem} {σ : L2.St} {d : Sv} {v : V} {ds : List D} (S : Sr K G δ M ι σ H) (h : RS K G.N H ι d v) (e : laidD M d = some ds) : ∃ a xs, v = .ref a ∧ H a = some (.lst xs) ∧ RDs K G.N H ι ds xs ∧ ds.length ≤ sizeLine := by
  cases d with
  | ref n =>
    obtain ⟨a, e1, hn, xs, q, l, r⟩ := S.mem.at h (cellL_some (show cellL M[n]? = some ds from e)) (fun z => nomatch z)
    exact ⟨a, xs, e1, q, r, l⟩
  | bor es => cases e; obtain ⟨a, xs, e1, q, n, _, l, r⟩ := h; exact ⟨a, xs, e1, q, r, l⟩
  | d d =>
    cases d with
    | lst es => cases e; obtain ⟨a, xs, e1, q, n, z, l, r⟩ := h; exact ⟨a, xs, e1, q, r, l⟩
    | _ => cases e
def catF (M : Mem) (x y : Sv) : Option (List D) := (laidD M x).bind fun as => (laidD M y).bind fun bs => gd (as.length + bs.length ≤ sizeLine) (as ++ bs)
theorem rd_cat : RdF2 K rCat catF := by
  intro G δ M ι σ H x y v u ds S rx ry e Q z
  unfold catF at e
  cases qa : laidD M x with
  | none => rw [qa] at e; cases e
  | some as =>
    cases qb : laidD M y with
    | none => rw [qa, qb] at e; cases e
    | some bs =>
      rw [qa, qb] at e
      obtain ⟨hc, rfl⟩ := gd_some (show gd _ _ = some ds from e)
      obtain ⟨a, xs, rfl, h1, r1, l1⟩ := laid_of S rx qa
      obtain ⟨b, ys, rfl, h2, r2, l2⟩ := laid_of S ry qb
      exact ⟨a, b, xs, ys, rfl, rfl, h1, h2, by rw [← r1.length, ← r2.length]; exact hc, fun p hp => z _ p (r1.append r2) (by rw [List.length_append]; exact hc) hp⟩
def repF (M : Mem) (x y : Sv) : Option (List D) := match y with
  | .d (.int k) => (laidD M x).bind fun as => gd (-(2 ^ 63) ≤ k ∧ k < 2 ^ 63 ∧ as.length * k.toNat ≤ sizeLine) (List.replicate k.toNat as).flatten
  | _ => none
theorem RDs.rep {ds : List D} {xs : List V} (r : RDs K N H ι ds xs) : ∀ k : Nat, RDs K N H ι (List.replicate k ds).flatten (List.replicate k xs).flatten
  | 0 => rfl
  | k + 1 => by rw [List.replicate_succ, List.replicate_succ, List.flatten_cons, List.flatten_cons]; exact r.append (RDs.rep r k)
theorem rep_len {α : Type} (ds : List α) : ∀ k : Nat, (List.replicate k ds).flatten.length = ds.length * k
  | 0 => by simp
  | k + 1 => by rw [List.replicate_succ, List.flatten_cons, List.length_append, rep_len ds k, Nat.mul_succ, Nat.add_comm]
theorem rd_rep : RdF2 K rRep repF := by
  intro G δ M ι σ H x y v u ds S rx ry e Q z
  unfold repF at e
  split at e
  · rename_i k
    cases qa : laidD M x with
    | none => rw [qa] at e; cases e
    | some as =>
      rw [qa] at e
      obtain ⟨⟨h1, h2, h3⟩, rfl⟩ := gd_some (show gd _ _ = some ds from e)
      obtain ⟨a, xs, rfl, h4, r1, l1⟩ := laid_of S rx qa
      cases (show _ = _ from ry)
      exact ⟨a, k, xs, rfl, rfl, h4, h1, h2, by rw [← r1.length]; exact h3, fun p hp => z _ p (r1.rep _) (by rw [rep_len]; exact h3) hp⟩
  · cases e
theorem vf_cat (ha : VE X G a ta) (hb : VE X G b tb) : VF X G (.BinOp a .Add b pos) (f2 catF ta tb) := vf_bin op_cat rd_cat ha hb
theorem vf_rep (ha : VE X G a ta) (hb : VE X G b tb) : VF X G (.BinOp a .Mult b pos) (f2 repF ta tb) := vf_bin op_rep rd_rep ha hb
def f1 (f : Mem → Sv → Option (List D)) (ta : TE') : TF' := fun δ M Q => ta δ M fun x M1 => ok (f M1 x) fun ds => Q ds M1
def pl1 (f : Mem → Sv → Option (List D)) (a : PV) : PL := fun δ M => (a δ M).bind (f M)
theorem VF.p1 {f : Mem → Sv → Option (List D)} {p : PV} (h : VF X G e (f1 f (eP p))) : VF X G e (fP (pl1 f p)) := h.weak fun δ M Q h => by
  unfold fP pl1 at h; rw [ok_bind] at h; exact h
def tupC (M : Mem) (x : Sv) : Option Sv := (seqD M x).map fun ds => .d (.tup ds)
theorem ve_tupleOf {p : Pos} (hg : Gl X "tuple") (hm : X.mg "tuple" = none) (ha : VE X G a ta) (na : starEach [a] X.env = (false, eval a X.env) :: starEach [] X.env := by rfl) : VE X G (.Call (.Name "tuple" p) [a] [] pos) (eo1 tupC ta) :=
  PE.weak (pe_tupleOf hg hm ha na) fun σ H Q h => by
    refine fin1 (r := fun x H Q => kTup X.K x H Q) (fun G δ M ι σ H x v d S rx e Q z => ?_) h
    obtain ⟨ds, e9, rfl⟩ := Option.map_eq_some_iff.mp e
    have hl := seq_len S rx e9
    by_cases hx : ∃ es, x = .d (.tup es)
    · obtain ⟨es, rfl⟩ := hx
      cases e9
      have rx' := rx
      obtain ⟨b, xs, rfl, q, l, r⟩ := rx
      exact .inr ⟨b, xs, rfl, tup_sq q, fin_same S z rx'⟩
    · have e3 : lstD M x = some ds := by
        cases x with
        | d x =>
          cases x with
          | tup es => exact absurd ⟨es, rfl⟩ hx
          | lst es => exact e9
          | scr es => exact e9
          | _ => cases e9
        | ref n => exact e9
        | bor n => exact e9
      obtain ⟨b, xs, rfl, hq, r⟩ := lst_of S rx e3
      exact .inl ⟨b, xs, rfl, hq, fun q hq => fin_tup S z r hl hq⟩
end
abbrev TO' := DS → Mem → (Option Int → Mem → Prop) → Prop
def lO (K : PySem.W.Frag) (G : Gd) (t : TO') : TO := fun σ H Q => ∃ δ M ι Q0, Sr K G δ M ι σ H ∧ t δ M Q0 ∧
  ∀ b M' ι' H', Q0 b M' → Ex ι ι' → Kp ι H ι' H' → Sr K G δ M' ι' σ H' → Q b H'
abbrev VO (X : Cx) (G : Gd) (e : Option Expr) (t : TO') : Prop := PO X e (lO X.K G t)
abbrev PO' := DS → Mem → Option (Option Int)
def oP (p : PO') : TO' := fun δ M Q => ok (p δ M) fun o => Q o M
def poNo : PO' := fun _ _ => some none
def intO : Sv → Option (Option Int)
  | .d (.int i) => some (some i)
  | _ => none
def poI (p : PV) : PO' := fun δ M => (p δ M).bind intO
def cutD (ds : List D) (lo hi : Option Int) : List D := (ds.drop (HT.sIx ds.length 0 lo)).take (HT.sIx ds.length ds.length hi - HT.sIx ds.length 0 lo)
def slD (_ : Mem) : Sv → Option Int → Option Int → Option Sv
  | .d (.tup ds), lo, hi => some (.d (.tup (cutD ds lo hi)))
  | .d (.str z), lo, hi => gd (z.length ≤ sizeLine) (.d (.str (cutS z lo hi)))
  | _, _, _ => none
def slF (M : Mem) (s : Sv) (lo hi : Option Int) : Option (List D) := (lstD M s).map fun ds => cutD ds lo hi
def poSl (a : PV) (lo hi : PO') : PV := fun δ M => (a δ M).bind fun s => (lo δ M).bind fun l => (hi δ M).bind fun h => slD M s l h
def plSl (a : PV) (lo hi : PO') : PL := fun δ M => (a δ M).bind fun s => (lo δ M).bind fun l => (hi δ M).bind fun h => slF M s l h
section
variable {K : PySem.W.Frag} {X : Cx} {G : Gd} {e a b : Expr} {es : List Expr} {pos p2 : Pos} {ta tb t : TE'} {N : Bool → Addr → Prop} {H : Hp} {ι : Ix} {lo hi : Option Expr} {pa : PV} {pl ph : PO'}
theorem vo_none : VO X G none (oP poNo) := ⟨fun pins s σ H Q I ⟨δ, M, ι, Q0, S, q, z⟩ => po_none.run pins s σ H Q I (z none M ι H q (Ex.refl _) (Kp.refl _ _) S)⟩
theorem vo_some (h : VE X G e (eP pa)) : VO X G (some e) (oP (poI pa)) := by
  refine ⟨fun pins s σ H Q I ⟨δ, M, ι, Q0, S, q, z⟩ => (po_some h).run pins s σ H Q I ?_⟩
  unfold oP poI at q
  rw [ok_bind] at q
  refine th1 (Q0 := fun s M' => M' = M ∧ ok (intO s) fun o => Q0 o M) S (by obtain ⟨d, e, q⟩ := ok_elim q; exact ok_of e ⟨rfl, q⟩) fun x M1 ι1 H1 v q1 p1 k1 S1 r1 => ?_
  obtain ⟨rfl, q1⟩ := q1
  obtain ⟨o, e, q1⟩ := ok_elim q1
  unfold intO at e
  split at e
  · cases e; cases (show _ = _ from r1); exact ⟨_, rfl, z _ M1 ι1 H1 q1 p1 k1 S1⟩
  · cases e
theorem cutD_len (ds : List D) (lo hi : Option Int) : (cutD ds lo hi).length ≤ ds.length := by
  unfold cutD; rw [List.length_take, List.length_drop]; omega
theorem RDs.cut {ds : List D} {xs : List V} (r : RDs K N H ι ds xs) (lo hi : Option Int) : RDs K N H ι (cutD ds lo hi) (cutV xs lo hi) := by
  unfold cutD cutV
  rw [← r.length]
  exact (r.drop _).take _
theorem cut_whole {xs : List V} {lo hi : Option Int} (h : HT.sIx xs.length 0 lo = 0 ∧ HT.sIx xs.length xs.length hi = xs.length) : cutV xs lo hi = xs := by
  unfold cutV; rw [h.1, h.2]; simp
theorem ve_slice (he : VE X G a (eP pa)) (hl : VO X G lo (oP pl)) (hu : VO X G hi (oP ph)) : VE X G (.Subscript a (.Slice lo hi none p2) pos) (eP (poSl pa pl ph)) := by
  refine PE.weak (pe_slice ((sl_tupA (X := X)).or sl_str) he hl hu) fun σ H Q ⟨δ, M, ι, Q0, S, q, z⟩ => ?_
  unfold eP poSl at q
  rw [ok_bind] at q
  obtain ⟨s, e1, q⟩ := ok_elim q
  rw [ok_bind] at q
  obtain ⟨l, e2, q⟩ := ok_elim q
  rw [ok_bind] at q
  obtain ⟨h, e3, q⟩ := ok_elim q
  obtain ⟨d, e4, q9⟩ := ok_elim q
  refine th1 (Q0 := fun x M' => x = s ∧ M' = M) S (ok_of e1 ⟨rfl, rfl⟩) fun x M1 ι1 H1 v q1 p1 k1 S1 r1 => ?_
  obtain ⟨rfl, rfl⟩ := q1
  refine ⟨δ, M1, ι1, fun o M' => o = l ∧ M' = M1, S1, ok_of e2 ⟨rfl, rfl⟩, fun o M2 ι2 H2 q2 p2 k2 S2 => ?_⟩
  obtain ⟨rfl, rfl⟩ := q2
  refine ⟨δ, M2, ι2, fun o M' => o = h ∧ M' = M2, S2, ok_of e3 ⟨rfl, rfl⟩, fun o' M3 ι3 H3 q3 p3 k3 S3 => ?_⟩
  obtain ⟨rfl, rfl⟩ := q3
  have r3 := r1.mono (k2.trans k3) (p2.trans p3) (fun _ _ _ _ z => z)
  have z3 : ∀ ι' H' w, Ex ι3 ι' → Kp ι3 H3 ι' H' → Sr X.K G δ M3 ι' σ H' → RS X.K G.N H' ι' d w → Q w H' := fun ι' H' w p4 k4 S4 r4 => z d M3 ι' H' w q9 (((p1.trans p2).trans p3).trans p4) (((k1.trans k2).trans k3).trans k4) S4 r4
  unfold slD at e4
  split at e4
  · cases e4
    obtain ⟨b, xs, rfl, hq, hl, r⟩ := r3
    refine .inl ⟨b, xs, rfl, tup_sq hq, fun hw => ?_, fun hw p hp => ?_⟩
    · refine fin_same S3 z3 ⟨b, xs, rfl, hq, Nat.le_trans (cutD_len _ _ _) hl, ?_⟩
      have := r.cut o o'
      rw [cut_whole hw] at this
      exact this
    · exact fin_tup S3 z3 (r.cut _ _) (Nat.le_trans (cutD_len _ _ _) hl) hp
  · obtain ⟨hc, rfl⟩ := gd_some e4
    cases (show _ = _ from r3)
    exact .inr ⟨_, rfl, hc, fin_same S3 z3 rfl⟩
  · cases e4
theorem vf_slice (he : VE X G a (eP pa)) (hl : VO X G lo (oP pl)) (hu : VO X G hi (oP ph)) : VF X G (.Subscript a (.Slice lo hi none p2) pos) (fP (plSl pa pl ph)) := by
  refine PE.weak (pe_slice sl_list he hl hu) fun σ H Q ⟨δ, M, ι, Q0, S, q, z⟩ => ?_
  unfold fP plSl at q
  rw [ok_bind] at q
  obtain ⟨s, e1, q⟩ := ok_elim q
  rw [ok_bind] at q
  obtain ⟨l, e2, q⟩ := ok_elim q
  rw [ok_bind] at q
  obtain ⟨h, e3, q⟩ := ok_elim q
  obtain ⟨d, e4, q9⟩ := ok_elim q
  obtain ⟨es, e5, rfl⟩ := Option.map_eq_some_iff.mp e4
  refine th1 (Q0 := fun x M' => x = s ∧ M' = M) S (ok_of e1 ⟨rfl, rfl⟩) fun x M1 ι1 H1 v q1 p1 k1 S1 r1 => ?_
  obtain ⟨rfl, rfl⟩ := q1
  refine ⟨δ, M1, ι1, fun o M' => o = l ∧ M' = M1, S1, ok_of e2 ⟨rfl, rfl⟩, fun o M2 ι2 H2 q2 p2 k2 S2 => ?_⟩
  obtain ⟨rfl, rfl⟩ := q2
  refine ⟨δ, M2, ι2, fun o M' => o = h ∧ M' = M2, S2, ok_of e3 ⟨rfl, rfl⟩, fun o' M3 ι3 H3 q3 p3 k3 S3 => ?_⟩
  obtain ⟨rfl, rfl⟩ := q3
  have r3 := r1.mono (k2.trans k3) (p2.trans p3) (fun _ _ _ _ z => z)
  obtain ⟨b, xs, rfl, hq, rx⟩ := lst_of S3 r3 e5
  have hl := seq_len S3 r3 (lst_seq e5)
  exact ⟨b, xs, rfl, hq, fun p hp => z _ M3 ι3 H3 _ p q9 ((p1.trans p2).trans p3) ((k1.trans k2).trans k3) S3 (rx.cut _ _) (Nat.le_trans (cutD_len _ _ _) hl) hp⟩
end
end VL
set_option Elab.async false
set_option linter.all false
set_option maxRecDepth 100000
set_option maxHeartbeats 4000000
namespace VL
open PySem PySem.Spec L2 RT RZ
def rcv (M : Mem) : Sv → Option String
  | .ref n => match M[n]? with
    | some (.lst _) => some "list"
    | some (.dk _) => some "dict"
    | _ => none
  | .d (.lst _) => some "list"
  | .bor _ => some "list"
  | .d (.str _) => some "str"
  | _ => none
abbrev Mt := Sv → List Sv → Mem → QD → Prop
def eMt (T : String) (f : Mt) (to : TE') (tA : TA') : TE' := fun δ M Q => to δ M fun o M1 => rcv M1 o = some T ∧ tA δ M1 fun xs M2 => f o xs M2 Q
def RdMt (K : PySem.W.Frag) (r : V → List V → Hp → VK → Prop) (f : Mt) : Prop := ∀ (G : Gd) (δ : DS) (M : Mem) (ι : Ix) (σ : L2.St) (H : Hp) (o : Sv) (xs : List Sv) (v : V) (vs : List V) (Q0 : QD), Sr K G δ M ι σ H → RS K G.N H ι o v → RSs K G.N H ι xs vs → f o xs M Q0 →
  ∀ Q : VK, (∀ d M' ι' H' w, Q0 d M' → Ex ι ι' → Kp ι H ι' H' → Sr K G δ M' ι' σ H' → RS K G.N H' ι' d w → Q w H') → r v vs H Q
section
variable {K : PySem.W.Frag} {X : Cx} {G : Gd} {e a b o : Expr} {es : List Expr} {pos cpos apos : Pos} {ta tb t to : TE'} {N : Bool → Addr → Prop} {H : Hp} {ι : Ix} {tA : TA'}
theorem rcv_ty {δ : DS} {M : Mem} {σ : L2.St} {s : Sv} {v : V} {T : String} (S : Sr K G δ M ι σ H) (r : RS K G.N H ι s v) (e : rcv M s = some T) : tyV K T v H := by
  cases s with
  | ref n =>
    simp only [rcv] at e
    split at e
    · rename_i ds hM
      cases e
      obtain ⟨a, rfl, hn, xs, q, _, _⟩ := S.mem.at r hM (fun z => nomatch z)
      exact .inl ⟨rfl, xs, SqL.of q⟩
    · rename_i ds hM
      cases e
      obtain ⟨a, rfl, hn, xs, q, _, _⟩ := S.mem.at r hM (fun z => nomatch z)
      exact .inr (.inr (.inl ⟨rfl, .inl ⟨xs, q⟩⟩))
    · cases e
  | bor ds => cases e; obtain ⟨a, xs, rfl, q, _⟩ := r; exact .inl ⟨rfl, xs, SqL.of q⟩
  | d d =>
    cases d with
    | lst ds => cases e; obtain ⟨a, xs, rfl, q, _⟩ := r; exact .inl ⟨rfl, xs, SqL.of q⟩
    | str z => cases e; cases (show _ = _ from r); rfl
    | _ => cases e
theorem ve_mt {n : Nat} {T id : String} {name : Str} {r : V → List V → Hp → VK → Prop} {f : Mt} (pa : PlainAttrs T) (slot : Slot T name id) (hty : typeOf (.builtin id) = pure (.type "method_descriptor")) (hm : MtR X id r) (hf : RdMt X.K r f) (ho : VE X G o to) (ha : VA X G (e :: es) n tA)
    (hbase : attributeBase o name X.env (eval o X.env) = eval o X.env := by rfl)
    (hfew : ((backTo cpos (starEach (e :: es) X.env)).all (fun x => !x.1) && (backToKw cpos (keywordEach [] X.env)).all (fun x => x.1.isSome)
      && decide ((e :: es).length + ([] : List Keyword).length + (if ([] : List Keyword).isEmpty then 0 else 1) < 30)) = true := by rfl)
    (hline : (apos.endLine == cpos.line) = true := by rfl) (hs : starEach (e :: es) X.env = (false, eval e X.env) :: starEach es X.env := by rfl) (hplain : (backTo cpos (starEach es X.env)).any (·.1) = false := by rfl) :
    VE X G (.Call (.Attribute o name apos) (e :: es) [] cpos) (eMt T f to tA) :=
  PE.weak (pe_bm pa slot hty hm ho ha hbase hfew hline hs hplain) fun σ H Q ⟨δ, M, ι, Q0, S, q, z⟩ => th1 S q fun s M1 ι1 H1 v q1 p1 k1 S1 r1 =>
    ⟨rcv_ty S1 r1 q1.1, thA S1 q1.2 fun xs M2 ι2 H2 vs hl q2 p2 k2 S2 r2 =>
      hf G δ M2 ι2 σ H2 s xs v vs Q0 S2 (r1.mono k2 p2 fun _ _ _ _ q => q) r2 q2 Q fun d M3 ι3 H3 w q3 p3 k3 S3 r3 => z d M3 ι3 H3 w q3 ((p1.trans p2).trans p3) ((k1.trans k2).trans k3) S3 r3⟩
def mApp : Mt := fun o xs M Q => match o, xs with
  | .ref n, [.d x] => ok (cellL M[n]?) fun ds => ds.length < sizeLine ∧ Q (.d .non) (M.set n (.lst (ds ++ [x])))
  | _, _ => False
def mExt : Mt := fun o xs M Q => match o, xs with
  | .ref n, [s] => ok (cellL M[n]?) fun ds => ok (laidD M s) fun es => ds.length + es.length ≤ sizeLine ∧ Q (.d .non) (M.set n (.lst (ds ++ es)))
  | _, _ => False
def mPopAt : Mt := fun o xs M Q => match o, xs with
  | .ref n, [.d (.int i)] => ok (cellL M[n]?) fun ds => ok (ixN ds.length i) fun k => ok ds[k]? fun y => Q (.d y) (M.set n (.lst (ds.eraseIdx k)))
  | _, _ => False
/-- the end of a method that turns a list -/
theorem fin_turn {δ : DS} {M : Mem} {σ : L2.St} {n : Nat} {a : Addr} {ds' : List D} {xs' : List V} {s : Sv} {w : V} {Q0 : QD} {Q : VK} (S : Sr K G δ M ι σ H) (hn : ι[n]? = some (some a)) (r : RDs K G.N H ι ds' xs') (hl : ds'.length ≤ sizeLine) (rs : RS K G.N H ι s w) (q : Q0 s (M.set n (.lst ds')))
    (z : ∀ d M' ι' H' w, Q0 d M' → Ex ι ι' → Kp ι H ι' H' → Sr K G δ M' ι' σ H' → RS K G.N H' ι' d w → Q w H') (ho : ObT H a (.lst xs') := by refine ObT.of (by assumption) ?_ ?_ <;> (intro C dx fs z; cases z)) : Q w (upd H a (.lst xs')) := by
  have hm := List.mem_of_getElem? hn
  have k : Kp ι H ι (upd H a (.lst xs')) := Kp.turned hm
  exact z s _ ι _ w q (Ex.refl _) k (S.turned hn ⟨xs', upd_same, hl, r.mono k fun _ _ _ _ z => z⟩ trivial ho) (rs.mono k (Ex.refl _) fun _ _ _ _ z => z)
theorem rd_app : RdMt K rAppend mApp := by
  intro G δ M ι σ H o xs v vs Q0 S ro rx h Q z
  unfold mApp at h
  split at h
  · rename_i n x
    obtain ⟨ds, e, hl, q⟩ := ok_elim h
    obtain ⟨a, rfl, hn, ys, hH, _, r⟩ := S.mem.at ro (cellL_some e) (fun z => nomatch z)
    obtain ⟨y, rfl, ry⟩ := one_of rx
    exact ⟨a, ys, y, rfl, rfl, hH, by rw [← r.length]; exact hl, fin_turn (s := .d .non) S hn (r.append (es := [x]) ⟨y, [], rfl, ry, rfl⟩) (by simp; omega) rfl q z⟩
  · exact h.elim
theorem rd_ext : RdMt K rExtend mExt := by
  intro G δ M ι σ H o xs v vs Q0 S ro rx h Q z
  unfold mExt at h
  split at h
  · rename_i n s
    obtain ⟨ds, e, h⟩ := ok_elim h
    obtain ⟨es, e2, hl, q⟩ := ok_elim h
    obtain ⟨a, rfl, hn, ys, hH, _, r⟩ := S.mem.at ro (cellL_some e) (fun z => nomatch z)
    obtain ⟨y, rfl, ry⟩ := one_of rx
    obtain ⟨b, zs, rfl, hb, r2, _⟩ := laid_of S ry e2
    exact ⟨a, b, ys, zs, rfl, rfl, hH, hb, by rw [← r.length, ← r2.length]; exact hl, fin_turn (s := .d .non) S hn (r.append r2) (by simpa using hl) rfl q z⟩
  · exact h.elim
theorem rd_popAt : RdMt K rPopAt mPopAt := by
  intro G δ M ι σ H o xs v vs Q0 S ro rx h Q z
  unfold mPopAt at h
  split at h
  · rename_i n i
    obtain ⟨ds, e, h⟩ := ok_elim h
    obtain ⟨k, e2, h⟩ := ok_elim h
    obtain ⟨y, e3, q⟩ := ok_elim h
    obtain ⟨a, rfl, hn, ys, hH, hl, r⟩ := S.mem.at ro (cellL_some e) (fun z => nomatch z)
    obtain ⟨u, rfl, ru⟩ := one_of rx
    cases (show _ = _ from ru)
    obtain ⟨w, hw, rw'⟩ := r.get e3
    obtain ⟨h1, h2, h3, h4⟩ := ixN_seq e2
    have hz := sizeLine_eq
    exact ⟨a, ys, i, k, w, rfl, rfl, hH, by omega, by omega, by rw [← r.length]; exact h1, hw, fin_turn (s := .d y) S hn (r.eraseIdx k) (Nat.le_trans (len_erase _ _) hl) rw' q z⟩
  · exact h.elim
def mPure (f : Mem → Sv → List Sv → Option Sv) : Mt := fun o xs M Q => ok (f M o xs) fun d => Q d M
def countD (M : Mem) (o : Sv) : List Sv → Option Sv
  | [.d x] => (lstD M o).bind fun ds => gd (okE x = true ∧ okE (.lst ds) = true) (intS ((ds.countP fun z => eqvD z x : Nat) : Int))
  | _ => none
def indexD (M : Mem) (o : Sv) : List Sv → Option Sv
  | [.d x] => (lstD M o).bind fun ds => gd (okE x = true ∧ okE (.lst ds) = true ∧ (ds.any fun z => eqvD z x) = true) (intS ((ds.findIdx fun z => eqvD z x : Nat) : Int))
  | _ => none
def rCountD (K : PySem.W.Frag) : V → List V → Hp → VK → Prop := fun x xs H Q => ∃ (a : Addr) (y : V) (d : PyData) (ds : List PyData), x = V.ref a ∧ xs = [y] ∧ Dp K H (V.ref a) (.list ds) ∧ Dp K H y d ∧
  SeqAt.shaped (.list ds) = true ∧ SeqAt.shaped d = true ∧ Q (.int ((ds.countP fun z => PyData.eqv z d : Nat) : Int)) H
theorem mt_countD (hu : X.A.units + 65 < cLine) : MtR X "list.count" (rCountD X.K) := by
  intro pins s σ H x xs v us Q I rx rxs h
  obtain ⟨a, y, d, ds, rfl, rfl, hl, hy, sl, sd, q⟩ := h
  cases rx
  cases rxs with
  | cons ry rt =>
    rename_i uy ut
    cases rt
    obtain ⟨bs, r1⟩ := Dp.reads I d y uy hy ry
    have hxs : PyData.canLayAll0 ds = true := SeqAt.canLay_of_shaped sl
    have hroom : X.A.units + 1 + min (PyData.depthAll ds) d.depth < cLine := PyProof.Rows.room_in_shaped sd hu
    cases hl with
    | lst hs ha =>
      obtain ⟨its, rv, ⟨⟨cls, dd, data, sls⟩, n, ho, hc, hdn, hdt⟩, hlen⟩ := I.list hs
      simp only at hc hdt
      subst hc hdt
      obtain ⟨as, h4⟩ := Dp.readsAll I ds _ its ha rv
      have hmap : its.map (SeqAt.readOf s.heap) = ds := SeqAt.readsAll_map ds its as hxs h4
      refine call_meets PySem.F.slot_list_count ⟨_, ho, rfl⟩ PySem.F.entry_list_count (PySem.F.args_list_count_2 _ _)
        (SeqAt.list_countAt a its.toArray n dd sls uy (fun u => PyData.eqv (SeqAt.readOf s.heap u) d)) ⟨ho, SeqAt.items_eqAt (vs := its.toArray) (show ReadsAll s.heap its.toArray.toList ds as from h4) r1 hxs (SeqAt.canLay_of_shaped sd) hroom, ?_⟩
      have hcnt : its.toArray.toList.countP (fun u => PyData.eqv (SeqAt.readOf s.heap u) d) = ds.countP fun z => PyData.eqv z d := by
        rw [← hmap, List.countP_map]; rfl
      rw [hcnt]
      exact ⟨.int _, H, I.tok _, ⟨_, rfl⟩, q⟩
theorem pys_get : ∀ (ds : List D) (i : Nat), (pys ds)[i]? = (ds[i]?).map py
  | [], i => by simp [pys]
  | d :: ds, 0 => by simp [pys]
  | d :: ds, i + 1 => by simp [pys, pys_get ds i]
theorem noRs_get {ds : List D} {i : Nat} {d : D} (h : noRs ds = true) (e : ds[i]? = some d) : noR d = true := by
  induction ds generalizing i with
  | nil => simp at e
  | cons x xs ih =>
    simp only [noRs, Bool.and_eq_true] at h
    cases i with
    | zero => simp at e; subst e; exact h.1
    | succ i => exact ih h.2 (by simpa using e)
theorem count_py {x : D} (nx : noR x = true) : ∀ {ds : List D}, noRs ds = true → (pys ds).countP (fun z => PyData.eqv z (py x)) = ds.countP fun z => eqvD z x
  | [], _ => by simp [pys]
  | d :: ds, h => by
    simp only [noRs, Bool.and_eq_true] at h
    simp only [pys, List.countP_cons, count_py nx h.2, eqv_py d x h.1 nx]
theorem lst_dp {δ : DS} {M : Mem} {σ : L2.St} {s : Sv} {v : V} {ds : List D} (S : Sr K G δ M ι σ H) (r : RS K G.N H ι s v) (e : lstD M s = some ds) (n : noRs ds = true) : ∃ a, v = .ref a ∧ Dp K H (.ref a) (.list (pys ds)) := by
  obtain ⟨a, xs, rfl, q, r2⟩ := lst_of S r e
  exact ⟨a, rfl, .lst q (RDs.dp ds xs r2 n)⟩
theorem rd_count : RdMt K (rCountD K) (mPure countD) := by
  intro G δ M ι σ H o xs v vs Q0 S ro rx h Q z
  obtain ⟨d, e, q⟩ := ok_elim h
  unfold countD at e
  split at e
  · rename_i x
    cases qe : lstD M o with
    | none => rw [qe] at e; cases e
    | some ds =>
      rw [qe] at e
      obtain ⟨⟨h1, h2⟩, rfl⟩ := gd_some (show gd _ _ = some d from e)
      obtain ⟨nx, sx⟩ := okE_and h1
      obtain ⟨ny, sy⟩ := okE_and h2
      simp only [noR] at ny
      obtain ⟨a, rfl, hl⟩ := lst_dp S ro qe ny
      obtain ⟨y, rfl, ry⟩ := one_of rx
      refine ⟨a, y, py x, pys ds, rfl, rfl, hl, RD.dp x y ry nx, by simpa [py] using sy, sx, ?_⟩
      rw [count_py nx ny]
      exact z _ M ι H _ q (Ex.refl _) (Kp.refl _ _) S rfl
  · cases e
theorem rd_index : RdMt K (rIndexD K) (mPure indexD) := by
  intro G δ M ι σ H o xs v vs Q0 S ro rx h Q z
  obtain ⟨d, e, q⟩ := ok_elim h
  unfold indexD at e
  split at e
  · rename_i x
    cases qe : lstD M o with
    | none => rw [qe] at e; cases e
    | some ds =>
      rw [qe] at e
      obtain ⟨⟨h1, h2, h3⟩, rfl⟩ := gd_some (show gd _ _ = some d from e)
      obtain ⟨nx, sx⟩ := okE_and h1
      obtain ⟨ny, sy⟩ := okE_and h2
      simp only [noR] at ny
      obtain ⟨a, rfl, hl⟩ := lst_dp S ro qe ny
      obtain ⟨y, rfl, ry⟩ := one_of rx
      obtain ⟨w, hw, hp⟩ := List.any_eq_true.mp h3
      have hlt : (ds.findIdx fun z => eqvD z x) < ds.length := List.findIdx_lt_length_of_exists ⟨w, hw, hp⟩
      have hz : ds[ds.findIdx fun z => eqvD z x]? = some ds[ds.findIdx fun z => eqvD z x] := List.getElem?_eq_getElem hlt
      refine ⟨a, y, py x, pys ds, ds.findIdx fun z => eqvD z x, py ds[ds.findIdx fun z => eqvD z x], rfl, rfl, hl, RD.dp x y ry nx, by simpa [py] using sy, sx, by rw [pys_get, hz]; rfl, ?_, fun m z' hm hz' => ?_, ?_⟩
      · rw [eqv_py _ _ (noRs_get ny hz) nx]; exact List.findIdx_getElem (w := hlt)
      · rw [pys_get] at hz'
        obtain ⟨u, hu, rfl⟩ := Option.map_eq_some_iff.mp hz'
        rw [eqv_py _ _ (noRs_get ny hu) nx]
        have hlt2 := (List.getElem?_eq_some_iff.mp hu).1
        have := List.not_of_lt_findIdx hm
        rw [List.getElem?_eq_getElem hlt2] at hu
        cases hu
        simpa using this
      · exact z _ M ι H _ q (Ex.refl _) (Kp.refl _ _) S rfl
  · cases e
def poMt (T : String) (f : Mem → Sv → List Sv → Option Sv) (a : PV) (ps : List PV) : PV := fun δ M => (a δ M).bind fun o => (gd (rcv M o = some T) ()).bind fun _ => (pArgs ps δ M).bind fun xs => f M o xs
theorem VE.pMt {T : String} {f : Mem → Sv → List Sv → Option Sv} {pv : PV} {ps : List PV} (h : VE X G e (eMt T (mPure f) (eP pv) (aP ps))) : VE X G e (eP (poMt T f pv ps)) := h.weak fun δ M Q h => by
  unfold eP poMt at h
  rw [ok_bind] at h
  obtain ⟨d, q1, h⟩ := ok_elim h
  rw [ok_bind] at h
  obtain ⟨u, q2, h⟩ := ok_elim h
  rw [ok_bind] at h
  obtain ⟨xs, q3, h⟩ := ok_elim h
  exact ok_of q1 ⟨(gd_some q2).1, ok_of q3 h⟩
end
end VL
set_option Elab.async false
set_option linter.all false
set_option maxRecDepth 100000
set_option maxHeartbeats 4000000
namespace VL
open PySem PySem.Spec L2 RT RZ
def stD (o i : Sv) (d : D) (M : Mem) (Q : Mem → Prop) : Prop := match o, i with
  | .ref n, .d (.int k) => ok (cellL M[n]?) fun ds => ok (ixN ds.length k) fun j => Q (M.set n (.lst (ds.set j d)))
  | _, _ => False
def sSub (te to ti : TE') : TS' := fun E δ M => te δ M fun s M1 => ok (dataS s) fun d => to δ M1 fun o M2 => ti δ M2 fun i M3 => stD o i d M3 fun M4 => E.nx δ M4
/-- name op= e -/
def sAug (i : Nat) (f : Mem → Sv → Sv → Option Sv) (te : TE') : TS' := fun E δ M => ok (δ[i]?).join fun x => te δ M fun y M1 => ok (f M1 x y) fun z => E.nx (δ.set i (some z)) M1
/-- a, b = x, y -/
def sPar (i j : Nat) (tA : TA') : TS' := fun E δ M => tA δ M fun xs M1 => match xs with
  | [x, y] => E.nx ((δ.set i (some x)).set j (some y)) M1
  | _ => False
/-- the same by a tuple, any names -/
def setAllS : List Nat → List Sv → DS → Option DS
  | [], [], δ => some δ
  | i :: is, d :: ds, δ => setAllS is ds (δ.set i (some d))
  | _, _, _ => none
def sParT (is : List Nat) (tA : TA') : TS' := fun E δ M => tA δ M fun xs M1 => ok (setAllS is xs δ) fun δ' => E.nx δ' M1
/-- the turns of a while -/
def whL (k : Nat) (c : TT') (b : TS') (E : Ends') : Nat → DS → Mem → Prop
  | 0, _, _ => False
  | n + 1, δ, M => c δ M fun t M' => if t then b ⟨fun δ' M'' => whL k c b E n (gcS k δ') (M''.take k), E.rt, E.nx, fun δ' M'' => whL k c b E n (gcS k δ') (M''.take k)⟩ δ M' else E.nx δ M'
def sWh (c : TT') (b : TS') : TS' := fun E δ M => ∃ n, whL M.length c b E n δ M
section
variable {K : PySem.W.Frag} {X : Cx} {G : Gd} {e a b o i c : Expr} {es : List Expr} {body : List Stmt} {pos cpos apos p1' p2' : Pos} {ta tb t to ti te : TE'} {N : Bool → Addr → Prop} {H : Hp} {ι : Ix} {tA : TA'} {tc : TT'} {s : TS'}
theorem vs_sub (he : VE X G e te) (ho : VE X G o to) (hi : VE X G i ti) (hs : swapsWithSole [.Subscript o i p1'] e pos.line X.env = pure false := by rfl) (hw : swappedStores [.Subscript o i p1'] e X.env = pure none := by rfl)
    (h1 : (assignEach [.Subscript o i p1'] X.env).map (·.2) = [assign (.Subscript o i p1') X.env] := by rfl)
    (ha : ∀ v, assign (.Subscript o i p1') X.env v = (do
      let ov ← holding [v] (eval o X.env)
      let iv ← holding [v, ov] (eval i X.env)
      standAt p1'
      holding [v, ov, iv] (setItem ov iv v)
      release [v, ov, iv] []) := by intro _; rfl) : VS X G (.Assign [.Subscript o i p1'] e pos) (sSub te to ti) :=
  PS.weak (ps_asg he (pg_sub ho hi set_list ha) hs hw h1) fun E σ H ⟨δ, M, ι, E0, S, q, z⟩ => th1 S q fun s M1 ι1 H1 v q1 p1 k1 S1 r1 => by
    obtain ⟨d, e9, q1⟩ := ok_elim q1
    refine th1 S1 q1 fun x M2 ι2 H2 u q2 p2 k2 S2 r2 => th1 S2 q2 fun y M3 ι3 H3 w q3 p3 k3 S3 r3 => ?_
    have r1' := r1.mono (k2.trans k3) (p2.trans p3) (fun _ _ _ _ z => z)
    have r2' := r2.mono k3 p3 (fun _ _ _ _ z => z)
    unfold stD at q3
    split at q3
    · obtain ⟨ds, e1, q3⟩ := ok_elim q3
      obtain ⟨j, e2, q3⟩ := ok_elim q3
      obtain ⟨a, rfl, hn, ys, hH, hl, r⟩ := S3.mem.at r2' (cellL_some e1) (fun z => nomatch z)
      cases (show _ = _ from r3)
      cases s with
      | d x =>
        cases e9
        have hm := List.mem_of_getElem? hn
        have k : Kp ι3 H3 ι3 (upd H3 a (.lst (ys.set j v))) := Kp.turned hm
        refine ⟨a, ys, _, j, rfl, rfl, hH, by rw [← r.length]; exact e2, ?_⟩
        exact z.nx _ _ _ _ _ q3 ((p1.trans p2).trans p3) (((k1.trans k2).trans k3).trans k) (S3.turned hn ⟨_, upd_same, by simpa using hl, (RDs.set j (show RD _ _ _ _ _ _ from r1') r).mono k fun _ _ _ _ z => z⟩)
      | ref n => cases e9
      | bor n => cases e9
    · exact q3.elim
theorem vs_par {i j : Nat} {x y : Str} {px py pt pt2 : Pos} {kt k2 : Nat} (hc : X.calm = true) (hN : X.N.Nodup) (hi : X.N[i]? = some x) (hj : X.N[j]? = some y) (hij : i ≠ j)
    (hx : X.env.scope.names.lookup x = some .local) (hy : X.env.scope.names.lookup y = some .local) (ha : VA X G [a, b] 2 tA)
    (hw : swappedStores [.Tuple [.Name x px, .Name y py] kt pt] (.Tuple [a, b] k2 pt2) X.env = pure (some [x, y]))
    (hs : swapsWithSole [.Tuple [.Name x px, .Name y py] kt pt] (.Tuple [a, b] k2 pt2) pos.line X.env = pure false := by rfl) :
    VS X G (.Assign [.Tuple [.Name x px, .Name y py] kt pt] (.Tuple [a, b] k2 pt2) pos) (sPar i j tA) :=
  PS.weak (ps_par hc hN hi hj hij hx hy ha hw hs) fun E σ H ⟨δ, M, ι, E0, S, q, z⟩ => thA S q fun xs M1 ι1 H1 vs hl q1 p1 k1 S1 r1 => by
    obtain ⟨u, w, rfl⟩ : ∃ u w, xs = [u, w] := by
      match xs, hl with
      | [u, w], _ => exact ⟨u, w, rfl⟩
    obtain ⟨v1, v2, rfl, h1, h2⟩ := two_of r1
    exact ⟨v1, v2, rfl, z.nx _ M1 ι1 _ H1 q1 p1 k1 ((S1.set h1).set h2)⟩
/-- the names' targets, as the layer below reads them -/
theorem raw_all : ∀ {is : List Nat} {ds : List Sv} {xs : List V} {δ : DS} {M : Mem} {σ : L2.St} {Q : L2.St → Hp → Prop}, Sr K G δ M ι σ H → RSs K G.N H ι ds xs → ∀ δ', setAllS is ds δ = some δ' → (∀ σ', Sr K G δ' M ι σ' H → Q σ' H) →
    is.foldr (fun i r => gCons (gName i) r) gNil xs σ H Q
  | [], ds, xs, δ, M, σ, Q, S, r, δ', e, z => by
    cases ds with
    | nil => cases e; cases (show _ = _ from r); exact ⟨rfl, z σ S⟩
    | cons d ds => cases e
  | i :: is, ds, xs, δ, M, σ, Q, S, r, δ', e, z => by
    cases ds with
    | nil => cases e
    | cons d ds =>
      obtain ⟨v, vr, rfl, r1, r2⟩ := r
      exact ⟨v, vr, rfl, raw_all (S.set r1) r2 δ' e z⟩
theorem setAllS_len : ∀ {is : List Nat} {ds : List Sv} {δ δ' : DS}, setAllS is ds δ = some δ' → ds.length = is.length
  | [], [], _, _, _ => rfl
  | [], _ :: _, _, _, h => by cases h
  | _ :: _, [], _, _, h => by cases h
  | i :: is, d :: ds, δ, δ', h => by simp [setAllS_len (is := is) h]
theorem RSs.length : ∀ {ds : List Sv} {vs : List V}, RSs K N H ι ds vs → ds.length = vs.length
  | [], _, h => by cases (show _ = _ from h); rfl
  | d :: ds, _, h => by
    obtain ⟨x, r, rfl, _, h2⟩ := h
    simp [RSs.length h2]
theorem vs_parT {is : List Nat} {ts : List Expr} {n kt k2 : Nat} {pt pt2 : Pos} (hc : X.calm = true) (hg : PGs X ts (is.foldr (fun i r => gCons (gName i) r) gNil)) (ha : VA X G es n tA) (hz : n ≤ sizeLine := by decide)
    (hn : (assignEach ts X.env).length = is.length := by rfl) (hst : (assignEach ts X.env).findIdx? (·.1) = none := by rfl)
    (hs : swapsWithSole [.Tuple ts kt pt] (.Tuple es k2 pt2) pos.line X.env = pure false := by rfl) (hw : swappedStores [.Tuple ts kt pt] (.Tuple es k2 pt2) X.env = pure none := by rfl)
    (h1 : (assignEach [.Tuple ts kt pt] X.env).map (·.2) = [assign (.Tuple ts kt pt) X.env] := by rfl) :
    VS X G (.Assign [.Tuple ts kt pt] (.Tuple es k2 pt2) pos) (sParT is tA) :=
  PS.weak (ps_asg (pe_tup ha) (pg_tup hc hg hn hst) hs hw h1) fun E σ H ⟨δ, M, ι, E0, S, q, z⟩ => thA S q fun xs M1 ι1 H1 vs hl q1 p1 k1 S1 r1 => by
    obtain ⟨δ', e, q1⟩ := ok_elim q1
    refine ⟨by rw [← r1.length, hl]; exact hz, fun p hp => ?_⟩
    have k2 : Kp ι1 H1 ι1 (upd H1 p (.tup vs)) := Kp.laid hp
    refine ⟨p, vs, rfl, SqT.of upd_same, by rw [← r1.length, setAllS_len e], ?_⟩
    exact raw_all (S1.laid hp) (r1.mono k2 (Ex.refl _) fun _ _ _ _ z => z) δ' e fun σ' S' => z.nx _ M1 ι1 _ _ q1 p1 (k1.trans k2) S'
theorem pgs_names_nil : PGs X [] (([] : List Nat).foldr (fun i r => gCons (gName i) r) gNil) := pgs_nil
theorem pgs_names {i : Nat} {is : List Nat} {x : Str} {px : Pos} (hN : X.N.Nodup) (hi : X.N[i]? = some x) (hx : Loc X.env.scope x) (hr : PGs X es (is.foldr (fun i r => gCons (gName i) r) gNil)) (hf : X.fn x = true ∨ X.env.scope.names.lookup x = some .local := by first | exact .inl rfl | exact .inr rfl | assumption)
    (hs : (assignEach (.Name x px :: es) X.env).map (·.2) = assign (.Name x px) X.env :: (assignEach es X.env).map (·.2) := by rfl) : PGs X (.Name x px :: es) ((i :: is).foldr (fun i r => gCons (gName i) r) gNil) :=
  pgs_cons (pg_name (pos := px) hN hi hx hf) hr hs
theorem vs_while (hp : PassesOwn (model X.prog X.w) X.A X.env X.xe) (hc : VT X G c tc) (hb : VSs X G body s) : VS X G (.While c body [] pos) (sWh tc s) := by
  refine PS.weak (ps_while hp hc hb) fun E σ H ⟨δ, M, ι, E0, S, q, z⟩ => ?_
  obtain ⟨n0, q⟩ := q
  have hk : G.i0.length ≤ M.length := S.i0len
  have hlen : M.length = ι.length := S.mem.len
  refine ⟨fun m σ2 H2 => ∃ δ2 M2 ι2, Sr X.K G δ2 M2 ι2 σ2 H2 ∧ Ex ι ι2 ∧ Kp ι H ι2 H2 ∧ whL M.length tc s E0 m δ2 M2, ⟨n0, δ, M, ι, S, Ex.refl _, Kp.refl _ _, q⟩, ?_⟩
  rintro m σ2 H2 ⟨δ2, M2, ι2, S2, e2, k2, q2⟩
  cases m with
  | zero => exact q2.elim
  | succ m =>
    refine ⟨δ2, M2, ι2, _, S2, q2, fun t M3 ι3 H3 q3 p3 k3 S3 => ?_⟩
    cases t with
    | false => exact z.nx δ2 M3 ι3 σ2 H3 q3 (e2.trans p3) (k2.trans k3) S3
    | true =>
      simp only [if_true] at q3 ⊢
      refine ⟨fun σ5 H5 => ∃ δ2 M2 ι2, Sr X.K G δ2 M2 ι2 σ5 H5 ∧ Ex ι ι2 ∧ Kp ι H ι2 H5 ∧ whL M.length tc s E0 m δ2 M2, fun σ5 H5 h => ⟨m, Nat.lt_succ_self _, h⟩, ?_⟩
      have fin : ∀ δ5 M5 ι5 σ5 H5, Sr X.K G δ5 M5 ι5 σ5 H5 → Ex ι ι5 → Kp ι H ι5 H5 → whL M.length tc s E0 m (gcS M.length δ5) (M5.take M.length) →
          ∃ δ3 M3 ι3, Sr X.K G δ3 M3 ι3 σ5 H5 ∧ Ex ι ι3 ∧ Kp ι H ι3 H5 ∧ whL M.length tc s E0 m δ3 M3 := fun δ5 M5 ι5 σ5 H5 S5 e5 k5 q5 => by
        refine ⟨_, _, _, S5.gc M.length hk, ?_, k5.trans (Kp.take _), q5⟩
        rw [hlen]; exact ex_take e5
      refine ⟨δ2, M3, ι3, _, S3, q3, ⟨fun δ5 M5 ι5 σ5 H5 q5 e5 k5 S5 => ?_, fun d5 δ5 M5 ι5 σ5 H5 v5 q5 S5 r5 => ?_, fun δ5 M5 ι5 σ5 H5 q5 e5 k5 S5 => ?_, fun δ5 M5 ι5 σ5 H5 q5 e5 k5 S5 => ?_⟩⟩
      · exact fin δ5 M5 ι5 σ5 H5 S5 ((e2.trans p3).trans e5) ((k2.trans k3).trans k5) q5
      · exact z.rt d5 δ5 M5 ι5 σ5 H5 v5 q5 S5 r5
      · exact z.nx δ5 M5 ι5 σ5 H5 q5 ((e2.trans p3).trans e5) ((k2.trans k3).trans k5) S5
      · exact fin δ5 M5 ι5 σ5 H5 S5 ((e2.trans p3).trans e5) ((k2.trans k3).trans k5) q5
end
end VL
set_option Elab.async false
set_option linter.all false
set_option maxRecDepth 100000
set_option maxHeartbeats 400000
namespace VL
open PySem PySem.Spec PyProof.Rows L2
structure RoomG (k : Nat) (A : Around) : Prop where
  rm : Room k A
  gs : A.guards = some []
theorem RoomG.mono {j k : Nat} {A : Around} (r : RoomG k A) (h : j ≤ k) : RoomG j A := ⟨r.rm.mono h, r.gs⟩
theorem RoomG.deeper {k : Nat} {A : Around} (r : RoomG (k + 1) A) (env : Env) : RoomG k (A.deeper env) := ⟨r.rm.deeper env, r.gs⟩
structure FnG (P : Program) (w : World) (K : PySem.W.Frag) (mg : Str → Option Value) (base : Heap) (CX : CXT) (k : Nat) (f : Addr) (fd : FuncData) (ps : List Str) (sp : Sp) : Prop where
  len : ∀ vs H Q E, sp vs H Q E → vs.length = ps.length
  run : ∀ (A : Around) (outer : List Env) (s : Shared) (H : Hp) (args : Args) (us : List Value) (vs : List V) (Q : VK) (E : XK), RoomG k A → Env0 P w K mg base A outer s H → BindsTo s fd args (ps.zip us) → Vals vs us → sp vs H Q E →
    codeAny (model P w) A (.call (.ref f) args) (CR CX outer P w H s Q E) s
theorem FnG.mono {P : Program} {w : World} {K : PySem.W.Frag} {mg : Str → Option Value} {base : Heap} {CX : CXT} {j k : Nat} {f : Addr} {fd : FuncData} {ps : List Str} {sp : Sp} (F : FnG P w K mg base CX j f fd ps sp) (h : j ≤ k) :
    FnG P w K mg base CX k f fd ps sp := ⟨F.len, fun A outer s H args us vs Q E hr => F.run A outer s H args us vs Q E (hr.mono h)⟩
section
variable {X : Cx} {CX : CXT} {k : Nat} {f C : Addr} {fd : FuncData} {ps : List Str} {sp : Sp} {dvs : List V} {ds : List Value} {E : XK} {x m : Str} {p pos apos : Pos} {e o : Expr} {es : List Expr} {ta : TE} {t : TA}
theorem run_g {pins : List (Addr × Obj)} {σ : L2.St} {H : Hp} {s : Shared} {Q : VK} {us : List Value} {vs : List V} (F : FnG X.prog X.w X.K X.mg X.base CX k f fd ps sp) (hr : RoomG k X.A) (hb : Binds X.K fd ps ds) (hd : Vals dvs ds) (hx : Passes CX X E)
    (I : Inv X pins σ H s) (r : Vals vs us) (h : sp (vs ++ dvs) H Q E) : wpAny (model X.prog X.w) X.A (call (.ref f) us) (EP X pins σ Q) X.xe s := by
  have r2 : Vals (vs ++ dvs) (us ++ ds) := r.append hd
  have hl : (us ++ ds).length = ps.length := by rw [← r2.length]; exact F.len _ _ _ _ h
  refine wpAny_call (codeAny_mono (F.run X.A X.stack s H ⟨us, []⟩ (us ++ ds) (vs ++ dvs) Q E hr I.env0 (hb s us I.kIn hl) r2 h) fun r s' hq => ?_)
  cases r with
  | error e => exact hx pins σ H s e s' I hq
  | ok fl =>
    cases fl with
    | ret u => exact I.after hq
    | next => exact False.elim hq
    | brk => exact False.elim hq
    | cont => exact False.elim hq
theorem pe_callg (F : FnG X.prog X.w X.K X.mg X.base CX k f fd ps sp) (hr : RoomG k X.A) (hg : Gl X x) (hm : X.mg x = some (.ref f)) (hk : PySem.W.keepIn X.K (.ref f) = true) (hb : Binds X.K fd ps ds) (hd : Vals dvs ds) (hx : Passes CX X E)
    (ha : PA X (e :: es) t) (hdb : (x == ("__debug__" : Str)) = false := by decide) (he : starEach (e :: es) X.env = (false, eval e X.env) :: starEach es X.env := by rfl) (hpl : (backTo pos (starEach es X.env)).any (·.1) = false := by rfl) :
    PE X (.Call (.Name x p) (e :: es) [] pos) (tCall sp dvs E t) :=
  ⟨fun pins s σ H Q I h => wpAny_Call_Name_kw (ld_glob I hg hm (PySem.W.callWith_K (h₀ := X.base) I.ok.mod.kin hk (thn (ha.run pos pins s σ H _ I h) fun us s1 ⟨vs, H1, I1, r, q⟩ => ⟨I1.kIn, run_g F hr hb hd hx I1 r q⟩) he hpl) hdb)⟩
end
/-- a def by its body -/
theorem fn_g {CX : CXT} {P : Program} {w : World} {K : PySem.W.Frag} {mg : Str → Option Value} {base : Heap} {k : Nat} {f : Addr} {x qual : Str} {params : Arguments} {body : List Stmt} {scope : Scope} {dvs : List V} {kws : List (Str × V)} {fd : FuncData}
    {N ps : List Str} {sp : Sp} (F : FunD K x qual params body scope dvs kws f fd) (S : FnScope N ps scope)
    (len : ∀ vs H Q E, sp vs H Q E → vs.length = ps.length)
    (hbody : ∀ (cdv : Value) (A : Around) (outer : List Env) (s : Shared) (H : Hp) (vs : List V) (Q : VK) (E : XK), RoomG k (A.deeper (envOfC qual scope s.heap.objs.size f cdv)) → sp vs H Q E →
      ∃ t, PSs (cxOf CX P w K mg base N qual scope f cdv A outer s H E) body t ∧ t { nx := fun _ H' => Q .non H', rt := Q } (L2.start N vs) H) :
    FnG P w K mg base CX (k + 1) f fd ps sp := by
  obtain ⟨oc, od, dV, kV, doc, pm, an, cdv, ct, osl, rfl, lk, hcd, _, _⟩ := F.ex
  refine ⟨len, fun A outer s H args us vs Q E hr e0 hb r hsp => ?_⟩
  have hl := len _ _ _ _ hsp
  have KX : K.In s.heap := e0.mod.kin.keeps fun b o e => (e0.bs b o e).1
  have lim : s.heap.NoLimit := e0.mod.nolimit.keeps fun b o e => (e0.bs b o e).1
  have hkind : ∀ y ∈ ps.zip us, scope.names.lookup y.1 = some .local ∨ (scope.names.lookup y.1 = some .cell ∧ ((cellsFrom (s.heap.objs.size + 1) scope.names []).lookup y.1).isSome = true) := fun y hy => by
    have hy1 : y.1 ∈ ps := (List.of_mem_zip (show (y.1, y.2) ∈ ps.zip us from hy)).1
    exact (S.par y.1 hy1).imp id fun q => ⟨q, PySem.W.cellsFrom_some _ _ _ (.inl q)⟩
  refine codeAny_call_function hr.rm.depth (KX _ _ lk) rfl S.co S.gen rfl (PySem.W.codeRec_of KX hcd) (hb _ _ _ _ ?_)
  refine wpAny_newFunctionEnv_cells S.kind hkind fun env he s1 x => ?_
  subst he
  refine ⟨lim.keeps x.toInCall.keep, codeAny_func ?_⟩
  obtain ⟨t, ht, hq⟩ := hbody cdv A outer s H vs Q E (hr.deeper _) hsp
  have I : Inv (cxOf CX P w K mg base N qual scope f cdv A outer s H E) [] (L2.start N vs) H s1 := inv_start S hr.rm.hd e0 hl r x
  refine wpAny_mono (ht.run [] s1 (L2.start N vs) H _ I hq) (fun fl s' hs => ?_) fun e s' hs => hs
  have fin : ∀ {σ' : L2.St} {H' : Hp} {v : V} {u : Value}, Inv (cxOf CX P w K mg base N qual scope f cdv A outer s H E) [] σ' H' s' → RelV v u → Q v H' → CE outer P w H s Q u s' :=
    fun {σ' H' v u} J rv q => ⟨v, H', J.os, J.bare, J.base, J.hok, rv, q⟩
  cases fl with
  | ret u =>
    obtain ⟨v, σ', H', J, rv, q⟩ := hs
    exact fin J rv q
  | next =>
    obtain ⟨σ', H', J, q⟩ := hs
    exact fin (v := V.non) (u := Value.none) J rfl q
  | brk =>
    obtain ⟨_, _, _, q⟩ := hs
    exact False.elim q
  | cont =>
    obtain ⟨_, _, _, q⟩ := hs
    exact False.elim q
theorem law_g {P : Program} {w : World} {K : PySem.W.Frag} {mg mb : Str → Option Value} {CX : CXT} {k : Nat} {fa a : Addr} {fd : FuncData} {x : Str} {sp : Sp} {s₁ : Shared} {vs : List Value} {ns : List Int}
    (KX : K.In s₁.heap) (hns : s₁.heap.Ns mainGlobals mg) (hb : s₁.heap.Ns builtinsNs mb) (hbb : ∀ x : Str, x ≠ "__name__" → mb x = bootBuiltins x) (hlim : s₁.heap.NoLimit) (hg : s₁.gens = #[])
    (ha : s₁.heap.get? a = some { cls := .type "list", data := .seq vs.toArray }) (hi : IntsAre vs ns) (hl : ns.length ≤ sizeLine) (hr : Room k callerA)
    (F : ∀ base : Heap, K.In base → base.Ns mainGlobals mg → FnG P w K mg base CX k fa fd [x] sp) (hbind : ∀ (s : Shared) (u : Value), BindsTo s fd ⟨[u], []⟩ [(x, u)])
    (hsp : ∀ H : Hp, Only H → SqL K H a (ns.map V.int) → sp [.ref a] H (fun v _ => v = .bl true) fun _ _ _ => False)
    (hCX : ∀ H e s', CX [] H s₁ (fun _ _ _ => False) e s' → False) :
    codeAny (model P w) callerA (.call (.ref fa) ⟨[.ref a], []⟩) (fun r s' => r = .ok (.ret (.bool true)) ∧ OldK s₁.heap s'.heap ∧ s'.os = s₁.os ∧ AllBare s'.gens) s₁ := by
  have rv := vals_ints hi
  have lenV := hi.length
  have core : ∀ H : Hp, Only H → SqL K H a (ns.map V.int) → HOk P w H s₁.heap → (∀ b, H b ≠ none → b = a) → (H a ≠ none → K.lookup a = none) →
      codeAny (model P w) callerA (.call (.ref fa) ⟨[.ref a], []⟩) (fun r s' => r = .ok (.ret (.bool true)) ∧ OldK s₁.heap s'.heap ∧ s'.os = s₁.os ∧ AllBare s'.gens) s₁ := by
    intro H hO hS hok hA hK
    have noA : ∀ {b : Addr} {o : Obj} {es : Array DictEntry} {ep : Nat}, s₁.heap.get? b = some o → o.data = .dict es ep → H b = none := fun {b o es ep} e d => by
      refine Classical.byContradiction fun z => ?_
      have e' : b = a := hA b z
      subst e'
      rw [ha] at e; cases e
      have d' : Data.seq vs.toArray _ = Data.dict es ep := d
      cases d'
    have nsK : ∀ {b : Addr} {m : Str → Option Value}, s₁.heap.Ns b m → (hidT s₁.heap H).Ns b m := fun {b m} ⟨o, es, ep, e, d, r⟩ => ⟨o, es, ep, hidT_get e (noA e d), d, r⟩
    have hKb : K.In (hidT s₁.heap H) := fun b o e => hidT_get (KX b o e) (Classical.byContradiction fun z => by
      have e' : b = a := hA b z
      subst e'
      rw [hK z] at e; cases e)
    have hM : Mod K mg (hidT s₁.heap H) := ⟨hKb, nsK hns, ⟨mb, nsK hb, hbb⟩, let ⟨mc, h1, h2⟩ := hlim; ⟨mc, nsK h1, h2⟩⟩
    have e0 : Env0 P w K mg (hidT s₁.heap H) callerA [] s₁ H := ⟨rfl, hM, fun b o e => of_hidT e, Nat.le_of_eq (hidT_size _ _), trivial, fun b hb => absurd (show b ∈ ([] : List Addr) from hb) (by simp), hok, .of_eq hg⟩
    refine codeAny_mono ((F _ hKb (nsK hns)).run callerA [] s₁ H ⟨[.ref a], []⟩ [.ref a] [.ref a] _ _ ⟨hr, rfl⟩ e0 (hbind s₁ (.ref a)) (.cons rfl .nil) (hsp H hO hS)) fun r s' h => ?_
    cases r with
    | error e => exact (hCX H e s' h).elim
    | ok fl =>
     cases fl with
     | next => exact False.elim h
     | brk => exact False.elim h
     | cont => exact False.elim h
     | ret u =>
      obtain ⟨v, H', os, bare, un, hok', r', q⟩ := h
      have q' : v = .bl true := q
      subst q'
      obtain rfl : u = Value.bool true := r'
      refine ⟨rfl, OldK.of_keep fun b o e => ?_, os, bare⟩
      cases q : H b with
      | none => exact un.keep b o e q (by intro z; exact absurd (show b ∈ ([] : List Addr) from z) (by simp)) (by simp)
      | some u =>
        rcases hO b with z | ⟨ob, xs, z⟩
        · rw [q] at z; cases z
        · obtain ⟨e1, _⟩ := hok b _ z
          obtain ⟨e2, _⟩ := hok' b _ (un.frzs b ob _ z)
          rw [e] at e1; cases e1
          exact e2
  cases hk : K.lookup a with
  | some o =>
    have e := KX a o hk
    rw [ha] at e
    cases e
    exact core (fun _ => none) (fun _ => .inl rfl) (.inr ⟨_, vs.toArray, _, hk, rfl, rfl, rfl, by rw [List.size_toArray, lenV]; exact hl, by simpa using rv⟩) (fun b u z => by have z' : (none : Option HO) = some u := z; cases z') (fun b z => absurd rfl z) fun z => absurd rfl z
  | none =>
    have at_ : ∀ b u, (if b = a then some (HO.frz { cls := .type "list", data := .seq vs.toArray } (.lst (ns.map V.int))) else none) = some u → b = a ∧ u = HO.frz { cls := .type "list", data := .seq vs.toArray } (.lst (ns.map V.int)) := fun b u z => by
      by_cases hb : b = a
      · rw [if_pos hb] at z; cases z; exact ⟨hb, rfl⟩
      · rw [if_neg hb] at z; cases z
    refine core (fun b => if b = a then some (.frz { cls := .type "list", data := .seq vs.toArray } (.lst (ns.map V.int))) else none) (fun b => ?_) (.inl (.inr ⟨{ cls := .type "list", data := .seq vs.toArray }, if_pos rfl⟩)) (fun b u z => ?_) (fun b z => ?_) fun _ => hk
    · by_cases hb : b = a
      · exact .inr ⟨_, _, if_pos hb⟩
      · exact .inl (if_neg hb)
    · obtain ⟨rfl, rfl⟩ := at_ b u z
      exact ⟨ha, by rw [List.length_map]; exact hl, vs, _, rv, ha⟩
    · exact Classical.byContradiction fun hb => z (if_neg hb)
theorem walk_g {l : PySem.W.OpenLaw} {n k : Nat} {q : Program} {loose : List Str} {XP : (Str → Option Value) → Heap → Prop} {YP : World → Heap → Prop} {d : DefRec} {CX : CXT} {x : Str}
    (hn : l.most = some n) (hn2 : n ≤ sizeLine) (hdf : d.params.defaults = []) (hr : Room k callerA)
    (F : ∀ (w : World) (mg : Str → Option Value) (fa : Addr) (h : Heap), YP w h → h.Ns mainGlobals mg → mg d.name = some (.ref fa) →
      ∃ (K : PySem.W.Frag) (fd : FuncData) (sp : Sp), K.In h ∧ (∀ (s : Shared) (u : Value), BindsTo s fd ⟨[u], []⟩ [(x, u)]) ∧
        (∀ (H : Hp) (a : Addr) (ns : List Int), ns.length ≤ n → Only H → SqL K H a (ns.map V.int) → sp [.ref a] H (fun v _ => v = .bl true) fun _ _ _ => False) ∧
        ∀ base : Heap, K.In base → base.Ns mainGlobals mg → FnG l.prog w K mg base CX k fa fd [x] sp)
    (hCX : ∀ (H : Hp) (s : Shared) (e : Value) (s' : Shared), CX [] H s (fun _ _ _ => False) e s' → False) :
    PySem.W.WalkO q loose XP YP l.row.toRowW d [] (fun f vs => PySem.call f vs) := by
  refine Att.attach_call hn hdf fun w s₀ s₁ mg mb fa o pm cd doc a vs ns G Y ho hd hcd hmg hobj hints hlen hg => ?_
  obtain ⟨K, fd, sp, KX, hb, hsp, hF⟩ := F w mg fa _ Y G.T.g hmg
  exact law_g KX G.T.g G.T.b G.T.builtins G.T.nolimit hg hobj hints (Nat.le_trans hlen hn2) hr hF hb (fun H hO hS => hsp H a ns hlen hO hS) fun H e s' => hCX H s₁ e s'
end VL
set_option Elab.async false
set_option linter.all false
set_option maxRecDepth 100000
set_option maxHeartbeats 4000000
namespace VL
open PySem PySem.Spec L2 RT RZ
/-- a result: data, or a new list -/
inductive Rv where
  | d (x : D) | new (ds : List D) | newK (kvs : List (Key × D))
def Rv.cell : Rv → Option Cell
  | .d _ => none
  | .new ds => some (.lst ds)
  | .newK kvs => some (.dk kvs)
abbrev SpD := List Sv → Mem → (Rv → Mem → Prop) → Prop
def NB (B : Addr → Prop) : Bool → Addr → Prop := fun b a => ¬ False ∧ (b = true → ¬ B a)
/-- objects stay objects -/
def ObI (ι : Ix) (H0 H : Hp) : Prop := ∀ l : List Addr, l.map some = ι → ObK l H0 H
theorem ObI.of {l : List Addr} {H0 H : Hp} (h : ObK l H0 H) : ObI (l.map some) H0 H := fun m e => by
  have : m = l := List.map_inj_right (fun a b z => Option.some.inj z) |>.mp e
  rw [this]; exact h
/-- how a result lies: ι the callee's changing arguments -/
def RR (K : PySem.W.Frag) (N : Bool → Addr → Prop) (H0 H : Hp) (ι : Ix) (M : Mem) : Rv → V → Prop
  | .d x, v => RD K N H ι x v ∧ RM K N H ι M ∧ Kp ι H0 ι H ∧ ObI ι H0 H
  | .new ds, v => ∃ a, v = .ref a ∧ H0 a = none ∧ RM K N H (ι ++ [some a]) (M ++ [.lst ds]) ∧ Kp ι H0 (ι ++ [some a]) H ∧ ObI ι H0 H
  | .newK kvs, v => ∃ a, v = .ref a ∧ H0 a = none ∧ RM K N H (ι ++ [some a]) (M ++ [.dk kvs]) ∧ Kp ι H0 (ι ++ [some a]) H ∧ ObI ι H0 H
theorem RR.of {K : PySem.W.Frag} {N : Bool → Addr → Prop} {H0 H : Hp} {ι : Ix} {M : Mem} {v : V} {c : Cell} : ∀ {r : Rv}, r.cell = some c → ((∃ a, v = .ref a ∧ H0 a = none ∧ RM K N H (ι ++ [some a]) (M ++ [c]) ∧ Kp ι H0 (ι ++ [some a]) H ∧ ObI ι H0 H) ↔ RR K N H0 H ι M r v)
  | .d _, e => by cases e
  | .new ds, e => by cases e; exact Iff.rfl
  | .newK kvs, e => by cases e; exact Iff.rfl
def resC : Option Cell → Option Rv
  | some (.lst ds) => some (.new ds)
  | some (.dk kvs) => some (.newK kvs)
  | _ => none
theorem resC_some {o : Option Cell} {r : Rv} (h : resC o = some r) : ∃ c, o = some c ∧ r.cell = some c ∧ c ≠ .gone ∧ ∀ k its, c ≠ .nd k its := by
  unfold resC at h
  split at h
  · cases h; exact ⟨_, rfl, rfl, (fun z => nomatch z), fun _ _ z => nomatch z⟩
  · cases h; exact ⟨_, rfl, rfl, (fun z => nomatch z), fun _ _ z => nomatch z⟩
  · cases h
def lP (K : PySem.W.Frag) (n : Nat) (sp : SpD) : Sp := fun vs H Q _ => ∃ (as : List Sv) (M : Mem) (i0 : List Addr) (B : Addr → Prop) (Q0 : Rv → Mem → Prop),
  as.length = n ∧ (∀ a, B a → ∃ o, H a = some o) ∧ RSs K (NB B) H (i0.map some) as vs ∧ RM K (NB B) H (i0.map some) M ∧ sp as M Q0 ∧
  ∀ r M' v H', Q0 r M' → RR K (NB B) H H' (i0.map some) M' r v → Q v H'
/-- the ends of a body: m cells were handed in -/
def resD (M : Mem) : Sv → Option Rv
  | .d x => some (.d x)
  | .ref n => resC M[n]?
  | .bor _ => none
def okRef (m : Nat) : Sv → Prop
  | .ref n => m ≤ n
  | _ => True
def endsF (m : Nat) (Q0 : Rv → Mem → Prop) : Ends' where
  nx := fun _ M => Q0 (.d .non) (M.take m)
  rt := fun s M => okRef m s ∧ ok (resD M s) fun r => Q0 r (M.take m)
def startD (n : Nat) (as : List Sv) : DS := as.map some ++ List.replicate (n - as.length) none
section
variable {K : PySem.W.Frag} {X : Cx} {N : Bool → Addr → Prop} {H : Hp} {ι : Ix}
theorem RSs.get : ∀ {as : List Sv} {vs : List V} {i : Nat} {d : Sv}, RSs K N H ι as vs → as[i]? = some d → ∃ v, vs[i]? = some v ∧ RS K N H ι d v
  | [], _, _, _, _, e => by simp at e
  | a :: as, _, i, d, h, e => by
    obtain ⟨x, r, rfl, h1, h2⟩ := h
    cases i with
    | zero => simp at e; subst e; exact ⟨x, rfl, h1⟩
    | succ i => exact RSs.get (i := i) h2 (by simpa using e)
theorem startD_at {n : Nat} {as : List Sv} {i : Nat} {d : Sv} (h : (startD n as)[i]? = some (some d)) : as[i]? = some d := by
  unfold startD at h
  by_cases hi : i < as.length
  · rw [List.getElem?_append_left (by simpa using hi), List.getElem?_map] at h
    cases q : as[i]? with
    | none => rw [q] at h; cases h
    | some u => rw [q] at h; cases h; rfl
  · rw [List.getElem?_append_right (by simpa using hi), List.getElem?_replicate] at h
    split at h <;> cases h
/-- the ground of a callee -/
abbrev gnd (H : Hp) (i0 : List Addr) (B : Addr → Prop) : Gd := ⟨H, i0, B, fun _ => False⟩
theorem start_sr {Ns : List Str} {as : List Sv} {vs : List V} {M : Mem} {i0 : List Addr} {B : Addr → Prop} (hB : ∀ a, B a → ∃ o, H a = some o) (r : RSs K (NB B) H (i0.map some) as vs) (m : RM K (NB B) H (i0.map some) M) :
    Sr K (gnd H i0 B) (startD Ns.length as) M (i0.map some) (L2.start Ns vs) H := by
  have hl := r.length
  refine ⟨by unfold startD L2.start; simp [hl], fun i d e => ?_, m, fun n a e => ?_, Kp.refl _ _, fun a ha hn => ?_, hB, fun a ha => ha.elim, ObK.refl _ _⟩
  · have e1 := startD_at e
    obtain ⟨v, e2, r2⟩ := r.get e1
    refine ⟨v, ?_, r2⟩
    unfold L2.start
    rw [List.getElem?_append_left (by simpa using (List.getElem?_eq_some_iff.mp e2).1), List.getElem?_map, e2]; rfl
  · rw [List.getElem?_map, e]; rfl
  · exact absurd (by simpa using ha) hn
theorem pre_take {G : Gd} {δ : DS} {M : Mem} {σ : L2.St} (S : Sr K G δ M ι σ H) : ι.take G.i0.length = G.i0.map some := by
  apply List.ext_getElem?
  intro n
  rw [List.getElem?_take, List.getElem?_map]
  split
  · rename_i h
    rw [List.getElem?_eq_getElem h]
    exact S.pre n _ (List.getElem?_eq_getElem h)
  · rename_i h
    rw [List.getElem?_eq_none (by omega)]; rfl
/-- a body keeps the promise -/
theorem body_at {Ns : List Str} {body : List Stmt} {t : TS'} {vs : List V} {Q : VK} {as : List Sv} {M : Mem} {i0 : List Addr} {B : Addr → Prop} {Q0 : Rv → Mem → Prop}
    (hb : VSs X (gnd H i0 B) body t) (hB : ∀ a, B a → ∃ o, H a = some o) (ra : RSs X.K (NB B) H (i0.map some) as vs) (rm : RM X.K (NB B) H (i0.map some) M) (hp : t (endsF M.length Q0) (startD Ns.length as) M)
    (z : ∀ r M' v H', Q0 r M' → RR X.K (NB B) H H' (i0.map some) M' r v → Q v H') :
    ∃ t', PSs X body t' ∧ t' { nx := fun _ H' => Q .non H', rt := Q } (L2.start Ns vs) H := by
  have hlen : M.length = i0.length := by rw [rm.len]; simp
  have fin : ∀ {δ' : DS} {M' : Mem} {ι' : Ix} {σ' : L2.St} {H' : Hp}, Sr X.K (gnd H i0 B) δ' M' ι' σ' H' → RM X.K (NB B) H' (i0.map some) (M'.take M.length) ∧ Kp (i0.map some) H (i0.map some) H' ∧ Kp ι' H' (i0.map some) H' := fun S' => by
    have e := pre_take S'
    have S2 := S'.gc i0.length (Nat.le_refl _)
    rw [show (gnd H i0 B).i0.length = i0.length from rfl] at e
    rw [e] at S2
    refine ⟨by rw [hlen]; exact S2.mem, S2.kp, ?_⟩
    rw [← show (gnd H i0 B).i0 = i0 from rfl, ← e]; exact Kp.take _
  refine ⟨_, hb, startD Ns.length as, M, i0.map some, endsF M.length Q0, start_sr hB ra rm, hp, ?_⟩
  refine ⟨fun δ' M' ι' σ' H' q e k S' => ?_, fun d δ' M' ι' σ' H' v q S' r => ?_, fun δ' M' ι' σ' H' q e k S' => q.elim, fun δ' M' ι' σ' H' q e k S' => q.elim⟩
  · obtain ⟨f1, f2, f3⟩ := fin S'
    exact z _ _ .non H' q ⟨rfl, f1, f2, ObI.of S'.obk⟩
  · obtain ⟨f1, f2, f3⟩ := fin S'
    obtain ⟨hr, q9⟩ := q
    obtain ⟨rv, e, q⟩ := ok_elim q9
    clear q9
    cases d with
    | d x => cases e; exact z _ _ v H' q ⟨RD.mono f3 (fun _ _ _ _ z => z) x v r, f1, f2, ObI.of S'.obk⟩
    | bor ds => cases e
    | ref k =>
      obtain ⟨cc, e1, hcc, hng, hnn⟩ := resC_some (show resC M'[k]? = some rv from e)
      obtain ⟨a, rfl, hk, rc⟩ := S'.mem.at r e1 hng
      have hm : M.length ≤ k := hr
      have hno : a ∉ i0 := fun ha => by
        obtain ⟨j, hj⟩ := List.getElem?_of_mem ha
        have := S'.pre j a hj
        have e3 := S'.mem.nod _ _ _ this hk
        have := (List.getElem?_eq_some_iff.mp hj).1
        omega
      have f4 : Kp ι' H' (i0.map some ++ [some a]) H' := fun b o e n => by
        refine ⟨e, fun hb => ?_⟩
        rcases List.mem_append.mp hb with hb | hb
        · exact (f3 b o e n).2 hb
        · simp only [List.mem_singleton, Option.some.injEq] at hb; subst hb; exact n (List.mem_of_getElem? hk)
      have hsz : (M'.take M.length).length = (i0.map some).length := f1.len
      refine z _ _ _ H' q ((RR.of hcc).mp ⟨a, rfl, S'.new a (List.mem_of_getElem? hk) hno, ⟨by simp [hsz], fun n m b e1 e2 => ?_, fun n c b e1 e2 => ?_, fun n e1 => ?_, fun n c e1 => ?_⟩, fun b o e n => ?_, ObI.of S'.obk⟩)
      · rw [List.getElem?_append] at e1 e2
        split at e1 <;> split at e2
        · exact f1.nod n m b e1 e2
        · rename_i h1 h2
          have : b = a := by
            cases w : m - (i0.map some).length with
            | zero => rw [w] at e2; simpa using e2.symm
            | succ j => rw [w] at e2; simp at e2
          subst this
          exact absurd (by simpa using List.mem_of_getElem? e1) hno
        · rename_i h1 h2
          have : b = a := by
            cases w : n - (i0.map some).length with
            | zero => rw [w] at e1; simpa using e1.symm
            | succ j => rw [w] at e1; simp at e1
          subst this
          exact absurd (by simpa using List.mem_of_getElem? e2) hno
        · rename_i h1 h2
          cases w : n - (i0.map some).length with
          | zero =>
            cases w2 : m - (i0.map some).length with
            | zero => omega
            | succ j => rw [w2] at e2; simp at e2
          | succ j => rw [w] at e1; simp at e1
      · rw [List.getElem?_append] at e1 e2
        rw [hsz] at e1
        split at e1
        · rename_i h1
          rw [if_pos h1] at e2
          have e3 : M'[n]? = some c := by
            rw [List.getElem?_take] at e1
            split at e1
            · exact e1
            · cases e1
          have e4 : ι'[n]? = some (some b) := by
            rw [List.getElem?_map] at e2
            cases w : i0[n]? with
            | none => rw [w] at e2; cases e2
            | some b' => rw [w] at e2; cases e2; exact S'.pre n b w
          refine (S'.mem.cell n c b e3 e4).monoB (n := n) f4 (fun j hj o q => ?_) (fun _ _ _ _ z => z) (S'.mem.wf n c e3) rfl
          have hji : j < (i0.map some).length := Nat.lt_trans hj h1
          rw [List.getElem?_append_left hji, List.getElem?_map]
          have hj0 : j < i0.length := by simpa using hji
          have := S'.pre j _ (List.getElem?_eq_getElem hj0)
          rw [this] at q
          cases q
          left
          rw [List.getElem?_eq_getElem hj0]; rfl
        · rename_i h1
          rw [if_neg h1] at e2
          cases w : n - (i0.map some).length with
          | zero =>
            rw [w] at e1 e2
            simp at e1 e2
            subst e1 e2
            revert hcc hnn rc
            cases cc with
            | gone => exact fun _ _ z => z.elim
            | lst ds => exact fun _ _ ⟨xs, q1, l, rd⟩ => ⟨xs, q1, l, rd.mono f4 fun _ _ _ _ z => z⟩
            | dk kvs => exact fun _ _ ⟨xs, q1, l, rd⟩ => ⟨xs, q1, l, rd.mono f4 fun _ _ _ _ z => z⟩
            | dn kvs => exact fun _ _ ⟨xs, q1, l, r1, r2⟩ => ⟨xs, q1, l, r1.mono f4 fun _ _ _ _ z => z, r2.mono f4 fun _ _ _ _ z => z⟩
            | nd k its => exact fun _ h => absurd rfl (h k its)
          | succ j => rw [w] at e1; simp at e1
      · rw [List.getElem?_append] at e1
        split at e1
        · rw [List.getElem?_map] at e1
          cases w : i0[n]? with
          | none => rw [w] at e1; cases e1
          | some b' => rw [w] at e1; cases e1
        · cases w : n - (i0.map some).length with
          | zero => rw [w] at e1; simp at e1
          | succ j => rw [w] at e1; simp at e1
      · rw [List.getElem?_append] at e1
        split at e1
        · exact f1.wf n c e1
        · have := List.mem_of_getElem? e1
          rw [List.mem_singleton.mp this]
          cases cc with
          | nd k its => exact absurd rfl (hnn k its)
          | _ => trivial
      · obtain ⟨h1, h2⟩ := f2 b o e n
        refine ⟨h1, fun hb => ?_⟩
        rcases List.mem_append.mp hb with hb | hb
        · exact h2 hb
        · simp only [List.mem_singleton, Option.some.injEq] at hb; subst hb
          rw [show H b = none from S'.new b (List.mem_of_getElem? hk) hno] at e; cases e
theorem body_ok {Ns : List Str} {n : Nat} {sp : SpD} {body : List Stmt} {t : TS'} {vs : List V} {Q : VK} {E : XK}
    (m0 : Nat) (hX : X.K = K) (hb : ∀ G, G.i0.length = m0 → VSs X G body t) (hm0 : ∀ as M Q0, sp as M Q0 → M.length = m0) (hp : ∀ as M Q0, as.length = n → sp as M Q0 → t (endsF M.length Q0) (startD Ns.length as) M) (h : lP K n sp vs H Q E) :
    ∃ t', PSs X body t' ∧ t' { nx := fun _ H' => Q .non H', rt := Q } (L2.start Ns vs) H := by
  subst hX
  obtain ⟨as, M, i0, B, Q0, hn, hB, ra, rm, hs, z⟩ := h
  have hlen : M.length = i0.length := by rw [rm.len]; simp
  exact body_at (hb (gnd H i0 B) (hlen.symm.trans (hm0 _ _ _ hs))) hB ra rm (hp as M Q0 hn hs) z
/-- a changing thing that is not gone -/
def cellA : Option Cell → Option Unit
  | some (.lst _) => some ()
  | some (.dk _) => some ()
  | some (.dn _) => some ()
  | _ => none
theorem cellA_some {c : Option Cell} {u : Unit} (h : cellA c = some u) : ∃ x, c = some x ∧ x ≠ .gone := by
  cases c with
  | none => cases h
  | some x => cases x with
    | gone => cases h
    | lst ds => exact ⟨_, rfl, fun z => nomatch z⟩
    | dk kvs => exact ⟨_, rfl, fun z => nomatch z⟩
    | dn kvs => exact ⟨_, rfl, fun z => nomatch z⟩
    | nd k its => cases h
/-- how the arguments are handed over: tt, a changing list of the caller's that the callee may change; ns: the caller's numbers of these -/
def handS (M : Mem) : List Bool → List Sv → List Nat → Option (List Sv × List Nat)
  | [], [], ns => some ([], ns)
  | true :: ms, .ref n :: xs, ns => if n ∈ ns then none else (cellA M[n]?).bind fun _ => (handS M ms xs (ns ++ [n])).map fun r => (.ref ns.length :: r.1, r.2)
  | false :: ms, .ref n :: xs, ns => (cellL M[n]?).bind fun ds => (handS M ms xs ns).bind fun r => if n ∈ r.2 then none else some (.bor ds :: r.1, r.2)
  | false :: ms, x :: xs, ns => (handS M ms xs ns).map fun r => (x :: r.1, r.2)
  | _, _, _ => none
def cellsAt (M : Mem) (ns : List Nat) : Mem := ns.map fun n => M[n]?.getD .gone
/-- the callee's cells written back -/
def backS : List Nat → Mem → Mem → Mem
  | n :: ns, c :: cs, M => backS ns cs (M.set n c)
  | _, _, M => M
def callS (ms : List Bool) (sp : SpD) (M : Mem) (xs : List Sv) (Q : Rv → Mem → Prop) : Prop :=
  ok (handS M ms xs []) fun r => sp r.1 (cellsAt M r.2) fun v Mc => Q v (backS r.2 Mc M)
def rvQ (Q : QD) : Rv → Mem → Prop
  | .d x, M => Q (.d x) M
  | .new ds, M => Q (.ref M.length) (M ++ [.lst ds])
  | .newK kvs, M => Q (.ref M.length) (M ++ [.dk kvs])
theorem rvQ_cell {Q : QD} {c : Cell} {M : Mem} : ∀ {r : Rv}, r.cell = some c → rvQ Q r M → Q (.ref M.length) (M ++ [c])
  | .d _, e, _ => by cases e
  | .new ds, e, h => by cases e; exact h
  | .newK kvs, e, h => by cases e; exact h
def eCall (ms : List Bool) (sp : SpD) (tA : TA') : TE' := fun δ M Q => tA δ M fun xs M1 => callS ms sp M1 xs (rvQ Q)
/-- what the callee's callers may change -/
def Bc (G : Gd) (ι : Ix) (i0 : List Addr) : Addr → Prop := fun a => G.B a ∨ G.Hd a ∨ (some a ∈ ι ∧ a ∉ i0)
mutual
theorem RD.go {N N' : Bool → Addr → Prop} {H H' : Hp} {ι ι' : Ix} (h1 : ∀ a xs, H a = some (.tup xs) → some a ∉ ι → H' a = some (.tup xs) ∧ some a ∉ ι') (h2 : ∀ a o l, H a = some (.frz o l) → some a ∉ ι → H' a = some (.frz o l) ∧ some a ∉ ι')
    (h3 : ∀ a xs, H a = some (.lst xs) → some a ∉ ι → N true a → H' a = some (.lst xs) ∧ some a ∉ ι' ∧ N' true a) : ∀ (d : D) (v : V), RD K N H ι d v → RD K N' H' ι' d v
  | .non, _, h => h
  | .bl _, _, h => h
  | .int _, _, h => h
  | .str _, _, h => h
  | .fn _, _, h => h
  | .ty _, _, h => h
  | .cls _, _, h => h
  | .exc _ f, v, h => by
    obtain ⟨a, oe, vs, e, q, n, c, d, x⟩ := h
    exact ⟨a, oe, vs, e, (h2 a _ _ q n).1, (h2 a _ _ q n).2, c, d, x.map h2⟩
  | .dn ks ds, v, h => by
    obtain ⟨a, xs, o, e, q, n, z, r1, r2⟩ := h
    exact ⟨a, xs, o, e, (h2 a _ _ q n).1, (h2 a _ _ q n).2, z, RDs.go h1 h2 h3 ks _ r1, RDs.go h1 h2 h3 ds _ r2⟩
  | .dk ks ds, v, h => by
    obtain ⟨a, ws, o, e, q, n, z, r⟩ := h
    exact ⟨a, ws, o, e, (h2 a _ _ q n).1, (h2 a _ _ q n).2, z, RDs.go h1 h2 h3 ds _ r⟩
  | .scr ns, v, h => by
    obtain ⟨a, e, ⟨o, q, n⟩ | q, l⟩ := h
    · exact ⟨a, e, .inl ⟨o, h2 a _ _ q n⟩, l⟩
    · exact ⟨a, e, .inr q, l⟩
  | .tup ds, v, h => by
    obtain ⟨a, xs, e, q, l, r⟩ := h
    refine ⟨a, xs, e, ?_, l, RDs.go h1 h2 h3 ds xs r⟩
    rcases q with ⟨q, n⟩ | q
    · exact .inl (h1 a _ q n)
    · exact .inr q
  | .lst ds, v, h => by
    obtain ⟨a, xs, e, q, n, z, l, r⟩ := h
    obtain ⟨q1, q2, q3⟩ := h3 a xs q n z
    exact ⟨a, xs, e, q1, q2, q3, l, RDs.go h1 h2 h3 ds xs r⟩
theorem RDs.go {N N' : Bool → Addr → Prop} {H H' : Hp} {ι ι' : Ix} (h1 : ∀ a xs, H a = some (.tup xs) → some a ∉ ι → H' a = some (.tup xs) ∧ some a ∉ ι') (h2 : ∀ a o l, H a = some (.frz o l) → some a ∉ ι → H' a = some (.frz o l) ∧ some a ∉ ι')
    (h3 : ∀ a xs, H a = some (.lst xs) → some a ∉ ι → N true a → H' a = some (.lst xs) ∧ some a ∉ ι' ∧ N' true a) : ∀ (ds : List D) (vs : List V), RDs K N H ι ds vs → RDs K N' H' ι' ds vs
  | [], _, h => h
  | d :: ds, vs, h => by
    obtain ⟨x, r, e, g1, g2⟩ := h
    exact ⟨x, r, e, RD.go h1 h2 h3 d x g1, RDs.go h1 h2 h3 ds r g2⟩
end
section
variable {G : Gd} {δ : DS} {M : Mem} {σ : L2.St} {i0 : List Addr}
theorem RD.dn {d : D} {v : V} (hi : ∀ a ∈ i0, some a ∈ ι) (h : RD K G.N H ι d v) : RD K (NB (Bc G ι i0)) H (i0.map some) d v := by
  have hn : ∀ a, some a ∉ ι → some a ∉ i0.map some := fun a hn h => hn (hi a (by simpa using h))
  exact RD.go (fun a xs q n => ⟨q, hn a n⟩) (fun a o l q n => ⟨q, hn a n⟩) (fun a xs q n z => ⟨q, hn a n, fun z => z, fun _ => by
    rintro (h | h | h)
    · exact z.2 rfl h
    · exact z.1 h
    · exact n h.1⟩) d v h
theorem RDs.dn {d : List D} {v : List V} (hi : ∀ a ∈ i0, some a ∈ ι) (h : RDs K G.N H ι d v) : RDs K (NB (Bc G ι i0)) H (i0.map some) d v := by
  have hn : ∀ a, some a ∉ ι → some a ∉ i0.map some := fun a hn h => hn (hi a (by simpa using h))
  exact RDs.go (fun a xs q n => ⟨q, hn a n⟩) (fun a o l q n => ⟨q, hn a n⟩) (fun a xs q n z => ⟨q, hn a n, fun z => z, fun _ => by
    rintro (h | h | h)
    · exact z.2 rfl h
    · exact z.1 h
    · exact n h.1⟩) d v h
/-- a cell's kind -/
theorem Sr.kind (S : Sr K G δ M ι σ H) {a : Addr} (h : some a ∈ ι) : (∃ xs, H a = some (.lst xs)) ∨ (∃ ws, H a = some (.dK ws)) ∨ (∃ ws, H a = some (.ext ws)) ∨ ∃ C dx fs, H a = some (.ins C dx fs) := by
  obtain ⟨n, hn⟩ := List.getElem?_of_mem h
  have hM : n < M.length := by rw [S.mem.len]; exact (List.getElem?_eq_some_iff.mp hn).1
  have q := S.mem.cell n M[n] a (List.getElem?_eq_getElem hM) hn
  cases e : M[n] with
  | gone => rw [e] at q; exact q.elim
  | lst ds => rw [e] at q; exact .inl ⟨_, q.choose_spec.1⟩
  | dk kvs => rw [e] at q; exact .inr (.inl ⟨_, q.choose_spec.1⟩)
  | dn kvs => rw [e] at q; exact .inr (.inr (.inl ⟨_, q.choose_spec.1⟩))
  | nd k its =>
    rw [e] at q
    obtain ⟨xs, q1, _⟩ := q
    cases k with
    | ob c fs => obtain ⟨dx, q1, _⟩ := q1; exact .inr (.inr (.inr ⟨_, _, _, q1⟩))
theorem up3 {H' : Hp} {r : Ix} (S : Sr K G δ M ι σ H) (k : Kp (i0.map some) H (i0.map some ++ r) H') :
    (∀ a xs, H' a = some (.tup xs) → some a ∉ i0.map some ++ r → H' a = some (.tup xs) ∧ some a ∉ ι ++ r) ∧ (∀ a o l, H' a = some (.frz o l) → some a ∉ i0.map some ++ r → H' a = some (.frz o l) ∧ some a ∉ ι ++ r) ∧
    (∀ a xs, H' a = some (.lst xs) → some a ∉ i0.map some ++ r → NB (Bc G ι i0) true a → H' a = some (.lst xs) ∧ some a ∉ ι ++ r ∧ G.N true a) := by
  refine ⟨fun a xs q n => ⟨q, fun h => ?_⟩, fun a o l q n => ⟨q, fun h => ?_⟩, fun a xs q n z => ⟨q, fun h => ?_, fun h => z.2 rfl (.inr (.inl h)), fun _ h => z.2 rfl (.inl h)⟩⟩
  all_goals
    have n1 : some a ∉ i0.map some := fun h => n (List.mem_append_left _ h)
    have n2 : some a ∉ r := fun h => n (List.mem_append_right _ h)
    have h : some a ∈ ι := (List.mem_append.mp h).resolve_right n2
  · rcases S.kind h with ⟨ys, e⟩ | ⟨ys, e⟩ | ⟨ys, e⟩ | ⟨C, dx, fs, e⟩
    · rw [(k a _ e n1).1] at q; cases q
    · rw [(k a _ e n1).1] at q; cases q
    · rw [(k a _ e n1).1] at q; cases q
    · rw [(k a _ e n1).1] at q; cases q
  · rcases S.kind h with ⟨ys, e⟩ | ⟨ys, e⟩ | ⟨ys, e⟩ | ⟨C, dx, fs, e⟩
    · rw [(k a _ e n1).1] at q; cases q
    · rw [(k a _ e n1).1] at q; cases q
    · rw [(k a _ e n1).1] at q; cases q
    · rw [(k a _ e n1).1] at q; cases q
  · exact z.2 rfl (.inr (.inr ⟨h, by simpa using n1⟩))
theorem RDs.up {H' : Hp} {r : Ix} {d : List D} {v : List V} (S : Sr K G δ M ι σ H) (k : Kp (i0.map some) H (i0.map some ++ r) H') (h : RDs K (NB (Bc G ι i0)) H' (i0.map some ++ r) d v) : RDs K G.N H' (ι ++ r) d v :=
  let ⟨h1, h2, h3⟩ := up3 S k
  RDs.go h1 h2 h3 d v h
theorem RD.up {H' : Hp} {r : Ix} {d : D} {v : V} (S : Sr K G δ M ι σ H) (k : Kp (i0.map some) H (i0.map some ++ r) H') (h : RD K (NB (Bc G ι i0)) H' (i0.map some ++ r) d v) : RD K G.N H' (ι ++ r) d v :=
  let ⟨h1, h2, h3⟩ := up3 S k
  RD.go h1 h2 h3 d v h
/-- what is handed over, as the callee sees it -/
theorem hand_of (S : Sr K G δ M ι σ H) : ∀ (ms : List Bool) (xs : List Sv) (vs : List V) (ns : List Nat) (as : List Sv) (ns' : List Nat), handS M ms xs ns = some (as, ns') → RSs K G.N H ι xs vs → ns.Nodup → (∀ n ∈ ns, ∃ ds, cellA M[n]? = some ds ∧ ∃ a, ι[n]? = some (some a)) →
    ns'.Nodup ∧ (∀ n ∈ ns', ∃ ds, cellA M[n]? = some ds ∧ ∃ a, ι[n]? = some (some a)) ∧ (∃ r, ns' = ns ++ r) ∧ (∀ i0, i0.map some = ns'.map (fun n => (ι[n]?).join) → RSs K (NB (Bc G ι i0)) H (i0.map some) as vs) ∧ as.length = xs.length
  | [], [], vs, ns, as, ns', e, r, nd, hc => by
    cases e
    exact ⟨nd, hc, ⟨[], by simp⟩, fun i0 _ => r, rfl⟩
  | true :: ms, .ref n :: xs, vs, ns, as, ns', e, r, nd, hc => by
    unfold handS at e
    split at e
    · cases e
    rename_i hn
    obtain ⟨ds, e1, e⟩ := Option.bind_eq_some_iff.mp e
    obtain ⟨⟨as1, ns1⟩, e2, e⟩ := Option.map_eq_some_iff.mp e
    cases e
    obtain ⟨v, r', rfl, r1, r2⟩ := r
    obtain ⟨cx, hx1, hx2⟩ := cellA_some e1
    obtain ⟨a, rfl, ha, _⟩ := S.mem.at r1 hx1 hx2
    obtain ⟨h1, h2, ⟨q, h3⟩, h4, h5⟩ := hand_of S ms xs r' (ns ++ [n]) as1 ns1 e2 r2 (by
      rw [List.nodup_append]; refine ⟨nd, by simp, fun x hx y hy => ?_⟩
      simp only [List.mem_singleton] at hy; subst hy; rintro rfl; exact hn hx) (fun m hm => by
      rcases List.mem_append.mp hm with hm | hm
      · exact hc m hm
      · simp only [List.mem_singleton] at hm; subst hm; exact ⟨ds, e1, a, ha⟩)
    refine ⟨h1, h2, ⟨n :: q, by rw [h3]; simp⟩, fun i0 hi => ⟨_, _, rfl, ⟨a, rfl, .inl ?_⟩, h4 i0 hi⟩, by simp [h5]⟩
    rw [hi, h3, List.getElem?_map, List.append_assoc, List.getElem?_append_right (Nat.le_refl _)]
    simp [ha]
  | false :: ms, .ref n :: xs, vs, ns, as, ns', e, r, nd, hc => by
    unfold handS at e
    obtain ⟨ds, e1, e⟩ := Option.bind_eq_some_iff.mp e
    obtain ⟨⟨as1, ns1⟩, e2, e⟩ := Option.bind_eq_some_iff.mp e
    split at e
    · cases e
    rename_i hn
    cases e
    obtain ⟨v, r', rfl, r1, r2⟩ := r
    obtain ⟨a, rfl, ha, ys, q1, l1, rd⟩ := S.mem.at r1 (cellL_some e1) (fun z => nomatch z)
    obtain ⟨h1, h2, h3, h4, h5⟩ := hand_of S ms xs r' ns as1 ns1 e2 r2 nd hc
    refine ⟨h1, h2, h3, fun i0 hi => ⟨_, _, rfl, ⟨a, ys, rfl, q1, ?_, ⟨fun z => z, fun z => nomatch z⟩, l1, ?_⟩, h4 i0 hi⟩, by simp [h5]⟩
    · rw [hi]
      intro hm
      obtain ⟨m, hm1, hm2⟩ := List.mem_map.mp hm
      obtain ⟨_, _, b, hb⟩ := h2 m hm1
      rw [hb] at hm2
      cases hm2
      exact hn (S.mem.nod _ _ _ hb ha ▸ hm1)
    · refine RDs.dn (fun b hb => ?_) rd
      have : some b ∈ i0.map some := by simpa using hb
      rw [hi] at this
      obtain ⟨m, hm1, hm2⟩ := List.mem_map.mp this
      obtain ⟨_, _, c, hb⟩ := h2 m hm1
      rw [hb] at hm2; cases hm2
      exact List.mem_of_getElem? hb
  | false :: ms, .d x :: xs, vs, ns, as, ns', e, r, nd, hc => by
    obtain ⟨⟨as1, ns1⟩, e2, e⟩ := Option.map_eq_some_iff.mp (show (handS M ms xs ns).map _ = _ from e)
    cases e
    obtain ⟨v, r', rfl, r1, r2⟩ := r
    obtain ⟨h1, h2, h3, h4, h5⟩ := hand_of S ms xs r' ns as1 ns1 e2 r2 nd hc
    refine ⟨h1, h2, h3, fun i0 hi => ⟨_, _, rfl, RD.dn (fun b hb => ?_) r1, h4 i0 hi⟩, by simp [h5]⟩
    have : some b ∈ i0.map some := by simpa using hb
    rw [hi] at this
    obtain ⟨m, hm1, hm2⟩ := List.mem_map.mp this
    obtain ⟨_, _, c, hb⟩ := h2 m hm1
    rw [hb] at hm2; cases hm2
    exact List.mem_of_getElem? hb
  | false :: ms, .bor ds :: xs, vs, ns, as, ns', e, r, nd, hc => by
    obtain ⟨⟨as1, ns1⟩, e2, e⟩ := Option.map_eq_some_iff.mp (show (handS M ms xs ns).map _ = _ from e)
    cases e
    obtain ⟨v, r', rfl, r1, r2⟩ := r
    obtain ⟨h1, h2, h3, h4, h5⟩ := hand_of S ms xs r' ns as1 ns1 e2 r2 nd hc
    refine ⟨h1, h2, h3, fun i0 hi => ?_, by simp [h5]⟩
    have hb : ∀ b ∈ i0, some b ∈ ι := fun b hb => by
      have : some b ∈ i0.map some := by simpa using hb
      rw [hi] at this
      obtain ⟨m, hm1, hm2⟩ := List.mem_map.mp this
      obtain ⟨_, _, c, hb⟩ := h2 m hm1
      rw [hb] at hm2; cases hm2
      exact List.mem_of_getElem? hb
    obtain ⟨a, ys, rfl, q1, n1, _, l1, rd⟩ := r1
    exact ⟨_, _, rfl, ⟨a, ys, rfl, q1, fun hm => n1 (hb a (by simpa using hm)), ⟨fun z => z, fun z => nomatch z⟩, l1, RDs.dn hb rd⟩, h4 i0 hi⟩
  | true :: ms, .d x :: xs, _, _, _, _, e, _, _, _ => by cases e
  | true :: ms, .bor x :: xs, _, _, _, _, e, _, _, _ => by cases e
  | [], _ :: _, _, _, _, _, e, _, _, _ => by cases e
  | true :: _, [], _, _, _, _, e, _, _, _ => by cases e
  | false :: _, [], _, _, _, _, e, _, _, _ => by cases e
theorem nodup_ix : ∀ {ns : List Nat} {j l m : Nat}, ns.Nodup → ns[j]? = some m → ns[l]? = some m → j = l
  | [], _, _, _, _, h, _ => by simp at h
  | n :: ns, 0, 0, _, _, _, _ => rfl
  | n :: ns, 0, l + 1, m, nd, h1, h2 => by
    simp at h1; subst h1
    exact absurd (List.mem_of_getElem? (by simpa using h2)) (List.nodup_cons.mp nd).1
  | n :: ns, j + 1, 0, m, nd, h1, h2 => by
    simp at h2; subst h2
    exact absurd (List.mem_of_getElem? (by simpa using h1)) (List.nodup_cons.mp nd).1
  | n :: ns, j + 1, l + 1, m, nd, h1, h2 => by
    exact congrArg (· + 1) (nodup_ix (List.nodup_cons.mp nd).2 (by simpa using h1) (by simpa using h2))
theorem backS_len : ∀ (ns : List Nat) (cs M : Mem), (backS ns cs M).length = M.length
  | [], cs, M => by cases cs <;> rfl
  | n :: ns, [], M => rfl
  | n :: ns, c :: cs, M => by simp [backS, backS_len ns cs]
theorem backS_ne : ∀ (ns : List Nat) (cs M : Mem) (m : Nat), m ∉ ns → (backS ns cs M)[m]? = M[m]?
  | [], cs, M, m, _ => by cases cs <;> rfl
  | n :: ns, [], M, m, _ => rfl
  | n :: ns, c :: cs, M, m, h => by
    simp only [List.mem_cons, not_or] at h
    simp only [backS]
    rw [backS_ne ns cs _ m h.2, List.getElem?_set_ne (fun z => h.1 z.symm)]
theorem backS_at : ∀ (ns : List Nat) (cs M : Mem) (j m : Nat) (c : Cell), ns.Nodup → ns[j]? = some m → cs[j]? = some c → m < M.length → (backS ns cs M)[m]? = some c
  | [], _, _, _, _, _, _, h, _, _ => by simp at h
  | _ :: _, [], _, _, _, _, _, _, h, _ => by simp at h
  | n :: ns, d :: cs, M, 0, m, c, nd, h1, h2, hl => by
    simp at h1 h2; subst h1 h2
    simp only [backS]
    rw [backS_ne ns cs _ _ (List.nodup_cons.mp nd).1, List.getElem?_set_self hl]
  | n :: ns, d :: cs, M, j + 1, m, c, nd, h1, h2, hl => by
    simp only [backS]
    exact backS_at ns cs _ j m c (List.nodup_cons.mp nd).2 (by simpa using h1) (by simpa using h2) (by simpa using hl)
theorem Sr.after {H' : Hp} {ns : List Nat} {Mc cs : Mem} {r : List Addr} (S : Sr K G δ M ι σ H) (nd : ns.Nodup) (hc : ∀ n ∈ ns, ∃ ds, cellA M[n]? = some ds ∧ ∃ a, ι[n]? = some (some a)) (hi : i0.map some = ns.map (fun n => (ι[n]?).join))
    (hl : Mc.length = i0.length) (hcs : cs.length = r.length) (hr : ∀ a ∈ r, H a = none)
    (m : RM K (NB (Bc G ι i0)) H' (i0.map some ++ r.map some) (Mc ++ cs)) (k : Kp (i0.map some) H (i0.map some ++ r.map some) H') (ob : ObI (i0.map some) H H') (hfl : ∀ c ∈ cs, ∀ kd its, c ≠ .nd kd its := by simp) : Sr K G δ (backS ns Mc M ++ cs) (ι ++ r.map some) σ H' := by
  have hsub : ∀ b ∈ i0, some b ∈ ι := fun b hb => by
    have : some b ∈ i0.map some := by simpa using hb
    rw [hi] at this
    obtain ⟨m, hm1, hm2⟩ := List.mem_map.mp this
    obtain ⟨_, _, c, hb⟩ := hc m hm1
    rw [hb] at hm2; cases hm2
    exact List.mem_of_getElem? hb
  have hn : ∀ a, some a ∉ ι → some a ∉ i0.map some := fun a hn h => hn (hsub a (by simpa using h))
  have hrr : ∀ a o, H a = some o → some a ∉ r.map some := fun a o e h => by
    have h : a ∈ r := by simpa using h
    rw [hr a h] at e; cases e
  have kk : Kp ι H (ι ++ r.map some) H' := fun a o e n => ⟨(k a o e (hn a n)).1, fun h => by
    rcases List.mem_append.mp h with h | h
    · exact n h
    · exact hrr a o e h⟩
  have hin : ∀ (n : Nat) (a : Addr), ι[n]? = some (some a) → n ∉ ns → some a ∉ i0.map some := fun n a h hno z => by
    rw [hi] at z
    obtain ⟨m, hm1, hm2⟩ := List.mem_map.mp z
    obtain ⟨_, _, c, hb⟩ := hc m hm1
    rw [hb] at hm2; cases hm2
    exact hno (S.mem.nod _ _ _ hb h ▸ hm1)
  have hfr : ∀ a ∈ r, some a ∉ ι := fun a ha => S.mem.fresh (hr a ha)
  have hbl : (backS ns Mc M).length = ι.length := by rw [backS_len]; exact S.mem.len
  have up : ∀ c a, (∀ kd its, c ≠ .nd kd its) → RC K (NB (Bc G ι i0)) H' (i0.map some ++ r.map some) c a → RC K G.N H' (ι ++ r.map some) c a := fun c a hf q => by
    cases c with
    | nd kd its => exact absurd rfl (hf kd its)
    | gone => exact q.elim
    | lst ds => obtain ⟨xs, q1, l, r⟩ := q; exact ⟨xs, q1, l, RDs.up S k r⟩
    | dk kvs => obtain ⟨xs, q1, l, r⟩ := q; exact ⟨xs, q1, l, RDs.up S k r⟩
    | dn kvs => obtain ⟨xs, q1, l, r1, r2⟩ := q; exact ⟨xs, q1, l, RDs.up S k r1, RDs.up S k r2⟩
  have mcf : ∀ (j n : Nat), ns[j]? = some n → ∀ c, Mc[j]? = some c → ∀ kd its, c ≠ .nd kd its := fun j n hj c hcj kd its e => by
    subst e
    obtain ⟨u, h1, a, h2⟩ := hc n (List.mem_of_getElem? hj)
    have hji : (i0.map some)[j]? = some (some a) := by rw [hi, List.getElem?_map, hj]; simp [h2]
    have hjn : j < i0.length := by simpa using (List.getElem?_eq_some_iff.mp hji).1
    obtain ⟨xs, q, _⟩ := m.cell j _ a (by rw [List.getElem?_append_left (List.getElem?_eq_some_iff.mp hcj).1]; exact hcj) (by rw [List.getElem?_append_left (by simpa using hjn)]; exact hji)
    cases kd with
    | ob c fs =>
      obtain ⟨dx, q1, _⟩ := q
      have ha : a ∈ i0 := by have := List.mem_of_getElem? hji; simpa using this
      obtain ⟨f0, h0⟩ := (ob i0 rfl a ha).2 _ _ _ q1
      obtain ⟨cx, hx1, _⟩ := cellA_some h1
      have q2 := S.mem.cell n cx a hx1 h2
      rw [hx1] at h1
      cases cx with
      | gone => exact q2.elim
      | lst ds => obtain ⟨xs, q3, _⟩ := q2; rw [q3] at h0; cases h0
      | dk ds => obtain ⟨xs, q3, _⟩ := q2; rw [q3] at h0; cases h0
      | dn ds => obtain ⟨xs, q3, _⟩ := q2; rw [q3] at h0; cases h0
      | nd k its => cases h1
  have obk : ObK G.i0 H H' := fun a ha => by
    obtain ⟨n, hn0⟩ := List.getElem?_of_mem ha
    have hp := S.pre n a hn0
    by_cases h0 : a ∈ i0
    · exact ob i0 rfl a h0
    · obtain ⟨u, hu⟩ := S.i0there a ha
      have e9 := (k a u hu (by simpa using h0)).1
      rw [show H' a = H a from e9.trans hu.symm]
      exact ⟨fun C dx fs e => ⟨fs, e, SameF.refl fs⟩, fun C dx fs e => ⟨fs, e⟩⟩
  refine ⟨S.len, fun i d e => ?_, ⟨by simp [hbl, hcs], fun n m' a e1 e2 => ?_, fun n c a e1 e2 => ?_, fun n e => ?_, fun n c e1 => ?_⟩, fun n a e => ?_, S.kp.trans kk, fun a ha h0 => ?_, S.bad, fun a ha => ?_, S.obk.trans obk⟩
  · obtain ⟨v, e1, r⟩ := S.slot i d e
    exact ⟨v, e1, r.mono kk (Ex.app _ _) (fun _ _ _ _ z => z)⟩
  · rw [List.getElem?_append] at e1 e2
    split at e1 <;> split at e2
    · exact S.mem.nod n m' a e1 e2
    · exact absurd (List.mem_of_getElem? e1) (hfr a (by simpa using List.mem_of_getElem? e2))
    · exact absurd (List.mem_of_getElem? e2) (hfr a (by simpa using List.mem_of_getElem? e1))
    · have := m.nod (i0.length + (n - ι.length)) (i0.length + (m' - ι.length)) a (by rw [List.getElem?_append_right (by simp)]; simpa using e1) (by rw [List.getElem?_append_right (by simp)]; simpa using e2)
      omega
  · rw [List.getElem?_append, hbl] at e1
    rw [List.getElem?_append] at e2
    split at e1
    · rename_i hlt
      rw [if_pos hlt] at e2
      by_cases hno : n ∈ ns
      · obtain ⟨j, hj⟩ := List.getElem?_of_mem hno
        have hji : (i0.map some)[j]? = some (some a) := by rw [hi, List.getElem?_map, hj]; simp [e2]
        have hjn : j < i0.length := by simpa using (List.getElem?_eq_some_iff.mp hji).1
        have hjl : j < Mc.length := by omega
        have hl : n < M.length := by rw [S.mem.len]; exact hlt
        rw [backS_at ns Mc M j n _ nd hj (List.getElem?_eq_getElem hjl) hl] at e1
        cases e1
        exact up _ _ (mcf j n hj _ (List.getElem?_eq_getElem hjl)) (m.cell j _ a (by rw [List.getElem?_append_left hjl, List.getElem?_eq_getElem hjl]) (by rw [List.getElem?_append_left (by simpa using hjn)]; exact hji))
      · rw [backS_ne ns Mc M n hno] at e1
        have q := S.mem.cell n c a e1 e2
        obtain ⟨o, ho⟩ := q.has
        exact q.mono kk (Ex.app _ _) (fun _ _ _ _ z => z) (by rw [(k a o ho (hin n a e2 hno)).1, ho])
    · rename_i hlt
      rw [if_neg hlt] at e2
      exact up _ _ (hfl c (List.mem_of_getElem? e1)) (m.cell (i0.length + (n - ι.length)) _ a (by rw [List.getElem?_append_right (by omega)]; rw [hl]; simpa using e1) (by rw [List.getElem?_append_right (by simp)]; simpa using e2))
  · rw [List.getElem?_append] at e
    split at e
    · rename_i hlt
      rw [List.getElem?_append_left (by rw [hbl]; exact hlt), backS_ne ns Mc M n fun hno => ?_]
      · exact S.mem.gone n e
      · obtain ⟨_, _, c, hb⟩ := hc n hno
        rw [hb] at e; cases e
    · have := List.mem_of_getElem? e
      simp at this
  · have flat : (∀ kd its, c ≠ .nd kd its) → c.wf n := fun h => by
      cases c with
      | nd kd its => exact absurd rfl (h kd its)
      | _ => trivial
    rw [List.getElem?_append, hbl] at e1
    split at e1
    · rename_i hlt
      by_cases hno : n ∈ ns
      · obtain ⟨j, hj⟩ := List.getElem?_of_mem hno
        have hl : n < M.length := by rw [S.mem.len]; exact hlt
        have hjl : j < Mc.length := by
          have h1 := (List.getElem?_eq_some_iff.mp hj).1
          have h2 : i0.length = ns.length := by have := congrArg List.length hi; simpa using this
          omega
        rw [backS_at ns Mc M j n _ nd hj (List.getElem?_eq_getElem hjl) hl] at e1
        cases e1
        exact flat (mcf j n hj _ (List.getElem?_eq_getElem hjl))
      · rw [backS_ne ns Mc M n hno] at e1
        exact S.mem.wf n c e1
    · exact flat (hfl c (List.mem_of_getElem? e1))
  · have e1 := S.pre n a e
    rw [List.getElem?_append_left (List.getElem?_eq_some_iff.mp e1).1]; exact e1
  · rcases List.mem_append.mp ha with z | z
    · exact S.new a z h0
    · have z : a ∈ r := by simpa using z
      cases q : G.He a with
      | none => rfl
      | some u =>
        have := (S.kp a u q (by simpa using h0)).1
        rw [hr a z] at this; cases this
  · obtain ⟨u, q⟩ := (S.hid a ha).2
    exact ⟨(kk a u q (S.hid a ha).1).2, u, (kk a u q (S.hid a ha).1).1⟩
theorem call_gen {ms : List Bool} {xs as : List Sv} {vs : List V} {ns : List Nat} (S : Sr K G δ M ι σ H) (r : RSs K G.N H ι xs vs) (e : handS M ms xs [] = some (as, ns)) :
    as.length = xs.length ∧ ∃ (i0 : List Addr) (B : Addr → Prop), (∀ a, B a → ∃ o, H a = some o) ∧ RSs K (NB B) H (i0.map some) as vs ∧ RM K (NB B) H (i0.map some) (cellsAt M ns) ∧
      (∀ x M' v H', RR K (NB B) H H' (i0.map some) M' (.d x) v → Kp ι H ι H' ∧ Sr K G δ (backS ns M' M) ι σ H' ∧ RD K G.N H' ι x v) ∧
      ∀ rv c M' v H', rv.cell = some c → RR K (NB B) H H' (i0.map some) M' rv v → ∃ a, v = .ref a ∧ Kp ι H (ι ++ [some a]) H' ∧ Sr K G δ (backS ns M' M ++ [c]) (ι ++ [some a]) σ H' ∧ (backS ns M' M).length = M.length := by
  obtain ⟨nd, hc, h3, hr, hl⟩ := hand_of S ms xs vs [] as ns e r List.nodup_nil (fun _ z => by simp at z)
  obtain ⟨i0, hi⟩ : ∃ i0 : List Addr, i0.map some = ns.map (fun n => (ι[n]?).join) := by
    clear e hr nd hl h3
    induction ns with
    | nil => exact ⟨[], rfl⟩
    | cons n ns ih =>
      obtain ⟨i0, hi⟩ := ih fun m hm => hc m (List.mem_cons_of_mem _ hm)
      obtain ⟨_, _, a, ha⟩ := hc n List.mem_cons_self
      exact ⟨a :: i0, by simp [hi, ha]⟩
  have hsub : ∀ b ∈ i0, some b ∈ ι := fun b hb => by
    have : some b ∈ i0.map some := by simpa using hb
    rw [hi] at this
    obtain ⟨m, hm1, hm2⟩ := List.mem_map.mp this
    obtain ⟨_, _, c, hb⟩ := hc m hm1
    rw [hb] at hm2; cases hm2
    exact List.mem_of_getElem? hb
  have hget : ∀ (j : Nat) (a : Addr), (i0.map some)[j]? = some (some a) → ∃ n, ns[j]? = some n ∧ ι[n]? = some (some a) := fun j a e => by
    rw [hi, List.getElem?_map] at e
    cases q : ns[j]? with
    | none => rw [q] at e; cases e
    | some n =>
      rw [q] at e
      obtain ⟨_, _, b, hb⟩ := hc n (List.mem_of_getElem? q)
      simp [hb] at e
      exact ⟨n, rfl, by rw [hb, e]⟩
  refine ⟨hl, i0, Bc G ι i0, fun a ha => ?_, hr i0 hi, ⟨?_, fun j l a e1 e2 => ?_, fun j c a e1 e2 => ?_, fun j e => ?_, fun j c e1 => ?_⟩, fun x M' v H' rr => ?_, fun rv cn M' v H' hcn rr => ?_⟩
  · rcases ha with ha | ha | ⟨ha, _⟩
    · obtain ⟨o, ho⟩ := S.bad a ha
      by_cases h0 : a ∈ G.i0
      · obtain ⟨j, hj⟩ := List.getElem?_of_mem h0
        rcases S.kind (List.mem_of_getElem? (S.pre j a hj)) with ⟨ys, e⟩ | ⟨ys, e⟩ | ⟨ys, e⟩ | ⟨C, dx, fs, e⟩ <;> exact ⟨_, e⟩
      · exact ⟨o, (S.kp a o ho (by simpa using h0)).1⟩
    · exact (S.hid a ha).2
    · rcases S.kind ha with ⟨ys, e⟩ | ⟨ys, e⟩ | ⟨ys, e⟩ | ⟨C, dx, fs, e⟩ <;> exact ⟨_, e⟩
  · rw [hi]; simp [cellsAt]
  · obtain ⟨n, h1, h2⟩ := hget j a e1
    obtain ⟨m, h3, h4⟩ := hget l a e2
    have e3 := S.mem.nod _ _ _ h2 h4
    subst e3
    exact nodup_ix nd h1 h3
  · obtain ⟨n, h1, h2⟩ := hget j a e2
    have hM : n < M.length := by rw [S.mem.len]; exact (List.getElem?_eq_some_iff.mp h2).1
    unfold cellsAt at e1
    rw [List.getElem?_map, h1] at e1
    simp only [Option.map_some, List.getElem?_eq_getElem hM, Option.getD_some, Option.some.injEq] at e1
    have q := S.mem.cell n _ a (List.getElem?_eq_getElem hM) h2
    rw [e1] at q
    cases c with
    | gone => exact q.elim
    | nd kd its =>
      obtain ⟨u, h9, _⟩ := hc n (List.mem_of_getElem? h1)
      rw [List.getElem?_eq_getElem hM, e1] at h9; cases h9
    | lst ds => obtain ⟨xs, q1, l, r⟩ := q; exact ⟨xs, q1, l, RDs.dn hsub r⟩
    | dk kvs => obtain ⟨xs, q1, l, r⟩ := q; exact ⟨xs, q1, l, RDs.dn hsub r⟩
    | dn kvs => obtain ⟨xs, q1, l, r1, r2⟩ := q; exact ⟨xs, q1, l, RDs.dn hsub r1, RDs.dn hsub r2⟩
  · rw [List.getElem?_map] at e
    cases q : i0[j]? with
    | none => rw [q] at e; cases e
    | some b => rw [q] at e; cases e
  · unfold cellsAt at e1
    rw [List.getElem?_map, Option.map_eq_some_iff] at e1
    obtain ⟨n, h1, rfl⟩ := e1
    obtain ⟨u, h9, _⟩ := hc n (List.mem_of_getElem? h1)
    obtain ⟨cx, hx, _⟩ := cellA_some h9
    rw [hx] at h9 ⊢
    cases cx with
    | nd kd its => cases h9
    | _ => trivial
  · have hni : ∀ a, some a ∉ ι → some a ∉ i0.map some := fun a n h => n (hsub a (by simpa using h))
    obtain ⟨rd, rm, k, ob⟩ := rr
    have hl : M'.length = i0.length := by rw [rm.len]; simp
    have S2 := S.after (r := []) (cs := []) nd hc hi hl rfl (fun a h => by simp at h) (by simpa using rm) (by simpa using k) ob
    have rd2 := RD.up (r := []) S (by simpa using k) (by simpa using rd)
    simp only [List.map_nil, List.append_nil] at S2 rd2
    exact ⟨fun a o e n => ⟨(k a o e (hni a n)).1, n⟩, S2, rd2⟩
  · have hni : ∀ a, some a ∉ ι → some a ∉ i0.map some := fun a n h => n (hsub a (by simpa using h))
    obtain ⟨a, rfl, ha, rm, k, ob⟩ := (RR.of hcn).mpr rr
    have hl : M'.length = i0.length := by have := rm.len; simp at this; exact this
    have S2 := S.after (r := [a]) (cs := [cn]) nd hc hi hl rfl (fun b h => by simp at h; subst h; exact ha) (by simpa using rm) (by simpa using k) ob (by
      cases rv with
      | d x => cases hcn
      | new ds => cases hcn; simp
      | newK kvs => cases hcn; simp)
    refine ⟨a, rfl, fun b o e n => ⟨(k b o e (hni b n)).1, fun h => ?_⟩, by simpa using S2, backS_len _ _ _⟩
    rcases List.mem_append.mp h with h | h
    · exact n h
    · simp at h; subst h; rw [ha] at e; cases e
theorem call_in {n : Nat} {sp : SpD} {ms : List Bool} {xs : List Sv} {vs : List V} {Q0 : Rv → Mem → Prop} {Q : VK} {E : XK} (S : Sr K G δ M ι σ H) (r : RSs K G.N H ι xs vs) (hn : xs.length = n) (h : callS ms sp M xs Q0)
    (z1 : ∀ x M' H' v, Q0 (.d x) M' → Kp ι H ι H' → Sr K G δ M' ι σ H' → RD K G.N H' ι x v → Q v H')
    (z2 : ∀ rv c M' H' a, rv.cell = some c → Q0 rv M' → Kp ι H (ι ++ [some a]) H' → Sr K G δ (M' ++ [c]) (ι ++ [some a]) σ H' → M'.length = M.length → Q (.ref a) H') : lP K n sp vs H Q E := by
  obtain ⟨⟨as, ns⟩, e, h⟩ := ok_elim h
  obtain ⟨hl, i0, B, hB, ra, rm, c1, c2⟩ := call_gen S r e
  refine ⟨as, cellsAt M ns, i0, B, _, hl.trans hn, hB, ra, rm, h, fun rv M' v H' q rr => ?_⟩
  cases rv with
  | d x =>
    obtain ⟨k, S2, rd⟩ := c1 x M' v H' rr
    exact z1 x _ H' v q k S2 rd
  | new ds =>
    obtain ⟨a, rfl, k, S2, hl2⟩ := c2 _ _ M' v H' rfl rr
    exact z2 _ _ _ H' a rfl q k S2 hl2
  | newK kvs =>
    obtain ⟨a, rfl, k, S2, hl2⟩ := c2 _ _ M' v H' rfl rr
    exact z2 _ _ _ H' a rfl q k S2 hl2
end
end
/-- a def that may be called by its name -/
structure Ca (P : Program) (w : World) (K : PySem.W.Frag) (mg : Str → Option Value) (base : Heap) (k : Nat) (x : Str) (n : Nat) (sp : SpD) : Prop where
  ex : ∃ (f : Addr) (fd : FuncData) (ps : List Str), FnG P w K mg base C8.CX0 k f fd ps (lP K n sp) ∧ mg x = some (.ref f) ∧ PySem.W.keepIn K (.ref f) = true ∧ Binds K fd ps []
section
variable {X : Cx} {G : Gd} {k j n : Nat} {x : Str} {sp : SpD} {p pos : Pos} {e : Expr} {es : List Expr} {tA : TA'}
theorem ve_call (ms : List Bool) (c : Ca X.prog X.w X.K X.mg X.base k x n sp) (hr : RoomG j X.A) (hk : k ≤ j) (hg : Gl X x) (ha : VA X G (e :: es) n tA)
    (hdb : (x == ("__debug__" : Str)) = false := by decide) (he : starEach (e :: es) X.env = (false, eval e X.env) :: starEach es X.env := by rfl) (hpl : (backTo pos (starEach es X.env)).any (·.1) = false := by rfl) :
    VE X G (.Call (.Name x p) (e :: es) [] pos) (eCall ms sp tA) := by
  obtain ⟨f, fd, ps, F, hm, kp, b⟩ := c.ex
  refine PE.weak (pe_callg F (hr.mono hk) hg hm kp b .nil C8.pass0 ha hdb he hpl (E := C8.E0)) fun σ H Q ⟨δ, M, ι, Q0, S, q, z⟩ => ?_
  refine thA S q fun xs M1 ι1 H1 vs hl h1 p1 k1 S1 r1 => ?_
  show lP X.K n sp (vs ++ []) H1 Q _
  rw [List.append_nil]
  refine call_in S1 r1 hl h1 (fun y M' H' v q2 k2 S2 r2 => z _ M' ι1 H' v q2 p1 (k1.trans k2) S2 r2) fun rv cn M' H' a hcn q2 k2 S2 hl2 => ?_
  refine z (.ref M'.length) _ _ H' _ (rvQ_cell hcn q2) (p1.trans (Ex.app _ _)) (k1.trans k2) S2 ⟨a, rfl, .inl ?_⟩
  rw [hl2, S1.mem.len, List.getElem?_append_right (Nat.le_refl _)]; simp
end
theorem Sr.seal {K : PySem.W.Frag} {G : Gd} {δ : DS} {M : Mem} {ι : Ix} {σ : L2.St} {H : Hp} {n : Nat} {a : Addr} {ds : List D} (S : Sr K G δ M ι σ H) (hn : ι[n]? = some (some a)) (h0 : G.i0.length ≤ n) (hc : M[n]? = some (.lst ds)) :
    Sr K G δ (M.set n .gone) (ι.set n none) σ H ∧ Ex ι (ι.set n none) ∧ Kp ι H (ι.set n none) H ∧ RD K G.N H (ι.set n none) (.lst ds) (.ref a) := by
  have kk : Kp ι H (ι.set n none) H := fun b o e h => ⟨e, fun z => by
    rcases List.mem_or_eq_of_mem_set z with z | z
    · exact h z
    · cases z⟩
  have ee : Ex ι (ι.set n none) := fun m o e => by
    by_cases h : n = m
    · subst h
      exact .inr (List.getElem?_set_self (List.getElem?_eq_some_iff.mp e).1)
    · rw [List.getElem?_set_ne h]; exact .inl e
  have back : ∀ (m : Nat) (b : Addr), (ι.set n none)[m]? = some (some b) → n ≠ m ∧ ι[m]? = some (some b) := fun m b e => by
    by_cases h : n = m
    · subst h
      rw [List.getElem?_set_self (List.getElem?_eq_some_iff.mp hn).1] at e; cases e
    · rw [List.getElem?_set_ne h] at e; exact ⟨h, e⟩
  have hno : some a ∉ ι.set n none := fun z => by
    obtain ⟨m, hm⟩ := List.getElem?_of_mem z
    obtain ⟨h1, h2⟩ := back m a hm
    exact h1 (S.mem.nod _ _ _ hn h2)
  have hi0 : a ∉ G.i0 := fun z => by
    obtain ⟨j, hj⟩ := List.getElem?_of_mem z
    have e1 := S.mem.nod _ _ _ (S.pre j a hj) hn
    have := (List.getElem?_eq_some_iff.mp hj).1
    omega
  obtain ⟨xs, q1, l, r⟩ := S.mem.cell n _ a hc hn
  refine ⟨⟨S.len, fun i d e => ?_, ⟨by simp [S.mem.len], fun m m' b e1 e2 => S.mem.nod _ _ _ (back m b e1).2 (back m' b e2).2, fun m c b e1 e2 => ?_, fun m e => ?_, fun m c e1 => ?_⟩, fun m b e => ?_, S.kp.trans kk, fun b hb h1 => ?_, S.bad, fun b hb => ⟨fun z => ?_, (S.hid b hb).2⟩, S.obk⟩, ee, kk,
    a, xs, rfl, q1, hno, ⟨fun z => (S.hid a z).1 (List.mem_of_getElem? hn), fun _ z => ?_⟩, l, r.mono kk fun _ _ _ _ z => z⟩
  · obtain ⟨v, e1, r⟩ := S.slot i d e
    exact ⟨v, e1, r.mono kk ee fun _ _ _ _ z => z⟩
  · obtain ⟨h1, h2⟩ := back m b e2
    rw [List.getElem?_set_ne h1] at e1
    exact (S.mem.cell m c b e1 h2).mono kk ee (fun _ _ _ _ z => z) rfl
  · by_cases h : n = m
    · subst h; exact List.getElem?_set_self (List.getElem?_eq_some_iff.mp hc).1
    · rw [List.getElem?_set_ne h] at e ⊢; exact S.mem.gone m e
  · by_cases h : n = m
    · subst h
      rw [List.getElem?_set_self (List.getElem?_eq_some_iff.mp hc).1] at e1
      cases e1; trivial
    · rw [List.getElem?_set_ne h] at e1; exact S.mem.wf m c e1
  · rw [List.getElem?_set_ne (fun h => by have := (List.getElem?_eq_some_iff.mp e).1; omega)]; exact S.pre m b e
  · rcases List.mem_or_eq_of_mem_set hb with z | z
    · exact S.new b z h1
    · cases z
  · rcases List.mem_or_eq_of_mem_set z with z | z
    · exact (S.hid b hb).1 z
    · cases z
  · obtain ⟨o, ho⟩ := S.bad a z
    rw [S.new a (List.mem_of_getElem? hn) hi0] at ho; cases ho
/-- the value, its list sealed -/
def sealD (m0 : Nat) (M : Mem) : Sv → Option (Sv × Mem)
  | .ref n => if m0 ≤ n then (cellL M[n]?).map fun ds => (.d (.lst ds), M.set n .gone) else none
  | x => some (x, M)
def eSeal (m0 : Nat) (t : TE') : TE' := fun δ M Q => t δ M fun d M1 => ok (sealD m0 M1 d) fun r => Q r.1 r.2
theorem VE.seal {X : Cx} {G : Gd} {e : Expr} {t : TE'} {m0 : Nat} (hG : G.i0.length = m0) (h : VE X G e t) : VE X G e (eSeal m0 t) :=
  PE.weak h fun σ H Q ⟨δ, M, ι, Q0, S, q, z⟩ => ⟨δ, M, ι, _, S, q, fun d M' ι' H' v h1 p1 k1 S1 r1 => by
    obtain ⟨r, e, h1⟩ := ok_elim h1
    cases d with
    | d x => cases e; exact z _ _ ι' H' v h1 p1 k1 S1 r1
    | bor ds => cases e; exact z _ _ ι' H' v h1 p1 k1 S1 r1
    | ref n =>
      by_cases hn : m0 ≤ n
      · rw [show sealD m0 M' (.ref n) = (if m0 ≤ n then (cellL M'[n]?).map fun ds => (.d (.lst ds), M'.set n .gone) else none) from rfl, if_pos hn] at e
        obtain ⟨ds, e1, rfl⟩ := Option.map_eq_some_iff.mp e
        obtain ⟨a, rfl, ha, _⟩ := S1.mem.at r1 (cellL_some e1) (fun z => nomatch z)
        obtain ⟨S2, e2, k2, r2⟩ := S1.seal ha (by omega) (cellL_some e1)
        exact z _ _ _ H' _ h1 (p1.trans e2) (k1.trans k2) S2 r2
      · rw [show sealD m0 M' (.ref n) = (if m0 ≤ n then (cellL M'[n]?).map fun ds => (.d (.lst ds), M'.set n .gone) else none) from rfl, if_neg hn] at e; cases e⟩
/-- the rule for a def: from its derivation and the pure law -/
theorem ca_of {P : Program} {w : World} {K : PySem.W.Frag} {mg : Str → Option Value} {base : Heap} {x qual : Str} {params : Arguments} {body : List Stmt} {scope : Scope} {f : Addr} {fd : FuncData} {Ns ps : List Str} {k m0 : Nat} {sp : SpD} {t : TS'}
    (F : FunD K x qual params body scope [] [] f fd) (hg : mg x = some (.ref f)) (b : Binds K fd ps []) (S : FnScope Ns ps scope) (hm0 : ∀ as M Q0, sp as M Q0 → M.length = m0)
    (hb : ∀ (cdv : Value) (A : Around) (outer : List Env) (s : Shared) (H : Hp) (E : XK) (G : Gd), RoomG k (A.deeper (PyProof.Rows.envOfC qual scope s.heap.objs.size f cdv)) → G.i0.length = m0 → VSs (cxOf C8.CX0 P w K mg base Ns qual scope f cdv A outer s H E).nox G body t)
    (hp : ∀ as M Q0, as.length = ps.length → sp as M Q0 → t (endsF M.length Q0) (startD Ns.length as) M) : Ca P w K mg base (k + 1) x ps.length sp := by
  refine ⟨f, fd, ps, ?_, hg, F.kp, b⟩
  refine fn_g F S (fun vs H Q E ⟨as, M, i0, B, Q0, hn, hB, ra, h⟩ => by rw [← ra.length, hn]) fun cdv A outer s H vs Q E hr h => ?_
  obtain ⟨t', h1, h2⟩ := body_ok (X := (cxOf C8.CX0 P w K mg base Ns qual scope f cdv A outer s H E).nox) (Ns := Ns) m0 rfl (fun G hG => hb cdv A outer s H E G hr hG) hm0 hp h
  exact ⟨t', h1.nox, h2⟩
end VL
set_option Elab.async false
set_option linter.all false
set_option maxRecDepth 100000
set_option maxHeartbeats 400000
namespace VL
open PySem PySem.Spec L2 RT RZ
def eCh (f g : Mem → Sv → Sv → Option Sv) (ta tb tc : TE') : TE' := fun δ M Q => ta δ M fun x M1 => tb δ M1 fun y M2 => ok ((f M2 x y).bind blD) fun k => if k then tc δ M2 fun z M3 => ok (g M3 y z) fun d => Q d M3 else Q (.d (.bl false)) M2
def pCh (f g : Mem → Sv → Sv → Option Sv) (a b c : PV) : PV := fun δ M => (a δ M).bind fun x => (b δ M).bind fun y => ((f M x y).bind blD).bind fun k => if k then (c δ M).bind fun z => g M y z else some (.d (.bl false))
section
variable {K : PySem.W.Frag} {X : Cx} {G : Gd} {e a b c : Expr} {es rest : List Expr} {pos : Pos} {ta tb tc : TE'} {p q u : PV}
theorem ve_ty {x : Str} {n : String} (hg : Gl X x) (hm : X.mg x = none) (hv : bootBuiltins x = some (.type n)) (hn : x ≠ "__name__" := by decide) (hd : (x == ("__debug__" : Str)) = false := by decide) : VE X G (.Name x pos) (eP (pC (.ty n))) :=
  ve_const (pe_bltn (v := .ty n) hg hm hv rfl hn hd) fun _ _ _ _ => rfl
/-- data of the written part -/
def KV (K : PySem.W.Frag) (d : D) (u : Value) : Prop := ∃ v, RelV v u ∧ ∀ N H ι, RD K N H ι d v
theorem ve_glob {x : Str} {u : Value} {d : D} (hg : Gl X x) (hm : X.mg x = some u) (r : KV X.K d u) (hd : (x == ("__debug__" : Str)) = false := by decide) : VE X G (.Name x pos) (eP (pC d)) := by
  obtain ⟨v, r1, r2⟩ := r
  exact PE.weak (pe_glob hg hm r1 hd) fun σ H Q ⟨δ, M, ι, Q0, S, h, z⟩ => z _ M ι H v h (Ex.refl _) (Kp.refl _ _) S (r2 _ _ _)
def okR (d : D) : Bool := noR d && (PyData.showable (py d) && (decide ((PyData.shown (py d)).length ≤ sizeLine) && (decide (PyData.depth (py d) ≤ 150))))
def reprD (M : Mem) : List Sv → Option Sv
  | [x] => gd (okR (rsv M x) = true) (.d (.str (PyData.shown (py (rsv M x)))))
  | _ => none
end
end VL
set_option Elab.async false
set_option linter.all false
set_option maxRecDepth 100000
set_option maxHeartbeats 400000
namespace VL
open PySem PySem.Spec PyProof.Rows L2
mutual
def relDB (K : PySem.W.Frag) : D → Value → Bool
  | .non, .none => true
  | .bl b, .bool c => b == c
  | .int i, .int j _ => decide (i = j)
  | .str x, .str y _ => decide (x = y)
  | .tup ds, .ref a => (match K.lookup a with
    | some ⟨.type c, _, .seq its _, _⟩ => decide (c = "tuple") && (decide (its.size ≤ sizeLine) && relDBs K ds its.toList)
    | _ => false)
  | _, _ => false
def relDBs (K : PySem.W.Frag) : List D → List Value → Bool
  | [], [] => true
  | d :: ds, u :: us => relDB K d u && relDBs K ds us
  | _, _ => false
end
mutual
theorem relDB_ok {K : PySem.W.Frag} : ∀ (d : D) (u : Value), relDB K d u = true → ∃ v, RelV v u ∧ ∀ N H ι, RD K N H ι d v
  | .non, u, h => by
    cases u <;> first | (simp [relDB] at h; done) | exact ⟨.non, rfl, fun _ _ _ => rfl⟩
  | .bl b, u, h => by
    cases u <;> first | (simp [relDB] at h; done) | skip
    simp only [relDB, beq_iff_eq] at h; subst h
    exact ⟨.bl _, rfl, fun _ _ _ => rfl⟩
  | .int i, u, h => by
    cases u <;> first | (simp [relDB] at h; done) | skip
    simp only [relDB, decide_eq_true_eq] at h; subst h
    exact ⟨.int _, ⟨_, rfl⟩, fun _ _ _ => rfl⟩
  | .str i, u, h => by
    cases u <;> first | (simp [relDB] at h; done) | skip
    simp only [relDB, decide_eq_true_eq] at h; subst h
    exact ⟨.str _, ⟨_, rfl⟩, fun _ _ _ => rfl⟩
  | .tup ds, u, h => by
    cases u with
    | ref a =>
      unfold relDB at h
      cases q : K.lookup a with
      | none => rw [q] at h; cases h
      | some o =>
        obtain ⟨oc, od, dt, osl⟩ := o
        rw [q] at h
        cases oc with
        | type c =>
          cases dt with
          | seq its n =>
            have h : (decide (c = "tuple") && (decide (its.size ≤ sizeLine) && relDBs K ds its.toList)) = true := h
            simp only [Bool.and_eq_true, decide_eq_true_eq] at h
            obtain ⟨h1, h2, h3⟩ := h
            obtain ⟨xs, r1, r2, r3⟩ := relDBs_ok ds its.toList h3
            refine ⟨.ref a, rfl, fun N H ι => ⟨a, xs, rfl, .inr ⟨_, its, n, q, congrArg Value.type h1, rfl, h2, r1⟩, by rw [r3]; simpa using h2, r2 N H ι⟩⟩
          | _ => cases h
        | _ => cases dt <;> cases h
    | _ => simp [relDB] at h
  | .lst ds, u, h => by cases u <;> simp [relDB] at h
  | .scr ds, u, h => by cases u <;> simp [relDB] at h
  | .fn a, u, h => by cases u <;> simp [relDB] at h
  | .ty a, u, h => by cases u <;> simp [relDB] at h
  | .dn _ _, u, h => by cases u <;> simp [relDB] at h
  | .dk _ _, u, h => by cases u <;> simp [relDB] at h
  | .cls _, u, h => by cases u <;> simp [relDB] at h
  | .exc _ _, u, h => by cases u <;> simp [relDB] at h
theorem relDBs_ok {K : PySem.W.Frag} : ∀ (ds : List D) (us : List Value), relDBs K ds us = true → ∃ vs, Vals vs us ∧ (∀ N H ι, RDs K N H ι ds vs) ∧ ds.length = us.length
  | [], [], _ => ⟨[], .nil, fun _ _ _ => rfl, rfl⟩
  | [], _ :: _, h => by simp [relDBs] at h
  | _ :: _, [], h => by simp [relDBs] at h
  | d :: ds, u :: us, h => by
    simp only [relDBs, Bool.and_eq_true] at h
    obtain ⟨v, r1, r2⟩ := relDB_ok d u h.1
    obtain ⟨vs, r3, r4, r5⟩ := relDBs_ok ds us h.2
    exact ⟨v :: vs, .cons r1 r3, fun N H ι => ⟨v, vs, rfl, r2 N H ι, r4 N H ι⟩, by simp [r5]⟩
end
def conV (K : PySem.W.Frag) (c : Str × D) : Bool := match PySem.W.nsIn K mainGlobals c.1 with
  | some (some u) => relDB K c.2 u
  | _ => false
abbrev AlV : Type := He.AlD × Bool
def obsV (fa : List He.Fa) (fn : List He.DefD) (cs : List (Str × D)) (K : PySem.W.Frag) : AlV := (He.obsD fa fn K, cs.all (conV K))
def obsVG (n : Nat) (fa : List He.Fa) (fn : List He.DefD) (cs : List (Str × D)) (g : Addr → Option Obj) : AlV := obsV fa fn cs (He.frG g (He.asD g n))
def SaysV (fa : List He.Fa) (fn : List He.DefD) (cs : List (Str × D)) (K : PySem.W.Frag) : Prop := obsV fa fn cs K = (He.valD fn, true)
def hookV (n : Nat) (fa : List He.Fa) (fn : List He.DefD) (cs : List (Str × D)) : PySem.W.Hook where
  α := AlV
  obs := fun s => obsVG n fa fn cs s.heap.get?
  val := fun _ => (He.valD fn, true)
  says := fun _ h => ∃ K : PySem.W.Frag, K.In h ∧ SaysV fa fn cs K
  of := fun _ _ e => ⟨_, He.frG_in, e⟩
  keeps := fun _ _ _ ⟨K, hK, c⟩ k => ⟨K, PySem.W.Frag.In.keeps hK k, c⟩
theorem obsVG_eq {n : Nat} {fa : List He.Fa} {fn : List He.DefD} {cs : List (Str × D)} {g : Addr → Option Obj} {s : Shared} (h : ∀ a, g a = s.heap.get? a) : obsVG n fa fn cs g = (hookV n fa fn cs).obs s := by
  have e : g = s.heap.get? := funext h
  rw [e] <;> rfl
theorem SaysV.d {fa : List He.Fa} {fn : List He.DefD} {cs : List (Str × D)} {K : PySem.W.Frag} (c : SaysV fa fn cs K) : He.SaysD fa fn K := congrArg (fun z : AlV => z.1) c
theorem SaysV.con {fa : List He.Fa} {fn : List He.DefD} {cs : List (Str × D)} {K : PySem.W.Frag} {h : Heap} {mg : Str → Option Value} (c : SaysV fa fn cs K) (X : K.In h) (G : h.Ns mainGlobals mg) (i : Nat) {x : Str} {d : D} (hi : cs[i]? = some (x, d) := by rfl) : ∃ u, mg x = some u ∧ KV K d u := by
  have c1 : cs.all (conV K) = true := congrArg (fun z : AlV => z.2) c
  have c2 := List.all_eq_true.mp c1 _ (List.mem_of_getElem? hi)
  unfold conV at c2
  split at c2
  · rename_i u e
    exact ⟨u, PySem.W.mg_of X G e, relDB_ok d u c2⟩
  · cases c2
end VL
set_option Elab.async false
set_option linter.all false
set_option maxRecDepth 100000
set_option maxHeartbeats 400000
namespace VL
open PySem PySem.Spec L2 RT RZ
theorem bt_len : bootBuiltins "len" = some (.builtin "len") := by decide +kernel
theorem bt_abs : bootBuiltins "abs" = some (.builtin "abs") := by decide +kernel
theorem bt_min : bootBuiltins "min" = some (.builtin "min") := by decide +kernel
theorem bt_max : bootBuiltins "max" = some (.builtin "max") := by decide +kernel
theorem bt_all : bootBuiltins "all" = some (.builtin "all") := by decide +kernel
theorem bt_any : bootBuiltins "any" = some (.builtin "any") := by decide +kernel
theorem bt_isinstance : bootBuiltins "isinstance" = some (.builtin "isinstance") := by decide +kernel
theorem bt_sorted : bootBuiltins "sorted" = some (.builtin "sorted") := by decide +kernel
theorem bt_int : bootBuiltins "int" = some (.type "int") := by decide +kernel
theorem bt_bool : bootBuiltins "bool" = some (.type "bool") := by decide +kernel
theorem bt_str : bootBuiltins "str" = some (.type "str") := by decide +kernel
theorem bt_tuple : bootBuiltins "tuple" = some (.type "tuple") := by decide +kernel
theorem bt_list : bootBuiltins "list" = some (.type "list") := by decide +kernel
section
variable {K : PySem.W.Frag} {X : Cx} {G : Gd} {e a b c : Expr} {es rest : List Expr} {pos : Pos} {p q u : PV}
/-- name = [..] on one line: frozen, or changing -/
theorem vs_setLcF {i : Nat} {y : Str} {py : Pos} {elt tg iter : Expr} {ifs : List Expr} {scope : Scope} {own : List (Str × Nat)} {pos spos : Pos} {it : TI'} {g : LcG} {tt : TT'} {te : TE'} (hc : X.calm = true) (hN : X.N.Nodup) (hy : X.N[i]? = some y) (hyl : X.env.scope.names.lookup y = some .local)
    (hsw : swapsWith (.ListComp elt [⟨tg, iter, ifs, 0⟩] scope pos) (some (.Name y py)) spos.line X.env = pure true) (hi : VI X G true tg iter it) (ok' : BlkOk X.N X.env.scope scope own)
    (hg : ∀ (s : Shared) (H : Hp) (C : Addr) (cl : List (Str × Addr)) (fp : List Addr), PG (X.blk s H scope (compEnvC scope cl C X.env) fp) tg (g.raw X.K)) (ht : ∀ (s : Shared) (H : Hp) (C : Addr) (cl : List (Str × Addr)) (fp : List Addr) (G' : Gd), G'.i0 = G.i0 → VTs (X.blk s H scope (compEnvC scope cl C X.env) fp) G' ifs tt)
    (he : ∀ (s : Shared) (H : Hp) (C : Addr) (cl : List (Str × Addr)) (fp : List Addr) (G' : Gd), G'.i0 = G.i0 → VE (X.blk s H scope (compEnvC scope cl C X.env) fp) G' elt te) (hv : ∀ i ∈ g.names, i ∈ own.map (·.2)) (hs : ∀ x, foldedSetIterable iter X.env x = pure x := by intro _; rfl) :
    VS X G (.Assign [.Name y py] (.ListComp elt [⟨tg, iter, ifs, 0⟩] scope pos) spos) (sSet i (eFz (fLc it g tt te (own.map (·.2))))) := vs_setLc (nw := false) hc hN hy hyl hsw hi ok' hg ht he hv hs
theorem call_isiX : CallR X (.builtin "isinstance") (fun xs H Q => (fun xs H Q => rIsi X.K xs H Q ∨ rIsiT X.K xs H Q) xs H Q ∨ rIsiK X.K xs H Q) := (call_isi.or call_isiT).or call_isiK
end
end VL
set_option Elab.async false
set_option linter.all false
set_option maxRecDepth 100000
set_option maxHeartbeats 4000000
namespace VL
open PySem PySem.Spec L2 RT RZ PyProof.Rows
/-- a set just laid -/
abbrev sObj (w : World) : Obj := { cls := .type "set", dict := none, data := .set #[] 0 (.fresh 0 0 (!w.params.followText "set-order")) }
abbrev liObj (l : Addr) : Obj := { cls := .type "list_iterator", data := .fields #[.ref l, .int 0 0] }
section
variable {P : Program} {w : World} {A : Around} {E : Value → Shared → Prop} {s : Shared}
/-- what the loop of set(l) leaves: the set at S is as Φ says, all else stays -/
def LoopOk (P : Program) (w : World) (l : Addr) (Φ : Heap → Addr → Prop) (A : Around) (s : Shared) : Prop :=
  ∀ (S I : Addr) (R : Result → Shared → Prop), s.heap.get? S = some (sObj w) → s.heap.get? I = some (liObj l) → S ≠ I →
    (∀ (h' : Heap) (tk : Nat), Φ h' S → (∀ b o, b ≠ S → b ≠ I → s.heap.get? b = some o → h'.get? b = some o) → R (.ok (.ret .none)) { s with heap := h', toks := tk }) →
    codeAny (model P w) A (.builtin "set.update.loop" ⟨[.ref S, .ref I], []⟩) R s
theorem set_init_l {l : Addr} {items : Array Value} {Φ : Heap → Addr → Prop} {S : Addr} {Q : Value → Shared → Prop} (hl : s.heap.IsList l items) (hS : s.heap.get? S = some (sObj w))
    (loop : LoopOk P w l Φ A.in1 { s with heap := s.heap.push (liObj l) })
    (h : ∀ (h' : Heap) (tk : Nat), Φ h' S → (∀ b o, b ≠ S → s.heap.get? b = some o → h'.get? b = some o) → Q .none { s with heap := h', toks := tk }) :
    codeAny (model P w) A (.call (.builtin "set.__init__") ⟨[.ref S, .ref l], []⟩) (wants Q E) s := by
  have hT : Shared.TypeIs s (.ref S) "set" := ⟨_, hS, rfl⟩
  refine codeAny_call_builtin F.called_set.init.plain F.entry_set_init (check_set_init_1 hT ?_)
  have hl1 : s.heap.IsList l items := hl
  obtain ⟨ol, hol, hcl, nl, hdl⟩ := hl
  obtain ⟨ocls, odict, odata, oslots⟩ := ol
  simp only at hcl hdl
  subst hcl; subst hdl
  have k1 := F.sub_list_set
  have k2 := F.sub_list_frozenset
  have k3 : (Value.type "list" == Value.type "dict") = false := by decide
  unfold Builtin.«set.__init__» noKeywords Builtin.Frozenset.updateFrom
  generalize hPI : pyIter = PI
  wp_walk
  subst hPI
  refine wpAny_pyIter_list hl1 ?_
  refine wpAny_bind (wpAny_runValue ?_)
  have hI := Heap.get?_push_size s.heap (o := liObj l) rfl
  have hlt : S < s.heap.objs.size := Heap.lt_size hS
  refine loop S s.heap.objs.size _ (Heap.get?_push_of_some _ hS) hI (Nat.ne_of_lt hlt) fun h' tk p k => ?_
  refine wpAny_pure (wpAny_pure ?_)
  exact h h' tk p fun b o hb e => k b o hb (Nat.ne_of_lt (Heap.lt_size e)) (Heap.get?_push_of_some _ e)
set_option maxHeartbeats 4000000 in
theorem call_set_l {l : Addr} {items : Array Value} {Φ : Heap → Addr → Prop} {Q : Value → Shared → Prop} (hl : s.heap.IsList l items)
    (loop : LoopOk P w l Φ A.in1.in1 { s with heap := (s.heap.push (sObj w)).push (liObj l) })
    (h : ∀ (h' : Heap) (tk : Nat), Φ h' s.heap.objs.size → (∀ b o, s.heap.get? b = some o → h'.get? b = some o) → Q (.ref s.heap.objs.size) { s with heap := h', toks := tk }) :
    wpAny (model P w) A (call (.type "set") [.ref l]) Q E s := by
  obtain ⟨c, tl, mro⟩ := F.called_set.mro
  have f1 := F.called_set.made
  have f2 := F.called_set.sub
  refine wpAny_call (codeAny_of_tree ?_)
  show wpAny _ _ (callAny (.type "set") _) _ _ _
  refine wpAny_pure ⟨Code.quiet_builtin _ (by decide +kernel), codeAny_builtin F.entry_type_call ?_⟩
  rw [Around.under_plain (weight_type_call_type "set" [.ref l] []) rfl]
  have f3 := F.called_set.notType
  have f4 := F.called_set.canCreate
  have f5 := F.typeCall_set_1 (.ref l)
  repeat (any_goals (first | assumption | wp_step))
  refine codeAny_mono (code_set_led1 (.ref l) (E := E) (Q₁ := fun o t => o = .ref s.heap.objs.size ∧ t = { s with heap := s.heap.push (sObj w) }) ⟨rfl, rfl⟩) fun r t hr => ?_
  rcases r with e | fl
  · exact hr
  cases fl
  case ret o =>
    obtain ⟨rfl, rfl⟩ := hr
    have hS : (s.heap.push (sObj w)).get? s.heap.objs.size = some (sObj w) := Heap.get?_push_size _ rfl
    have hT : Shared.TypeIs { s with heap := s.heap.push (sObj w) } (.ref s.heap.objs.size) "set" := ⟨_, hS, rfl⟩
    have f6 := F.called_set.init.lookup
    have f7 := F.called_set.init.bind (.ref s.heap.objs.size)
    repeat (any_goals (first | assumption | wp_step))
    refine codeAny_mono (set_init_l (Φ := Φ) (Q := fun r t => r = .none ∧ ∃ h' tk, t = { s with heap := h', toks := tk } ∧ Φ h' s.heap.objs.size ∧ ∀ b o, s.heap.get? b = some o → h'.get? b = some o) (E := E)
      (hl.push _) hS ?_ fun h' tk p k => ⟨rfl, h', tk, rfl, p, fun b o e => k b o (Nat.ne_of_lt (Heap.lt_size e)) (Heap.get?_push_of_some _ e)⟩) fun r t hr => ?_
    · skip
      exact loop
    rcases r with e | fl
    · exact hr
    cases fl
    case ret r =>
      obtain ⟨rfl, h', tk, rfl, p, k⟩ := hr
      repeat (any_goals (first | assumption | wp_step))
      exact h _ _ p k
    all_goals exact hr.elim
  all_goals exact hr.elim
theorem new_set_ints {l : Addr} {items : Array Value} (ns : List Int) (hh : A.handled = none) (hl : s.heap.IsList l items) (hit : IntsAre items.toList ns) (hb : ns.length + 1 < scanBound) :
    LoopOk P w l (fun h S => ∃ c, c ≤ ns.length ∧ SetR w h S (fun j => decide (j ∈ ns)) c) A.in1 s := by
  intro S I R hS hI hSI hR
  have hn : items.size = ns.length := by
    have q := IntsAre.length hit
    rwa [Array.length_toList] at q
  obtain ⟨ol, e0, c0, n0, d0⟩ := id hl
  have hlI : l ≠ I := fun z => by subst z; rw [hI] at e0; cases e0; exact absurd (show Value.type _ = Value.type "list" from c0) (by simp)
  have hlS : l ≠ S := fun z => by subst z; rw [hS] at e0; cases e0; exact absurd (show Value.type _ = Value.type "list" from c0) (by simp)
  refine set_update_ints ((Walks.list (show A.in1.in1.handled = none by simpa using hh) I l hlI items).toS) S (by simp [hSI, Ne.symm hlS]) ns hn hb (fun i v hv => ?_) (items.size - 0) 0 _ (by omega) (Nat.zero_le _) ⟨⟨_, hI, rfl, rfl⟩, hl⟩ ⟨0, Nat.le_refl 0, setR_new_at hS⟩ ?_
  · have hi : i < ns.length := by rw [← hn]; exact (Array.getElem?_eq_some_iff.mp hv).1
    obtain ⟨t, e⟩ := IntsAre.int_at hit i v (by rw [Array.getElem?_toList]; exact hv)
    exact ⟨ns[i], t, List.getElem?_eq_getElem hi, by rw [e, List.getD_eq_getElem?_getD, List.getElem?_eq_getElem hi]; rfl⟩
  · intro s' c hm hc hS'
    obtain ⟨h', g2, d', tk', os'⟩ := s'
    have eg : g2 = s.gens := hm.gens
    have ed : d' = s.drawn := hm.drawn
    have eo : os' = s.os := hm.os
    subst eg; subst ed; subst eo
    rw [hn] at hc
    exact hR h' tk' ⟨c, hc, hS'⟩ fun b o h1 h2 e => hm.heap b o (by simp [h1, h2]) e
end
end VL
set_option Elab.async false
set_option linter.all false
set_option maxRecDepth 100000
set_option maxHeartbeats 4000000
namespace VL
open PySem PySem.Spec L2 RT RZ PyProof.Rows
def uins (x : Int) : List Int → List Int
  | [] => [x]
  | y :: ys => if x < y then x :: y :: ys else if x = y then y :: ys else y :: uins x ys
def usort : List Int → List Int
  | [] => []
  | x :: xs => uins x (usort xs)
theorem uins_mem {x k : Int} : ∀ {l : List Int}, k ∈ uins x l ↔ k = x ∨ k ∈ l
  | [] => by simp [uins]
  | y :: ys => by
    unfold uins
    split
    · simp
    · split
      · rename_i h; subst h; simp
      · simp only [List.mem_cons, uins_mem (l := ys)]
        constructor
        · rintro (h | h | h) <;> simp [h]
        · rintro (h | h | h) <;> simp [h]
theorem usort_mem {k : Int} : ∀ {l : List Int}, k ∈ usort l ↔ k ∈ l
  | [] => Iff.rfl
  | y :: ys => by
    rw [show usort (y :: ys) = uins y (usort ys) from rfl, uins_mem, usort_mem, List.mem_cons]
theorem uins_lt {x : Int} : ∀ {l : List Int}, l.Pairwise (· < ·) → (uins x l).Pairwise (· < ·)
  | [], _ => by simp [uins]
  | y :: ys, h => by
    obtain ⟨h1, h2⟩ := List.pairwise_cons.mp h
    unfold uins
    split
    · rename_i hx
      refine List.pairwise_cons.mpr ⟨fun z hz => ?_, h⟩
      rcases List.mem_cons.mp hz with rfl | hz
      · exact hx
      · exact Int.lt_trans hx (h1 z hz)
    · split
      · exact h
      · refine List.pairwise_cons.mpr ⟨fun z hz => ?_, uins_lt h2⟩
        rcases uins_mem.mp hz with rfl | hz
        · omega
        · exact h1 z hz
theorem usort_lt : ∀ l : List Int, (usort l).Pairwise (· < ·)
  | [] => .nil
  | _ :: ys => uins_lt (usort_lt ys)
theorem lt_nodup {l : List Int} (h : l.Pairwise (· < ·)) : l.Nodup := h.imp fun h => by omega
theorem lt_unique {a b : List Int} (ha : a.Pairwise (· < ·)) (hb : b.Pairwise (· < ·)) (h : ∀ k, k ∈ a ↔ k ∈ b) : a = b :=
  List.Perm.eq_of_pairwise (le := (· ≤ ·)) (fun a b _ _ h1 h2 => by omega) (ha.imp fun h => Int.le_of_lt h) (hb.imp fun h => Int.le_of_lt h) ((List.perm_ext_iff_of_nodup (lt_nodup ha) (lt_nodup hb)).mpr h)
theorem usort_eq {ns ms : List Int} (o : ms.Pairwise (· < ·)) (h : ∀ k, k ∈ ms ↔ k ∈ ns) : ms = usort ns := lt_unique o (usort_lt ns) fun k => (h k).trans usort_mem.symm
theorem uins_len {x : Int} : ∀ {l : List Int}, (uins x l).length ≤ l.length + 1
  | [] => Nat.le_refl _
  | y :: ys => by
    unfold uins
    split
    · simp
    · split
      · simp
      · have := uins_len (x := x) (l := ys); simp; omega
theorem usort_len : ∀ l : List Int, (usort l).length ≤ l.length
  | [] => Nat.le_refl _
  | y :: ys => by
    have := usort_len ys
    have := uins_len (x := y) (l := usort ys)
    simp only [usort, List.length_cons]; omega
theorem setR_size {w : World} {h : Heap} {a : Addr} {ns : List Int} {c : Nat} (R : SetR w h a (fun j => decide (j ∈ ns)) c) : c = (usort ns).length := by
  obtain ⟨o, es, ep, t, _, _, _, _, nd, hm, _, _, hn, _⟩ := R
  have p := (List.perm_ext_iff_of_nodup nd (lt_nodup (usort_lt ns))).mpr fun k => by rw [← hm k, usort_mem]; simp
  have := p.length_eq
  rw [List.length_map, Array.length_toList] at this
  omega
theorem rangeSize_nn {i j c : Int} (hc : c ≠ 0) : 0 ≤ Builtin.Range.rangeSize i j c := by
  unfold Builtin.Range.rangeSize
  split
  · split
    · have := Int.ediv_nonneg (a := j - i - 1) (b := c) (by omega) (by omega); omega
    · omega
  · split
    · have := Int.ediv_nonneg (a := i - j - 1) (b := -c) (by omega) (by omega); omega
    · omega
def soSetF (M : Mem) (x : Sv) : Option (List D) := (lstD M x).bind fun ds => (intsOf ds).bind fun ns => gd (ns.length ≤ 4000 ∧ (usort ns).length < 64) ((usort ns).map .int)
theorem bt_set : bootBuiltins "set" = some (.type "set") := by decide +kernel
section
variable {X : Cx} {G : Gd} {a e : Expr} {p p2 q pos : Pos} {ta : TE'}
/-- set(a), then more -/
theorem set_of_ints {A : Around} {E : Value → Shared → Prop} {pins : List (Addr × Obj)} {s1 : Shared} {σ : L2.St} {H1 : Hp} {l : Addr} {ns : List Int} {Q : Value → Shared → Prop} (hh : A.handled = none) (I1 : Inv X pins σ H1 s1) (hq : SqL X.K H1 l (ns.map V.int)) (hl : ns.length ≤ 4000)
    (k : ∀ (s2 : Shared) (c : Nat) (S : Addr), Inv X pins σ H1 s2 → H1 S = none → c = (usort ns).length → SetR X.w s2.heap S (fun j => decide (j ∈ ns)) c → Q (.ref S) s2) :
    wpAny (model X.prog X.w) A (call (.type "set") [.ref l]) Q E s1 := by
  obtain ⟨its, r, pl, hz⟩ := I1.list hq
  have hi := intsAre_vals r
  have hl1 : s1.heap.IsList l its.toArray := pl.isList
  have hb : ns.length + 1 < scanBound := by unfold scanBound; omega
  refine call_set_l (Φ := fun h S => ∃ c, c ≤ ns.length ∧ SetR X.w h S (fun j => decide (j ∈ ns)) c) hl1 (new_set_ints (items := its.toArray) ns (by simpa using hh) ((hl1.push _).push _) (by simpa using hi) hb) fun h' tk ⟨c, hc, R⟩ k' => ?_
  exact k _ c _ (I1.kept (t' := tk) fun b o e => k' b o e) (I1.hok.fresh (Nat.le_refl _)) (setR_size R) R
def tSoSet (K : PySem.W.Frag) (ta : TE) : TE := fun σ H Q => ta σ H fun x H1 => ∃ (l : Addr) (ns : List Int), x = .ref l ∧ SqL K H1 l (ns.map V.int) ∧ ns.length ≤ 4000 ∧ (usort ns).length < 64 ∧ ∀ p, H1 p = none → Q (.ref p) (upd H1 p (.lst ((usort ns).map V.int)))
theorem pe_sortedSet {ta : TE} (hc : X.calm = true) (hg : Gl X "sorted") (hm : X.mg "sorted" = none) (hg2 : Gl X "set") (hm2 : X.mg "set" = none) (ha : PE X a ta)
    (na : starEach [a] X.env = (false, eval a X.env) :: starEach [] X.env := by rfl) : PE X (.Call (.Name "sorted" p) [.Call (.Name "set" p2) [a] [] q] [] pos) (tSoSet X.K ta) := by
  refine ⟨fun pins s σ H Q I h => ?_⟩
  refine Call_ (ld_blt I hg hm bt_sorted ?_)
  refine PyProof.Rows.callWith_builtin1 (PyProof.Rows.args_cons ?_ rfl) rfl rfl
  refine Call_ (ld_blt I hg2 hm2 bt_set ?_)
  refine PyProof.Rows.callWith_type1 (PyProof.Rows.args_cons (thn (ha.run pins s σ H _ I h) fun v s1 ⟨x, H1, I1, r1, q1⟩ => PyProof.Rows.args_nil ?_) na) na rfl
  obtain ⟨l, ns, rfl, hq, hl, h64, q1⟩ := q1
  cases r1
  refine set_of_ints (I1.ok.hd hc) I1 hq hl fun s2 c S I2 hS e R => ?_
  refine PyProof.Rows.args_nil ?_
  refine sorted_set R (I2.ok.hd hc) (by omega) fun s' p out c' ms k g o hp hgp hi hs hm' hlen => ?_
  have hms : ms = usort ns := usort_eq hs fun k => by rw [hm' k]; simp
  subst hms
  have hn : H1 p = none := I2.hok.fresh hp
  have J : Inv X pins σ (upd H1 p (.lst ((usort ns).map V.int))) { s2 with heap := s'.heap, gens := s'.gens, drawn := s'.drawn, toks := s'.toks } :=
    I2.call (ch := []) (Un.laid k hp hn) (I2.hok.laid k hp ⟨by rw [List.length_map, sizeLine_eq]; omega, out.toList, c', vals_of_ints hi, hgp⟩) (by rw [g]; exact I2.bare) (fun _ z => nomatch z)
  have e' : s' = { s2 with heap := s'.heap, gens := s'.gens, drawn := s'.drawn, toks := s'.toks } := by
    cases s'; cases s2; cases o; rfl
  rw [e']
  exact ⟨.ref p, _, J, rfl, q1 p hn⟩
theorem vf_sortedSet (hc : X.calm = true) (hg : Gl X "sorted") (hm : X.mg "sorted" = none) (hg2 : Gl X "set") (hm2 : X.mg "set" = none) (ha : VE X G a ta)
    (na : starEach [a] X.env = (false, eval a X.env) :: starEach [] X.env := by rfl) : VF X G (.Call (.Name "sorted" p) [.Call (.Name "set" p2) [a] [] q] [] pos) (f1 soSetF ta) :=
  PE.weak (pe_sortedSet hc hg hm hg2 hm2 ha na) fun σ H Q ⟨δ, M, ι, Q0, S, h, z⟩ => th1 S h fun x M1 ι1 H1 v q1 p1 k1 S1 r1 => by
    obtain ⟨ds, e, q1⟩ := ok_elim q1
    obtain ⟨es, e1, e2⟩ := Option.bind_eq_some_iff.mp e
    obtain ⟨ns, e3, e4⟩ := Option.bind_eq_some_iff.mp e2
    obtain ⟨hc, rfl⟩ := gd_some e4
    obtain ⟨b, xs, rfl, hq, rx⟩ := lst_of S1 r1 e1
    rw [intsOf_some e3] at rx
    rw [rx.ints] at hq
    exact ⟨b, ns, rfl, hq, hc.1, hc.2, fun p hp => z _ M1 ι1 H1 _ p q1 p1 k1 S1 (RDs.of_ints _) (by rw [List.length_map, sizeLine_eq]; omega) hp⟩
def rgLF (_ : Mem) : List Sv → Option (List D)
  | [.d (.int j)] => gd (-(2 ^ 62) ≤ j ∧ j ≤ 16777216) (rgL 0 j.toNat)
  | [.d (.int i), .d (.int j)] => gd ((0 ≤ i ∧ i ≤ 16777216) ∧ (-(2 ^ 62) ≤ j ∧ j ≤ 16777216)) (rgL i (j - i).toNat)
  | _ => none
theorem rgV_of {K : PySem.W.Frag} {N : Bool → Addr → Prop} {H : Hp} {ι : Ix} (i j : Int) : RDs K N H ι (rgL i (j - i).toNat) (rgV i j) := by
  unfold rgL rgV
  generalize List.range (j - i).toNat = l
  induction l with
  | nil => rfl
  | cons x l ih => exact ⟨_, _, rfl, rfl, ih⟩
theorem vf_listRg1 (hc : X.calm = true) (hg : Gl X "list") (hm : X.mg "list" = none) (hg2 : Gl X "range") (hm2 : X.mg "range" = none) (ha : VE X G a ta)
    (na : starEach [a] X.env = (false, eval a X.env) :: starEach [] X.env := by rfl) (na2 : starEach [.Call (.Name "range" p2) [a] [] q] X.env = (false, eval (.Call (.Name "range" p2) [a] [] q) X.env) :: starEach [] X.env := by rfl) :
    VF X G (.Call (.Name "list" p) [.Call (.Name "range" p2) [a] [] q] [] pos) (fN rgLF (aCons ta (aP []))) :=
  PE.weak (pe_listRg hc hg hm (prg_1 hg2 hm2 ha na) na2) fun σ H Q ⟨δ, M, ι, Q0, S, h, z⟩ => th1 S h fun x M1 ι1 H1 v q1 p1 k1 S1 r1 => by
    have q1 : ok (rgLF M1 [x]) fun ds => Q0 ds M1 := q1
    obtain ⟨ds, e, q1⟩ := ok_elim q1
    unfold rgLF at e
    split at e
    · rename_i j hj
      cases hj
      obtain ⟨hc, rfl⟩ := gd_some e
      cases (show _ = _ from r1)
      refine ⟨j, rfl, ⟨by omega, by omega, by omega, by omega, by omega⟩, fun p hp => z _ M1 ι1 H1 _ p q1 p1 k1 S1 (by simpa using rgV_of 0 j) (by rw [rgL_len, sizeLine_eq]; omega) hp⟩
    · rename_i hj; cases hj
    · cases e
theorem VF.aP1 {f : Mem → List Sv → Option (List D)} {u : PV} (h : VF X G e (fN f (aCons (eP u) (aP [])))) : VF X G e (fN f (aP [u])) := h.weak fun δ M Q h => by
  have h : ok (pArgs [u] δ M) fun xs => ok (f M xs) fun ds => Q ds M := h
  unfold pArgs at h
  rw [ok_bind] at h
  obtain ⟨d, e1, h⟩ := ok_elim h
  rw [ok_map] at h
  exact ok_of e1 h
/-- range(a, b, c) -/
theorem vi_range3 {bd : Bool} {b c tg : Expr} {tA : TA'} (hg : Gl X "range") (hm : X.mg "range" = none) (ha : VA X G [a, b, c] 3 tA) (hs : starEach [a, b, c] X.env = (false, eval a X.env) :: starEach [b, c] X.env := by rfl) (hpl : (backTo pos (starEach [b, c] X.env)).any (·.1) = false := by rfl) :
    VI X G bd tg (.Call (.Name "range" p) [a, b, c] [] pos) (iRg bd tA) := by
  have hi := pi_range3 (tg := tg) (p := p) (pos := pos) hg hm ha hs hpl
  refine ⟨fun pins s σ H R I ⟨δ, M, ι, Q0, S, q, z⟩ => hi.run pins s σ H R I ?_⟩
  refine thA S q fun xs M1 ι1 H1 vs hl q1 p1 k1 S1 r1 => ?_
  obtain ⟨x, y, w, rfl⟩ := len3 hl
  obtain ⟨v, vs1, rfl, rv, r1⟩ := r1
  obtain ⟨u, t, rfl, ru, rt⟩ := two_of r1
  unfold rngD at q1
  split at q1
  · rename_i hj; cases hj
  · rename_i hj; cases hj
  · rename_i i j c hj
    cases hj
    cases (show _ = _ from rv); cases (show _ = _ from ru); cases (show _ = _ from rt)
    have hb : 0 ≤ Builtin.Range.rangeSize i j c := rangeSize_nn q1.1.1
    exact ⟨_, _, _, _, rfl, ⟨q1.1.1, q1.1.2.1, q1.1.2.2, (Int.toNat_of_nonneg hb).symm⟩, z _ _ M1 ι1 H1 _ q1.2.1 q1.2.2 p1 k1 S1 iter_rc⟩
  · exact q1.elim
end
end VL
set_option Elab.async false
set_option linter.all false
set_option maxRecDepth 100000
set_option maxHeartbeats 4000000
namespace VL
open PySem PySem.Spec L2 RT RZ PyProof.Rows
def iZq (t : TA') : TI' := fun δ M Q => t δ M fun xs M1 => match xs with
  | [a, b] => (match a, b with
    | .d (.tup as), .d (.tup bs) => Q (zipL as bs) gdT M1
    | a, b => ok (lstD M1 a) fun as => ok (lstD M1 b) fun bs => Q (zipL as bs) (fun M => gdS a as M ∧ gdS b bs M) M1)
  | _ => False
theorem zq_of {x y : Sv} {M : Mem} {Q : List D → (Mem → Prop) → Mem → Prop} (h : (match x, y with
    | .d (.tup as), .d (.tup bs) => Q (zipL as bs) gdT M
    | a, b => ok (lstD M a) fun as => ok (lstD M b) fun bs => Q (zipL as bs) (fun M => gdS a as M ∧ gdS b bs M) M)) :
    (∃ as bs, x = .d (.tup as) ∧ y = .d (.tup bs) ∧ Q (zipL as bs) gdT M) ∨ ∃ as bs, lstD M x = some as ∧ lstD M y = some bs ∧ Q (zipL as bs) (fun M => gdS x as M ∧ gdS y bs M) M := by
  split at h
  · exact .inl ⟨_, _, rfl, rfl, h⟩
  · obtain ⟨as, ea, h⟩ := ok_elim h
    obtain ⟨bs, eb, h⟩ := ok_elim h
    exact .inr ⟨as, bs, ea, eb, h⟩
/-- over a tuple -/
def iTq (t : TE') : TI' := fun δ M Q => t δ M fun s M1 => ok (tupD s) fun ds => Q ds gdT M1
section
variable {K : PySem.W.Frag} {X : Cx} {G : Gd} {e e2 tg : Expr} {pos p : Pos} {t : TE'}
theorem vi_zipQ {bd : Bool} {elts : List Expr} {kk : Nat} {tpos : Pos} {tA : TA'} (hg : Gl X "zip") (hm : X.mg "zip" = none) (ha : VA X G [e, e2] 2 tA) (hs : starEach [e, e2] X.env = (false, eval e X.env) :: starEach [e2] X.env := by rfl) (hpl : ((backTo pos (starEach [e2] X.env)).any fun x => x.1) = false := by rfl) :
    VI X G bd (.Tuple elts kk tpos) (.Call (.Name "zip" p) [e, e2] [] pos) (iZq tA) := by
  have hi := pi_zipA (tpos := tpos) (elts := elts) (kk := kk) (p := p) (pos := pos) hg hm ha hs hpl
  refine ⟨fun pins s σ H R I ⟨δ, M, ι, Q0, S, q, z⟩ => hi.run pins s σ H R I ?_⟩
  refine thA S q fun xs M1 ι1 H1 vs hl q1 p1 k1 S1 r1 => ?_
  obtain ⟨x, y, rfl⟩ : ∃ x y, xs = [x, y] := len2 hl
  obtain ⟨v, u, rfl, ra, rb⟩ := two_of r1
  rcases zq_of q1 with ⟨as, bs, rfl, rfl, q2⟩ | ⟨as, bs, ea, eb, q2⟩
  · obtain ⟨a1, rfl, ⟨xs, hq⟩, hl1, st⟩ := tup_stays ra
    obtain ⟨a2, rfl, ⟨ys, hq2⟩, hl2, st2⟩ := tup_stays rb
    refine ⟨a1, a2, xs, ys, rfl, .inr ⟨hq, hq2, z _ _ M1 ι1 H1 _ (fun _ => by unfold zipL; rw [List.length_map, List.length_zip]; omega) q2 p1 k1 S1 ?_⟩⟩
    intro G2 δ2 M2 ι2 σ2 H2 hn2 S2 e2 k2 hg
    obtain ⟨xs, qx, rx⟩ := st G2 ι2 H2 hn2 k2
    obtain ⟨ys, qy, ry⟩ := st2 G2 ι2 H2 hn2 k2
    refine ⟨⟨xs, ys, qx, qy, by have := rx.length; have := ry.length; simp only [zipL, List.length_map, List.length_zip]; omega⟩, fun i d hd => ?_⟩
    obtain ⟨d1, d2, h1, h2, rfl⟩ := zip_get hd
    obtain ⟨x, hx, rxx⟩ := rx.get h1
    obtain ⟨y, hy, ryy⟩ := ry.get h2
    refine ⟨⟨xs, ys, x, y, qx, qy, hx, hy⟩, fun v H3 hyl => ?_⟩
    obtain ⟨T, x1, y1, rfl, hT, rfl, h5, h6⟩ := hyl
    have h5 := h5 xs qx
    have h6 := h6 ys qy
    rw [hx] at h5; cases h5
    rw [hy] at h6; cases h6
    exact ⟨.inr ⟨T, _, hT, rfl⟩, fin_pair S2 hT rxx ryy⟩
  · obtain ⟨a1, rfl, ⟨xs, hq, _⟩, hl1, st⟩ := list_stays S1 ra ea
    obtain ⟨a2, rfl, ⟨ys, hq2, _⟩, hl2, st2⟩ := list_stays S1 rb eb
    refine ⟨a1, a2, xs, ys, rfl, .inl ⟨hq, hq2, z _ _ M1 ι1 H1 _ (fun _ => by unfold zipL; rw [List.length_map, List.length_zip]; omega) q2 p1 k1 S1 ?_⟩⟩
    intro G2 δ2 M2 ι2 σ2 H2 hn2 S2 e2 k2 hg
    obtain ⟨xs, qx, rx⟩ := st G2 δ2 M2 ι2 σ2 H2 hn2 S2 e2 k2 hg.1
    obtain ⟨ys, qy, ry⟩ := st2 G2 δ2 M2 ι2 σ2 H2 hn2 S2 e2 k2 hg.2
    refine ⟨⟨xs, ys, qx, qy, by have := rx.length; have := ry.length; simp only [zipL, List.length_map, List.length_zip]; omega⟩, fun i d hd => ?_⟩
    obtain ⟨d1, d2, h1, h2, rfl⟩ := zip_get hd
    obtain ⟨x, hx, rxx⟩ := rx.get h1
    obtain ⟨y, hy, ryy⟩ := ry.get h2
    refine ⟨⟨xs, ys, x, y, qx, qy, hx, hy⟩, fun v H3 hyl => ?_⟩
    obtain ⟨T, x1, y1, rfl, hT, rfl, h5, h6⟩ := hyl
    have h5 := h5 xs qx
    have h6 := h6 ys qy
    rw [hx] at h5; cases h5
    rw [hy] at h6; cases h6
    exact ⟨.inr ⟨T, _, hT, rfl⟩, fin_pair S2 hT rxx ryy⟩
end
end VL
set_option Elab.async false
set_option linter.all false
set_option maxRecDepth 100000
set_option maxHeartbeats 4000000
namespace VL
open PySem PySem.Spec L2 RT RZ
def valK (kvs : List (Key × D)) (k : Key) : Option D := (kvs.find? fun kv => decide (kv.1 = k)).map (·.2)
def putKD (kvs : List (Key × D)) (k : Key) (v : D) : List (Key × D) := if (kvs.any fun kv => decide (kv.1 = k)) = true then kvs.map (fun kv => if kv.1 = k then (kv.1, v) else kv) else kvs ++ [(k, v)]
section
variable {K : PySem.W.Frag} {X : Cx} {N : Bool → Addr → Prop} {H : Hp} {ι : Ix} {G : Gd} {a b e o i : Expr} {es : List Expr} {pos cpos apos p1' : Pos} {ta tb te to ti t : TE'} {tA : TA'}
def RK (K : PySem.W.Frag) (N : Bool → Addr → Prop) (H : Hp) (ι : Ix) (kvs : List (Key × D)) (ws : List (Key × V)) : Prop := kvs.map (·.1) = ws.map (·.1) ∧ RDs K N H ι (kvs.map (·.2)) (ws.map (·.2))
theorem RK.inv {k : Key} {d : D} {kvs : List (Key × D)} {ws : List (Key × V)} (h : RK K N H ι ((k, d) :: kvs) ws) : ∃ v ws', ws = (k, v) :: ws' ∧ RD K N H ι d v ∧ RK K N H ι kvs ws' := by
  obtain ⟨h1, h2⟩ := h
  cases ws with
  | nil => cases h1
  | cons w ws =>
    simp only [List.map_cons, List.cons.injEq] at h1
    obtain ⟨x, r, e, g1, g2⟩ := h2
    simp only [List.map_cons, List.cons.injEq] at e
    obtain ⟨rfl, rfl⟩ := e
    exact ⟨w.2, ws, by rw [h1.1], g1, h1.2, g2⟩
theorem RK.nil : RK K N H ι [] [] := ⟨rfl, rfl⟩
theorem RK.cons {k : Key} {d : D} {v : V} {kvs : List (Key × D)} {ws : List (Key × V)} (r : RD K N H ι d v) (h : RK K N H ι kvs ws) : RK K N H ι ((k, d) :: kvs) ((k, v) :: ws) :=
  ⟨by simp [h.1], v, _, rfl, r, h.2⟩
theorem RK.nil_inv {ws : List (Key × V)} (h : RK K N H ι [] ws) : ws = [] := by
  have := h.1
  cases ws with
  | nil => rfl
  | cons w ws => simp at this
theorem RK.length {kvs : List (Key × D)} {ws : List (Key × V)} (h : RK K N H ι kvs ws) : kvs.length = ws.length := by
  have := congrArg List.length h.1
  simpa using this
theorem RK.val : ∀ {kvs : List (Key × D)} {ws : List (Key × V)}, RK K N H ι kvs ws → ∀ k, (valK kvs k = none ∧ valV ws k = none) ∨ ∃ d v, valK kvs k = some d ∧ valV ws k = some v ∧ RD K N H ι d v
  | [], ws, h, k => by
    rw [h.nil_inv]; exact .inl ⟨rfl, rfl⟩
  | (j, d) :: kvs, ws, h, k => by
    obtain ⟨v, ws', rfl, r, h'⟩ := h.inv
    by_cases e : j = k
    · refine .inr ⟨d, v, by simp [valK, e], by simp [valV, e], r⟩
    · rcases RK.val h' k with ⟨h1, h2⟩ | ⟨d', v', h1, h2, r'⟩
      · refine .inl ⟨?_, ?_⟩
        · simp only [valK, List.find?_cons, e, decide_false]; exact h1
        · simp only [valV, List.find?_cons, e, decide_false]; exact h2
      · refine .inr ⟨d', v', ?_, ?_, r'⟩
        · simp only [valK, List.find?_cons, e, decide_false]; exact h1
        · simp only [valV, List.find?_cons, e, decide_false]; exact h2
theorem RK.any {kvs : List (Key × D)} {ws : List (Key × V)} (h : RK K N H ι kvs ws) (k : Key) : (kvs.any fun kv => decide (kv.1 = k)) = ws.any fun kv => decide (kv.1 = k) := by
  have e1 : (kvs.any fun kv => decide (kv.1 = k)) = (kvs.map (·.1)).any fun j => decide (j = k) := by rw [List.any_map]; rfl
  have e2 : (ws.any fun kv => decide (kv.1 = k)) = (ws.map (·.1)).any fun j => decide (j = k) := by rw [List.any_map]; rfl
  rw [e1, e2, h.1]
theorem RK.repl {k : Key} {d : D} {v : V} (r : RD K N H ι d v) : ∀ {kvs : List (Key × D)} {ws : List (Key × V)}, RK K N H ι kvs ws → RK K N H ι (kvs.map fun kv => if kv.1 = k then (kv.1, d) else kv) (ws.map fun kv => if kv.1 = k then (kv.1, v) else kv)
  | [], ws, h => by rw [h.nil_inv]; exact RK.nil
  | (j, d') :: kvs, ws, h => by
    obtain ⟨v', ws', rfl, r', h'⟩ := h.inv
    simp only [List.map_cons]
    by_cases e : j = k
    · simp only [e, if_true]; exact RK.cons r (RK.repl r h')
    · simp only [e, if_false]; exact RK.cons r' (RK.repl r h')
theorem RK.snoc {k : Key} {d : D} {v : V} (r : RD K N H ι d v) : ∀ {kvs : List (Key × D)} {ws : List (Key × V)}, RK K N H ι kvs ws → RK K N H ι (kvs ++ [(k, d)]) (ws ++ [(k, v)])
  | [], ws, h => by rw [h.nil_inv]; exact RK.cons r RK.nil
  | (j, d') :: kvs, ws, h => by
    obtain ⟨v', ws', rfl, r', h'⟩ := h.inv
    exact RK.cons r' (RK.snoc r h')
theorem RK.put {k : Key} {d : D} {v : V} {kvs : List (Key × D)} {ws : List (Key × V)} (h : RK K N H ι kvs ws) (r : RD K N H ι d v) : RK K N H ι (putKD kvs k d) (putK ws k v) := by
  unfold putKD putK
  rw [h.any k]
  by_cases q : (ws.any fun kv => decide (kv.1 = k)) = true
  · rw [if_pos q, if_pos q]; exact RK.repl r h
  · rw [if_neg q, if_neg q]; exact RK.snoc r h
theorem RK.mono {N' : Bool → Addr → Prop} {H' : Hp} {ι' : Ix} {kvs : List (Key × D)} {ws : List (Key × V)} (k : Kp ι H ι' H') (hn : ∀ b a o, H a = some o → N b a → N' b a) (h : RK K N H ι kvs ws) : RK K N' H' ι' kvs ws := ⟨h.1, h.2.mono k hn⟩
end
end VL
set_option Elab.async false
set_option linter.all false
set_option maxRecDepth 100000
set_option maxHeartbeats 4000000
namespace VL
open PySem PySem.Spec L2 RT RZ
/-- a plain list of these items -/
def PlnL (h : Heap) (l : Addr) (vs : List Value) : Prop := ∃ n, h.get? l = some { cls := .type "list", data := .seq vs.toArray n }
theorem PlnL.keep {h h' : Heap} {l : Addr} {vs : List Value} (p : PlnL h l vs) (k : ∀ b o, h.get? b = some o → h'.get? b = some o) : PlnL h' l vs := let ⟨n, e⟩ := p; ⟨n, k _ _ e⟩
end VL
set_option Elab.async false
set_option linter.all false
set_option maxRecDepth 100000
set_option maxHeartbeats 4000000
namespace VL
open PySem PySem.Spec L2 RT RZ
end VL
set_option Elab.async false
set_option linter.all false
set_option maxRecDepth 100000
set_option maxHeartbeats 4000000
namespace VL
open PySem PySem.Spec L2 RT RZ
end VL
set_option Elab.async false
set_option linter.all false
set_option maxRecDepth 100000
set_option maxHeartbeats 4000000
namespace VL
open PySem PySem.Spec L2 RT RZ PyProof.Rows
end VL
set_option Elab.async false
set_option linter.all false
set_option maxRecDepth 100000
set_option maxHeartbeats 4000000
namespace VL
open PySem PySem.Spec L2 RT RZ PyProof.Rows
theorem sSeq_app {a b : TS'} {E : Ends'} {δ : DS} {M : Mem} : sSeq a b E δ M = a ⟨fun δ' M' => b E δ' M', E.rt, E.bk, E.ct⟩ δ M := Eq.trans (Eq.refl _) (Eq.refl _)
variable {K : PySem.W.Frag} {X : Cx} {G : Gd} {e tg : Expr} {pos p : Pos} {t : TE'}
end VL
set_option Elab.async false
set_option linter.all false
set_option maxRecDepth 100000
set_option maxHeartbeats 4000000
namespace VL
open PySem PySem.Spec L2 RT RZ PyProof.Rows
end VL
set_option Elab.async false
set_option linter.all false
set_option maxRecDepth 100000
set_option maxHeartbeats 4000000
namespace VL
open PySem PySem.Spec L2 RT RZ PyProof.Rows
end VL
set_option Elab.async false
set_option linter.all false
set_option maxRecDepth 100000
set_option maxHeartbeats 4000000
namespace VL
open PySem PySem.Spec L2 RT RZ PyProof.Rows
end VL
set_option Elab.async false
set_option linter.all false
set_option maxRecDepth 100000
set_option maxHeartbeats 4000000
namespace VL
open PySem PySem.Spec L2 RT RZ
end VL
set_option Elab.async false
set_option linter.all false
set_option maxRecDepth 100000
set_option maxHeartbeats 4000000
namespace VL
open PySem PySem.Spec L2 RT RZ PyProof.Rows
end VL
set_option Elab.async false
set_option linter.all false
set_option maxRecDepth 100000
set_option maxHeartbeats 4000000
namespace VL
open PySem PySem.Spec L2 RT RZ
def bI (b : Bool) : Int := if b = true then 1 else 0
end VL
set_option Elab.async false
set_option linter.all false
set_option maxRecDepth 100000
set_option maxHeartbeats 4000000
namespace VL
open PySem PySem.Spec L2 RT RZ
end VL
set_option Elab.async false
set_option linter.all false
set_option maxRecDepth 100000
set_option maxHeartbeats 4000000
namespace VL
open PySem PySem.Spec L2 RT RZ
def isPairD : D → Bool
  | .tup (_ :: _) => true
  | _ => false
def isPlainD : D → Bool
  | .non => false
  | .tup _ => false
  | _ => true
structure OkSr (ds : List D) : Prop where
  no : noRs ds = true
  al : ∀ x ∈ ds, ∀ y ∈ ds, PySem.W.alike (py x) (py y) = true
  so : (∀ x ∈ ds, isPairD x = true) ∨ ∀ x ∈ ds, isPlainD x = true
  de : ∀ x ∈ ds, (py x).depth ≤ 60
def okSrB (ds : List D) : Bool := noRs ds && ((ds.all fun x => ds.all fun y => PySem.W.alike (py x) (py y)) && ((ds.all isPairD || ds.all isPlainD) && ds.all fun x => decide ((py x).depth ≤ 60)))
theorem okSr_iff {ds : List D} : okSrB ds = true ↔ OkSr ds := by
  unfold okSrB
  simp only [Bool.and_eq_true, Bool.or_eq_true, List.all_eq_true, decide_eq_true_eq]
  exact ⟨fun ⟨h1, h2, h3, h4⟩ => ⟨h1, h2, h3, h4⟩, fun h => ⟨h.no, h.al, h.so, h.de⟩⟩
def leDD (x y : D) : Bool := PySem.W.dataLe false py x y
def sortGD (ds : List D) : List D := ds.mergeSort leDD
def sortGF (M : Mem) : List Sv → Option (List D)
  | [s] => (lstD M s).bind fun ds => gd (okSrB ds = true) (sortGD ds)
  | _ => none
theorem sortG_of {M : Mem} {s : Sv} {ds : List D} (hs : lstD M s = some ds) (h : OkSr ds) : sortGF M [s] = some (sortGD ds) := by
  have e : sortGF M [s] = (lstD M s).bind fun ds => gd (okSrB ds = true) (sortGD ds) := rfl
  rw [e, hs, Option.bind_some, gd_pos (okSr_iff.mpr h)]
section
variable {K : PySem.W.Frag} {X : Cx} {N : Bool → Addr → Prop} {H : Hp} {ι : Ix} {G : Gd}
def leVP (x y : V × PyData) : Bool := PySem.W.dataLe false Prod.snd x y
def rSortL (K : PySem.W.Frag) : List V → Hp → VK → Prop := fun vs H Q => ∃ (a : Addr) (xs : List PyData) (ws : List V), vs = [.ref a] ∧ SqL K H a ws ∧ DpAll K H ws xs ∧ PySem.W.AllAlike xs ∧ PySem.W.Sortable xs ∧ (∀ x ∈ xs, x.depth ≤ 60) ∧ ws.length ≤ sizeLine ∧
  ∀ p, H p = none → Q (.ref p) (upd H p (.lst (((ws.zip xs).mergeSort leVP).map Prod.fst)))
theorem each_of {h : Heap} : ∀ {its : List Value} {ws : List V} {xs : List PyData} {as : List Addr}, Vals ws its → ReadsAll h its xs as →
    PySem.W.EachIs (fun (u : Value) (b : V × PyData) => RelV b.1 u) its (ws.zip xs) ∧ PySem.W.EachIs (fun (u : Value) (b : V × PyData) => ∃ as, Reads h u b.2 as) its (ws.zip xs) ∧ (ws.zip xs).map Prod.snd = xs
  | _, _, _, _, .nil, r => by cases r; exact ⟨.nil, .nil, rfl⟩
  | _, _, _, _, .cons r t, h => by
    cases h with
    | cons h1 h2 =>
      obtain ⟨e1, e2, e3⟩ := each_of t h2
      exact ⟨.cons r e1, .cons ⟨_, h1⟩ e2, by rw [List.zip_cons_cons, List.map_cons, e3]⟩
theorem each_vals : ∀ {out : List Value} {bs : List (V × PyData)}, PySem.W.EachIs (fun (u : Value) (b : V × PyData) => RelV b.1 u) out bs → Vals (bs.map Prod.fst) out
  | _, _, .nil => .nil
  | _, _, .cons r t => .cons r (each_vals t)
theorem cr_sortedG (hu : X.A.units + 63 < cLine) : CallR X (.builtin "sorted") (rSortL X.K) := by
  intro pins s σ H vs us Q I r ⟨a, xs, ws, e, hq, hd, ha, hs, hdp, hz, q⟩
  subst e
  obtain ⟨its, rv, pl, hlz⟩ := I.list hq
  rw [Vals.ref1 r]
  obtain ⟨as, h4⟩ := Dp.readsAll I xs _ its hd rv
  obtain ⟨e1, e2, e3⟩ := each_of rv h4
  refine PySem.W.sorted_data (enc := Prod.snd) pl.isList e1 e2 (by rw [e3]; exact ha) (by rw [e3]; exact hs) (by rw [← e1.length, ← rv.length]; exact hlz) (fun b hb => ?_) fun out hl he => ?_
  · have : b.2 ∈ xs := by rw [← e3]; exact List.mem_map_of_mem hb
    have := hdp _ this
    omega
  · obtain ⟨ep, he'⟩ := PyProof.Rows.sortedAll_at s.heap its out.toArray
    have hv := each_vals he
    have hlen : (((ws.zip xs).mergeSort leVP).map Prod.fst).length ≤ sizeLine := by
      rw [List.length_map, List.length_mergeSort, ← e1.length, ← rv.length]; exact hlz
    exact ⟨.ref _, upd H (s.heap.objs.size + 1) (.lst (((ws.zip xs).mergeSort leVP).map Prod.fst)), I.laid (t' := s.toks) (fun _ _ => PyProof.Rows.sortedAll_old) (Nat.le_succ _) ⟨hlen, out, ep, hv, he'⟩, rfl, q _ (I.hok.fresh (Nat.le_succ _))⟩
theorem zip_pys : ∀ {ds : List D} {ws : List V}, ds.length = ws.length → ws.zip (pys ds) = (ds.zip ws).map fun p => (p.2, py p.1)
  | [], [], _ => rfl
  | d :: ds, w :: ws, h => by
    rw [pys, List.zip_cons_cons, List.zip_cons_cons, List.map_cons, zip_pys (by simpa using h)]
  | [], _ :: _, h => by simp at h
  | _ :: _, [], h => by simp at h
theorem rds_pairs : ∀ {ts : List (D × V)}, (∀ p ∈ ts, RD K N H ι p.1 p.2) → RDs K N H ι (ts.map Prod.fst) (ts.map Prod.snd)
  | [], _ => rfl
  | p :: ts, h => ⟨_, _, rfl, h p List.mem_cons_self, rds_pairs fun q hq => h q (List.mem_cons_of_mem _ hq)⟩
theorem rds_zip : ∀ {ds : List D} {ws : List V}, RDs K N H ι ds ws → (∀ p ∈ ds.zip ws, RD K N H ι p.1 p.2) ∧ (ds.zip ws).map Prod.fst = ds
  | [], _, h => by cases (show _ = _ from h); exact ⟨fun p hp => by simp at hp, rfl⟩
  | d :: ds, _, h => by
    obtain ⟨x, r, rfl, h1, h2⟩ := h
    obtain ⟨g1, g2⟩ := rds_zip h2
    refine ⟨fun p hp => ?_, by rw [List.zip_cons_cons, List.map_cons, g2]⟩
    rw [List.zip_cons_cons] at hp
    rcases List.mem_cons.mp hp with rfl | hp
    · exact h1
    · exact g1 p hp
theorem pys_mem : ∀ {l : List D} {y : PyData}, y ∈ pys l → ∃ d ∈ l, y = py d
  | [], y, hy => by simp [pys] at hy
  | d :: l, y, hy => by
    simp only [pys, List.mem_cons] at hy
    rcases hy with rfl | hy
    · exact ⟨d, List.mem_cons_self, rfl⟩
    · obtain ⟨d', h1, h2⟩ := pys_mem hy
      exact ⟨d', List.mem_cons_of_mem _ h1, h2⟩
theorem rd_sortG : RdF K (rSortL K) sortGF := by
  intro G δ M ι σ H xs vs ds S rx e Q z
  unfold sortGF at e
  split at e
  · rename_i s
    obtain ⟨es, e1, e2⟩ := Option.bind_eq_some_iff.mp e
    obtain ⟨ho, rfl⟩ := gd_some e2
    have ho := okSr_iff.mp ho
    obtain ⟨v, rfl, ra⟩ := one_of rx
    obtain ⟨a, ws, rfl, hq, r2⟩ := lst_of S ra e1
    have hl := seq_len S ra (lst_seq e1)
    have hno : ∀ d ∈ es, noR d = true := fun d hd => by
      obtain ⟨k, hk⟩ := List.getElem?_of_mem hd
      exact noRs_get ho.no hk
    refine ⟨a, pys es, ws, rfl, hq, RDs.dp es ws r2 ho.no, fun x hx y hy => ?_, ?_, fun x hx => ?_, by rw [← r2.length]; exact hl, fun p hp => ?_⟩
    · obtain ⟨d1, h1, rfl⟩ := pys_mem hx
      obtain ⟨d2, h2, rfl⟩ := pys_mem hy
      exact ho.al d1 h1 d2 h2
    · rcases ho.so with h | h
      · refine .inl fun x hx => ?_
        obtain ⟨d, hd, rfl⟩ := pys_mem hx
        have := h d hd
        unfold isPairD at this
        split at this
        · exact ⟨_, _, by rw [py, pys]⟩
        · cases this
      · refine .inr fun x hx => ?_
        obtain ⟨d, hd, rfl⟩ := pys_mem hx
        have := h d hd
        have hn := hno d hd
        cases d <;> simp_all [isPlainD, py, noR]
    · obtain ⟨d, hd, rfl⟩ := pys_mem hx
      exact ho.de d hd
    · obtain ⟨g1, g2⟩ := rds_zip r2
      have e5 : ((es.zip ws).mergeSort fun p q => leDD p.1 q.1).map (fun p => (p.2, py p.1)) = (ws.zip (pys es)).mergeSort leVP := by
        rw [zip_pys r2.length]
        exact List.map_mergeSort fun a _ b _ => rfl
      have e6 : ((es.zip ws).mergeSort fun p q => leDD p.1 q.1).map Prod.fst = sortGD es := by
        unfold sortGD
        conv => rhs; rw [← g2]
        exact List.map_mergeSort fun a _ b _ => rfl
      have r3 := rds_pairs (K := K) (N := G.N) (H := H) (ι := ι) (ts := (es.zip ws).mergeSort fun p q => leDD p.1 q.1) fun p hp => g1 p (List.mem_mergeSort.mp hp)
      rw [e6] at r3
      rw [← e5, List.map_map]
      exact z _ p r3 (by rw [← e6, List.length_map, List.length_mergeSort]; exact Nat.le_trans (by rw [List.length_zip]; exact Nat.min_le_left _ _) hl) hp
  · cases e
end
end VL
set_option Elab.async false
set_option linter.all false
set_option maxRecDepth 100000
set_option maxHeartbeats 4000000
namespace VL
open PySem PySem.Spec L2 RT RZ PyProof.Rows
theorem nodup_sub_len {α : Type} [DecidableEq α] : ∀ {a b : List α}, a.Nodup → (∀ x ∈ a, x ∈ b) → a.length ≤ b.length
  | [], _, _, _ => Nat.zero_le _
  | x :: a, b, h, hs => by
    rw [List.nodup_cons] at h
    have hx := hs x List.mem_cons_self
    have ih := nodup_sub_len (a := a) (b := b.erase x) h.2 fun y hy => (List.mem_erase_of_ne (fun (e : y = x) => h.1 (by rw [← e]; exact hy))).mpr (hs y (List.mem_cons_of_mem _ hy))
    rw [List.length_erase_of_mem hx] at ih
    have := List.length_pos_of_mem hx
    rw [List.length_cons]; omega
end VL
set_option Elab.async false
set_option linter.all false
set_option maxRecDepth 100000
set_option maxHeartbeats 4000000
namespace VL
open PySem PySem.Spec L2 RT RZ PyProof.Rows
theorem drawsT {prog : Program} {w : World} {A : Around} (hh : A.handled = none) (it l : Addr) (hne : l ≠ it) (items : Array Value) :
    Draws prog w A it [it, l] items.size (fun i v => items[i]? = some v) (fun i h => h.IsTupleIter it l i ∧ h.IsTuple l items) := by
  refine ⟨fun _ _ st => ?_, fun _ _ _ st k => ⟨st.1.at fun o e => k it (by simp) o e, ?_⟩, fun i s Q E hi st hQ => ?_, fun s Q E st hE => nextOf_tuple_end hh st.1 st.2 (by simp) hE⟩
  · obtain ⟨⟨o, ho, _⟩, _⟩ := st
    exact ⟨o, ho⟩
  · obtain ⟨_, o, ho, r⟩ := st
    exact ⟨o, k l (by simp) o ho, r⟩
  · exact nextOf_tuple_item st.1 st.2 (x := items[i]) (by simp [hi]) fun h' a b => hQ _ h' s.toks (by simp [hi]) ⟨a, st.2.extBut b.extBut hne⟩ b
abbrev mH1 (h : Heap) (a : Addr) : Heap := h.push { cls := .type "list_iterator", data := .fields #[.ref a, .int 0 0] }
abbrev mH2 (h : Heap) (a b : Addr) : Heap := (mH1 h a).push { cls := .type "tuple_iterator", data := .fields #[.ref b, .int 0 0] }
abbrev mH3 (h : Heap) (a b : Addr) : Heap := (mH2 h a b).push { cls := .type "tuple", data := .seq #[.ref h.objs.size, .ref (mH1 h a).objs.size] }
abbrev mH4 (h : Heap) (a b : Addr) : Heap := (mH3 h a b).push { cls := .type "tuple", data := .seq #[.none, .none] }
abbrev mH5 (h : Heap) (a b : Addr) : Heap := (mH4 h a b).push { cls := .type "zip", data := .fields #[.none, .bool false, .bool false, .ref (mH2 h a b).objs.size, .ref (mH3 h a b).objs.size] }
theorem meets_mixed (a b : Addr) (xs ys : Array Value) :
    Meets (Builtin.«zip.__new__» ⟨[.type "zip", .ref a, .ref b], []⟩) (fun _ R s => s.heap.IsList a xs ∧ s.heap.IsTuple b ys ∧ R (.ok (.ret (.ref (mH4 s.heap a b).objs.size))) { s with heap := mH5 s.heap a b }) :=
  .of_wp fun prog w A R s ⟨h1, h2, h⟩ => by
    obtain ⟨hp, g, d, tk, os⟩ := s
    have hsub := sub_zip
    have k1 : Heap.IsList (Shared.heap ⟨hp, g, d, tk, os⟩) a xs := h1
    have k2 : Heap.IsTuple (Shared.heap ⟨hp.push { cls := .type "list_iterator", data := .fields #[.ref a, .int 0 0] }, g, d, tk, os⟩) b ys := Heap.IsTuple.push h2 _
    wp_walk using wpAny_pyIter_list k1, wpAny_pyIter_tuple k2
    exact ⟨_, rfl, h⟩
section
variable {prog : Program} {w : World} {A : Around} {E : Value → Shared → Prop} {s : Shared}
theorem call_mixed {a b : Addr} {xs ys : Array Value} {Q : Value → Shared → Prop} (h1 : s.heap.IsList a xs) (h2 : s.heap.IsTuple b ys)
    (h : ∀ h' n, n = s.heap.objs.size → IsZip h' (n + 4) (n + 2) (n + 3) .none → IsPair h' (n + 2) (.ref n) (.ref (n + 1)) → IsPair h' (n + 3) .none .none → h'.IsListIter n a 0 → h'.IsTupleIter (n + 1) b 0 →
      (∀ c o, s.heap.get? c = some o → h'.get? c = some o) → Q (.ref (n + 4)) { s with heap := h' }) :
    wpAny (model prog w) A (call (.type "zip") [.ref a, .ref b]) Q E s := by
  refine callType_new F.called_zip (by decide) (F.typeCall_zip_2 _ _) (F.newCall_zip_2 _ _) (fun obj => F.args_object_init_3 obj _ _) F.entry_zip_new (meets_mixed a b xs ys) ⟨h1, h2, ?_⟩
  have z1 : (mH1 s.heap a).objs.size = s.heap.objs.size + 1 := Heap.size_push ..
  have z2 : (mH2 s.heap a b).objs.size = s.heap.objs.size + 2 := by rw [Heap.size_push, z1]
  have z3 : (mH3 s.heap a b).objs.size = s.heap.objs.size + 3 := by rw [Heap.size_push, z2]
  have z4 : (mH4 s.heap a b).objs.size = s.heap.objs.size + 4 := by rw [Heap.size_push, z3]
  have up : ∀ {hp : Heap} {c : Addr} {o o' : Obj}, hp.get? c = some o → (hp.push o').get? c = some o := fun e => Heap.get?_push_of_some _ e
  have g5 : (mH5 s.heap a b).get? (mH4 s.heap a b).objs.size = some _ := Heap.get?_push_size _ rfl
  have g4 : (mH5 s.heap a b).get? (mH3 s.heap a b).objs.size = some _ := up (Heap.get?_push_size _ rfl)
  have g3 : (mH5 s.heap a b).get? (mH2 s.heap a b).objs.size = some _ := up (up (Heap.get?_push_size _ rfl))
  have g2 : (mH5 s.heap a b).get? (mH1 s.heap a).objs.size = some _ := up (up (up (Heap.get?_push_size _ rfl)))
  have g1 : (mH5 s.heap a b).get? s.heap.objs.size = some _ := up (up (up (up (Heap.get?_push_size _ rfl))))
  show _ ∧ _
  rw [z2, z3, z4] at g5
  rw [z1, z2] at g3
  rw [z3] at g4
  rw [z1] at g2
  rw [z4]
  exact ⟨⟨_, g5, rfl⟩, h _ _ rfl g5 g3 g4 ⟨_, g1, rfl, rfl⟩ ⟨_, g2, rfl, rfl⟩ fun c o x => up (up (up (up (up x))))⟩
end
end VL
set_option Elab.async false
set_option linter.all false
set_option maxRecDepth 100000
set_option maxHeartbeats 4000000
namespace VL
open PySem PySem.Spec L2 RT RZ PyProof.Rows
def ItM (K : PySem.W.Frag) (a b : Addr) : It :=
  ⟨fun i H => ∃ (xs ys : List V) (x y : V), SqL K H a xs ∧ SqT K H b ys ∧ xs[i]? = some x ∧ ys[i]? = some y,
    fun i H v H' => ∃ T x y, v = .ref T ∧ H T = none ∧ H' = upd H T (.tup [x, y]) ∧ (∀ xs, SqL K H a xs → xs[i]? = some x) ∧ ∀ ys, SqT K H b ys → ys[i]? = some y,
    fun i H => ∃ xs ys : List V, SqL K H a xs ∧ SqT K H b ys ∧ (i = xs.length ∧ i ≤ ys.length ∨ i = ys.length ∧ i ≤ xs.length)⟩
/-- the cells of the zip, and what it goes over, lie apart -/
structure Apt (z TI TO i j a b : Addr) : Prop where
  ne : [z, TI, TO, i, j].Nodup
  na : a ∉ [z, TI, TO, i, j]
  nb : b ∉ [z, TI, TO, i, j]
theorem Apt.sep {z TI TO i j a b : Addr} (D : Apt z TI TO i j a b) : ZipSep2 z TI TO i j [i, a] [j, b] := by
  obtain ⟨ne, na, nb⟩ := D
  simp only [List.nodup_cons, List.mem_cons, List.not_mem_nil, or_false, not_or] at ne na nb
  obtain ⟨⟨z1, z2, z3, z4⟩, ⟨t1, t2, t3⟩, ⟨o1, o2⟩, c, _⟩ := ne
  obtain ⟨a1, a2, a3, a4, a5⟩ := na
  obtain ⟨b1, b2, b3, b4, b5⟩ := nb
  constructor <;> simp only [List.mem_cons, List.not_mem_nil, or_false, not_or, true_or, ne_eq] <;> first | trivial | (constructor <;> (intro e; simp_all)) | (intro e; simp_all)
theorem turn_mixed {P : Program} {w : World} {K : PySem.W.Frag} {elts : List Expr} {kk : Nat} {tpos : Pos} {a b z TI TO i1 i2 : Addr} (D : Apt z TI TO i1 i2 a b) :
    Turn P w K (.Tuple elts kk tpos) (ItM K a b) [z, TI, TO, i1, i2] z (fun i h => IsZip h z TI TO .none ∧ IsPair h TI (.ref i1) (.ref i2) ∧ (∃ x y, IsPair h TO x y) ∧ h.IsListIter i1 a i ∧ h.IsTupleIter i2 b i) := by
  have S := D.sep
  have ia : a ≠ i1 := fun e => D.na (by simp [e])
  have ib : b ≠ i2 := fun e => D.nb (by simp [e])
  constructor
  case mem => simp
  case obj =>
    rintro i h ⟨hz, hTI, ⟨x, y, hTO⟩, ⟨o1, e1, _, d1⟩, ⟨o2, e2, _, d2⟩⟩ c hc
    simp only [List.mem_cons, List.not_mem_nil, or_false] at hc
    rcases hc with rfl | rfl | rfl | rfl | rfl
    · exact ⟨_, hz, fun v q => nomatch q⟩
    · exact ⟨_, hTI, fun v q => nomatch q⟩
    · exact ⟨_, hTO, fun v q => nomatch q⟩
    · exact ⟨o1, e1, fun v q => by rw [d1] at q; cases q⟩
    · exact ⟨o2, e2, fun v q => by rw [d2] at q; cases q⟩
  case keep =>
    rintro i h h' ⟨hz, hTI, ⟨x, y, hTO⟩, h1, h2⟩ k
    exact ⟨k z (by simp) _ hz, k TI (by simp) _ hTI, ⟨x, y, k TO (by simp) _ hTO⟩, h1.at fun o q => k i1 (by simp) o q, h2.at fun o q => k i2 (by simp) o q⟩
  case item =>
    rintro X rfl rfl rfl hc i pins s σ H E I hf ⟨hz, hTI, ⟨x0, y0, hTO⟩, h1, h2⟩ ⟨xs, ys, x, y, hqx, hqy, hx, hy⟩
    obtain ⟨its, rv, p, _⟩ := I.list hqx
    obtain ⟨its2, rv2, p2, _⟩ := I.tuple hqy
    obtain ⟨u, hu, ru⟩ := rv.get hx
    obtain ⟨u2, hu2, ru2⟩ := rv2.get hy
    have hzl := Heap.lt_size hz
    have hh : X.A.in1.handled = none := by simpa using I.ok.hd hc
    refine wpAny_pyNext_zipD2_item S (Draws.list hh i1 a ia its.toArray) (drawsT hh i2 b ib its2.toArray) hz hTI hTO ⟨h1, p.isList⟩ ⟨h2, p2⟩ (by simpa using (List.getElem?_eq_some_iff.mp hu).1) (by simpa using (List.getElem?_eq_some_iff.mp hu2).1) fun v v2 h' tk e1 e2 z' TO' s1' s2' hT hsz hk => ?_
    have ev : v = u := by rw [show its.toArray[i]? = some u by simpa using hu] at e1; exact (Option.some.inj e1).symm
    have ev2 : v2 = u2 := by rw [show its2.toArray[i]? = some u2 by simpa using hu2] at e2; exact (Option.some.inj e2).symm
    subst ev ev2
    refine ⟨_, rfl, wpAny_letOwnedTupleGo_zip (s := { s with heap := h', toks := tk }) z' fun h'' z'' sb => ?_⟩
    have hT2 : h''.get? s.heap.objs.size = some { cls := .type "tuple", data := .seq #[v, v2] } := (sb.2 _ (Nat.ne_of_gt hzl)).trans hT
    have new : ObjOk X.prog X.w (upd H s.heap.objs.size (.tup [x, y])) h'' s.heap.objs.size (.tup [x, y]) :=
      ⟨by show 2 ≤ sizeLine; decide, [v, v2], .cons ru (.cons ru2 .nil), ⟨_, hT2, rfl, _, rfl⟩⟩
    have hfr : H s.heap.objs.size = none := I.hok.fresh (Nat.le_refl _)
    refine ⟨.ref s.heap.objs.size, upd H s.heap.objs.size (.tup [x, y]), ?_, rfl, ⟨_, x, y, rfl, hfr, rfl, fun l hl => ?_, fun l hl => ?_⟩, ⟨z'', ?_, ⟨v, v2, ?_⟩, ?_, ?_⟩, fun c hcm => ?_⟩
    · refine I.turnedNew (t' := tk) (ch := [z, TI, TO, i1, i2]) (fun c o hb q => ?_) hf (Nat.le_refl _) new
      simp only [List.mem_cons, List.not_mem_nil, or_false, not_or] at hb
      exact (sb.2 c hb.1).trans (hk c o hb.1 hb.2.2.1 hb.2.2.2.1 hb.2.2.2.2 q)
    · rw [I.list_inj hl hqx]; exact hx
    · rw [I.tuple_inj hl hqy]; exact hy
    · exact (sb.2 _ S.TIz).trans (hk _ _ S.TIz S.TITO S.TIi1 S.TIi2 hTI)
    · exact (sb.2 _ S.TOz).trans TO'
    · exact s1'.1.at fun o q => (sb.2 _ (S.zi1).symm).trans q
    · exact s2'.1.at fun o q => (sb.2 _ (S.zi2).symm).trans q
    · have hlt : c < s.heap.objs.size := by
        simp only [List.mem_cons, List.not_mem_nil, or_false] at hcm
        obtain ⟨_, q1, _⟩ := h1
        obtain ⟨_, q2, _⟩ := h2
        rcases hcm with rfl | rfl | rfl | rfl | rfl
        · exact hzl
        · exact Heap.lt_size hTI
        · exact Heap.lt_size hTO
        · exact Heap.lt_size q1
        · exact Heap.lt_size q2
      rw [upd_ne (Nat.ne_of_lt hlt)]
      exact (hf c hcm).1
  case done =>
    rintro X rfl rfl rfl hc i pins s σ H E I hf ⟨hz, hTI, ⟨x0, y0, hTO⟩, h1, h2⟩ ⟨xs, ys, hqx, hqy, hend⟩
    obtain ⟨its, rv, p, _⟩ := I.list hqx
    obtain ⟨its2, rv2, p2, _⟩ := I.tuple hqy
    have l1 := rv.length
    have l2 := rv2.length
    have hh : X.A.in1.handled = none := by simpa using I.ok.hd hc
    refine wpAny_pyNext_zipD2_end S (Draws.list hh i1 a ia its.toArray) (drawsT hh i2 b ib its2.toArray) hz hTI hTO ⟨h1, p.isList⟩ ⟨h2, p2⟩ (by simp; omega) (by simp; omega) (by simp; omega) fun h' tk hk => ⟨rfl, I.turnedL (t' := tk) (ch := [z, TI, TO, i1, i2]) (fun c o hb q => ?_) hf⟩
    simp only [List.mem_cons, List.not_mem_nil, or_false, not_or] at hb
    exact hk c o hb.1 hb.2.2.1 hb.2.2.2.1 hb.2.2.2.2 q
  case self => exact fun A i s Q E st h => wpAny_pyIter_zip st.1 h
def iZM (K : PySem.W.Frag) (ta : TA) : TI := fun σ H R => ta σ H fun vs H1 => ∃ a b xs ys, vs = [.ref a, .ref b] ∧ SqL K H1 a xs ∧ SqT K H1 b ys ∧ R (ItM K a b) H1
theorem apt_new {n a b : Addr} (ha : a < n) (hb : b < n) : Apt (n + 4) (n + 2) (n + 3) n (n + 1) a b := by
  have ne : ∀ {x y : Nat}, x ≠ y → ¬ @Eq Addr x y := fun h => h
  have ha : @LT.lt Nat _ a n := ha
  have hb : @LT.lt Nat _ b n := hb
  refine ⟨?_, ?_, ?_⟩
  · simp only [List.nodup_cons, List.mem_cons, List.not_mem_nil, or_false, not_or]
    exact ⟨⟨ne (by omega), ne (by omega), ne (by omega), ne (by omega)⟩, ⟨ne (by omega), ne (by omega), ne (by omega)⟩, ⟨ne (by omega), ne (by omega)⟩, ne (by omega), fun h => h, List.nodup_nil⟩
  all_goals
    simp only [List.mem_cons, List.not_mem_nil, or_false, not_or]
    exact ⟨ne (by omega), ne (by omega), ne (by omega), ne (by omega), ne (by omega)⟩
theorem pi_mixed {X : Cx} {e e2 : Expr} {ta : TA} {p pos tpos : Pos} {elts : List Expr} {kk : Nat} (hg : Gl X "zip") (hm : X.mg "zip" = none) (ha : PA X [e, e2] ta)
    (hs : starEach [e, e2] X.env = (false, eval e X.env) :: starEach [e2] X.env := by rfl) (hpl : (backTo pos (starEach [e2] X.env)).any (·.1) = false := by rfl) :
    PI X (.Tuple elts kk tpos) (.Call (.Name "zip" p) [e, e2] [] pos) (iZM X.K ta) := by
  refine ⟨fun pins s σ H R I h => Call_ (ld_blt I hg hm PyProof.Rows.boot_zip (PyProof.Rows.callWith_type1 (thn (ha.run pos pins s σ H _ I h) fun us s1 ⟨vs, H1, I1, r1, a, b, xs, ys, ex, qx, qy, q⟩ => ?_) hs hpl))⟩
  subst ex
  obtain ⟨u, u2, rfl, ea, eb⟩ : ∃ u u2, us = [u, u2] ∧ u = .ref a ∧ u2 = .ref b := by
    cases r1 with
    | cons r rr => cases rr with
      | cons r' rr => cases rr; exact ⟨_, _, rfl, r, r'⟩
  subst ea eb
  obtain ⟨its, rv, p1, _⟩ := I1.list qx
  obtain ⟨its2, rv2, p2, _⟩ := I1.tuple qy
  obtain ⟨o2, ho2, _⟩ := id p2
  refine call_mixed p1.isList (show s1.heap.IsTuple b its2.toArray from p2) fun h' n hn hz hTI hTO h1 h2 hk => wpAny_pyIter_zip hz ?_
  subst hn
  refine ⟨_, [s1.heap.objs.size + 4, s1.heap.objs.size + 2, s1.heap.objs.size + 3, s1.heap.objs.size, s1.heap.objs.size + 1], _, _, H1, rfl, I1.kept (t' := s1.toks) hk, turn_mixed (apt_new p1.lt (Heap.lt_size ho2)), ⟨hz, hTI, ⟨_, _, hTO⟩, h1, h2⟩, fun c hc => ?_, q⟩
  have hle : s1.heap.objs.size ≤ c := by
    simp only [List.mem_cons, List.not_mem_nil, or_false] at hc
    rcases hc with rfl | rfl | rfl | rfl | rfl
    · exact Nat.le_add_right _ _
    · exact Nat.le_add_right _ _
    · exact Nat.le_add_right _ _
    · exact Nat.le_refl _
    · exact Nat.le_add_right _ _
  exact I1.fpOk hle (I1.hok.fresh hle)
/-- over pairs of a list's and a tuple's items -/
def iZm (t : TA') : TI' := fun δ M Q => t δ M fun xs M1 => match xs with
  | [a, .d (.tup bs)] => ok (lstD M1 a) fun as => Q (zipL as bs) (gdS a as) M1
  | _ => False
theorem zm_of {xs : List Sv} {M : Mem} {Q : List D → (Mem → Prop) → Mem → Prop} (h : (match xs with
  | [a, .d (.tup bs)] => ok (lstD M a) fun as => Q (zipL as bs) (gdS a as) M
  | _ => False)) : ∃ a as bs, xs = [a, .d (.tup bs)] ∧ lstD M a = some as ∧ Q (zipL as bs) (gdS a as) M := by
  split at h
  · obtain ⟨as, ea, h⟩ := ok_elim h
    exact ⟨_, as, _, rfl, ea, h⟩
  · exact h.elim
theorem vi_zipM {K : PySem.W.Frag} {X : Cx} {G : Gd} {e e2 : Expr} {pos p : Pos} {bd : Bool} {elts : List Expr} {kk : Nat} {tpos : Pos} {tA : TA'} (hg : Gl X "zip") (hm : X.mg "zip" = none) (ha : VA X G [e, e2] 2 tA) (hs : starEach [e, e2] X.env = (false, eval e X.env) :: starEach [e2] X.env := by rfl) (hpl : ((backTo pos (starEach [e2] X.env)).any fun x => x.1) = false := by rfl) :
    VI X G bd (.Tuple elts kk tpos) (.Call (.Name "zip" p) [e, e2] [] pos) (iZm tA) := by
  have hi := pi_mixed (tpos := tpos) (elts := elts) (kk := kk) (p := p) (pos := pos) hg hm ha hs hpl
  refine ⟨fun pins s σ H R I ⟨δ, M, ι, Q0, S, q, z⟩ => hi.run pins s σ H R I ?_⟩
  refine thA S q fun xs M1 ι1 H1 vs hl q1 p1 k1 S1 r1 => ?_
  obtain ⟨x, as, bs, rfl, ea, q2⟩ := zm_of q1
  obtain ⟨v, u, rfl, ra, rb⟩ := two_of r1
  obtain ⟨a1, rfl, ⟨xs, hq, _⟩, hl1, st⟩ := list_stays S1 ra ea
  obtain ⟨a2, rfl, ⟨ys, hq2⟩, hl2, st2⟩ := tup_stays rb
  refine ⟨a1, a2, xs, ys, rfl, hq, hq2, z _ _ M1 ι1 H1 _ (fun _ => by unfold zipL; rw [List.length_map, List.length_zip]; omega) q2 p1 k1 S1 ?_⟩
  intro G2 δ2 M2 ι2 σ2 H2 hn2 S2 e2 k2 hg
  obtain ⟨xs, qx, rx⟩ := st G2 δ2 M2 ι2 σ2 H2 hn2 S2 e2 k2 hg
  obtain ⟨ys, qy, ry⟩ := st2 G2 ι2 H2 hn2 k2
  refine ⟨⟨xs, ys, qx, qy, by have := rx.length; have := ry.length; simp only [zipL, List.length_map, List.length_zip]; omega⟩, fun i d hd => ?_⟩
  obtain ⟨d1, d2, h1, h2, rfl⟩ := zip_get hd
  obtain ⟨x, hx, rxx⟩ := rx.get h1
  obtain ⟨y, hy, ryy⟩ := ry.get h2
  refine ⟨⟨xs, ys, x, y, qx, qy, hx, hy⟩, fun v H3 hyl => ?_⟩
  obtain ⟨T, x1, y1, rfl, hT, rfl, h5, h6⟩ := hyl
  have h5 := h5 xs qx
  have h6 := h6 ys qy
  rw [hx] at h5; cases h5
  rw [hy] at h6; cases h6
  exact ⟨.inr ⟨T, _, hT, rfl⟩, fin_pair S2 hT rxx ryy⟩
end VL
set_option Elab.async false
set_option linter.all false
set_option maxRecDepth 100000
set_option maxHeartbeats 1000000
namespace VL
open PySem PySem.Spec L2 RT RZ
end VL
set_option Elab.async false
set_option linter.all false
set_option maxRecDepth 100000
set_option maxHeartbeats 4000000
namespace VL
open PySem PySem.Spec L2
end VL
set_option Elab.async false
set_option linter.all false
set_option maxRecDepth 100000
set_option maxHeartbeats 1000000
namespace VL
open PySem PySem.Spec L2 RT RZ
abbrev TGs' := List D → DS → Mem → (DS → Mem → Prop) → Prop
def gsN : TGs' := fun ds δ M Q => ds = [] ∧ Q δ M
def gsC (g : TG') (r : TGs') : TGs' := fun ds δ M Q => match ds with
  | d :: ds => g d δ M fun δ' M' => r ds δ' M' Q
  | [] => False
def gTG (n : Nat) (r : TGs') : TG' := fun d δ M Q => match d with
  | .tup ds => ds.length = n ∧ r ds δ M Q
  | _ => False
def lGG (K : PySem.W.Frag) (G : Gd) (r : TGs') : TGs := fun vs σ H Q => ∃ ds δ M ι Q0, Sr K G δ M ι σ H ∧ RDs K G.N H ι ds vs ∧ r ds δ M Q0 ∧
  ∀ δ' M' ι' σ' H', Q0 δ' M' → Ex ι ι' → Kp ι H ι' H' → Sr K G δ' M' ι' σ' H' → Q σ' H'
section
variable {K : PySem.W.Frag} {X : Cx} {G : Gd} {e a b c : Expr} {es : List Expr} {pos : Pos}
theorem vgg_nil : PGs X [] (lGG X.K G gsN) := by
  refine ⟨fun pins s σ H vs us Q I r ⟨ds, δ, M, ι, Q0, S, rd, q, z⟩ => pgs_nil.run pins s σ H vs us Q I r ?_⟩
  obtain ⟨rfl, q⟩ := q
  exact ⟨rd, z δ M ι σ H q (Ex.refl _) (Kp.refl _ _) S⟩
theorem vgg_cons {g : TG'} {r : TGs'} (hg : VG X G e g) (hr : PGs X es (lGG X.K G r))
    (hs : (assignEach (e :: es) X.env).map (·.2) = assign e X.env :: (assignEach es X.env).map (·.2) := by rfl) : PGs X (e :: es) (lGG X.K G (gsC g r)) := by
  have h := pgs_cons hg hr hs
  refine ⟨fun pins s σ H vs us Q I rr ⟨ds, δ, M, ι, Q0, S, rd, q, z⟩ => h.run pins s σ H vs us Q I rr ?_⟩
  cases ds with
  | nil => exact q.elim
  | cons d ds =>
    obtain ⟨v, vr, rfl, r1, r2⟩ := rd
    refine ⟨v, vr, rfl, d, δ, M, ι, _, S, r1, q, fun δ' M' ι' σ' H' q' p' k' S' => ?_⟩
    exact ⟨ds, δ', M', ι', Q0, S', r2.mono k' fun _ _ _ _ z => z, q', fun δ2 M2 ι2 σ2 H2 q2 p2 k2 S2 => z δ2 M2 ι2 σ2 H2 q2 (p'.trans p2) (k'.trans k2) S2⟩
theorem vgg_tup {r : TGs'} {n k : Nat} (hc : X.calm = true) (h : PGs X es (lGG X.K G r)) (hn : (assignEach es X.env).length = n := by rfl) (hst : (assignEach es X.env).findIdx? (·.1) = none := by rfl) : VG X G (.Tuple es k pos) (gTG n r) := by
  have hg := pg_tup (pos := pos) (k := k) hc h hn hst
  refine ⟨fun pins s σ H v u Q I rr ⟨d, δ, M, ι, Q0, S, rd, q, z⟩ => hg.run pins s σ H v u Q I rr ?_⟩
  unfold gTG at q
  split at q
  · rename_i ds
    obtain ⟨hl, q⟩ := q
    obtain ⟨a, xs, rfl, hq, _, r2⟩ := rd
    exact ⟨a, xs, rfl, tup_sq hq, by rw [← r2.length]; exact hl, ds, δ, M, ι, Q0, S, r2, q, z⟩
  · exact q.elim
end
end VL
set_option Elab.async false
set_option linter.all false
set_option maxRecDepth 100000
set_option maxHeartbeats 1000000
namespace VL
open PySem PySem.Spec L2 RT RZ
def sealL (m0 : Nat) : Mem → List Sv → Option (List Sv × Mem)
  | M, [] => some ([], M)
  | M, x :: xs => (sealD m0 M x).bind fun r => (sealL m0 r.2 xs).map fun q => (r.1 :: q.1, q.2)
def aSeal (m0 : Nat) (t : TA') : TA' := fun δ M Q => t δ M fun xs M1 => ok (sealL m0 M1 xs) fun r => Q r.1 r.2
section
variable {K : PySem.W.Frag} {X : Cx} {G : Gd} {es : List Expr} {tA : TA'} {δ : DS} {M : Mem} {ι : Ix} {σ : L2.St} {H : Hp}
theorem seal_rd {m0 : Nat} (hG : G.i0.length = m0) {d : Sv} {v : V} {r : Sv × Mem} (S : Sr K G δ M ι σ H) (rx : RS K G.N H ι d v) (e : sealD m0 M d = some r) :
    ∃ ι', Sr K G δ r.2 ι' σ H ∧ Ex ι ι' ∧ Kp ι H ι' H ∧ RS K G.N H ι' r.1 v := by
  cases d with
  | d x => cases e; exact ⟨ι, S, Ex.refl _, Kp.refl _ _, rx⟩
  | bor ds => cases e; exact ⟨ι, S, Ex.refl _, Kp.refl _ _, rx⟩
  | ref n =>
    by_cases hn : m0 ≤ n
    · rw [show sealD m0 M (.ref n) = (if m0 ≤ n then (cellL M[n]?).map fun ds => (.d (.lst ds), M.set n .gone) else none) from rfl, if_pos hn] at e
      obtain ⟨ds, e1, rfl⟩ := Option.map_eq_some_iff.mp e
      obtain ⟨a, rfl, ha, _⟩ := S.mem.at rx (cellL_some e1) (fun z => nomatch z)
      obtain ⟨S2, e2, k2, r2⟩ := S.seal ha (by omega) (cellL_some e1)
      exact ⟨_, S2, e2, k2, r2⟩
    · rw [show sealD m0 M (.ref n) = (if m0 ≤ n then (cellL M[n]?).map fun ds => (.d (.lst ds), M.set n .gone) else none) from rfl, if_neg hn] at e; cases e
theorem sealL_rd {m0 : Nat} (hG : G.i0.length = m0) : ∀ {xs : List Sv} {vs : List V} {M : Mem} {ι : Ix} {r : List Sv × Mem}, Sr K G δ M ι σ H → RSs K G.N H ι xs vs → sealL m0 M xs = some r →
    ∃ ι', Sr K G δ r.2 ι' σ H ∧ Ex ι ι' ∧ Kp ι H ι' H ∧ RSs K G.N H ι' r.1 vs ∧ r.1.length = xs.length
  | [], vs, M, ι, r, S, rx, e => by cases e; exact ⟨ι, S, Ex.refl _, Kp.refl _ _, rx, rfl⟩
  | x :: xs, vs, M, ι, r, S, rx, e => by
    obtain ⟨v, vr, rfl, r1, r2⟩ := rx
    obtain ⟨q1, e1, e⟩ := Option.bind_eq_some_iff.mp (show (sealD m0 M x).bind _ = some r from e)
    obtain ⟨q2, e2, rfl⟩ := Option.map_eq_some_iff.mp e
    obtain ⟨ι1, S1, p1, k1, z1⟩ := seal_rd hG S r1 e1
    obtain ⟨ι2, S2, p2, k2, z2, l2⟩ := sealL_rd hG S1 (r2.mono k1 p1 fun _ _ _ _ z => z) e2
    exact ⟨ι2, S2, p1.trans p2, k1.trans k2, ⟨v, vr, rfl, z1.mono k2 p2 fun _ _ _ _ z => z, z2⟩, by simp [l2]⟩
theorem VA.seal {m0 n : Nat} (hG : G.i0.length = m0) (h : VA X G es n tA) : VA X G es n (aSeal m0 tA) :=
  ⟨fun pos pins s σ H Q I ⟨δ, M, ι, Q0, S, q, z⟩ => h.run pos pins s σ H Q I ⟨δ, M, ι, _, S, q, fun xs M' ι' H' vs hl h1 p1 k1 S1 r1 => by
    obtain ⟨r, e, h1⟩ := ok_elim h1
    obtain ⟨ι2, S2, e2, k2, r2, l2⟩ := sealL_rd hG S1 r1 e
    exact z _ _ _ _ vs (by first | exact hl | (rw [l2]; exact hl)) h1 (p1.trans e2) (k1.trans k2) S2 r2⟩⟩
end
end VL
set_option Elab.async false
set_option linter.all false
set_option maxRecDepth 100000
set_option maxHeartbeats 2000000
namespace VL
open PySem PySem.Spec L2 RT RZ PyProof.Rows
mutual
/-- a value that is this key -/
def KeyV (K : PySem.W.Frag) (H : Hp) : NestedKey → V → Prop
  | .none, v => v = .non
  | .num i, v => v = .int i
  | .text _, _ => False
  | .tup ks, v => ∃ a xs, v = .ref a ∧ SqT K H a xs ∧ KeyVs K H ks xs
def KeyVs (K : PySem.W.Frag) (H : Hp) : List NestedKey → List V → Prop
  | [], xs => xs = []
  | k :: ks, xs => ∃ x r, xs = x :: r ∧ KeyV K H k x ∧ KeyVs K H ks r
end
def KeyT (K : PySem.W.Frag) (H : Hp) (k : NestedKey) (b : Addr) : Prop := KeyV K H k (.ref b) ∧ k.depth ≤ 8 ∧ nplain k = true
def DnAll (K : PySem.W.Frag) (H : Hp) (xs : List (NestedKey × Addr × V)) : Prop := ∀ x ∈ xs, KeyT K H x.1 x.2.1
def valNV (xs : List (NestedKey × Addr × V)) (k : NestedKey) : Option V := (xs.find? fun x => decide (x.1 = k)).map fun x => x.2.2
def putNV (xs : List (NestedKey × Addr × V)) (k : NestedKey) (b : Addr) (v : V) : List (NestedKey × Addr × V) :=
  if (xs.any fun x => decide (x.1 = k)) = true then xs.map (fun x => if x.1 = k then (x.1, x.2.1, v) else x) else xs ++ [(k, b, v)]
abbrev PN : List (NestedKey × Addr × V) → List (NestedKey × Addr × Value) → Prop := Paired (fun (p : NestedKey × Addr × V) (q : NestedKey × Addr × Value) => p.1 = q.1 ∧ p.2.1 = q.2.1 ∧ RelV p.2.2 q.2.2)
theorem PN.any {xs : List (NestedKey × Addr × V)} {ys : List (NestedKey × Addr × Value)} (r : PN xs ys) (k : NestedKey) : (xs.any fun x => decide (x.1 = k)) = (atKey ys k).isSome := by
  induction r with
  | nil => rfl
  | @cons p q ps qs h t ih =>
    rw [List.any_cons, ih]
    unfold atKey
    rw [List.find?_cons, h.1]
    by_cases e : q.1 = k
    · rw [decide_eq_true e]; rfl
    · rw [decide_eq_false e, Bool.false_or]
theorem PN.val {xs : List (NestedKey × Addr × V)} {ys : List (NestedKey × Addr × Value)} (r : PN xs ys) (k : NestedKey) : RelO (valNV xs k) ((atKey ys k).map (·.2)) := by
  induction r with
  | nil => trivial
  | @cons p q ps qs h t ih =>
    unfold valNV atKey at *
    rw [List.find?_cons, List.find?_cons, h.1]
    by_cases e : q.1 = k
    · rw [decide_eq_true e]; exact h.2.2
    · rw [decide_eq_false e]; exact ih
theorem PN.repl {xs : List (NestedKey × Addr × V)} {ys : List (NestedKey × Addr × Value)} (r : PN xs ys) (k : NestedKey) {v : V} {u : Value} (ru : RelV v u) : PN (xs.map fun x => if x.1 = k then (x.1, x.2.1, v) else x) (ys.map (putAt k u)) := by
  induction r with
  | nil => exact .nil
  | @cons p q ps qs h t ih =>
    rw [List.map_cons, List.map_cons]
    refine .cons ?_ ih
    unfold putAt
    by_cases e : q.1 = k
    · rw [if_pos (h.1.trans e), if_pos e]; exact ⟨h.1, h.2.1, ru⟩
    · rw [if_neg (fun z => e (h.1.symm.trans z)), if_neg e]; exact h
theorem PN.put {xs : List (NestedKey × Addr × V)} {ys : List (NestedKey × Addr × Value)} (r : PN xs ys) (k : NestedKey) (b : Addr) {v : V} {u : Value} (ru : RelV v u) : PN (putNV xs k b v) (storedH ys k b u) := by
  unfold putNV storedH
  rw [r.any k]
  by_cases q : (atKey ys k).isSome = true
  · rw [if_pos q, if_pos q]; exact r.repl k ru
  · rw [if_neg q, if_neg q]; exact Paired.snoc r ⟨rfl, rfl, ru⟩
theorem putNV_len {xs : List (NestedKey × Addr × V)} {k : NestedKey} {b : Addr} {v : V} : (putNV xs k b v).length ≤ xs.length + 1 := by
  unfold putNV
  split <;> simp
theorem putNV_all {K : PySem.W.Frag} {H : Hp} {xs : List (NestedKey × Addr × V)} {k : NestedKey} {b : Addr} {v : V} (h : DnAll K H xs) (hk : KeyT K H k b) : DnAll K H (putNV xs k b v) := by
  unfold putNV
  split
  · intro x hx
    obtain ⟨y, hy, rfl⟩ := List.mem_map.mp hx
    have := h y hy
    split <;> exact this
  · intro x hx
    rcases List.mem_append.mp hx with hx | hx
    · exact h x hx
    · rw [List.mem_singleton.mp hx]; exact hk
section
variable {X : Cx} {pins : List (Addr × Obj)} {σ : L2.St} {H : Hp} {s : Shared} {a b : Addr} {y v : V} {u r : Value} {A : Around} {E : Value → Shared → Prop} {xs : List (NestedKey × Addr × V)} {k : NestedKey}
mutual
theorem key_is (I : Inv X pins σ H s) : ∀ (k : NestedKey) (v : V) (u : Value), KeyV X.K H k v → RelV v u → NestedIs s.heap k u
  | .none, v, u, h, ru => by
    cases (show v = .non from h)
    cases (show u = .none from ru)
    exact .none
  | .num i, v, u, h, ru => by
    cases (show v = .int i from h)
    obtain ⟨t, rfl⟩ := (show ∃ t, u = Value.int i t from ru)
    exact .int _ _
  | .text _, _, _, h, _ => h.elim
  | .tup ks, v, u, h, ru => by
    obtain ⟨a, xs, rfl, hq, hk⟩ := h
    cases (show u = .ref a from ru)
    obtain ⟨its, rv, ⟨o, ho, hc, n, hd⟩, _⟩ := I.tuple hq
    exact .tup ho hc hd (by simpa using keys_are I ks xs its hk rv)
theorem keys_are (I : Inv X pins σ H s) : ∀ (ks : List NestedKey) (xs : List V) (us : List Value), KeyVs X.K H ks xs → Vals xs us → NestedAll s.heap ks us
  | [], xs, us, h, ru => by
    cases (show xs = [] from h)
    cases ru
    exact .nil
  | k :: ks, xs, us, h, ru => by
    obtain ⟨x, r, rfl, h1, h2⟩ := h
    cases ru with
    | cons r1 r2 => exact .cons (key_is I k x _ h1 r1) (keys_are I ks r _ h2 r2)
end
theorem KeyT.is (I : Inv X pins σ H s) (h : KeyT X.K H k b) : (nestedKind X.prog X.w).is s.heap k b := ⟨key_is I k _ _ h.1 rfl, h.2.1⟩
theorem nEnt_eq {ys : List (NestedKey × Addr × Value)} (h : ∀ q ∈ ys, nplain q.1 = true) : ys.map nEnt = ys.map (entryOfKey (nestedKind X.prog X.w)) := by
  refine List.map_congr_left fun q hq => ?_
  unfold nEnt entryOfKey
  show DictEntry.mk _ _ _ = DictEntry.mk (q.1.hash X.w) _ _
  rw [nhash_eq X.w q.1 (h q hq)]
theorem PN.keyT {K : PySem.W.Frag} {ys : List (NestedKey × Addr × Value)} (r : PN xs ys) (h : DnAll K H xs) : ∀ q ∈ ys, KeyT K H q.1 q.2.1 := by
  induction r with
  | nil => intro q hq; cases hq
  | @cons p q ps qs hh t ih =>
    intro z hz
    rcases List.mem_cons.mp hz with rfl | hz
    · rw [← hh.1, ← hh.2.1]; exact h p List.mem_cons_self
    · exact ih (fun x hx => h x (List.mem_cons_of_mem _ hx)) z hz
theorem dn_of (I : Inv X pins σ H s) (e : Rd H a (DnO a xs)) (h : DnAll X.K H xs) : (a == sysModules) = false ∧ xs.length ≤ sizeLine ∧ ∃ ys, PN xs ys ∧ s.heap.DictOfH (nestedKind X.prog X.w) a ys := by
  obtain ⟨⟨hs, hz, ys, o, es, ep, r, ho, hx, hd, he, hn⟩, _⟩ := (show ObjOk X.prog X.w H s.heap a (DnO a xs) from e.ok I.hok)
  have hk := PN.keyT r h
  exact ⟨hs, hz, ys, r, o, es, ep, ho, hx, hd, by rw [he, nEnt_eq fun q hq => (hk q hq).2.2], fun q hq => (hk q hq).is I, hn⟩
/-- a dict laid anew, or written -/
theorem dn_new {P : Program} {w : World} {H' : Hp} {h' : Heap} {ys : List (NestedKey × Addr × Value)} (hs : (a == sysModules) = false) (hz : xs.length ≤ sizeLine) (r : PN xs ys) (hp : ∀ q ∈ ys, nplain q.1 = true) (d : h'.DictOfH (nestedKind X.prog X.w) a ys) : ObjOk P w H' h' a (DnO a xs) := by
  obtain ⟨o, es, ep, ho, hx, hd, he, _, hn⟩ := d
  refine ⟨⟨hs, hz, ys, o, es, ep, r, ho, hx, hd, by rw [he, nEnt_eq hp], hn⟩, ⟨o, ho⟩, fun h1 h2 q k => ?_⟩
  obtain ⟨hs, hz, ys, o, es, ep, r, ho, rest⟩ := q
  exact ⟨hs, hz, ys, o, es, ep, r, k o ho, rest⟩
/-- what the dict at a holds at the key y -/
def DNG (K : PySem.W.Frag) (H : Hp) (a : Addr) (y : V) (r : Option V) : Prop := ∃ xs k b, y = .ref b ∧ Rd H a (DnO a xs) ∧ DnAll K H xs ∧ KeyT K H k b ∧ r = valNV xs k
theorem room9 (hu : A.units + 9 < cLine) : (nestedKind X.prog X.w).room A.in1 := by
  show A.in1.units + 8 < cLine
  rw [Around.in1_units]; omega
theorem n_notIn {o : Option V} {Q : Value → Shared → Prop} (hu : A.units + 9 < cLine) (I : Inv X pins σ H s) (g : DNG X.K H a y o) (ry : RelV y u) (h : ∀ s', Inv X pins σ H s' → Q (.bool (!o.isSome)) s') :
    wpAny (model X.prog X.w) A (compareOp .NotIn u (.ref a)) Q E s := by
  obtain ⟨xs, k, b, rfl, e, ha, hk, l⟩ := g
  cases (show u = Value.ref b from ry)
  obtain ⟨hs, hz, ys, rel, dd⟩ := dn_of I e ha
  refine wpAny_notIn_heap (room9 hu) (hk.is I) hs dd ?_
  have q := (rel.val k).isSome_eq
  rw [Option.isSome_map] at q
  rw [← q, ← l]
  exact h _ (I.tok _)
theorem n_setItem {Q : Unit → Shared → Prop} (hu : A.units + 9 < cLine) (I : Inv X pins σ H s) (e : H a = some (DnO a xs)) (ha : DnAll X.K H xs) (hk : KeyT X.K H k b) (hl : xs.length < sizeLine) (rv : RelV v r) (h : ∀ s', Inv X pins σ (upd H a (DnO a (putNV xs k b v))) s' → Q () s') :
    wpAny (model X.prog X.w) A (setItem (.ref a) (.ref b) r) Q E s := by
  obtain ⟨hs, hz, ys, rel, dd⟩ := dn_of I (Rd.of e) ha
  refine wpAny_setItem_heap (hsz := by rw [← Paired.length rel]; exact hz) (room9 hu) (hk.is I) dd fun h' dd' hsb => h _ ?_
  have rel' := rel.put k b rv
  have hp : ∀ q ∈ storedH ys k b r, nplain q.1 = true := fun q hq => (PN.keyT rel' (putNV_all ha hk) q hq).2.2
  have he : ∃ q, h'.get? a = some q := let ⟨q, _, _, hq, _⟩ := dd'; ⟨q, hq⟩
  exact I.write (x := a) (e := a) (by rw [e]; exact True.intro) (.inl rfl) (fun b q hb z => (hsb.2 b hb).trans z) he (dn_new (X := X) hs (by have := putNV_len (xs := xs) (k := k) (b := b) (v := v); omega) rel' hp dd')
theorem dn_empty (I : Inv X pins σ H s) : ObjOk X.prog X.w (upd H s.heap.objs.size (DnO s.heap.objs.size [])) (s.heap.push { cls := .type "dict", data := .dict #[] }) s.heap.objs.size (DnO s.heap.objs.size []) := by
  refine dn_new (X := X) (ys := []) ?_ (Nat.zero_le _) .nil (fun q hq => by cases hq) (Heap.DictOfH.new s.heap)
  have := I.big
  exact beq_eq_false_iff_ne.mpr (Nat.ne_of_gt this)
end
section
variable {X : Cx} {a b e : Expr} {ta tb : TE} {pos : Pos}
def tDNewN : TE := fun _ H Q => ∀ d, H d = none → Q (.ref d) (upd H d (DnO d []))
theorem pe_dnewN : PE X (.Dict [] [] pos) tDNewN := ⟨fun pins s σ H Q I h =>
  wpAny_Dict_empty ⟨.ref s.heap.objs.size, _, I.laid (a := s.heap.objs.size) (o := DnO s.heap.objs.size []) (t' := s.toks) (fun _ _ q => Heap.get?_push_of_some _ q) (Nat.le_refl _) (dn_empty I), rfl, h _ (I.hok.fresh (Nat.le_refl _))⟩⟩
def rNIn (K : PySem.W.Frag) (neg : Bool) : R2 := fun x y H Q => ∃ a o, y = .ref a ∧ DNG K H a x o ∧ Q (.bl (if neg then !o.isSome else o.isSome)) H
theorem op_nnin (hu : X.A.units + 9 < cLine) : OpR X (compareOp .NotIn) (rNIn X.K true) := by
  intro pins s σ H x y v u Q I rx ry ⟨a, o, e, g, q⟩
  subst e
  cases (show u = Value.ref a from ry)
  exact n_notIn hu I g rx fun s' I' => ⟨.bl _, H, I', rfl, q⟩
end
end VL
set_option Elab.async false
set_option linter.all false
set_option maxRecDepth 100000
set_option maxHeartbeats 2000000
namespace VL
open PySem PySem.Spec L2 RT RZ
def valN (kvs : List (D × D)) (k : NestedKey) : Option D := (kvs.find? fun p => decide (nkD p.1 = some k)).map (·.2)
def putN (kvs : List (D × D)) (d : D) (k : NestedKey) (v : D) : List (D × D) := if (kvs.any fun p => decide (nkD p.1 = some k)) = true then kvs.map (fun p => if nkD p.1 = some k then (p.1, v) else p) else kvs ++ [(d, v)]
section
variable {K : PySem.W.Frag} {X : Cx} {N : Bool → Addr → Prop} {H : Hp} {ι : Ix} {G : Gd} {δ : DS} {M : Mem} {σ : L2.St}
mutual
theorem key_of_rd : ∀ (d : D) (v : V) (k : NestedKey), RD K N H ι d v → nk0 d = some k → KeyV K H k v ∧ nplain k = true
  | .non, v, k, h, e => by cases e; exact ⟨h, rfl⟩
  | .int i, v, k, h, e => by cases e; exact ⟨h, rfl⟩
  | .tup ds, v, k, h, e => by
    obtain ⟨ks, e1, rfl⟩ := Option.map_eq_some_iff.mp (show (nk0s ds).map NestedKey.tup = some k from e)
    obtain ⟨a, xs, rfl, q, _, r⟩ := h
    obtain ⟨h1, h2⟩ := keys_of_rd ds xs ks r e1
    exact ⟨⟨a, xs, rfl, tup_sq q, h1⟩, h2⟩
  | .bl _, _, _, _, e => by cases e
  | .str _, _, _, _, e => by cases e
  | .lst _, _, _, _, e => by cases e
  | .scr _, _, _, _, e => by cases e
  | .fn _, _, _, _, e => by cases e
  | .ty _, _, _, _, e => by cases e
  | .dn _ _, _, _, _, e => by cases e
  | .dk _ _, _, _, _, e => by cases e
  | .cls _, _, _, _, e => by cases e
  | .exc _ _, _, _, _, e => by cases e
theorem keys_of_rd : ∀ (ds : List D) (vs : List V) (ks : List NestedKey), RDs K N H ι ds vs → nk0s ds = some ks → KeyVs K H ks vs ∧ nplains ks = true
  | [], vs, ks, h, e => by cases e; exact ⟨h, rfl⟩
  | d :: ds, vs, ks, h, e => by
    obtain ⟨k, e1, e2⟩ := Option.bind_eq_some_iff.mp (show (nk0 d).bind _ = some ks from e)
    obtain ⟨ks', e3, rfl⟩ := Option.map_eq_some_iff.mp e2
    obtain ⟨x, r, rfl, h1, h2⟩ := h
    obtain ⟨g1, g2⟩ := key_of_rd d x k h1 e1
    obtain ⟨g3, g4⟩ := keys_of_rd ds r ks' h2 e3
    exact ⟨⟨x, r, rfl, g1, g3⟩, by show (nplain k && nplains ks') = true; rw [g2, g4]; rfl⟩
end
theorem nkD_some {d : D} {k : NestedKey} (e : nkD d = some k) : ∃ ds ks, d = .tup ds ∧ k = .tup ks ∧ nk0s ds = some ks ∧ (NestedKey.tup ks).depth ≤ 8 := by
  cases d with
  | tup ds =>
    obtain ⟨ks, e1, e2⟩ := Option.bind_eq_some_iff.mp (show (nk0s ds).bind _ = some k from e)
    by_cases h : (NestedKey.tup ks).depth ≤ 8
    · rw [if_pos h] at e2; cases e2; exact ⟨ds, ks, rfl, rfl, e1, h⟩
    · rw [if_neg h] at e2; cases e2
  | _ => cases e
theorem keyT_of {d : D} {v : V} {k : NestedKey} (e : nkD d = some k) (h : RD K N H ι d v) : ∃ b, v = .ref b ∧ KeyT K H k b := by
  obtain ⟨ds, ks, rfl, rfl, e1, hd⟩ := nkD_some e
  obtain ⟨h1, h2⟩ := key_of_rd (.tup ds) v (.tup ks) h (by show (nk0s ds).map _ = _; rw [e1]; rfl)
  obtain ⟨b, xs, rfl, _⟩ := id h1
  exact ⟨b, rfl, h1, hd, h2⟩
def RNk (K : PySem.W.Frag) (N : Bool → Addr → Prop) (H : Hp) (ι : Ix) (kvs : List (D × D)) (xs : List (NestedKey × Addr × V)) : Prop :=
  (kvs.map (·.1)).map nkD = xs.map (fun x => some x.1) ∧ RDs K N H ι (kvs.map (·.1)) (xs.map fun x => V.ref x.2.1) ∧ RDs K N H ι (kvs.map (·.2)) (xs.map fun x => x.2.2)
theorem RNk.nil_inv {xs : List (NestedKey × Addr × V)} (h : RNk K N H ι [] xs) : xs = [] := by
  have := h.1
  cases xs with
  | nil => rfl
  | cons x xs => simp at this
theorem RNk.nil : RNk K N H ι [] [] := ⟨rfl, rfl, rfl⟩
theorem RNk.inv {d v : D} {kvs : List (D × D)} {xs : List (NestedKey × Addr × V)} (h : RNk K N H ι ((d, v) :: kvs) xs) : ∃ k b x xs', xs = (k, b, x) :: xs' ∧ nkD d = some k ∧ RD K N H ι d (.ref b) ∧ RD K N H ι v x ∧ RNk K N H ι kvs xs' := by
  obtain ⟨h1, h2, h3⟩ := h
  cases xs with
  | nil => simp at h1
  | cons x xs =>
    simp only [List.map_cons, List.cons.injEq] at h1
    obtain ⟨y, r, e, g1, g2⟩ := h2
    simp only [List.map_cons, List.cons.injEq] at e
    obtain ⟨rfl, rfl⟩ := e
    obtain ⟨y2, r2, e2, g3, g4⟩ := h3
    simp only [List.map_cons, List.cons.injEq] at e2
    obtain ⟨rfl, rfl⟩ := e2
    exact ⟨x.1, x.2.1, x.2.2, xs, rfl, h1.1, g1, g3, h1.2, g2, g4⟩
theorem RNk.cons {d v : D} {k : NestedKey} {b : Addr} {x : V} {kvs : List (D × D)} {xs : List (NestedKey × Addr × V)} (e : nkD d = some k) (r1 : RD K N H ι d (.ref b)) (r2 : RD K N H ι v x) (h : RNk K N H ι kvs xs) : RNk K N H ι ((d, v) :: kvs) ((k, b, x) :: xs) :=
  ⟨by simp only [List.map_cons]; rw [e, h.1], ⟨_, _, rfl, r1, h.2.1⟩, ⟨_, _, rfl, r2, h.2.2⟩⟩
theorem RNk.length {kvs : List (D × D)} {xs : List (NestedKey × Addr × V)} (h : RNk K N H ι kvs xs) : kvs.length = xs.length := by
  have := congrArg List.length h.1
  simpa using this
theorem RNk.all : ∀ {kvs : List (D × D)} {xs : List (NestedKey × Addr × V)}, RNk K N H ι kvs xs → DnAll K H xs
  | [], xs, h => by rw [h.nil_inv]; intro x hx; cases hx
  | (d, v) :: kvs, xs, h => by
    obtain ⟨k, b, x, xs', rfl, e, r1, r2, h'⟩ := h.inv
    intro y hy
    rcases List.mem_cons.mp hy with rfl | hy
    · obtain ⟨b', eb, kt⟩ := keyT_of e r1
      cases eb
      exact kt
    · exact RNk.all h' y hy
theorem RNk.val : ∀ {kvs : List (D × D)} {xs : List (NestedKey × Addr × V)}, RNk K N H ι kvs xs → ∀ k, (valN kvs k = none ∧ valNV xs k = none) ∨ ∃ d v, valN kvs k = some d ∧ valNV xs k = some v ∧ RD K N H ι d v
  | [], xs, h, k => by rw [h.nil_inv]; exact .inl ⟨rfl, rfl⟩
  | (d, v) :: kvs, xs, h, k => by
    obtain ⟨j, b, x, xs', rfl, e, r1, r2, h'⟩ := h.inv
    by_cases q : j = k
    · exact .inr ⟨v, x, by simp [valN, e, q], by simp [valNV, q], r2⟩
    · have q2 : ¬ (nkD d = some k) := fun z => q (by rw [e] at z; exact Option.some.inj z)
      rcases RNk.val h' k with ⟨h1, h2⟩ | ⟨d', v', h1, h2, r'⟩
      · refine .inl ⟨?_, ?_⟩
        · simp only [valN, List.find?_cons, q2, decide_false]; exact h1
        · simp only [valNV, List.find?_cons, q, decide_false]; exact h2
      · refine .inr ⟨d', v', ?_, ?_, r'⟩
        · simp only [valN, List.find?_cons, q2, decide_false]; exact h1
        · simp only [valNV, List.find?_cons, q, decide_false]; exact h2
theorem RNk.any : ∀ {kvs : List (D × D)} {xs : List (NestedKey × Addr × V)}, RNk K N H ι kvs xs → ∀ k, (kvs.any fun p => decide (nkD p.1 = some k)) = xs.any fun x => decide (x.1 = k)
  | [], xs, h, k => by rw [h.nil_inv]; rfl
  | (d, v) :: kvs, xs, h, k => by
    obtain ⟨j, b, x, xs', rfl, e, r1, r2, h'⟩ := h.inv
    rw [List.any_cons, List.any_cons, RNk.any h' k]
    congr 1
    show decide (nkD d = some k) = decide (j = k)
    rw [e]
    simp
theorem RNk.repl {k : NestedKey} {d : D} {v : V} (r : RD K N H ι d v) : ∀ {kvs : List (D × D)} {xs : List (NestedKey × Addr × V)}, RNk K N H ι kvs xs →
    RNk K N H ι (kvs.map fun p => if nkD p.1 = some k then (p.1, d) else p) (xs.map fun x => if x.1 = k then (x.1, x.2.1, v) else x)
  | [], xs, h => by rw [h.nil_inv]; exact RNk.nil
  | (d', v') :: kvs, xs, h => by
    obtain ⟨j, b, x, xs', rfl, e, r1, r2, h'⟩ := h.inv
    rw [List.map_cons, List.map_cons]
    by_cases q : j = k
    · have q2 : nkD d' = some k := by rw [e, q]
      simp only [q2, q, if_true]
      exact RNk.cons (by rw [e, q]) r1 r (RNk.repl r h')
    · have q2 : ¬ (nkD d' = some k) := fun z => q (by rw [e] at z; exact Option.some.inj z)
      simp only [q2, q, if_false]
      exact RNk.cons e r1 r2 (RNk.repl r h')
theorem RNk.snoc {k : NestedKey} {b : Addr} {dk d : D} {v : V} (e : nkD dk = some k) (rk : RD K N H ι dk (.ref b)) (r : RD K N H ι d v) : ∀ {kvs : List (D × D)} {xs : List (NestedKey × Addr × V)}, RNk K N H ι kvs xs → RNk K N H ι (kvs ++ [(dk, d)]) (xs ++ [(k, b, v)])
  | [], xs, h => by rw [h.nil_inv]; exact RNk.cons e rk r RNk.nil
  | (d', v') :: kvs, xs, h => by
    obtain ⟨j, b', x, xs', rfl, e', r1, r2, h'⟩ := h.inv
    exact RNk.cons e' r1 r2 (RNk.snoc e rk r h')
theorem RNk.put {k : NestedKey} {b : Addr} {dk d : D} {v : V} {kvs : List (D × D)} {xs : List (NestedKey × Addr × V)} (h : RNk K N H ι kvs xs) (e : nkD dk = some k) (rk : RD K N H ι dk (.ref b)) (r : RD K N H ι d v) : RNk K N H ι (putN kvs dk k d) (putNV xs k b v) := by
  unfold putN putNV
  rw [h.any k]
  by_cases q : (xs.any fun x => decide (x.1 = k)) = true
  · rw [if_pos q, if_pos q]; exact RNk.repl r h
  · rw [if_neg q, if_neg q]; exact RNk.snoc e rk r h
theorem RNk.mono {N' : Bool → Addr → Prop} {H' : Hp} {ι' : Ix} {kvs : List (D × D)} {xs : List (NestedKey × Addr × V)} (k : Kp ι H ι' H') (hn : ∀ b a o, H a = some o → N b a → N' b a) (h : RNk K N H ι kvs xs) : RNk K N' H' ι' kvs xs :=
  ⟨h.1, h.2.1.mono k hn, h.2.2.mono k hn⟩
def cellN : Option Cell → Option (List (D × D))
  | some (.dn kvs) => some kvs
  | _ => none
theorem cellN_some {c : Option Cell} {kvs : List (D × D)} (h : cellN c = some kvs) : c = some (.dn kvs) := by
  cases c with
  | none => cases h
  | some c => cases c <;> first | (cases h; rfl) | cases h
def dnAt (M : Mem) : Sv → Option (List (D × D))
  | .ref n => cellN M[n]?
  | .d (.dn ks ds) => some (ks.zip ds)
  | _ => none
theorem zip_fst {α β : Type} : ∀ {a : List α} {b : List β}, a.length = b.length → (a.zip b).map (·.1) = a ∧ (a.zip b).map (·.2) = b
  | [], [], _ => ⟨rfl, rfl⟩
  | x :: a, y :: b, h => by
    obtain ⟨h1, h2⟩ := zip_fst (a := a) (b := b) (by simpa using h)
    exact ⟨by rw [List.zip_cons_cons, List.map_cons, h1], by rw [List.zip_cons_cons, List.map_cons, h2]⟩
  | [], _ :: _, h => by simp at h
  | _ :: _, [], h => by simp at h
theorem dn_at {s : Sv} {v : V} {kvs : List (D × D)} (S : Sr K G δ M ι σ H) (r : RS K G.N H ι s v) (e : dnAt M s = some kvs) : ∃ a xs, v = .ref a ∧ Rd H a (DnO a xs) ∧ RNk K G.N H ι kvs xs := by
  cases s with
  | ref n =>
    obtain ⟨a, rfl, hn, xs, hH, h1, h2, h3⟩ := S.mem.at r (cellN_some (show cellN M[n]? = some kvs from e)) (fun z => nomatch z)
    exact ⟨a, xs, rfl, Rd.of hH, h1, h2, h3⟩
  | bor ds => cases e
  | d d =>
    cases d with
    | dn ks ds =>
      cases (show some (ks.zip ds) = some kvs from e)
      obtain ⟨a, xs, o, rfl, q, _, h1, h2, h3⟩ := r
      have l1 := h2.length
      have l2 := h3.length
      rw [List.length_map] at l1 l2
      obtain ⟨z1, z2⟩ := zip_fst (a := ks) (b := ds) (by omega)
      exact ⟨a, xs, rfl, .inr ⟨o, q⟩, by rw [z1]; exact h1, by rw [z1]; exact h2, by rw [z2]; exact h3⟩
    | _ => cases e
def inND (M : Mem) (x y : Sv) : Option Bool := match x with
  | .d k => (dnAt M y).bind fun kvs => (nkD k).map fun k => (valN kvs k).isSome
  | _ => none
def kninD (M : Mem) (x y : Sv) : Option Sv := (inND M x y).map fun b => blS (!b)
theorem inND_rd {neg : Bool} {x y : Sv} {v u : V} {c : Bool} {Q : VK} (S : Sr K G δ M ι σ H) (rx : RS K G.N H ι x v) (ry : RS K G.N H ι y u) (e : inND M x y = some c) (q : Q (.bl (if neg then !c else c)) H) : rNIn K neg v u H Q := by
  cases x with
  | d d =>
    obtain ⟨kvs, e1, e2⟩ := Option.bind_eq_some_iff.mp (show (dnAt M y).bind _ = some c from e)
    obtain ⟨k, e3, e4⟩ := Option.map_eq_some_iff.mp e2
    obtain ⟨a, xs, rfl, hr, hk⟩ := dn_at S ry e1
    obtain ⟨b, rfl, kt⟩ := keyT_of e3 (show RD K G.N H ι d v from rx)
    refine ⟨a, _, rfl, ⟨xs, k, b, rfl, hr, hk.all, kt, rfl⟩, ?_⟩
    have : (valNV xs k).isSome = c := by
      rcases hk.val k with ⟨h1, h2⟩ | ⟨d, v, h1, h2, _⟩
      · rw [h2, ← e4, h1]; rfl
      · rw [h2, ← e4, h1]; rfl
    rw [this]; exact q
  | _ => cases e
theorem rd_knin : Rd2 K (rNIn K true) kninD := by
  intro G δ M ι σ H x y v u d S rx ry e Q z
  obtain ⟨c, e1, rfl⟩ := Option.map_eq_some_iff.mp (show (inND M x y).map _ = some d from e)
  exact inND_rd S rx ry e1 (fin_same S z rfl)
variable {a b e o i : Expr} {pos p1' : Pos} {ta tb te to ti : TE'}
def eKdN : TE' := fun _ M Q => Q (.ref M.length) (M ++ [.dn []])
theorem ve_knew : VE X G (.Dict [] [] pos) eKdN :=
  PE.weak pe_dnewN fun σ H Q ⟨δ, M, ι, Q0, S, q, z⟩ => fun p hp =>
    z _ _ _ _ _ q (Ex.app _ _) (Kp.named hp) (S.named (c := .dn []) hp ⟨[], upd_same, rfl, rfl, rfl⟩) ⟨p, rfl, .inl (by rw [S.mem.len]; simp)⟩
def rNSet (K : PySem.W.Frag) : V → V → V → Hp → (Hp → Prop) → Prop := fun o y v H Q => ∃ a b xs k, o = .ref a ∧ y = .ref b ∧ H a = some (DnO a xs) ∧ DnAll K H xs ∧ KeyT K H k b ∧ xs.length < sizeLine ∧ Q (upd H a (DnO a (putNV xs k b v)))
end
end VL
set_option Elab.async false
set_option linter.all false
set_option maxRecDepth 100000
set_option maxHeartbeats 2000000
namespace VL
open PySem PySem.Spec L2 RT RZ PyProof.Rows
section
variable {X : Cx}
theorem set_dn (hu : X.A.units + 9 < cLine) : PSet X (rNSet X.K) := by
  intro pins s σ H o i v ov iv u Q I ro ri rv h
  obtain ⟨a, b, xs, k, rfl, rfl, e, ha, hk, hl, q⟩ := h
  cases (show ov = Value.ref a from ro)
  cases (show iv = Value.ref b from ri)
  exact n_setItem hu I e ha hk hl rv fun s' I' => ⟨_, I', q⟩
end
section
variable {K : PySem.W.Frag} {X : Cx} {N : Bool → Addr → Prop} {H : Hp} {ι : Ix} {G : Gd} {δ : DS} {M : Mem} {σ : L2.St} {a b e o i : Expr} {pos p1' : Pos} {ta tb te to ti t : TE'}
def stN (o i : Sv) (d : D) (M : Mem) (Q : Mem → Prop) : Prop := match o, i with
  | .ref n, .d dk => ok (cellN M[n]?) fun kvs => ok (nkD dk) fun k => kvs.length < sizeLine ∧ Q (M.set n (.dn (putN kvs dk k d)))
  | _, _ => False
def sSubN (te to ti : TE') : TS' := fun E δ M => te δ M fun s M1 => ok (dataS s) fun d => to δ M1 fun o M2 => ti δ M2 fun i M3 => stN o i d M3 fun M4 => E.nx δ M4
theorem vs_subN (hu : X.A.units + 9 < cLine) (he : VE X G e te) (ho : VE X G o to) (hi : VE X G i ti) (hs : swapsWithSole [.Subscript o i p1'] e pos.line X.env = pure false := by rfl) (hw : swappedStores [.Subscript o i p1'] e X.env = pure none := by rfl)
    (h1 : (assignEach [.Subscript o i p1'] X.env).map (·.2) = [assign (.Subscript o i p1') X.env] := by rfl)
    (ha : ∀ v, assign (.Subscript o i p1') X.env v = (do
      let ov ← holding [v] (eval o X.env)
      let iv ← holding [v, ov] (eval i X.env)
      standAt p1'
      holding [v, ov, iv] (setItem ov iv v)
      release [v, ov, iv] []) := by intro _; rfl) : VS X G (.Assign [.Subscript o i p1'] e pos) (sSubN te to ti) :=
  PS.weak (ps_asg he (pg_sub ho hi (set_dn hu) ha) hs hw h1) fun E σ H ⟨δ, M, ι, E0, S, q, z⟩ => th1 S q fun s M1 ι1 H1 v q1 p1 k1 S1 r1 => by
    obtain ⟨d, e9, q1⟩ := ok_elim q1
    refine th1 S1 q1 fun x M2 ι2 H2 u q2 p2 k2 S2 r2 => th1 S2 q2 fun y M3 ι3 H3 w q3 p3 k3 S3 r3 => ?_
    have r1' := r1.mono (k2.trans k3) (p2.trans p3) (fun _ _ _ _ z => z)
    have r2' := r2.mono k3 p3 (fun _ _ _ _ z => z)
    unfold stN at q3
    split at q3
    · rename_i n dk
      obtain ⟨kvs, e1, q3⟩ := ok_elim q3
      obtain ⟨k', e2, hl, q3⟩ := ok_elim q3
      obtain ⟨a, rfl, hn, xs, hH, h1, h2, h3⟩ := S3.mem.at r2' (cellN_some e1) (fun z => nomatch z)
      obtain ⟨b, rfl, kt⟩ := keyT_of e2 (show RD X.K G.N H3 ι3 dk w from r3)
      have hk : RNk X.K G.N H3 ι3 kvs xs := ⟨h1, h2, h3⟩
      cases s with
      | d x =>
        cases e9
        have hm := List.mem_of_getElem? hn
        have k : Kp ι3 H3 ι3 (upd H3 a (DnO a (putNV xs k' b v))) := Kp.turned hm
        refine ⟨a, b, xs, k', rfl, rfl, hH, hk.all, kt, by rw [← hk.length]; exact hl, ?_⟩
        have hp := (hk.put e2 (show RD _ _ _ _ _ _ from r3) (show RD _ _ _ _ _ _ from r1')).mono k fun _ _ _ _ z => z
        exact z.nx _ _ _ _ _ q3 ((p1.trans p2).trans p3) (((k1.trans k2).trans k3).trans k) (S3.turned hn ⟨_, upd_same, hp.1, hp.2.1, hp.2.2⟩)
      | ref n => cases e9
      | bor n => cases e9
    · exact q3.elim
theorem pss_lock {ss : List Stmt} {t : TS} (h : PSs X ss t) : PSs X ss (fun D σ H => t D σ H ∨ ∃ d u, H d = some u ∧ Mut (some u) ∧ ∀ od, t D σ (upd H d (.frz od u))) := by
  refine ⟨fun pins s σ H D I hw => ?_⟩
  rcases hw with q | ⟨d, u, hd, mu, q⟩
  · exact h.run pins s σ H D I q
  · obtain ⟨od, I2⟩ := I.lock hd mu
    exact h.run pins s σ _ D I2 (q od)
theorem Sr.frz {n : Nat} {a : Addr} {kvs : List (D × D)} (S : Sr K G δ M ι σ H) (hn : ι[n]? = some (some a)) (h0 : G.i0.length ≤ n) (hc : M[n]? = some (.dn kvs)) :
    ∃ xs, H a = some (DnO a xs) ∧ ∀ od, Sr K G δ (M.set n .gone) (ι.set n none) σ (upd H a (.frz od (DnO a xs))) ∧ Ex ι (ι.set n none) ∧ Kp ι H (ι.set n none) (upd H a (.frz od (DnO a xs))) ∧ RD K G.N (upd H a (.frz od (DnO a xs))) (ι.set n none) (.dn (kvs.map (·.1)) (kvs.map (·.2))) (.ref a) := by
  obtain ⟨xs, hH, h1, h2, h3⟩ := S.mem.cell n _ a hc hn
  have hmem : some a ∈ ι := List.mem_of_getElem? hn
  refine ⟨xs, hH, fun od => ?_⟩
  have kk : Kp ι H (ι.set n none) (upd H a (.frz od (DnO a xs))) := fun b o e h => ⟨by rw [upd_ne (fun z => h (by rw [z]; exact hmem))]; exact e, fun z => by
    rcases List.mem_or_eq_of_mem_set z with z | z
    · exact h z
    · cases z⟩
  have ee : Ex ι (ι.set n none) := fun m o e => by
    by_cases h : n = m
    · subst h
      exact .inr (List.getElem?_set_self (List.getElem?_eq_some_iff.mp e).1)
    · rw [List.getElem?_set_ne h]; exact .inl e
  have back : ∀ (m : Nat) (b : Addr), (ι.set n none)[m]? = some (some b) → n ≠ m ∧ ι[m]? = some (some b) := fun m b e => by
    by_cases h : n = m
    · subst h
      rw [List.getElem?_set_self (List.getElem?_eq_some_iff.mp hn).1] at e; cases e
    · rw [List.getElem?_set_ne h] at e; exact ⟨h, e⟩
  have hno : some a ∉ ι.set n none := fun z => by
    obtain ⟨m, hm⟩ := List.getElem?_of_mem z
    obtain ⟨h1, h2⟩ := back m a hm
    exact h1 (S.mem.nod _ _ _ hn h2)
  refine ⟨⟨S.len, fun i d e => ?_, ⟨by simp [S.mem.len], fun m m' b e1 e2 => S.mem.nod _ _ _ (back m b e1).2 (back m' b e2).2, fun m c b e1 e2 => ?_, fun m e => ?_, fun m c e1 => ?_⟩, fun m b e => ?_, S.kp.trans kk, fun b hb h1 => ?_, S.bad, fun b hb => ⟨fun z => ?_, ?_⟩, S.obk.turn (by refine ObT.of hH ?_ ?_ <;> (intro C dx fs z; cases z))⟩, ee, kk,
    a, xs, od, rfl, upd_same, hno, h1, h2.mono kk fun _ _ _ _ z => z, h3.mono kk fun _ _ _ _ z => z⟩
  · obtain ⟨v, e1, r⟩ := S.slot i d e
    exact ⟨v, e1, r.mono kk ee fun _ _ _ _ z => z⟩
  · obtain ⟨h1, h2⟩ := back m b e2
    rw [List.getElem?_set_ne h1] at e1
    refine (S.mem.cell m c b e1 h2).mono kk ee (fun _ _ _ _ z => z) (upd_ne fun z => ?_)
    exact h1 (S.mem.nod _ _ _ (z ▸ hn) h2)
  · by_cases h : n = m
    · subst h; exact List.getElem?_set_self (List.getElem?_eq_some_iff.mp hc).1
    · rw [List.getElem?_set_ne h] at e ⊢; exact S.mem.gone m e
  · by_cases h : n = m
    · subst h
      rw [List.getElem?_set_self (List.getElem?_eq_some_iff.mp hc).1] at e1
      cases e1; trivial
    · rw [List.getElem?_set_ne h] at e1; exact S.mem.wf m c e1
  · rw [List.getElem?_set_ne (fun h => by have := (List.getElem?_eq_some_iff.mp e).1; omega)]; exact S.pre m b e
  · rcases List.mem_or_eq_of_mem_set hb with z | z
    · exact S.new b z h1
    · cases z
  · rcases List.mem_or_eq_of_mem_set z with z | z
    · exact (S.hid b hb).1 z
    · cases z
  · obtain ⟨o, ho⟩ := (S.hid b hb).2
    by_cases z : b = a
    · rw [z]; exact ⟨_, upd_same⟩
    · exact ⟨o, by rw [upd_ne z]; exact ho⟩
/-- a name's dict changes no more from here on -/
def sFrz (m0 i : Nat) (t : TS') : TS' := fun E δ M => match (δ[i]?).join with
  | some (.ref n) => m0 ≤ n ∧ ok (cellN M[n]?) fun kvs => t E (δ.set i (some (.d (.dn (kvs.map (·.1)) (kvs.map (·.2)))))) (M.set n .gone)
  | _ => False
theorem vss_frz {m0 i : Nat} {ss : List Stmt} {t : TS'} (hG : G.i0.length = m0) (h : VSs X G ss t) : VSs X G ss (sFrz m0 i t) :=
  PSs.weak (pss_lock h) fun E σ H ⟨δ, M, ι, E0, S, q, z⟩ => by
    unfold sFrz at q
    split at q
    · rename_i n hi
      obtain ⟨hn, q⟩ := q
      obtain ⟨kvs, e1, q⟩ := ok_elim q
      have hi2 : δ[i]? = some (some (.ref n)) := by
        cases w : δ[i]? with
        | none => rw [w] at hi; cases hi
        | some o => rw [w] at hi; rw [show o = some (.ref n) from hi]
      obtain ⟨v, hv, r⟩ := S.slot i _ hi2
      obtain ⟨a, rfl, ha, _⟩ := S.mem.at r (cellN_some e1) (fun z => nomatch z)
      obtain ⟨xs, hH, f⟩ := S.frz ha (by omega) (cellN_some e1)
      refine .inr ⟨a, _, hH, trivial, fun od => ?_⟩
      obtain ⟨S2, e2, k2, r2⟩ := f od
      have hs : σ.set i (some (.ref a)) = σ := by
        apply List.ext_getElem?
        intro j
        by_cases h : i = j
        · subst h; rw [List.getElem?_set_self (List.getElem?_eq_some_iff.mp hv).1, hv]
        · rw [List.getElem?_set_ne h]
      have r3 : RS X.K G.N (upd H a (.frz od (DnO a xs))) (ι.set n none) (.d (.dn (kvs.map (fun p => p.1)) (kvs.map (fun p => p.2)))) (.ref a) := r2
      have S3 := S2.set (i := i) r3
      rw [hs] at S3
      exact ⟨_, _, _, E0, S3, q, z.to e2 k2⟩
    · exact q.elim
end
end VL
set_option Elab.async false
set_option linter.all false
set_option maxRecDepth 100000
set_option maxHeartbeats 4000000
namespace VL
open PySem PySem.Spec L2 RT RZ PyProof.Rows
section
variable {X : Cx} {pins : List (Addr × Obj)} {σ : L2.St} {H : Hp} {s : Shared} {a : Addr} {y z : V} {u r : Value} {A : Around} {E : Value → Shared → Prop} {o : Option V}
theorem dn_type (I : Inv X pins σ H s) {xs : List (NestedKey × Addr × V)} (e : Rd H a (DnO a xs)) (h : DnAll X.K H xs) : s.TypeIs (.ref a) "dict" ∧ ∀ b, Value.ref a = .ref b → ∃ ob, s.heap.get? b = some ob ∧ ob.dict = none := by
  obtain ⟨_, _, ys, _, dd⟩ := dn_of I e h
  refine ⟨dd.typeIs, fun b q => ?_⟩
  cases q
  obtain ⟨ob, _, _, h1, h2, _⟩ := dd
  exact ⟨ob, h1, h2.2.1⟩
end
end VL
set_option Elab.async false
set_option linter.all false
set_option maxRecDepth 100000
set_option maxHeartbeats 4000000
namespace VL
open PySem PySem.Spec L2 RT RZ PyProof.Rows
end VL
set_option Elab.async false
set_option linter.all false
set_option maxRecDepth 100000
set_option maxHeartbeats 1000000
namespace VL
open PySem PySem.Spec L2 RT RZ
end VL
set_option Elab.async false
set_option linter.all false
set_option maxRecDepth 100000
set_option maxHeartbeats 4000000
namespace VL
open PySem PySem.Spec L2 RT RZ PyProof.Rows
end VL
set_option Elab.async false
set_option linter.all false
set_option maxRecDepth 100000
set_option maxHeartbeats 1000000
namespace VL
open PySem PySem.Spec L2 RT RZ PyProof.Rows
end VL
set_option Elab.async false
set_option linter.all false
set_option maxRecDepth 100000
set_option maxHeartbeats 1000000
namespace VL
open PySem PySem.Spec L2 RT RZ PyProof.Rows
end VL
set_option Elab.async false
set_option linter.all false
set_option maxRecDepth 100000
set_option maxHeartbeats 1000000
namespace VL
open PySem PySem.Spec L2 RT RZ PyProof.Rows
end VL
set_option Elab.async false
set_option linter.all false
set_option maxRecDepth 100000
set_option maxHeartbeats 1000000
namespace VL
open PySem PySem.Spec L2 RT RZ PyProof.Rows
end VL
set_option Elab.async false
set_option linter.all false
set_option maxRecDepth 100000
set_option maxHeartbeats 1000000
namespace VL
open PySem PySem.Spec L2 RT RZ PyProof.Rows HT
end VL
set_option Elab.async false
set_option linter.all false
set_option maxRecDepth 100000
set_option maxHeartbeats 1000000
namespace VL
open PySem PySem.Spec L2 RT RZ PyProof.Rows HT
end VL
set_option Elab.async false
set_option linter.all false
set_option maxRecDepth 100000
set_option maxHeartbeats 2000000
set_option Elab.async false
set_option linter.all false
set_option maxRecDepth 100000
set_option maxHeartbeats 2000000
namespace ZL
open PySem PySem.Calls PyProof.Rows PySem.Spec
def ZS (h : Heap) (z TI TO i1 i2 : Addr) (St1 St2 : Nat → Heap → Prop) (S : Addr) (i : Nat) : Prop :=
  IsTupOf2 h TI (.ref i1) (.ref i2) ∧ St1 i h ∧ St2 i h ∧ ((IsZip h z TI TO .none ∧ ∃ a b, IsTupOf2 h TO a b) ∨ ∃ T f oT, IsZipHeld h z TI TO T f ∧ h.get? T = some oT ∧ T ≠ z ∧ T ≠ i1 ∧ T ≠ i2 ∧ T ≠ S)
structure PairsAt (P1 P2 : Nat → Value → Prop) (lo : Addr) (h : Heap) (as : List Addr) : Prop where
  rise : as.Pairwise (· < ·)
  above : ∀ a ∈ as, lo < a
  pairs : ∀ (j : Nat) (a : Addr), as[j]? = some a → ∃ x y, P1 j x ∧ P2 j y ∧ h.get? a = some { cls := .type "tuple", data := .seq #[x, y] }
theorem PairsAt.there {P1 P2 : Nat → Value → Prop} {lo : Addr} {h : Heap} {as : List Addr} (g : PairsAt P1 P2 lo h as) {a : Addr} (ha : a ∈ as) : a < h.objs.size := by
  obtain ⟨j, hj⟩ := List.mem_iff_getElem?.mp ha
  obtain ⟨_, _, _, _, e⟩ := g.pairs j a hj
  exact Heap.lt_size e
theorem PairsAt.keep {P1 P2 : Nat → Value → Prop} {lo : Addr} {h h' : Heap} {as : List Addr} (g : PairsAt P1 P2 lo h as) (hk : ∀ b o, lo < b → h.get? b = some o → h'.get? b = some o) : PairsAt P1 P2 lo h' as :=
  ⟨g.rise, g.above, fun j a hj => let ⟨x, y, p, q, e⟩ := g.pairs j a hj; ⟨x, y, p, q, hk a _ (g.above a (List.mem_of_getElem? hj)) e⟩⟩
section
variable {prog : Program} {w : World} {A : Around} {E : Value → Shared → Prop} {s : Shared} {z TI TO i1 i2 S : Addr} {fp1 fp2 : List Addr} {n1 n2 i : Nat} {P1 P2 : Nat → Value → Prop} {St1 St2 : Nat → Heap → Prop}
theorem ZS.keep {h h' : Heap} (Z : ZipSep2 z TI TO i1 i2 fp1 fp2) (D1 : Draws prog w A i1 fp1 n1 P1 St1) (D2 : Draws prog w A i2 fp2 n2 P2 St2) (hlt : ∀ b ∈ z :: TI :: TO :: (fp1 ++ fp2), b < S) (g : ZS h z TI TO i1 i2 St1 St2 S i)
    (hk : ∀ b o, b ≠ S → h.get? b = some o → h'.get? b = some o) : ZS h' z TI TO i1 i2 St1 St2 S i := by
  have ne : ∀ b ∈ z :: TI :: TO :: (fp1 ++ fp2), b ≠ S := fun b hb => Nat.ne_of_lt (hlt b hb)
  obtain ⟨hTI, st1, st2, hz⟩ := g
  refine ⟨hk _ _ (ne _ (by simp)) hTI, D1.frame _ _ _ st1 fun b hb o e => hk b o (ne b (by simp [hb])) e, D2.frame _ _ _ st2 fun b hb o e => hk b o (ne b (by simp [hb])) e, ?_⟩
  rcases hz with ⟨hz, a, b, hTO⟩ | ⟨T, f, oT, hz, hT, r1, r2, r3, r4⟩
  · exact .inl ⟨hk _ _ (ne _ (by simp)) hz, a, b, hk _ _ (ne _ (by simp)) hTO⟩
  · exact .inr ⟨T, f, oT, hk _ _ (ne _ (by simp)) hz, hk _ _ r4 hT, r1, r2, r3, r4⟩
end
end ZL
set_option Elab.async false
set_option linter.all false
set_option maxRecDepth 100000
set_option maxHeartbeats 2000000
namespace VL
open PySem PySem.Spec L2 RT RZ PyProof.Rows
end VL
set_option Elab.async false
set_option linter.all false
set_option maxRecDepth 100000
set_option maxHeartbeats 4000000
namespace VL
open PySem PySem.Spec L2 RT RZ
mutual
/-- no list within -/
def noL : D → Bool
  | .lst _ => false
  | .dn _ _ => false
  | .dk _ _ => false
  | .exc _ _ => false
  | .tup ds => noLs ds
  | _ => true
def noLs : List D → Bool
  | [] => true
  | d :: ds => noL d && noLs ds
end
def noC : Cell → Bool
  | .lst ds => noLs ds
  | .gone => true
  | _ => false
section
variable {K : PySem.W.Frag} {N N' : Bool → Addr → Prop} {H H' : Hp} {ι ι' : Ix}
mutual
theorem RD.noL (h1 : ∀ a xs, H a = some (.tup xs) → some a ∉ ι → H' a = some (.tup xs) ∧ some a ∉ ι') (h2 : ∀ a o l, H a = some (.frz o l) → some a ∉ ι → H' a = some (.frz o l) ∧ some a ∉ ι') :
    ∀ (d : D) (v : V), VL.noL d = true → RD K N H ι d v → RD K N' H' ι' d v
  | .non, _, _, h => h
  | .bl _, _, _, h => h
  | .int _, _, _, h => h
  | .str _, _, _, h => h
  | .fn _, _, _, h => h
  | .ty _, _, _, h => h
  | .cls _, _, _, h => h
  | .exc _ _, _, z, _ => by cases z
  | .dn _ _, _, z, _ => by cases z
  | .dk _ _, _, z, _ => by cases z
  | .lst _, _, z, _ => by cases z
  | .scr ns, v, _, h => by
    obtain ⟨a, e, ⟨o, q, n⟩ | q, l⟩ := h
    · exact ⟨a, e, .inl ⟨o, h2 a _ _ q n⟩, l⟩
    · exact ⟨a, e, .inr q, l⟩
  | .tup ds, v, z, h => by
    obtain ⟨a, xs, e, q, l, r⟩ := h
    refine ⟨a, xs, e, ?_, l, RDs.noL h1 h2 ds xs z r⟩
    rcases q with ⟨q, n⟩ | q
    · exact .inl (h1 a _ q n)
    · exact .inr q
theorem RDs.noL (h1 : ∀ a xs, H a = some (.tup xs) → some a ∉ ι → H' a = some (.tup xs) ∧ some a ∉ ι') (h2 : ∀ a o l, H a = some (.frz o l) → some a ∉ ι → H' a = some (.frz o l) ∧ some a ∉ ι') :
    ∀ (ds : List D) (vs : List V), noLs ds = true → RDs K N H ι ds vs → RDs K N' H' ι' ds vs
  | [], _, _, h => h
  | d :: ds, vs, z, h => by
    obtain ⟨x, r, e, g1, g2⟩ := h
    have z := Bool.and_eq_true _ _ ▸ (show (VL.noL d && noLs ds) = true from z)
    exact ⟨x, r, e, RD.noL h1 h2 d x z.1 g1, RDs.noL h1 h2 ds r z.2 g2⟩
end
/-- handed on with no changing thing: lists are lent -/
def handF (M : Mem) : List Sv → Option (List Sv)
  | [] => some []
  | .d (.lst ds) :: xs => if noLs ds then (handF M xs).map (.bor ds :: ·) else none
  | .d x :: xs => if VL.noL x then (handF M xs).map (.d x :: ·) else none
  | .bor ds :: xs => if noLs ds then (handF M xs).map (.bor ds :: ·) else none
  | .ref n :: xs => (cellL M[n]?).bind fun ds => if noLs ds then (handF M xs).map (.bor ds :: ·) else none
theorem handF_of {G : Gd} {δ : DS} {M : Mem} {σ : L2.St} {B : Addr → Prop} (S : Sr K G δ M ι σ H) : ∀ {xs as : List Sv} {vs : List V}, handF M xs = some as → RSs K G.N H ι xs vs → RSs K (NB B) H ([] : Ix) as vs ∧ as.length = xs.length := by
  have k1 : ∀ a xs, H a = some (.tup xs) → some a ∉ ι → H a = some (.tup xs) ∧ some a ∉ ([] : Ix) := fun a xs q _ => ⟨q, List.not_mem_nil⟩
  have k2 : ∀ a o l, H a = some (.frz o l) → some a ∉ ι → H a = some (.frz o l) ∧ some a ∉ ([] : Ix) := fun a o l q _ => ⟨q, List.not_mem_nil⟩
  intro xs
  induction xs with
  | nil => intro as vs e r; cases e; exact ⟨r, rfl⟩
  | cons x xs ih =>
    intro as vs e r
    obtain ⟨v, r', rfl, r1, r2⟩ := r
    have bor : ∀ (ds : List D) (a : Addr) (ys : List V), v = .ref a → H a = some (.lst ys) → ds.length ≤ sizeLine → RDs K G.N H ι ds ys → (if noLs ds then (handF M xs).map (.bor ds :: ·) else none) = some as → RSs K (NB B) H ([] : Ix) as (v :: r') ∧ as.length = (x :: xs).length := fun ds a ys ev q l rd e => by
      split at e
      · rename_i z
        obtain ⟨as', e', rfl⟩ := Option.map_eq_some_iff.mp e
        obtain ⟨g1, g2⟩ := ih e' r2
        exact ⟨⟨v, r', rfl, ⟨a, ys, ev, q, List.not_mem_nil, ⟨fun z => z, fun z => nomatch z⟩, l, RDs.noL k1 k2 ds ys z rd⟩, g1⟩, by simp [g2]⟩
      · cases e
    have dat : ∀ (d : D), x = .d d → (if VL.noL d then (handF M xs).map (.d d :: ·) else none) = some as → RSs K (NB B) H ([] : Ix) as (v :: r') ∧ as.length = (x :: xs).length := fun d ex e9 => by
      subst ex
      clear e
      split at e9
      · rename_i z
        obtain ⟨as', e', rfl⟩ := Option.map_eq_some_iff.mp e9
        obtain ⟨g1, g2⟩ := ih e' r2
        exact ⟨⟨v, r', rfl, RD.noL k1 k2 d v z r1, g1⟩, by simp [g2]⟩
      · cases e9
    cases x with
    | ref n =>
      obtain ⟨ds, e1, e⟩ := Option.bind_eq_some_iff.mp (show (cellL M[n]?).bind _ = _ from e)
      obtain ⟨a, rfl, hn, ys, q, l, rd⟩ := S.mem.at r1 (cellL_some e1) (fun z => nomatch z)
      exact bor ds a ys rfl q l rd e
    | bor ds =>
      obtain ⟨a, ys, ev, q, _, _, l, rd⟩ := r1
      exact bor ds a ys ev q l rd e
    | d d =>
      cases d with
      | lst ds =>
        obtain ⟨a, ys, ev, q, _, _, l, rd⟩ := r1
        exact bor ds a ys ev q l rd e
      | _ => exact dat _ rfl e
end
/-- a list that was not there at the start -/
abbrev NF (H : Hp) (ι : Ix) : Bool → Addr → Prop := fun b a => b = true → ∀ o, H a = some o → some a ∈ ι
def lFr (K : PySem.W.Frag) (G : Gd) (t : TE') : TE := fun σ H Q => ∃ δ M ι Q0, Sr K G δ M ι σ H ∧ t δ M Q0 ∧
  ∀ d M' ι' H' v, Q0 (.d d) M' → Ex ι ι' → Kp ι H ι' H' → Sr K G δ M' ι' σ H' → RD K G.N H' ι' d v → RD K (NF H ι) H' ι' d v → Q v H'
section
variable {K : PySem.W.Frag} {G : Gd} {δ : DS} {M : Mem} {ι : Ix} {σ : L2.St} {H : Hp}
theorem NF.to {ι' : Ix} {H' : Hp} (k : Kp ι H ι' H') {b : Bool} {a : Addr} (h : NF H' ι' b a) : NF H ι b a := fun hb o e => by
  by_cases hi : some a ∈ ι
  · exact hi
  · obtain ⟨q, n⟩ := k a o e hi
    exact absurd (h hb o q) n
mutual
/-- what is known of the lists' places may be told otherwise -/
theorem RD.nn {N N' : Bool → Addr → Prop} (h : ∀ a xs, H a = some (.lst xs) → some a ∉ ι → N true a → N' true a) : ∀ (d : D) (v : V), RD K N H ι d v → RD K N' H ι d v := RD.go (fun a xs q n => ⟨q, n⟩) (fun a o l q n => ⟨q, n⟩) (fun a xs q n z => ⟨q, n, h a xs q n z⟩)
theorem RDs.nn {N N' : Bool → Addr → Prop} (h : ∀ a xs, H a = some (.lst xs) → some a ∉ ι → N true a → N' true a) : ∀ (d : List D) (v : List V), RDs K N H ι d v → RDs K N' H ι d v := RDs.go (fun a xs q n => ⟨q, n⟩) (fun a o l q n => ⟨q, n⟩) (fun a xs q n z => ⟨q, n, h a xs q n z⟩)
end
/-- all that is there stays -/
theorem Sr.grown {H' : Hp} (S : Sr K G δ M ι σ H) (k : ∀ a o, H a = some o → H' a = some o) : Sr K G δ M ι σ H' := by
  have kk : Kp ι H ι H' := fun a o e n => ⟨k a o e, n⟩
  refine ⟨S.len, fun i d e => ?_, ⟨S.mem.len, S.mem.nod, fun n c a e1 e2 => ?_, S.mem.gone, S.mem.wf⟩, S.pre, S.kp.trans kk, S.new, S.bad, fun a ha => ⟨(S.hid a ha).1, ?_⟩, ?_⟩
  · obtain ⟨v, e1, r⟩ := S.slot i d e
    exact ⟨v, e1, r.mono kk (Ex.refl _) (fun _ _ _ _ z => z)⟩
  · have q := S.mem.cell n c a e1 e2
    obtain ⟨o, ho⟩ := q.has
    exact q.mono kk (Ex.refl _) (fun _ _ _ _ z => z) (by rw [ho, k a o ho])
  · obtain ⟨u, q⟩ := (S.hid a ha).2
    exact ⟨u, k a u q⟩
  · intro a ha
    obtain ⟨u, hu⟩ := S.i0there a ha
    obtain ⟨o1, o2⟩ := S.obk a ha
    refine ⟨fun C dx fs e => ?_, fun C dx fs e => ?_⟩
    · obtain ⟨fs', e', s⟩ := o1 C dx fs e
      exact ⟨fs', k a _ e', s⟩
    · rw [k a u hu] at e
      exact o2 C dx fs (by rw [hu]; exact e)
end
/-- a call whose result's lists are all new -/
def fQ (Q : QD) : Rv → Mem → Prop
  | .d x, M => Q (.d x) M
  | .new ds, M => Q (.d (.lst ds)) M
  | .newK _, _ => False
def eCallF (sp : SpD) (tA : TA') : TE' := fun δ M Q => tA δ M fun xs M1 => ok (handF M1 xs) fun as => sp as [] fun r _ => fQ Q r M1
section
variable {X : Cx} {G : Gd} {k j n : Nat} {x : Str} {sp : SpD} {p pos : Pos} {e : Expr} {es : List Expr} {tA : TA'}
theorem fr_call (c : Ca X.prog X.w X.K X.mg X.base k x n sp) (hr : RoomG j X.A) (hk : k ≤ j) (hg : Gl X x) (ha : VA X G (e :: es) n tA)
    (hdb : (x == ("__debug__" : Str)) = false := by decide) (he : starEach (e :: es) X.env = (false, eval e X.env) :: starEach es X.env := by rfl) (hpl : (backTo pos (starEach es X.env)).any (·.1) = false := by rfl) :
    PE X (.Call (.Name x p) (e :: es) [] pos) (lFr X.K G (eCallF sp tA)) := by
  obtain ⟨f, fd, ps, F, hm, kp, b⟩ := c.ex
  refine PE.weak (pe_callg F (hr.mono hk) hg hm kp b .nil C8.pass0 ha hdb he hpl (E := C8.E0)) fun σ H Q ⟨δ, M, ι, Q0, S, q, z⟩ => ?_
  refine thA S q fun xs M1 ι1 H1 vs hl h1 p1 k1 S1 r1 => ?_
  show lP X.K n sp (vs ++ []) H1 Q _
  rw [List.append_nil]
  obtain ⟨as, e1, h1⟩ := ok_elim h1
  have hB : ∀ a, (∃ o, H1 a = some o) → ∃ o, H1 a = some o := fun a h => h
  obtain ⟨ra, hla⟩ := handF_of (B := fun a => ∃ o, H1 a = some o) S1 e1 r1
  refine ⟨as, [], [], fun a => ∃ o, H1 a = some o, _, hla.trans hl, hB, ra, ⟨rfl, fun n m a h => by simp at h, fun n c a h => by simp at h, fun n h => by simp at h, fun n c h => by simp at h⟩, h1, fun rv M' v H' q2 rr => ?_⟩
  -- all that was there stays
  have fin : ∀ (d : D), (∀ a o, H1 a = some o → H' a = some o) → RD X.K (NB fun a => ∃ o, H1 a = some o) H' ([] : Ix) d v → Q0 (.d d) M1 → Q v H' := fun d kk rd q2 => by
    have S2 := S1.grown kk
    have k2 : Kp ι1 H1 ι1 H' := fun a o e n => ⟨kk a o e, n⟩
    have kind : ∀ a o, H' a = some o → some a ∈ ι1 → (∃ xs, o = .lst xs) ∨ (∃ ws, o = .dK ws) ∨ (∃ ws, o = .ext ws) ∨ ∃ C dx fs, o = .ins C dx fs := fun a o e h => by
      rcases S2.kind h with ⟨ys, e'⟩ | ⟨ys, e'⟩ | ⟨ys, e'⟩ | ⟨C, dx, fs, e'⟩ <;> rw [e'] at e <;> cases e
      · exact .inl ⟨_, rfl⟩
      · exact .inr (.inl ⟨_, rfl⟩)
      · exact .inr (.inr (.inl ⟨_, rfl⟩))
      · exact .inr (.inr (.inr ⟨_, _, _, rfl⟩))
    have rd2 : RD X.K (NF H1 ι1) H' ι1 d v := RD.go (fun a xs q _ => ⟨q, fun h => by
        rcases kind a _ q h with ⟨_, z⟩ | ⟨_, z⟩ | ⟨_, z⟩ | ⟨_, _, _, z⟩ <;> cases z⟩) (fun a o l q _ => ⟨q, fun h => by
        rcases kind a _ q h with ⟨_, z⟩ | ⟨_, z⟩ | ⟨_, z⟩ | ⟨_, _, _, z⟩ <;> cases z⟩) (fun a xs q _ z => ⟨q, fun h => z.2 rfl (S1.mem.there h), fun _ o e => absurd ⟨o, e⟩ (z.2 rfl)⟩) d v rd
    have rd3 : RD X.K G.N H' ι1 d v := RD.nn (fun a xs q n z => ⟨fun hd => (S1.hid a hd).1 (z rfl _ (S1.hid a hd).2.choose_spec), fun _ hb => by
      obtain ⟨o, ho⟩ := S1.bad a hb
      by_cases h0 : a ∈ G.i0
      · obtain ⟨u, hu⟩ := List.getElem?_of_mem h0
        exact n (List.mem_of_getElem? (S2.pre u a hu))
      · obtain ⟨q1, q2⟩ := S1.kp a o ho (by simpa using h0)
        exact q2 (z rfl o q1)⟩) d v rd2
    exact z d M1 ι1 H' v q2 p1 (k1.trans k2) S2 rd3 (RD.nn (fun a xs q n z => NF.to k1 z) d v rd2)
  cases rv with
  | d y =>
    obtain ⟨rd, rm, k, ob⟩ := rr
    exact fin y (fun a o e => (k a o e List.not_mem_nil).1) rd q2
  | new ds =>
    obtain ⟨a, rfl, ha, rm, k, ob⟩ := rr
    have hl : M'.length = 0 := by have := rm.len; simpa using this
    have hM : M' = [] := List.length_eq_zero_iff.mp hl
    subst hM
    obtain ⟨xs, q1, l, rd⟩ := rm.cell 0 (.lst ds) a rfl rfl
    refine fin (.lst ds) (fun a o e => (k a o e List.not_mem_nil).1) ⟨a, xs, rfl, q1, List.not_mem_nil, ⟨fun z => z, fun _ ⟨o, ho⟩ => by rw [ha] at ho; cases ho⟩, l, ?_⟩ q2
    exact RDs.go (fun a xs q _ => ⟨q, List.not_mem_nil⟩) (fun a o l q _ => ⟨q, List.not_mem_nil⟩) (fun a xs q _ z => ⟨q, List.not_mem_nil, z⟩) ds xs rd
  | newK kvs => exact q2.elim
end
end VL
set_option Elab.async false
set_option linter.all false
set_option maxRecDepth 100000
set_option maxHeartbeats 4000000
namespace VL
open PySem PySem.Spec L2 RT RZ
/-- all but these stays -/
def Kept (A : Addr → Prop) (H H' : Hp) : Prop := ∀ a o, H a = some o → ¬ A a → H' a = some o
/-- these are lists, of at most n items -/
def Lsts (A : Addr → Prop) (n : Nat) (H : Hp) : Prop := ∀ a, A a → ∃ xs, H a = some (.lst xs) ∧ xs.length ≤ n
theorem Kept.refl {A : Addr → Prop} {H : Hp} : Kept A H H := fun _ _ e _ => e
theorem Kept.trans {A B C : Addr → Prop} {H H1 H2 : Hp} (h : Kept A H H1) (g : Kept B H1 H2) (ha : ∀ a, A a → C a) (hb : ∀ a, B a → C a) : Kept C H H2 := fun a o e n => g a o (h a o e fun z => n (ha a z)) fun z => n (hb a z)
theorem Lsts.grown {A : Addr → Prop} {n : Nat} {H H' : Hp} (h : Lsts A n H) (k : ∀ a o, H a = some o → H' a = some o) : Lsts A n H' := fun a ha => by
  obtain ⟨xs, e, l⟩ := h a ha
  exact ⟨xs, k a _ e, l⟩
/-- any value, new things alone laid -/
def tAny : TE := fun σ H Q => ∀ v H', (∀ a o, H a = some o → H' a = some o) → Q v H'
def tAnysN (n : Nat) : TA := fun σ H Q => ∀ vs H', vs.length = n → (∀ a o, H a = some o → H' a = some o) → Q vs H'
section
variable {X : Cx} {e : Expr} {es : List Expr} {pos : Pos}
theorem anys_nil : PA X [] (tAnysN 0) := ⟨fun pos pins s σ H Q I h => pa_nil.run pos pins s σ H Q I (h [] H rfl fun _ _ e => e)⟩
theorem any_tup {n : Nat} {k : Nat} (h : PA X es (tAnysN n)) (hn : n ≤ sizeLine := by decide) : PE X (.Tuple es k pos) tAny :=
  PE.weak (pe_tup h) fun σ H Q q vs H1 hl k1 => ⟨by rw [hl]; exact hn, fun p hp => q _ _ fun a o e => by
    have := k1 a o e
    rw [upd_ne (fun z => by rw [z, hp] at this; cases this)]; exact this⟩
end
/-- where a record's parts lie: a tuple, or a list that stays -/
def RecAt (K : PySem.W.Frag) (H : Hp) (p : Addr) (xs : List V) : Prop := KT K p xs ∨ H p = some (.tup xs) ∨ H p = some (.lst xs)
theorem RecAt.kept {K : PySem.W.Frag} {H H' : Hp} {p : Addr} {xs : List V} {A : Addr → Prop} (h : RecAt K H p xs) (k : Kept A H H') (n : KT K p xs ∨ ¬ A p) : RecAt K H' p xs := by
  rcases n with n | n
  · exact .inl n
  rcases h with h | h | h
  · exact .inl h
  · exact .inr (.inl (k p _ h n))
  · exact .inr (.inr (k p _ h n))
/-- the receiver: a list among A, the record's k-th part or the name's own -/
def RcvAt (K : PySem.W.Frag) (A : Addr → Prop) (te : TE) (σ : L2.St) (H : Hp) : Prop := ∃ a, A a ∧ ∀ Q : VK, Q (.ref a) H → te σ H Q
section
variable {X : Cx} {e c : Expr} {es : List Expr} {te : TE} {pos cpos apos : Pos}
theorem rcv_part {i : Nat} {k : Int} {p a : Addr} {xs : List V} {σ : L2.St} {H : Hp} {A : Addr → Prop} (hv : σ[i]? = some (some (.ref p))) (hr : RecAt X.K H p xs) (hx : atI xs k = some (.ref a)) (ha : A a) :
    RcvAt X.K A (tOp (rIx X.K) (tVar i) (tC (.int k))) σ H := by
  refine ⟨a, ha, fun Q q => ⟨.ref p, hv, ?_⟩⟩
  rcases hr with h | h | h
  · exact .inr (.inl ⟨p, xs, k, _, rfl, rfl, .inr h, hx, q⟩)
  · exact .inr (.inl ⟨p, xs, k, _, rfl, rfl, SqT.of h, hx, q⟩)
  · exact .inl ⟨p, xs, k, _, rfl, rfl, SqL.of h, hx, q⟩
/-- e.append(c) -/
theorem js_app (he : PE X e te) (hc : PE X c tAny)
    (hbase : attributeBase e "append" X.env (eval e X.env) = eval e X.env := by rfl)
    (hfew : ((backTo cpos (starEach [c] X.env)).all (fun x => !x.1) && (backToKw cpos (keywordEach [] X.env)).all (fun x => x.1.isSome)
      && decide (([c] : List Expr).length + ([] : List Keyword).length + (if ([] : List Keyword).isEmpty then 0 else 1) < 30)) = true := by rfl)
    (hline : (apos.endLine == cpos.line) = true := by rfl) (hs : starEach [c] X.env = (false, eval c X.env) :: starEach [] X.env := by rfl) (hplain : (backTo cpos (starEach [] X.env)).any (·.1) = false := by rfl)
    (hsw : swapsWith (.Call (.Attribute e "append" apos) [c] [] cpos) none pos.line X.env = pure false := by rfl) :
    PS X (.Expr (.Call (.Attribute e "append" apos) [c] [] cpos) pos) (fun E σ H => ∃ (A : Addr → Prop) (n : Nat), RcvAt X.K A te σ H ∧ Lsts A n H ∧ n < sizeLine ∧ ∀ H', Kept A H H' → Lsts A (n + 1) H' → E.nx σ H') :=
  PS.weak (ps_expr (pe_bm F.plainAttrs_list F.slot_list_append rfl mt_append he (pa_cons hc pa_nil hs) hbase hfew hline hs hplain) hsw) fun E σ H ⟨A, n, ⟨a, ha, z⟩, hl, hn, q⟩ => by
    refine z _ ?_
    obtain ⟨xs, h1, l1⟩ := hl a ha
    refine ⟨.inl ⟨rfl, xs, SqL.of h1⟩, fun v H1 k1 => ⟨a, xs, v, rfl, rfl, k1 a _ h1, by omega, ?_⟩⟩
    refine q _ (fun b o e nb => ?_) fun b hb => ?_
    · rw [upd_ne (fun z : b = a => nb (by rw [z]; exact ha))]; exact k1 b o e
    · by_cases hba : b = a
      · subst hba; exact ⟨_, upd_same, by simp; omega⟩
      · obtain ⟨ys, h2, l2⟩ := hl b hb
        exact ⟨ys, by rw [upd_ne hba]; exact k1 b _ h2, by omega⟩
/-- e.reverse() -/
theorem js_rev (he : PE X e te) (hbase : attributeBase e "reverse" X.env (eval e X.env) = eval e X.env := by rfl) (hline : (apos.endLine == cpos.line) = true := by rfl)
    (hsw : swapsWith (.Call (.Attribute e "reverse" apos) [] [] cpos) none pos.line X.env = pure false := by rfl) :
    PS X (.Expr (.Call (.Attribute e "reverse" apos) [] [] cpos) pos) (fun E σ H => ∃ (A : Addr → Prop) (n : Nat), RcvAt X.K A te σ H ∧ Lsts A n H ∧ ∀ H', Kept A H H' → Lsts A n H' → E.nx σ H') :=
  PS.weak (ps_expr (pe_bm0 F.plainAttrs_list F.slot_list_reverse rfl mt_reverse he hbase hline) hsw) fun E σ H ⟨A, n, ⟨a, ha, z⟩, hl, q⟩ => by
    refine z _ ?_
    obtain ⟨xs, h1, l1⟩ := hl a ha
    refine ⟨.inl ⟨rfl, xs, SqL.of h1⟩, a, xs, rfl, rfl, h1, ?_⟩
    refine q _ (fun b o e nb => ?_) fun b hb => ?_
    · rw [upd_ne (fun z : b = a => nb (by rw [z]; exact ha))]; exact e
    · by_cases hba : b = a
      · subst hba; exact ⟨_, upd_same, by simpa using l1⟩
      · obtain ⟨ys, h2, l2⟩ := hl b hb
        exact ⟨ys, by rw [upd_ne hba]; exact h2, l2⟩
end
def wipeL : List Nat → DS → DS
  | [], δ => δ
  | i :: is, δ => wipeL is (δ.set i none)
theorem wipeL_at : ∀ {is : List Nat} {δ : DS} {j : Nat} {d : Sv}, (wipeL is δ)[j]? = some (some d) → j ∉ is ∧ δ[j]? = some (some d)
  | [], _, _, _, h => ⟨List.not_mem_nil, h⟩
  | i :: is, δ, j, d, h => by
    obtain ⟨h1, h2⟩ := wipeL_at (is := is) h
    by_cases hij : i = j
    · subst hij
      by_cases hl : i < δ.length
      · rw [List.getElem?_set_self hl] at h2; cases h2
      · rw [List.getElem?_eq_none (by simp; omega)] at h2; cases h2
    · rw [List.getElem?_set_ne hij] at h2
      exact ⟨fun hm => by
        rcases List.mem_cons.mp hm with hm | hm
        · exact hij hm.symm
        · exact h1 hm, h2⟩
theorem wipeL_len : ∀ (is : List Nat) (δ : DS), (wipeL is δ).length = δ.length
  | [], _ => rfl
  | i :: is, δ => by simp [wipeL, wipeL_len is]
/-- a list of the thing's, new since then -/
abbrev NP (A : Addr → Prop) : Bool → Addr → Prop := fun b a => b = true → A a
/-- what the changing rows want -/
def tTail (K : PySem.W.Frag) (i : Nat) (W : List Nat) (okD : D → Prop) : TS := fun E σ H => ∃ (v : V) (d : D) (ι : Ix) (A : Addr → Prop), σ[i]? = some (some v) ∧ (∀ j ∈ W, j < σ.length) ∧ RD K (NP A) H ι d v ∧ okD d ∧
  ∀ σ' H', σ'.length = σ.length → (∀ j, j ∉ W → σ'[j]? = σ[j]?) → Kept A H H' → E.nx σ' H'
/-- tests: the names stay -/
def lK (K : PySem.W.Frag) (G : Gd) (rm : TS') (tT : TS) : TS := fun E σ H => ∃ δ M ι E0, Sr K G δ M ι σ H ∧ rm E0 δ M ∧
  (∀ d δ' M' ι' σ' H' v, E0.rt d M' → Sr K G δ' M' ι' σ' H' → RS K G.N H' ι' d v → E.rt v H') ∧
  ∀ δ' M' ι' H', E0.nx δ' M' → Ex ι ι' → Kp ι H ι' H' → Sr K G δ' M' ι' σ H' → tT E σ H'
section
variable {X : Cx} {G : Gd} {e c : Expr} {st : Stmt} {rest tail : List Stmt} {pos : Pos} {te t : TE'} {tc : TT'} {rm : TS'} {tT : TS}
theorem vk_done (h : PSs X tail tT) : PSs X tail (lK X.K G sNil tT) :=
  PSs.weak h fun E σ H ⟨δ, M, ι, E0, S, q, z1, z2⟩ => z2 δ M ι H q (Ex.refl _) (Kp.refl _ _) S
theorem vk_ifret {p1 p2 : Pos} (hc : VT X G c tc) (he : VE X G e te) (h : PSs X rest (lK X.K G rm tT)) : PSs X (.If c [.Return (some e) p1] [] p2 :: rest) (lK X.K G (sSeq (sIf tc (sRet te) sNil) rm) tT) :=
  PSs.weak (pss_cons (ps_if hc (pss_one (ps_ret (pos := p1) he)) pss_nil) h) fun E σ H ⟨δ, M, ι, E0, S, q, z1, z2⟩ => ⟨δ, M, ι, _, S, q, fun b M' ι' H' q' p' k' S' => by
    cases b with
    | true => exact ⟨δ, M', ι', _, S', q', fun d M2 ι2 H2 v q2 p2 k2 S2 r2 => z1 d δ M2 ι2 σ H2 v q2 S2 r2⟩
    | false => exact ⟨δ, M', ι', E0, S', q', z1, fun δ' M2 ι2 H2 q2 p2 k2 S2 => z2 δ' M2 ι2 H2 q2 (p'.trans p2) (k'.trans k2) S2⟩⟩
end
/-- cells that hold lists are named no more -/
def clC (c : Cell) : Cell := if noC c = true then c else .gone
def clM (M : Mem) : Mem := M.map clC
def clI (M : Mem) (ι : Ix) : Ix := List.zipWith (fun c o => if noC c = true then o else none) M ι
theorem clI_at {M : Mem} {ι : Ix} {n : Nat} {x : Option Addr} (h : (clI M ι)[n]? = some x) : ∃ c o, M[n]? = some c ∧ ι[n]? = some o ∧ x = if noC c = true then o else none := by
  unfold clI at h
  rw [List.getElem?_zipWith] at h
  cases e1 : M[n]? with
  | none => rw [e1] at h; cases h
  | some c =>
    cases e2 : ι[n]? with
    | none => rw [e1, e2] at h; cases h
    | some o => rw [e1, e2] at h; exact ⟨c, o, rfl, rfl, (Option.some.inj h).symm⟩
theorem clI_mem {M : Mem} {ι : Ix} {a : Addr} (h : some a ∈ clI M ι) : some a ∈ ι := by
  obtain ⟨n, hn⟩ := List.getElem?_of_mem h
  obtain ⟨c, o, _, e2, e⟩ := clI_at hn
  split at e
  · rw [e]; exact List.mem_of_getElem? e2
  · cases e
/-- x = e, tests, changes -/
def sScrap (i : Nat) (W : List Nat) (okD : D → Prop) (te : TE') (rm : TS') : TS' := fun E δ M => te δ M fun s M1 => match s with
  | .d d => rm { E with nx := fun _ M2 => okD d ∧ (i ∈ W ∧ ∀ j ∈ W, j < δ.length) ∧ E.nx (wipeL W δ) (clM M2) } (δ.set i (some (.d d))) M1
  | _ => False
section
variable {X : Cx} {G : Gd} {e c : Expr} {st : Stmt} {rest tail : List Stmt} {pos : Pos} {te t : TE'} {tc : TT'} {rm : TS'} {tT : TS}
theorem vss_scrap {i : Nat} {x : Str} {W : List Nat} {okD : D → Prop} {pos' : Pos} (hG : G.i0.length = 0) (hN : X.N.Nodup) (hi : X.N[i]? = some x) (hx : Loc X.env.scope x) (he : PE X e (lFr X.K G te)) (h : PSs X rest (lK X.K G rm (tTail X.K i W okD)))
    (hs : swapsWith e (some (.Name x pos')) pos.line X.env = pure false := by rfl) (hf : X.fn x = true ∨ X.env.scope.names.lookup x = some .local := by first | exact .inl rfl | exact .inr rfl | assumption) :
    VSs X G (.Assign [.Name x pos'] e pos :: rest) (sScrap i W okD te rm) := by
  have hG0 : G.i0 = [] := List.length_eq_zero_iff.mp hG
  refine PSs.weak (pss_cons (ps_set hN hi hx he hs hf) h) fun E σ H ⟨δ, M, ι, E0, S, q, z⟩ => ?_
  refine ⟨δ, M, ι, _, S, q, fun d M1 ι1 H1 v q1 p1 k1 S1 r1 f1 => ?_⟩
  have S1s : Sr X.K G (δ.set i (some (.d d))) M1 ι1 (σ.set i (some v)) H1 := S1.set (d := .d d) r1
  refine ⟨_, M1, ι1, _, S1s, q1, fun d' δ' M' ι' σ' H' v' q' S' r' => z.rt d' δ' M' ι' σ' H' v' q' S' r', fun δ2 M2 ι2 H2 ⟨o1, ⟨o5, o4⟩, o3⟩ p2 k2 S2 => ?_⟩
  have f2 : RD X.K (NF H ι) H2 ι2 d v := RD.mono k2 (fun _ _ _ _ z => z) _ _ f1
  have hlen : δ.length = σ.length := S.len
  have hiW : i < δ.length := o4 i o5
  refine ⟨v, d, ι2, fun a => (∀ o, H a = some o → some a ∈ ι) ∧ some a ∉ ι2 ∧ ∃ xs, H2 a = some (.lst xs), ?_, ?_, RD.nn (fun a xs q n z => fun _ => ⟨z rfl, n, xs, q⟩) _ _ f2, o1, fun σ' H' hl hsl hk => ?_⟩
  · exact List.getElem?_set_self (by rw [← hlen]; exact hiW)
  · intro j hj; rw [List.length_set, ← hlen]; exact o4 j hj
  -- the state behind the changes
  have kA : ∀ a o, H2 a = some o → (∀ xs, o ≠ .lst xs) → H' a = some o := fun a o e hno => hk a o e fun z => by
    obtain ⟨xs, e'⟩ := z.2.2
    rw [e] at e'; cases e'; exact hno xs rfl
  have kι : ∀ a o, H2 a = some o → some a ∈ ι2 → H' a = some o := fun a o e hin => hk a o e fun z => z.2.1 hin
  have sub : ∀ {a}, some a ∈ clI M2 ι2 → some a ∈ ι2 := clI_mem
  have hl2 : M2.length = ι2.length := S2.mem.len
  have k0 : Kp ι H (clI M2 ι2) H' := fun a o e n => by
    obtain ⟨q1, n1⟩ := k1 a o e n
    obtain ⟨q2, n2⟩ := k2 a o q1 n1
    exact ⟨hk a o q2 fun z => n (z.1 o e), fun z => n2 (sub z)⟩
  have exc : Ex ι2 (clI M2 ι2) := fun n o e => by
    have hlt := (List.getElem?_eq_some_iff.mp e).1
    have eM : M2[n]? = some M2[n] := List.getElem?_eq_getElem (by omega)
    have : (clI M2 ι2)[n]? = some (if noC M2[n] = true then o else none) := by
      unfold clI
      rw [List.getElem?_zipWith, eM, e]
    rw [this]
    by_cases hc : noC M2[n] = true
    · rw [if_pos hc]; exact .inl rfl
    · rw [if_neg hc]; exact .inr rfl
  have ex0 : Ex ι (clI M2 ι2) := (p1.trans p2).trans exc
  refine z.nx (wipeL W δ) (clM M2) (clI M2 ι2) σ' H' o3 ex0 k0 ⟨by rw [wipeL_len, hl, List.length_set]; exact hlen, fun j s e => ?_, ⟨?_, fun n m a e1 e2 => ?_, fun n c a e1 e2 => ?_, fun n e => ?_, fun n c e => ?_⟩, fun n a e => ?_, S.kp.trans k0, fun a ha hn => S2.new a (sub ha) hn, S2.bad, fun a ha => ⟨fun z => (S2.hid a ha).1 (sub z), ?_⟩, fun a ha => ?_⟩
  · obtain ⟨h1, h2⟩ := wipeL_at e
    obtain ⟨w, e1, r⟩ := S.slot j s h2
    refine ⟨w, ?_, r.mono k0 ex0 fun _ _ _ _ z => z⟩
    rw [hsl j h1, List.getElem?_set_ne (fun h : i = j => h1 (by rw [← h]; exact o5))]
    exact e1
  · unfold clM clI
    simp [hl2]
  · obtain ⟨c, o, _, e3, e⟩ := clI_at e1
    obtain ⟨c', o', _, e4, e'⟩ := clI_at e2
    split at e
    · split at e'
      · subst e e'; exact S2.mem.nod n m a e3 e4
      · cases e'
    · cases e
  · obtain ⟨c', o, e3, e4, e⟩ := clI_at e2
    split at e
    · rename_i hc
      subst e
      unfold clM at e1
      rw [List.getElem?_map, e3] at e1
      have e1 : clC c' = c := Option.some.inj e1
      unfold clC at e1
      rw [if_pos hc] at e1
      subst e1
      have q := S2.mem.cell n c' a e3 e4
      cases c' with
      | gone => exact q.elim
      | lst ds =>
        obtain ⟨xs, q1, l, r⟩ := q
        exact ⟨xs, kι a _ q1 (List.mem_of_getElem? e4), l, RDs.noL (fun b ys q n => ⟨kA b _ q (by intro _ z; cases z), fun z => n (sub z)⟩) (fun b o l q n => ⟨kA b _ q (by intro _ z; cases z), fun z => n (sub z)⟩) ds xs hc r⟩
      | _ => cases hc
    · cases e
  · obtain ⟨c', o, e3, e4, e⟩ := clI_at e
    unfold clM
    rw [List.getElem?_map, e3]
    show some (clC c') = _
    unfold clC
    split at e
    · subst e
      have := S2.mem.gone n e4
      rw [this] at e3
      cases e3; rfl
    · rename_i hc; rw [if_neg hc]
  · unfold clM at e
    rw [List.getElem?_map, Option.map_eq_some_iff] at e
    obtain ⟨c', e3, rfl⟩ := e
    unfold clC
    split
    · exact S2.mem.wf n c' e3
    · trivial
  · rw [hG0] at e; cases e
  · obtain ⟨o, ho⟩ := (S.hid a ha).2
    exact ⟨o, (k0 a o ho (S.hid a ha).1).1⟩
  · rw [hG0] at ha; cases ha
end
end VL
set_option Elab.async false
set_option linter.all false
set_option maxRecDepth 100000
set_option maxHeartbeats 4000000
namespace VL
open PySem PySem.Spec L2 RT RZ
abbrev jApp (K : PySem.W.Frag) (te : TE) : TS := fun E σ H => ∃ (A : Addr → Prop) (n : Nat), RcvAt K A te σ H ∧ Lsts A n H ∧ n < sizeLine ∧ ∀ H', Kept A H H' → Lsts A (n + 1) H' → E.nx σ H'
abbrev jRev (K : PySem.W.Frag) (te : TE) : TS := fun E σ H => ∃ (A : Addr → Prop) (n : Nat), RcvAt K A te σ H ∧ Lsts A n H ∧ ∀ H', Kept A H H' → Lsts A n H' → E.nx σ H'
abbrev jPart (K : PySem.W.Frag) (i : Nat) (k : Int) : TE := tOp (rIx K) (tVar i) (tC (.int k))
section
variable {X : Cx} {s1 s2 s3 : Stmt} {i j : Nat}
theorem jp_part (i : Nat) {x : Str} {k : Int} {j} {p pos ps : Pos} (hN : X.N[i]? = some x := by rfl) (hv : Vis X.env.scope x := by first | exact Or.inl rfl | exact Or.inr (Or.inl rfl) | exact Or.inr (Or.inr rfl)) (hd : (x == ("__debug__" : Str)) = false := by decide)
    (hcd : (x == ("__classdict__" : Str)) = false := by decide) (hs : PlainIx (.Constant (.int k) j ps) := by first | exact fun _ _ => rfl) : PE X (.Subscript (.Name x p) (.Constant (.int k) j ps) pos) (jPart X.K i k) :=
  pe_ix ix_seq (pe_var hN hv hd hcd) pe_int hs
/-- two lists in a record -/
theorem pair_at {H : Hp} {p b0 b1 : Addr} {xs : List V} {σ : L2.St} {A : Addr → Prop} (hv : σ[i]? = some (some (.ref p))) (hr : RecAt X.K H p xs) (hx : xs = [.ref b0, .ref b1]) : (A b0 → RcvAt X.K A (jPart X.K i 0) σ H) ∧ (A b1 → RcvAt X.K A (jPart X.K i 1) σ H) := by
  subst hx
  exact ⟨fun h => rcv_part hv hr (by rfl) h, fun h => rcv_part hv hr (by rfl) h⟩
theorem two_lists {H : Hp} {b0 b1 : Addr} {y0 y1 : List V} {n : Nat} (h0 : H b0 = some (.lst y0)) (h1 : H b1 = some (.lst y1)) (l0 : y0.length ≤ n) (l1 : y1.length ≤ n) : Lsts (fun a => a = b0 ∨ a = b1) n H := fun a ha => by
  rcases ha with rfl | rfl
  · exact ⟨_, h0, l0⟩
  · exact ⟨_, h1, l1⟩
/-- a tuple of two lists: x[0].append(c), x[1].reverse(), x[1].append(c) -/
def okTP (d : D) : Prop := ∃ as bs, d = .tup [.lst as, .lst bs] ∧ as.length + 3 ≤ sizeLine ∧ bs.length + 3 ≤ sizeLine
theorem tail_tp (h1 : PS X s1 (jApp X.K (jPart X.K i 0))) (h2 : PS X s2 (jRev X.K (jPart X.K i 1))) (h3 : PS X s3 (jApp X.K (jPart X.K i 1))) : PSs X [s1, s2, s3] (tTail X.K i [i] okTP) :=
  PSs.weak (pss_cons h1 (pss_cons h2 (pss_one h3))) fun E σ H ⟨v, d, ι, A, hv, hj, rd, ⟨as, bs, hd, l1, l2⟩, z⟩ => by
    subst hd
    obtain ⟨p, xs, rfl, hp, _, x0, r0, rfl, ⟨b0, y0, rfl, hb0, _, hA0, _, rs0⟩, x1, r1, rfl, ⟨b1, y1, rfl, hb1, _, hA1, _, rs1⟩, rfl⟩ := rd
    have hr : RecAt X.K H p [.ref b0, .ref b1] := by
      rcases hp with ⟨h, _⟩ | h
      · exact .inr (.inl h)
      · exact .inl h
    have e0 : y0.length = as.length := rs0.length.symm
    have e1 : y1.length = bs.length := rs1.length.symm
    have np : KT X.K p [.ref b0, .ref b1] ∨ ¬ (p = b0 ∨ p = b1) := by
      rcases hp with ⟨h, _⟩ | h
      · right
        rintro (w | w)
        · rw [w, hb0] at h; cases h
        · rw [w, hb1] at h; cases h
      · exact .inl h
    have hz := sizeLine_eq
    refine ⟨fun a => a = b0 ∨ a = b1, sizeLine - 3, (pair_at hv hr rfl).1 (.inl rfl), two_lists hb0 hb1 (by omega) (by omega), by omega, fun H1 k1 ls1 => ?_⟩
    have hr1 := hr.kept k1 np
    refine ⟨fun a => a = b0 ∨ a = b1, _, (pair_at hv hr1 rfl).2 (.inr rfl), ls1, fun H2 k2 ls2 => ?_⟩
    have hr2 := hr1.kept k2 np
    refine ⟨fun a => a = b0 ∨ a = b1, _, (pair_at hv hr2 rfl).2 (.inr rfl), ls2, by omega, fun H3 k3 ls3 => z σ H3 rfl (fun _ _ => rfl) ?_⟩
    have hA : ∀ a, a = b0 ∨ a = b1 → A a := fun a h => by
      rcases h with rfl | rfl
      · exact hA0 rfl
      · exact hA1 rfl
    exact (k1.trans k2 hA hA).trans k3 (fun _ h => h) hA
end
end VL
set_option Elab.async false
set_option linter.all false
set_option maxRecDepth 100000
set_option maxHeartbeats 2000000
namespace VL
open PySem PySem.Spec L2 RT RZ PyProof.Rows
end VL
set_option Elab.async false
set_option linter.all false
set_option maxRecDepth 100000
set_option maxHeartbeats 1000000
namespace VL
open PySem PySem.Spec L2 RT RZ PyProof.Rows
end VL
set_option Elab.async false
set_option linter.all false
set_option maxRecDepth 100000
set_option maxHeartbeats 4000000
namespace VL
open PySem PySem.Spec L2 RT RZ PyProof.Rows
end VL
set_option Elab.async false
set_option linter.all false
set_option maxRecDepth 100000
set_option maxHeartbeats 4000000
namespace VL
open PySem PySem.Spec L2 RT RZ PyProof.Rows
section
variable {X : Cx} {pins : List (Addr × Obj)} {σ : L2.St} {H : Hp} {s : Shared} {a b : Addr} {z : V} {u r : Value} {A : Around} {E : Value → Shared → Prop} {xs : List (NestedKey × Addr × V)} {k : NestedKey}
theorem n_setdef {Q : Value → Shared → Prop} (hu : A.units + 9 < cLine) (I : Inv X pins σ H s) (e : H a = some (DnO a xs)) (ha : DnAll X.K H xs) (hk : KeyT X.K H k b) (hl : xs.length < sizeLine) (rz : RelV z r)
    (h1 : ∀ v w' s', valNV xs k = some v → Inv X pins σ H s' → RelV v w' → Q w' s') (h2 : ∀ s', valNV xs k = none → Inv X pins σ (upd H a (DnO a (putNV xs k b z))) s' → Q r s') :
    wpAny (model X.prog X.w) A (call (.builtin "dict.setdefault") [.ref a, .ref b, r]) Q E s := by
  obtain ⟨hs, hz, ys, rel, dd⟩ := dn_of I (Rd.of e) ha
  have q := rel.val k
  refine call_setdefault_heap (hsz := by rw [← Paired.length rel]; exact hz) (room9 hu) (hk.is I) hs dd (fun p hp => ?_) fun hn h' dd' hsb => ?_
  · rw [hp] at q
    obtain ⟨v, hv, rv⟩ : ∃ v, valNV xs k = some v ∧ RelV v p.2 := by
      cases o : valNV xs k with
      | none =>
        rw [o] at q
        have := RelO.none_of q
        cases this
      | some v =>
        rw [o] at q
        obtain ⟨w', hw, rw'⟩ := RelO.some_of q
        cases hw
        exact ⟨v, rfl, rw'⟩
    exact h1 v _ _ hv (I.tok _) rv
  · have hv : valNV xs k = none := by
      cases o : valNV xs k with
      | none => rfl
      | some v =>
        rw [o, hn] at q
        obtain ⟨w', hw, _⟩ := RelO.some_of q
        cases hw
    refine h2 _ hv ?_
    have rel' := rel.put k b rz
    have hp : ∀ q ∈ storedH ys k b r, nplain q.1 = true := fun q hq => (PN.keyT rel' (putNV_all ha hk) q hq).2.2
    have he : ∃ q, h'.get? a = some q := let ⟨q, _, _, hq, _⟩ := dd'; ⟨q, hq⟩
    exact I.write (x := a) (e := a) (by rw [e]; exact True.intro) (.inl rfl) (fun b q hb z => (hsb.2 b hb).trans z) he (dn_new (X := X) hs (by have := putNV_len (xs := xs) (k := k) (b := b) (v := z); omega) rel' hp dd')
end
section
variable {X : Cx} {o e f : Expr} {td ty tx : TE} {apos cpos pos p : Pos}
def tNSetD (K : PySem.W.Frag) (td ty tx : TE) : TE := fun σ H Q => td σ H fun x H1 => ∃ a, x = .ref a ∧ (∃ xs, Rd H1 a (DnO a xs) ∧ DnAll K H1 xs) ∧ ty σ H1 fun y H2 => tx σ H2 fun z H3 => ∃ b xs k, y = .ref b ∧ H3 a = some (DnO a xs) ∧ DnAll K H3 xs ∧ KeyT K H3 k b ∧ xs.length < sizeLine ∧
  (∀ v, valNV xs k = some v → Q v H3) ∧ (valNV xs k = none → Q z (upd H3 a (DnO a (putNV xs k b z))))
theorem pe_nsetdef (hu : X.A.units + 9 < cLine) (ho : PE X o td) (he : PE X e ty) (hf : PE X f tx) (m : M2 X o "setdefault" apos e f cpos) : PE X (.Call (.Attribute o "setdefault" apos) [e, f] [] cpos) (tNSetD X.K td ty tx) := by
  refine ⟨fun pins s σ H Q I h => ?_⟩
  refine wpAny_Call_method m.base m.few m.line PySem.F.plainAttrs_dict PySem.F.slot_dict_setdefault PySem.F.type_dict_setdefault (thn (ho.run pins s σ H _ I h) fun u s1 ⟨x, H1, I1, rx, a, ex, ⟨xs, d1, d2⟩, q1⟩ => ?_)
  subst ex
  obtain rfl : u = Value.ref a := rx
  obtain ⟨t1, t2⟩ := dn_type I1 d1 d2
  refine ⟨t1, t2, ?_⟩
  rw [m.trees]
  refine Calls.callWith_builtin rfl (Calls.evalArgs_plain (Calls.spliced_cons (thn (he.run pins s1 σ H1 _ I1 q1) fun iv s2 ⟨y, H2, I2, ry, q2⟩ =>
    Calls.spliced_cons (thn (hf.run pins s2 σ H2 _ I2 q2) fun fv s3 ⟨z, H3, I3, rz, b, xs, k, ey, e3, ha, hk, hl, g1, g2⟩ => Calls.spliced_nil ?_))))
  subst ey
  cases (show iv = Value.ref b from ry)
  exact n_setdef hu I3 e3 ha hk hl rz (fun v w' s4 hv I4 rv => ⟨_, H3, I4, rv, g1 v hv⟩) fun s4 hn I4 => ⟨_, _, I4, rz, g2 hn⟩
end
section
variable {K : PySem.W.Frag} {X : Cx} {N : Bool → Addr → Prop} {H : Hp} {ι : Ix} {G : Gd} {δ : DS} {M : Mem} {σ : L2.St} {o e f : Expr} {apos cpos pos p : Pos} {td ty tx : TE'}
def stSD (s y z : Sv) (M : Mem) (Q : QD) : Prop := match s, y, z with
  | .ref n, .d dk, .d dz => ok (cellN M[n]?) fun kvs => ok (nkD dk) fun k => kvs.length < sizeLine ∧ match valN kvs k with
    | some v => Q (.d v) M
    | none => Q (.d dz) (M.set n (.dn (putN kvs dk k dz)))
  | _, _, _ => False
def tKsetd (td ty tx : TE') : TE' := fun δ M Q => td δ M fun s M1 => ok (dnAt M1 s) fun _ => ty δ M1 fun y M2 => tx δ M2 fun z M3 => stSD s y z M3 Q
theorem ve_ksetd (hu : X.A.units + 9 < cLine) (ho : VE X G o td) (he : VE X G e ty) (hf : VE X G f tx) (m : M2 X o "setdefault" apos e f cpos) : VE X G (.Call (.Attribute o "setdefault" apos) [e, f] [] cpos) (tKsetd td ty tx) :=
  PE.weak (pe_nsetdef hu ho he hf m) fun σ H Q ⟨δ, M, ι, Q0, S, h, zz⟩ => th1 S h fun s M1 ι1 H1 v q1 p1 k1 S1 r1 => by
    obtain ⟨kvs0, e0, q1⟩ := ok_elim q1
    obtain ⟨a, xs, rfl, hr, hk⟩ := dn_at S1 r1 e0
    refine ⟨a, rfl, ⟨xs, hr, hk.all⟩, th1 S1 q1 fun y M2 ι2 H2 u q2 p2 k2 S2 r2 => th1 S2 q2 fun z M3 ι3 H3 w q3 p3 k3 S3 r3 => ?_⟩
    have r1' := r1.mono (k2.trans k3) (p2.trans p3) (fun _ _ _ _ z => z)
    have r2' := r2.mono k3 p3 (fun _ _ _ _ z => z)
    unfold stSD at q3
    split at q3
    · rename_i n dk dz _hx
      obtain ⟨kvs, e1, q3⟩ := ok_elim q3
      obtain ⟨k', e2, hl, q3⟩ := ok_elim q3
      obtain ⟨a', ea, hn, xs', hH, h1, h2, h3⟩ := S3.mem.at r1' (cellN_some e1) (fun z => nomatch z)
      cases ea
      obtain ⟨b, rfl, kt⟩ := keyT_of e2 (show RD X.K G.N H3 ι3 dk u from r2')
      have hk' : RNk X.K G.N H3 ι3 kvs xs' := ⟨h1, h2, h3⟩
      have hm := List.mem_of_getElem? hn
      refine ⟨b, xs', k', rfl, hH, hk'.all, kt, by rw [← hk'.length]; exact hl, fun v hv => ?_, fun hv => ?_⟩
      · rcases hk'.val k' with ⟨g1, g2⟩ | ⟨d', v', g1, g2, r'⟩
        · rw [g2] at hv; cases hv
        · rw [g2] at hv; cases hv
          rw [g1] at q3
          exact zz _ _ ι3 H3 _ q3 ((p1.trans p2).trans p3) ((k1.trans k2).trans k3) S3 r'
      · rcases hk'.val k' with ⟨g1, g2⟩ | ⟨d', v', g1, g2, r'⟩
        · rw [g1] at q3
          have k : Kp ι3 H3 ι3 (upd H3 a (DnO a (putNV xs' k' b w))) := Kp.turned hm
          have hp := (hk'.put e2 (show RD _ _ _ _ _ _ from r2') (show RD _ _ _ _ _ _ from r3)).mono k fun _ _ _ _ z => z
          exact zz _ _ ι3 _ _ q3 ((p1.trans p2).trans p3) (((k1.trans k2).trans k3).trans k) (S3.turned hn ⟨_, upd_same, hp.1, hp.2.1, hp.2.2⟩) (r3.mono k (Ex.refl _) (fun _ _ _ _ z => z))
        · rw [g2] at hv; cases hv
    · exact q3.elim
end
end VL
set_option Elab.async false
set_option linter.all false
set_option maxRecDepth 100000
set_option maxHeartbeats 1000000
namespace VL
open PySem PySem.Spec L2 RT RZ PyProof.Rows HT
end VL
set_option Elab.async false
set_option linter.all false
set_option maxRecDepth 100000
set_option maxHeartbeats 4000000
namespace VL
open PySem PySem.Spec L2 RT RZ PyProof.Rows HT
def refsI : List (D ⊕ Nat) → List Nat
  | [] => []
  | .inl _ :: r => refsI r
  | .inr n :: r => n :: refsI r
/-- what is lent: alive, once, the cells of an object ahead of it -/
structure Lent (M : Mem) (ι : Ix) (ns : List Nat) : Prop where
  nd : ns.Nodup
  al : ∀ n ∈ ns, ∃ a, ι[n]? = some (some a)
  bf : ∀ (p n : Nat) (k : Kd) (its : List (D ⊕ Nat)), ns[p]? = some n → M[n]? = some (.nd k its) → ∀ j ∈ refsI its, ∃ q, q < p ∧ ns[q]? = some j
theorem Lent.nil {M : Mem} {ι : Ix} : Lent M ι [] := ⟨List.nodup_nil, fun _ h => by simp at h, fun p n k its h => by simp at h⟩
section
variable {K : PySem.W.Frag} {G : Gd} {δ : DS} {M : Mem} {ι : Ix} {σ : L2.St} {H : Hp} {i0 : List Addr}
theorem Lent.sub {ns : List Nat} (L : Lent M ι ns) (hi : i0.map some = ns.map (fun n => (ι[n]?).join)) : ∀ b ∈ i0, some b ∈ ι := fun b hb => by
  have : some b ∈ i0.map some := by simpa using hb
  rw [hi] at this
  obtain ⟨m, hm1, hm2⟩ := List.mem_map.mp this
  obtain ⟨c, hb⟩ := L.al m hm1
  rw [hb] at hm2; cases hm2
  exact List.mem_of_getElem? hb
end
end VL
set_option Elab.async false
set_option linter.all false
set_option maxRecDepth 100000
set_option maxHeartbeats 4000000
namespace VL
open PySem PySem.Spec L2 RT RZ PyProof.Rows HT
end VL
set_option Elab.async false
set_option linter.all false
set_option maxRecDepth 100000
set_option maxHeartbeats 4000000
namespace VL
open PySem PySem.Spec L2 RT RZ PyProof.Rows HT
theorem SameF.names : ∀ {a b : List (Str × V)}, SameF a b → a.map (·.1) = b.map (·.1)
  | _, _, .nil => rfl
  | _, _, .cons h t => by rw [List.map_cons, List.map_cons, h.1, SameF.names t]
end VL
set_option Elab.async false
set_option linter.all false
set_option maxRecDepth 100000
set_option maxHeartbeats 4000000
namespace VL
open PySem PySem.Spec L2 RT RZ PyProof.Rows HT
end VL
set_option Elab.async false
set_option linter.all false
set_option maxRecDepth 100000
set_option maxHeartbeats 2000000
namespace VL
open PySem PySem.Spec L2 RT RZ PyProof.Rows HT
end VL
set_option Elab.async false
set_option linter.all false
set_option maxRecDepth 100000
set_option maxHeartbeats 2000000
namespace VL
open PySem PySem.Spec L2 RT RZ PyProof.Rows HT
end VL
set_option Elab.async false
set_option linter.all false
set_option maxRecDepth 100000
set_option maxHeartbeats 2000000
namespace VL
open PySem PySem.Spec L2 RT RZ PyProof.Rows HT
end VL
set_option Elab.async false
set_option linter.all false
set_option maxRecDepth 100000
set_option maxHeartbeats 2000000
namespace VL
open PySem PySem.Spec L2 RT RZ PyProof.Rows HT
end VL
set_option Elab.async false
set_option linter.all false
set_option maxRecDepth 100000
set_option maxHeartbeats 2000000
namespace VL
open PySem PySem.Spec L2 RT RZ PyProof.Rows HT
end VL
set_option Elab.async false
set_option linter.all false
set_option maxRecDepth 100000
set_option maxHeartbeats 4000000
namespace VL
open PySem PySem.Spec L2 RT RZ PyProof.Rows HT
end VL
set_option Elab.async false
set_option linter.all false
set_option maxRecDepth 100000
set_option maxHeartbeats 4000000
namespace VL
open PySem PySem.Spec L2 RT RZ PyProof.Rows HT
end VL
set_option Elab.async false
set_option linter.all false
set_option maxRecDepth 100000
set_option maxHeartbeats 4000000
namespace VL
open PySem PySem.Spec L2 RT RZ PyProof.Rows HT
section
variable {K : PySem.W.Frag} {G : Gd} {δ : DS} {M : Mem} {ι : Ix} {σ : L2.St} {H : Hp} {i0 : List Addr}
/-- names of new cells, as the caller counts them -/
def shI (k n : Nat) : D ⊕ Nat → D ⊕ Nat
  | .inl d => .inl d
  | .inr j => .inr (j - k + n)
theorem RIs.sh {H' : Hp} {r : Ix} (S : Sr K G δ M ι σ H) (kp : Kp (i0.map some) H (i0.map some ++ r) H') (kk : ∀ a o, H' a = some o → some a ∉ ι ++ r → True) : ∀ {its : List (D ⊕ Nat)} {xs : List V}, (∀ j, Sum.inr j ∈ its → i0.length ≤ j) → RIs K (NB (Bc G ι i0)) H' (i0.map some ++ r) its xs → RIs K G.N H' (ι ++ r) (its.map (shI i0.length ι.length)) xs
  | [], _, _, h => h
  | .inl d :: its, xs, hl, h => by
    obtain ⟨x, t, rfl, h1, h2⟩ := h
    exact ⟨x, t, rfl, RD.up S kp h1, RIs.sh S kp kk (fun j hj => hl j (List.mem_cons_of_mem _ hj)) h2⟩
  | .inr n :: its, xs, hl, h => by
    obtain ⟨x, t, rfl, ⟨a, e, q⟩, h2⟩ := h
    have hn := hl n List.mem_cons_self
    have at1 : (ι ++ r)[n - i0.length + ι.length]? = (i0.map some ++ r)[n]? := by
      rw [List.getElem?_append_right (by omega), List.getElem?_append_right (by simpa using hn)]
      congr 1
      simp
    refine ⟨x, t, rfl, ⟨a, e, ?_⟩, RIs.sh S kp kk (fun j hj => hl j (List.mem_cons_of_mem _ hj)) h2⟩
    rw [at1]; exact q
end
end VL
set_option Elab.async false
set_option linter.all false
set_option maxRecDepth 100000
set_option maxHeartbeats 4000000
namespace VL
open PySem PySem.Spec L2 RT RZ PyProof.Rows HT
end VL
set_option Elab.async false
set_option linter.all false
set_option maxRecDepth 100000
set_option maxHeartbeats 2000000
namespace VL
open PySem PySem.Spec L2 RT RZ PyProof.Rows HT
end VL
set_option Elab.async false
set_option linter.all false
set_option maxRecDepth 100000
set_option maxHeartbeats 2000000
namespace VL
open PySem PySem.Spec L2 RT RZ PyProof.Rows HT
end VL
set_option Elab.async false
set_option linter.all false
set_option maxRecDepth 100000
set_option maxHeartbeats 4000000
namespace VL
open PySem PySem.Spec L2 RT RZ PyProof.Rows
end VL
set_option Elab.async false
set_option linter.all false
set_option maxRecDepth 100000
set_option maxHeartbeats 2000000
namespace VL
open PySem PySem.Spec L2 RT RZ PyProof.Rows
end VL
set_option Elab.async false
set_option linter.all false
set_option maxRecDepth 100000
set_option maxHeartbeats 2000000
namespace VL
open PySem PySem.Spec L2 RT RZ PyProof.Rows
end VL
set_option Elab.async false
set_option linter.all false
set_option maxRecDepth 100000
set_option maxHeartbeats 2000000
namespace VL
open PySem PySem.Spec L2 RT RZ PyProof.Rows HT
def dropKD (kvs : List (Key × D)) (k : Key) : List (Key × D) := kvs.filter fun kv => decide (kv.1 ≠ k)
section
variable {K : PySem.W.Frag} {X : Cx} {N : Bool → Addr → Prop} {H : Hp} {ι : Ix} {G : Gd} {δ : DS} {M : Mem} {σ : L2.St}
theorem RK.drop {k : Key} : ∀ {kvs : List (Key × D)} {ws : List (Key × V)}, RK K N H ι kvs ws → RK K N H ι (dropKD kvs k) (dropK ws k)
  | [], ws, h => by rw [h.nil_inv]; exact RK.nil
  | (j, d) :: kvs, ws, h => by
    obtain ⟨v, ws', rfl, r, h'⟩ := h.inv
    have ih := RK.drop (k := k) h'
    unfold dropKD dropK at ih ⊢
    by_cases e : j = k
    · rw [List.filter_cons_of_neg (by simp [e]), List.filter_cons_of_neg (by simp [e])]; exact ih
    · rw [List.filter_cons_of_pos (by simp [e]), List.filter_cons_of_pos (by simp [e])]; exact RK.cons r ih
end
end VL
set_option Elab.async false
set_option linter.all false
set_option maxRecDepth 100000
set_option maxHeartbeats 4000000
namespace VL
open PySem PySem.Spec L2 RT RZ PyProof.Rows HT
open L2.DX (itemsO itemsO_ok takeT)
section
variable {X : Cx}
/-- pairs of an int and something -/
def IsIP (h : Heap) (v : Value) (n : Int) : Prop := ∃ a o t u k, v = .ref a ∧ h.get? a = some o ∧ o.cls = .type "tuple" ∧ o.data = .seq #[.int n t, u] k
theorem IsIP.keeps {h h' : Heap} {v : Value} {n : Int} (p : IsIP h v n) (k : ∀ b o, h.get? b = some o → o.cls = .type "tuple" → h'.get? b = some o) : IsIP h' v n := by
  obtain ⟨a, o, t, u, m, e, ho, hc, hd⟩ := p
  exact ⟨a, o, t, u, m, e, k _ _ ho hc, hc, hd⟩
end
end VL
set_option Elab.async false
set_option linter.all false
set_option maxRecDepth 100000
set_option maxHeartbeats 2000000
namespace VL
open PySem PySem.Spec L2 RT RZ PyProof.Rows HT
open L2.DX (itemsO)
end VL
set_option Elab.async false
set_option linter.all false
set_option maxRecDepth 100000
set_option maxHeartbeats 2000000
namespace VL
open PySem PySem.Spec L2 RT RZ PyProof.Rows HT
end VL
set_option Elab.async false
set_option linter.all false
set_option maxRecDepth 100000
set_option maxHeartbeats 2000000
namespace VL
open PySem PySem.Spec L2 RT RZ PyProof.Rows HT
end VL
set_option Elab.async false
set_option linter.all false
set_option maxRecDepth 100000
set_option maxHeartbeats 4000000
namespace VL
open PySem PySem.Spec L2 RT RZ PyProof.Rows HT
def ItiN (d : Addr) (o : Obj) (xs : List (NestedKey × Addr × V)) : It :=
  ⟨fun i H => H d = some (.frz o (DnO d xs)) ∧ i < xs.length, fun i H x H' => ∃ T k q v, xs[i]? = some (k, q, v) ∧ x = .ref T ∧ H T = none ∧ H' = upd H T (.tup [.ref q, v]), fun i H => H d = some (.frz o (DnO d xs)) ∧ xs.length ≤ i⟩
theorem frzNI {X : Cx} {pins : List (Addr × Obj)} {σ : L2.St} {H : Hp} {s : Shared} {d : Addr} {o : Obj} {xs : List (NestedKey × Addr × V)} (I : Inv X pins σ H s) (h : H d = some (.frz o (DnO d xs))) :
    (d == sysModules) = false ∧ s.heap.get? d = some o ∧ o.ExactDict ∧ ∃ (es : Array DictEntry) (ep : Nat), o.data = .dict es ep ∧ es.size = xs.length ∧ ∀ (i : Nat) (k : NestedKey) (q : Addr) (v : V), xs[i]? = some (k, q, v) → ∃ en : DictEntry, es[i]? = some en ∧ en.key = .ref q ∧ RelV v en.val := by
  obtain ⟨hd, ⟨hs, hz, ys, o', es, ep, pr, ho, hx, hdt, he, _⟩, _⟩ := I.hok d _ h
  rw [hd] at ho
  cases ho
  have hl : xs.length = ys.length := Paired.length pr
  have hes : es.size = ys.length := by
    have := congrArg List.length he
    simpa using this
  refine ⟨hs, hd, hx, es, ep, hdt, by omega, fun i k q v e => ?_⟩
  obtain ⟨y, hy, e1, e2, e4⟩ := paired_get pr e
  have e3 : y.2.1 = q := e2.symm
  refine ⟨nEnt y, ?_, by rw [← e3]; rfl, e4⟩
  rw [← Array.getElem?_toList, he, List.getElem?_map, hy]; rfl
theorem turn_itemsN {P : Program} {w : World} {K : PySem.W.Frag} {d : Addr} {o : Obj} {es : Array DictEntry} {ep : Nat} {xs : List (NestedKey × Addr × V)} {elts : List Expr} {kk : Nat} {tpos : Pos} (it : Addr) (hod : o.data = .dict es ep) :
    Turn P w K (.Tuple elts kk tpos) (ItiN d o xs) [it] it (fun i h => ∃ ok ov, IsItemIter h it d i xs.length ep ok ov) where
  mem := by simp
  obj := fun i h st b hb => by
    have e : b = it := by simpa using hb
    subst e
    obtain ⟨ok, ov, e⟩ := st
    exact ⟨_, e, fun v z => nomatch z⟩
  keep := fun i h h' st k => let ⟨ok, ov, e⟩ := st; ⟨ok, ov, k it (by simp) _ e⟩
  item := by
    intro X hP hw hK hc i pins s σ H E I hf st hg
    subst hP hw hK
    obtain ⟨hd, hi⟩ := hg
    obtain ⟨hs, hgd, hx, es', ep', hdt, hsz, ent⟩ := frzNI I hd
    obtain ⟨rfl, rfl⟩ := dict_ep hod hdt
    obtain ⟨⟨k, q, v⟩, hkv⟩ : ∃ p, xs[i]? = some p := ⟨xs[i], List.getElem?_eq_getElem hi⟩
    obtain ⟨en, hen, hkey, rv⟩ := ent i k q v hkv
    obtain ⟨ok, ov, he⟩ := st
    rw [← hsz] at he
    have hlt : it < s.heap.objs.size := Heap.lt_size he
    have hil : i < es'.size := by omega
    obtain rfl : es'[i] = en := by
      have := Array.getElem?_eq_getElem hil
      rw [this] at hen
      exact Option.some.inj hen
    refine DT.nextI he ⟨o, hgd, hx, hdt⟩ hil fun h' ho hT hz hk => ?_
    refine ⟨_, rfl, wpAny_letOwnedTupleGo_items (s := { s with heap := h' }) ho fun h'' he' sb => ?_⟩
    have hT2 : h''.get? s.heap.objs.size = some { cls := .type "tuple", data := .seq #[es'[i].key, es'[i].val] } := (sb.2 _ (Nat.ne_of_gt hlt)).trans hT
    have new : ObjOk X.prog X.w (upd H s.heap.objs.size (.tup [.ref q, v])) h'' s.heap.objs.size (.tup [.ref q, v]) :=
      ⟨by show 2 ≤ sizeLine; decide, [es'[i].key, es'[i].val], .cons hkey (.cons rv .nil), ⟨_, hT2, rfl, _, rfl⟩⟩
    have I1 : Inv X pins σ (upd H s.heap.objs.size (.tup [.ref q, v])) { s with heap := h'' } :=
      I.turnedNew (t' := s.toks) (ch := [it]) (fun b ob hb e => (sb.2 b (by simpa using hb)).trans (hk b ob (by simpa using hb) e)) hf (Nat.le_refl _) new
    refine ⟨.ref s.heap.objs.size, _, I1, rfl, ⟨_, k, q, v, hkv, rfl, I.hok.fresh (Nat.le_refl _), rfl⟩, ⟨es'[i].key, es'[i].val, ?_⟩, fun b hb => ?_⟩
    · rw [← hsz]; exact he'
    · have e : b = it := by simpa using hb
      rw [e, upd_ne (Nat.ne_of_lt hlt)]
      exact (hf it (by simp)).1
  done := by
    intro X hP hw hK hc i pins s σ H E I hf st hg
    subst hP hw hK
    obtain ⟨hd, hi⟩ := hg
    obtain ⟨f0, f1, f2, f3, f4, f5⟩ := hf it (by simp)
    obtain ⟨hs, hgd, hx, es', ep', hdt, hsz, ent⟩ := frzNI I hd
    obtain ⟨rfl, rfl⟩ := dict_ep hod hdt
    obtain ⟨ok, ov, he⟩ := st
    rw [← hsz] at he
    exact DT.endI (I.ok.hd hc) he ⟨o, hgd, hx, hdt⟩ (by omega) fun h' eb => ⟨rfl, I.turned (t' := s.toks) (fun b ob hb e => eb b ob hb e) f0 f1 f3 f4 f5⟩
  self := fun A i s Q E st h => let ⟨_, _, e⟩ := st; PySem.W.kcp_self e h
def iItemsN (td : TE) : TI := fun σ H R => td σ H fun x H1 => ∃ d o xs, x = .ref d ∧ H1 d = some (.frz o (DnO d xs)) ∧ R (ItiN d o xs) H1
theorem pi_itemsN {X : Cx} {e : Expr} {td : TE} {apos cpos : Pos} {elts : List Expr} {kk : Nat} {tpos : Pos} (he : PE X e td) (hbase : attributeBase e "items" X.env (eval e X.env) = eval e X.env := by rfl) (hline : (apos.endLine == cpos.line) = true := by rfl) :
    PI X (.Tuple elts kk tpos) (.Call (.Attribute e "items" apos) [] [] cpos) (iItemsN td) := by
  refine ⟨fun pins s σ H R I h => ?_⟩
  refine wpAny_Call_method (T := "dict") (id := "dict.items") hbase rfl hline PySem.F.plainAttrs_dict PySem.F.slot_dict_items PySem.F.type_dict_items (thn (he.run pins s σ H _ I h) fun u s1 ⟨x, H1, I1, rx, d, o, xs, ex, hd, q⟩ => ?_)
  subst ex
  obtain rfl : u = Value.ref d := rx
  obtain ⟨hs, hgd, hx, es, ep, hdt, hsz, ent⟩ := frzNI I1 hd
  have hm : DT.Raw s1.heap d es ep := ⟨o, hgd, hx, hdt⟩
  refine ⟨hm.typeIs, fun b q => (by cases q; exact ⟨o, hgd, hx.2.1⟩), ?_⟩
  have I2 : Inv X pins σ H1 { s1 with heap := s1.heap.push { cls := .type "dict_items", data := .fields #[.ref d] } } := I1.kept (t' := s1.toks) fun b ob q => Heap.get?_push_of_some _ q
  have fin : wpAny (model X.prog X.w) X.A (pyIter (.ref s1.heap.objs.size)) (PIE X pins σ (.Tuple elts kk tpos) R) X.xe { s1 with heap := s1.heap.push { cls := .type "dict_items", data := .fields #[.ref d] } } := by
    refine DT.iterI (d := d) ⟨_, Heap.get?_push_size _ rfl, rfl, rfl⟩ (hm.push _) (pi_one (tk := s1.toks) I2 _ (turn_itemsN _ hdt) ⟨.none, .none, ?_⟩ q)
    rw [← hsz]
    exact Heap.get?_push_size _ rfl
  show wpAny _ _ (callWith cpos (.builtin "dict.items") [.ref d] [] []) _ X.xe s1
  exact method_meetsIn PySem.F.slot_dict_items PySem.F.entry_dict_items rfl (PySem.evalArgs_none ⟨rfl, hm.typeIs, PySem.F.args_dict_items_1 _, _, DT.meetsItems (es := es) (ep := ep) hs, hm, fin⟩)
def iItN (t : TE') : TI' := fun δ M Q => t δ M fun s M1 => match s with
  | .d (.dn ks ds) => ks.length ≤ sizeLine ∧ Q ((ks.zip ds).map fun p => .tup [p.1, p.2]) (fun _ => True) M1
  | _ => False
theorem vi_itemsN {X : Cx} {G : Gd} {e : Expr} {t : TE'} {apos cpos : Pos} {bd : Bool} {elts : List Expr} {kk : Nat} {tpos : Pos} (h : VE X G e t) (hbase : attributeBase e "items" X.env (eval e X.env) = eval e X.env := by rfl) (hline : (apos.endLine == cpos.line) = true := by rfl) : VI X G bd (.Tuple elts kk tpos) (.Call (.Attribute e "items" apos) [] [] cpos) (iItN t) := by
  have hi := pi_itemsN (elts := elts) (kk := kk) (tpos := tpos) (apos := apos) (cpos := cpos) h hbase hline
  refine ⟨fun pins s σ H R I ⟨δ, M, ι, Q0, S, q, z⟩ => hi.run pins s σ H R I ?_⟩
  refine th1 S q fun x M1 ι1 H1 v q1 p1 k1 S1 r1 => ?_
  split at q1
  · rename_i ks ds
    obtain ⟨hl, q1⟩ := q1
    obtain ⟨a, ws, o, rfl, hq, hno, h1, h2, h3⟩ := r1
    have hlen : ds.length = ws.length := by
      have := h3.length
      simpa using this
    have hkl : ks.length = ws.length := by
      have := h2.length
      simpa using this
    refine ⟨a, o, ws, rfl, hq, z _ _ M1 ι1 H1 _ (fun _ => by rw [List.length_map, List.length_zip]; omega) q1 p1 k1 S1 ?_⟩
    intro G2 δ2 M2 ι2 σ2 H2 hn2 S2 e2 k2 hg
    have hq2 := k2 a _ hq hno
    refine ⟨⟨hq2.1, by rw [List.length_map, List.length_zip]; omega⟩, fun i d hd => ?_⟩
    rw [List.getElem?_map] at hd
    obtain ⟨⟨dk, d0⟩, hz, rfl⟩ := Option.map_eq_some_iff.mp hd
    obtain ⟨hz1, hz2⟩ := List.getElem?_zip_eq_some.mp hz
    obtain ⟨v, hv, rv⟩ := h3.get hz2
    obtain ⟨u, hu, ru⟩ := h2.get hz1
    have hil := (List.getElem?_eq_some_iff.mp hz2).1
    refine ⟨⟨hq2.1, by omega⟩, fun x H3 y => ?_⟩
    obtain ⟨T, k', q', v', hkv, rfl, hT, rfl⟩ := y
    rw [List.getElem?_map, hkv] at hv hu
    cases hv
    cases hu
    exact ⟨.inr ⟨T, _, hT, rfl⟩, fin_pair S2 hT (ru.mono k2 hn2) (rv.mono k2 hn2)⟩
  · exact q1.elim
end VL
set_option Elab.async false
set_option linter.all false
set_option maxRecDepth 100000
set_option maxHeartbeats 4000000
namespace VL
open PySem PySem.Spec L2 RT RZ PyProof.Rows
def ItM3 (K : PySem.W.Frag) (a b c : Addr) : It :=
  ⟨fun i H => ∃ (xs ys zs : List V) (x y z : V), SqL K H a xs ∧ SqT K H b ys ∧ SqT K H c zs ∧ xs[i]? = some x ∧ ys[i]? = some y ∧ zs[i]? = some z,
    fun i H v H' => ∃ T x y z, v = .ref T ∧ H T = none ∧ H' = upd H T (.tup [x, y, z]) ∧ (∀ xs, SqL K H a xs → xs[i]? = some x) ∧ (∀ ys, SqT K H b ys → ys[i]? = some y) ∧ ∀ zs, SqT K H c zs → zs[i]? = some z,
    fun i H => ∃ xs ys zs : List V, SqL K H a xs ∧ SqT K H b ys ∧ SqT K H c zs ∧ i ≤ xs.length ∧ i ≤ ys.length ∧ i ≤ zs.length ∧ (i = xs.length ∨ i = ys.length ∨ i = zs.length)⟩
/-- the cells of the zip, and what it goes over, lie apart -/
structure Apt3 (z TI TO i j k a b c : Addr) : Prop where
  ne : [z, TI, TO, i, j, k].Nodup
  na : a ∉ [z, TI, TO, i, j, k]
  nb : b ∉ [z, TI, TO, i, j, k]
  nc : c ∉ [z, TI, TO, i, j, k]
theorem Apt3.sep {z TI TO i j k a b c : Addr} (D : Apt3 z TI TO i j k a b c) : ZipSep3 z TI TO i j k [i, a] [j, b] [k, c] := by
  obtain ⟨ne, na, nb, nc⟩ := D
  simp only [List.nodup_cons, List.mem_cons, List.not_mem_nil, or_false, not_or] at ne na nb nc
  obtain ⟨⟨z1, z2, z3, z4, z5⟩, ⟨t1, t2, t3, t4⟩, ⟨o1, o2, o3⟩, ⟨p1, p2⟩, q, _⟩ := ne
  obtain ⟨a1, a2, a3, a4, a5, a6⟩ := na
  obtain ⟨b1, b2, b3, b4, b5, b6⟩ := nb
  obtain ⟨c1, c2, c3, c4, c5, c6⟩ := nc
  constructor <;> simp only [List.mem_cons, List.not_mem_nil, or_false, not_or, true_or, ne_eq] <;> first | trivial | (constructor <;> (intro e; simp_all)) | (intro e; simp_all)
theorem turn_mixed3 {P : Program} {w : World} {K : PySem.W.Frag} {elts : List Expr} {kk : Nat} {tpos : Pos} {a b c z TI TO i1 i2 i3 : Addr} (D : Apt3 z TI TO i1 i2 i3 a b c) :
    Turn P w K (.Tuple elts kk tpos) (ItM3 K a b c) [z, TI, TO, i1, i2, i3] z (fun i h => IsZip h z TI TO .none ∧ IsTupOf3 h TI (.ref i1) (.ref i2) (.ref i3) ∧ (∃ x y u, IsTupOf3 h TO x y u) ∧ h.IsListIter i1 a i ∧ h.IsTupleIter i2 b i ∧ h.IsTupleIter i3 c i) := by
  have S := D.sep
  have ia : a ≠ i1 := fun e => D.na (by simp [e])
  have ib : b ≠ i2 := fun e => D.nb (by simp [e])
  have ic : c ≠ i3 := fun e => D.nc (by simp [e])
  constructor
  case mem => simp
  case obj =>
    rintro i h ⟨hz, hTI, ⟨x, y, u, hTO⟩, ⟨o1, e1, _, d1⟩, ⟨o2, e2, _, d2⟩, ⟨o3, e3, _, d3⟩⟩ c hc
    simp only [List.mem_cons, List.not_mem_nil, or_false] at hc
    rcases hc with rfl | rfl | rfl | rfl | rfl | rfl
    · exact ⟨_, hz, fun v q => nomatch q⟩
    · exact ⟨_, hTI, fun v q => nomatch q⟩
    · exact ⟨_, hTO, fun v q => nomatch q⟩
    · exact ⟨o1, e1, fun v q => by rw [d1] at q; cases q⟩
    · exact ⟨o2, e2, fun v q => by rw [d2] at q; cases q⟩
    · exact ⟨o3, e3, fun v q => by rw [d3] at q; cases q⟩
  case keep =>
    rintro i h h' ⟨hz, hTI, ⟨x, y, u, hTO⟩, h1, h2, h3⟩ k
    exact ⟨k z (by simp) _ hz, k TI (by simp) _ hTI, ⟨x, y, u, k TO (by simp) _ hTO⟩, h1.at fun o q => k i1 (by simp) o q, h2.at fun o q => k i2 (by simp) o q, h3.at fun o q => k i3 (by simp) o q⟩
  case item =>
    rintro X rfl rfl rfl hc i pins s σ H E I hf ⟨hz, hTI, ⟨x0, y0, u0, hTO⟩, h1, h2, h3⟩ ⟨xs, ys, zs, x, y, u, hqx, hqy, hqz, hx, hy, hu3⟩
    obtain ⟨its, rv, p, _⟩ := I.list hqx
    obtain ⟨its2, rv2, p2, _⟩ := I.tuple hqy
    obtain ⟨its3, rv3, p3, _⟩ := I.tuple hqz
    obtain ⟨u1, hu, ru⟩ := rv.get hx
    obtain ⟨u2, hu2, ru2⟩ := rv2.get hy
    obtain ⟨u3, hu3', ru3⟩ := rv3.get hu3
    have hzl := Heap.lt_size hz
    have hh : X.A.in1.handled = none := by simpa using I.ok.hd hc
    refine wpAny_pyNext_zipD3_item S (Draws.list hh i1 a ia its.toArray) (drawsT hh i2 b ib its2.toArray) (drawsT hh i3 c ic its3.toArray) hz hTI hTO ⟨h1, p.isList⟩ ⟨h2, p2⟩ ⟨h3, p3⟩ (by simpa using (List.getElem?_eq_some_iff.mp hu).1) (by simpa using (List.getElem?_eq_some_iff.mp hu2).1) (by simpa using (List.getElem?_eq_some_iff.mp hu3').1) fun v v2 v3 h' tk e1 e2 e3 z' TO' s1' s2' s3' hT hsz hk => ?_
    have ev : v = u1 := by rw [show its.toArray[i]? = some u1 by simpa using hu] at e1; exact (Option.some.inj e1).symm
    have ev2 : v2 = u2 := by rw [show its2.toArray[i]? = some u2 by simpa using hu2] at e2; exact (Option.some.inj e2).symm
    have ev3 : v3 = u3 := by rw [show its3.toArray[i]? = some u3 by simpa using hu3'] at e3; exact (Option.some.inj e3).symm
    subst ev ev2 ev3
    refine ⟨_, rfl, wpAny_letOwnedTupleGo_zip (s := { s with heap := h', toks := tk }) z' fun h'' z'' sb => ?_⟩
    have hT2 : h''.get? s.heap.objs.size = some { cls := .type "tuple", data := .seq #[v, v2, v3] } := (sb.2 _ (Nat.ne_of_gt hzl)).trans hT
    have new : ObjOk X.prog X.w (upd H s.heap.objs.size (.tup [x, y, u])) h'' s.heap.objs.size (.tup [x, y, u]) :=
      ⟨by show 3 ≤ sizeLine; decide, [v, v2, v3], .cons ru (.cons ru2 (.cons ru3 .nil)), ⟨_, hT2, rfl, _, rfl⟩⟩
    have hfr : H s.heap.objs.size = none := I.hok.fresh (Nat.le_refl _)
    refine ⟨.ref s.heap.objs.size, upd H s.heap.objs.size (.tup [x, y, u]), ?_, rfl, ⟨_, x, y, u, rfl, hfr, rfl, fun l hl => ?_, fun l hl => ?_, fun l hl => ?_⟩, ⟨z'', ?_, ⟨v, v2, v3, ?_⟩, ?_, ?_, ?_⟩, fun c hcm => ?_⟩
    · refine I.turnedNew (t' := tk) (ch := [z, TI, TO, i1, i2, i3]) (fun c o hb q => ?_) hf (Nat.le_refl _) new
      simp only [List.mem_cons, List.not_mem_nil, or_false, not_or] at hb
      exact (sb.2 c hb.1).trans (hk c o hb.1 hb.2.2.1 hb.2.2.2.1 hb.2.2.2.2.1 hb.2.2.2.2.2 q)
    · rw [I.list_inj hl hqx]; exact hx
    · rw [I.tuple_inj hl hqy]; exact hy
    · rw [I.tuple_inj hl hqz]; exact hu3
    · exact (sb.2 _ S.TIz).trans (hk _ _ S.TIz S.TITO S.TIi1 S.TIi2 S.TIi3 hTI)
    · exact (sb.2 _ S.TOz).trans TO'
    · exact s1'.1.at fun o q => (sb.2 _ (S.zi1).symm).trans q
    · exact s2'.1.at fun o q => (sb.2 _ (S.zi2).symm).trans q
    · exact s3'.1.at fun o q => (sb.2 _ (S.zi3).symm).trans q
    · have hlt : c < s.heap.objs.size := by
        simp only [List.mem_cons, List.not_mem_nil, or_false] at hcm
        obtain ⟨_, q1, _⟩ := h1
        obtain ⟨_, q2, _⟩ := h2
        obtain ⟨_, q3, _⟩ := h3
        rcases hcm with rfl | rfl | rfl | rfl | rfl | rfl
        · exact hzl
        · exact Heap.lt_size hTI
        · exact Heap.lt_size hTO
        · exact Heap.lt_size q1
        · exact Heap.lt_size q2
        · exact Heap.lt_size q3
      rw [upd_ne (Nat.ne_of_lt hlt)]
      exact (hf c hcm).1
  case done =>
    rintro X rfl rfl rfl hc i pins s σ H E I hf ⟨hz, hTI, ⟨x0, y0, u0, hTO⟩, h1, h2, h3⟩ ⟨xs, ys, zs, hqx, hqy, hqz, l1', l2', l3', hend⟩
    obtain ⟨its, rv, p, _⟩ := I.list hqx
    obtain ⟨its2, rv2, p2, _⟩ := I.tuple hqy
    obtain ⟨its3, rv3, p3, _⟩ := I.tuple hqz
    have l1 := rv.length
    have l2 := rv2.length
    have l3 := rv3.length
    have hh : X.A.in1.handled = none := by simpa using I.ok.hd hc
    refine wpAny_pyNext_zipD3_end S (Draws.list hh i1 a ia its.toArray) (drawsT hh i2 b ib its2.toArray) (drawsT hh i3 c ic its3.toArray) hz hTI hTO ⟨h1, p.isList⟩ ⟨h2, p2⟩ ⟨h3, p3⟩ (by simp; omega) (by simp; omega) (by simp; omega) (by simp; omega) fun h' tk hk => ⟨rfl, I.turnedL (t' := tk) (ch := [z, TI, TO, i1, i2, i3]) (fun c o hb q => ?_) hf⟩
    simp only [List.mem_cons, List.not_mem_nil, or_false, not_or] at hb
    exact hk c o hb.1 hb.2.2.1 hb.2.2.2.1 hb.2.2.2.2.1 hb.2.2.2.2.2 q
  case self => exact fun A i s Q E st h => wpAny_pyIter_zip st.1 h
def iZM3 (K : PySem.W.Frag) (ta : TA) : TI := fun σ H R => ta σ H fun vs H1 => ∃ a b c xs ys zs, vs = [.ref a, .ref b, .ref c] ∧ SqL K H1 a xs ∧ SqT K H1 b ys ∧ SqT K H1 c zs ∧ R (ItM3 K a b c) H1
theorem apt3_new {n a b c : Addr} (ha : a < n) (hb : b < n) (hc : c < n) : Apt3 (n + 5) (n + 3) (n + 4) n (n + 1) (n + 2) a b c := by
  have ne : ∀ {x y : Nat}, x ≠ y → ¬ @Eq Addr x y := fun h => h
  have ha : @LT.lt Nat _ a n := ha
  have hb : @LT.lt Nat _ b n := hb
  have hc : @LT.lt Nat _ c n := hc
  refine ⟨?_, ?_, ?_, ?_⟩
  · simp only [List.nodup_cons, List.mem_cons, List.not_mem_nil, or_false, not_or]
    exact ⟨⟨ne (by omega), ne (by omega), ne (by omega), ne (by omega), ne (by omega)⟩, ⟨ne (by omega), ne (by omega), ne (by omega), ne (by omega)⟩, ⟨ne (by omega), ne (by omega), ne (by omega)⟩, ⟨ne (by omega), ne (by omega)⟩, ne (by omega), fun h => h, List.nodup_nil⟩
  all_goals
    simp only [List.mem_cons, List.not_mem_nil, or_false, not_or]
    exact ⟨ne (by omega), ne (by omega), ne (by omega), ne (by omega), ne (by omega), ne (by omega)⟩
theorem pi_mixed3 {X : Cx} {e e2 e3 : Expr} {ta : TA} {p pos tpos : Pos} {elts : List Expr} {kk : Nat} (hg : Gl X "zip") (hm : X.mg "zip" = none) (ha : PA X [e, e2, e3] ta)
    (hs : starEach [e, e2, e3] X.env = (false, eval e X.env) :: starEach [e2, e3] X.env := by rfl) (hpl : (backTo pos (starEach [e2, e3] X.env)).any (·.1) = false := by rfl) :
    PI X (.Tuple elts kk tpos) (.Call (.Name "zip" p) [e, e2, e3] [] pos) (iZM3 X.K ta) := by
  refine ⟨fun pins s σ H R I h => Call_ (ld_blt I hg hm PyProof.Rows.boot_zip (PyProof.Rows.callWith_type1 (thn (ha.run pos pins s σ H _ I h) fun us s1 ⟨vs, H1, I1, r1, a, b, c, xs, ys, zs, ex, qx, qy, qz, q⟩ => ?_) hs hpl))⟩
  subst ex
  obtain ⟨u, u2, u3, rfl, ea, eb, ec⟩ : ∃ u u2 u3, us = [u, u2, u3] ∧ u = .ref a ∧ u2 = .ref b ∧ u3 = .ref c := by
    cases r1 with
    | cons r rr => cases rr with
      | cons r' rr => cases rr with
        | cons r'' rr => cases rr; exact ⟨_, _, _, rfl, r, r', r''⟩
  subst ea eb ec
  obtain ⟨its, rv, p1, _⟩ := I1.list qx
  obtain ⟨its2, rv2, p2, _⟩ := I1.tuple qy
  obtain ⟨its3, rv3, p3, _⟩ := I1.tuple qz
  obtain ⟨o2, ho2, _⟩ := id p2
  obtain ⟨o3, ho3, _⟩ := id p3
  refine zip_begins3 (begins_list a its.toArray) (begins_tuple b its2.toArray) (begins_tuple c its3.toArray) p1.isList p2 p3 fun h' hz hTI hTO h1 h2 h3 hsz hk => wpAny_pyIter_zip hz ?_
  refine ⟨_, [s1.heap.objs.size + 5, s1.heap.objs.size + 3, s1.heap.objs.size + 4, s1.heap.objs.size, s1.heap.objs.size + 1, s1.heap.objs.size + 2], _, _, H1, rfl, I1.kept (t' := s1.toks) hk, turn_mixed3 (apt3_new p1.lt (Heap.lt_size ho2) (Heap.lt_size ho3)), ⟨hz, hTI, ⟨_, _, _, hTO⟩, ⟨_, h1, rfl, rfl⟩, ⟨_, h2, rfl, rfl⟩, ⟨_, h3, rfl, rfl⟩⟩, fun c hc => ?_, q⟩
  have hle : s1.heap.objs.size ≤ c := by
    simp only [List.mem_cons, List.not_mem_nil, or_false] at hc
    rcases hc with rfl | rfl | rfl | rfl | rfl | rfl
    · exact Nat.le_add_right _ _
    · exact Nat.le_add_right _ _
    · exact Nat.le_add_right _ _
    · exact Nat.le_refl _
    · exact Nat.le_add_right _ _
    · exact Nat.le_add_right _ _
  exact I1.fpOk hle (I1.hok.fresh hle)
/-- over triples of a list's and two tuples' items -/
def zip3L (as bs cs : List D) : List D := (as.zip (bs.zip cs)).map fun p => .tup [p.1, p.2.1, p.2.2]
theorem zip3_get {as bs cs : List D} {i : Nat} {d : D} (h : (zip3L as bs cs)[i]? = some d) : ∃ d1 d2 d3, as[i]? = some d1 ∧ bs[i]? = some d2 ∧ cs[i]? = some d3 ∧ d = .tup [d1, d2, d3] := by
  unfold zip3L at h
  rw [List.getElem?_map] at h
  obtain ⟨⟨d1, d2, d3⟩, h1, rfl⟩ := Option.map_eq_some_iff.mp h
  obtain ⟨h1, h2⟩ := List.getElem?_zip_eq_some.mp h1
  obtain ⟨h2, h3⟩ := List.getElem?_zip_eq_some.mp h2
  exact ⟨d1, d2, d3, h1, h2, h3, rfl⟩
theorem zip3_len (as bs cs : List D) : (zip3L as bs cs).length = min as.length (min bs.length cs.length) := by simp [zip3L]
def iZm3 (t : TA') : TI' := fun δ M Q => t δ M fun xs M1 => match xs with
  | [a, .d (.tup bs), .d (.tup cs)] => ok (lstD M1 a) fun as => Q (zip3L as bs cs) (gdS a as) M1
  | _ => False
theorem zm3_of {xs : List Sv} {M : Mem} {Q : List D → (Mem → Prop) → Mem → Prop} (h : (match xs with
  | [a, .d (.tup bs), .d (.tup cs)] => ok (lstD M a) fun as => Q (zip3L as bs cs) (gdS a as) M
  | _ => False)) : ∃ a as bs cs, xs = [a, .d (.tup bs), .d (.tup cs)] ∧ lstD M a = some as ∧ Q (zip3L as bs cs) (gdS a as) M := by
  split at h
  · obtain ⟨as, ea, h⟩ := ok_elim h
    exact ⟨_, as, _, _, rfl, ea, h⟩
  · exact h.elim
theorem fin_trip {K : PySem.W.Frag} {G : Gd} {δ : DS} {M : Mem} {ι : Ix} {σ : L2.St} {H : Hp} {d1 d2 d3 : D} {x y z : V} {p : Addr} (S : Sr K G δ M ι σ H) (hp : H p = none) (r1 : RD K G.N H ι d1 x) (r2 : RD K G.N H ι d2 y) (r3 : RD K G.N H ι d3 z) :
    Sr K G δ M ι σ (upd H p (.tup [x, y, z])) ∧ Kp ι H ι (upd H p (.tup [x, y, z])) ∧ RD K G.N (upd H p (.tup [x, y, z])) ι (.tup [d1, d2, d3]) (.ref p) := by
  refine ⟨S.laid hp, Kp.laid hp, p, [x, y, z], rfl, .inl ⟨upd_same, S.mem.fresh hp⟩, by show 3 ≤ sizeLine; decide, x, [y, z], rfl, RD.mono (Kp.laid hp) (fun _ _ _ _ z => z) _ _ r1, y, [z], rfl, RD.mono (Kp.laid hp) (fun _ _ _ _ z => z) _ _ r2, z, [], rfl, RD.mono (Kp.laid hp) (fun _ _ _ _ z => z) _ _ r3, rfl⟩
theorem three_of {K : PySem.W.Frag} {N : Bool → Addr → Prop} {H : Hp} {ι : Ix} {x y z : Sv} {vs : List V} (h : RSs K N H ι [x, y, z] vs) : ∃ v u t, vs = [v, u, t] ∧ RS K N H ι x v ∧ RS K N H ι y u ∧ RS K N H ι z t := by
  obtain ⟨v, r, rfl, h1, h2⟩ := h
  obtain ⟨u, t, rfl, h3, h4⟩ := two_of h2
  exact ⟨v, u, t, rfl, h1, h3, h4⟩
theorem vi_zipM3 {K : PySem.W.Frag} {X : Cx} {G : Gd} {e e2 e3 : Expr} {pos p : Pos} {bd : Bool} {elts : List Expr} {kk : Nat} {tpos : Pos} {tA : TA'} (hg : Gl X "zip") (hm : X.mg "zip" = none) (ha : VA X G [e, e2, e3] 3 tA) (hs : starEach [e, e2, e3] X.env = (false, eval e X.env) :: starEach [e2, e3] X.env := by rfl) (hpl : ((backTo pos (starEach [e2, e3] X.env)).any fun x => x.1) = false := by rfl) :
    VI X G bd (.Tuple elts kk tpos) (.Call (.Name "zip" p) [e, e2, e3] [] pos) (iZm3 tA) := by
  have hi := pi_mixed3 (tpos := tpos) (elts := elts) (kk := kk) (p := p) (pos := pos) hg hm ha hs hpl
  refine ⟨fun pins s σ H R I ⟨δ, M, ι, Q0, S, q, z⟩ => hi.run pins s σ H R I ?_⟩
  refine thA S q fun xs M1 ι1 H1 vs hl q1 p1 k1 S1 r1 => ?_
  obtain ⟨x, as, bs, cs, rfl, ea, q2⟩ := zm3_of q1
  obtain ⟨v, u, t, rfl, ra, rb, rc⟩ := three_of r1
  obtain ⟨a1, rfl, ⟨xs, hq, _⟩, hl1, st⟩ := list_stays S1 ra ea
  obtain ⟨a2, rfl, ⟨ys, hq2⟩, hl2, st2⟩ := tup_stays rb
  obtain ⟨a3, rfl, ⟨zs, hq3⟩, hl3, st3⟩ := tup_stays rc
  refine ⟨a1, a2, a3, xs, ys, zs, rfl, hq, hq2, hq3, z _ _ M1 ι1 H1 _ (fun _ => by rw [zip3_len]; omega) q2 p1 k1 S1 ?_⟩
  intro G2 δ2 M2 ι2 σ2 H2 hn2 S2 e2 k2 hg
  obtain ⟨xs, qx, rx⟩ := st G2 δ2 M2 ι2 σ2 H2 hn2 S2 e2 k2 hg
  obtain ⟨ys, qy, ry⟩ := st2 G2 ι2 H2 hn2 k2
  obtain ⟨zs, qz, rz⟩ := st3 G2 ι2 H2 hn2 k2
  refine ⟨⟨xs, ys, zs, qx, qy, qz, by have := rx.length; have := ry.length; have := rz.length; rw [zip3_len]; omega⟩, fun i d hd => ?_⟩
  obtain ⟨d1, d2, d3, h1, h2, h3, rfl⟩ := zip3_get hd
  obtain ⟨x, hx, rxx⟩ := rx.get h1
  obtain ⟨y, hy, ryy⟩ := ry.get h2
  obtain ⟨w, hw, rww⟩ := rz.get h3
  refine ⟨⟨xs, ys, zs, x, y, w, qx, qy, qz, hx, hy, hw⟩, fun v H3 hyl => ?_⟩
  obtain ⟨T, x1, y1, w1, rfl, hT, rfl, h5, h6, h7⟩ := hyl
  have h5 := h5 xs qx
  have h6 := h6 ys qy
  have h7 := h7 zs qz
  rw [hx] at h5; cases h5
  rw [hy] at h6; cases h6
  rw [hw] at h7; cases h7
  exact ⟨.inr ⟨T, _, hT, rfl⟩, fin_trip S2 hT rxx ryy rww⟩
end VL
set_option Elab.async false
set_option linter.all false
set_option maxRecDepth 100000
set_option maxHeartbeats 1000000
namespace Zk36
open PySem PySem.Spec L2 RT RZ VL
def top (i : Nat) : Stmt := PySem.Challenge.pw_countforms_k36_papers_of_rests.main.body.getD i (.Pass ⟨0, 0, 0, 0⟩)
def c_PLAIN : D := (.tup [(.str "yes"), (.str "no")])
abbrev s_inner_claims : Stmt := top 2
def N_inner_claims : List Str := ["claim"]
def t_inner_claims  : TS' :=
  (sSeq (sIf (cP (bOr (bB (po2 inD (po2 ixD (pV 0) (pC (.int 0))) (pC c_PLAIN))) (bB (po2 eqD (po2 ixD (pV 0) (pC (.int 0))) (pC (.str "name"))))))
  (sRet (eNw (fP (plLst []))))
  sNil)
  (sSeq (sIf (cP (bB (po2 inD (po2 ixD (pV 0) (pC (.int 0))) (poTup [(pC (.str "not")), (pC (.str "same"))]))))
  (sRet (eNw (fP (plN listF [(poSl (pV 0) (poI (pC (.int 1))) poNo)]))))
  sNil)
  (sRet (eNw (fP (plN listF [(po2 ixD (pV 0) (po1 negD (pC (.int 1))))]))))))
theorem sc_inner_claims : FnScope N_inner_claims ["claim"] (defScope s_inner_claims) := C8.fnScope_by (by decide +kernel)
theorem d_inner_claims {P : Program} {w : World} {K : PySem.W.Frag} {mg : Str → Option Value} {base : Heap} {f : Addr} {k : Nat} (m_list : mg "list" = none) {u_PLAIN : Value} (hm_PLAIN : mg "PLAIN" = some u_PLAIN) (kv_PLAIN : KV K c_PLAIN u_PLAIN) :
    ∀ (cdv : Value) (A : Around) (outer : List Env) (s : Shared) (H : Hp) (E : XK) (G : Gd), RoomG k (A.deeper (PyProof.Rows.envOfC "inner_claims" (defScope s_inner_claims) s.heap.objs.size f cdv)) → G.i0.length = 0 →
      VSs (cxOf C8.CX0 P w K mg base N_inner_claims "inner_claims" (defScope s_inner_claims) f cdv A outer s H E).nox G (defBody s_inner_claims) (t_inner_claims ) := by
  intro cdv A outer s H E G hr hG
  have hU : ∀ n : Nat, n ≤ 200 → (A.deeper (PyProof.Rows.envOfC "inner_claims" (defScope s_inner_claims) s.heap.objs.size f cdv)).units + n < cLine := fun n hn => by have := hr.rm.un; omega
  exact (vss_cons (vs_if (VW.vt (VW.pOr (vw_or (VT.pureB2 (vt_cmp (op_inX (hU 65 (by decide))) rd_in (VE.pure2 (ve_idx (ve_v 0) ve_int)) (ve_glob rfl hm_PLAIN kv_PLAIN) rfl)) (vw_or1 (VT.pureB2 (vt_cmp (op_eqX (hU 64 (by decide))) rd_eq (VE.pure2 (ve_idx (ve_v 0) ve_int)) ve_str (nomark _))))))) (vss_one (vs_ret (VF.nw (VF.pLst (vf_lst va_p0))))) vss_nil)
  (vss_cons (vs_if (VT.pureB2 (vt_cmp (op_inX (hU 65 (by decide))) rd_in (VE.pure2 (ve_idx (ve_v 0) ve_int)) (VE.pTup (ve_tup (va_p ve_str (va_p ve_str va_p0)))) rfl)) (vss_one (vs_ret (VF.nw (VF.pN (vf_callTy call_list_of rd_list rfl m_list bt_list (va_p (ve_slice (ve_v 0) (vo_some ve_int) vo_none) va_p0)))))) vss_nil)
  (vss_one (vs_ret (VF.nw (VF.pN (vf_callTy call_list_of rd_list rfl m_list bt_list (va_p (VE.pure2 (ve_idx (ve_v 0) (VE.pure1 (ve_neg ve_int)))) va_p0))))))))
abbrev s_holds : Stmt := top 3
def N_holds : List Str := ["claim", "filling", "word", "held", "one"]
def t_holds (sp_inner_claims : SpD) (sp_holds : SpD) : TS' :=
  (sSeq (sSet 2 (eP (po2 ixD (pV 0) (pC (.int 0)))))
  (sSeq (sIf (cP (bB (po2 inD (pV 2) (pC c_PLAIN))))
  (sRet (eP (po2 eqD (pV 2) (pC (.str "yes")))))
  sNil)
  (sSeq (sIf (cP (bB (po2 eqD (pV 2) (pC (.str "name")))))
  (sRet (eP (po2 eqD (po2 ixD (pV 1) (po2 ixD (pV 0) (pC (.int 1)))) (pC (.int 1)))))
  sNil)
  (sSeq (sSet 3 (eFz (fLc (iSq (eSeal 0 (eCall [false] sp_inner_claims (aP [(pV 0)])))) (.nm 4) tYs (eCall [false, false] sp_holds (aP [(pV 4), (pV 1)])) [4])))
  (sSeq (sIf (cP (bB (po2 eqD (pV 2) (pC (.str "not")))))
  (sRet (eP (poNt (po2 ixD (pV 3) (pC (.int 0))))))
  sNil)
  (sSeq (sIf (cP (bB (po2 eqD (pV 2) (pC (.str "same")))))
  (sRet (eP (po2 eqD (po2 ixD (pV 3) (pC (.int 0))) (po2 ixD (pV 3) (pC (.int 1))))))
  sNil)
  (sSeq (sIf (cP (bB (po2 eqD (pV 2) (pC (.str "and")))))
  (sRet (eP (poN allD [(pV 3)])))
  sNil)
  (sSeq (sIf (cP (bB (po2 eqD (pV 2) (pC (.str "or")))))
  (sRet (eP (poN anyD [(pV 3)])))
  sNil)
  (sRet (eP (po2 geD (poMt "list" countD (pV 3) [(pC (.bl true))]) (po2 ixD (pV 0) (pC (.int 1))))))))))))))
theorem nd_holds : N_holds.Nodup := by decide
theorem sc_holds : FnScope N_holds ["claim", "filling"] (defScope s_holds) := C8.fnScope_by (by decide +kernel)
theorem d_holds {P : Program} {w : World} {K : PySem.W.Frag} {mg : Str → Option Value} {base : Heap} {f : Addr} {k : Nat} (m_all : mg "all" = none) (m_any : mg "any" = none) {u_PLAIN : Value} (hm_PLAIN : mg "PLAIN" = some u_PLAIN) (kv_PLAIN : KV K c_PLAIN u_PLAIN) {sp_inner_claims : SpD} {k_inner_claims : Nat} (ca_inner_claims : Ca P w K mg base k_inner_claims "inner_claims" 1 sp_inner_claims) (hk_inner_claims : k_inner_claims ≤ k) {sp_holds : SpD} {k_holds : Nat} (ca_holds : Ca P w K mg base k_holds "holds" 2 sp_holds) (hk_holds : k_holds ≤ k) :
    ∀ (cdv : Value) (A : Around) (outer : List Env) (s : Shared) (H : Hp) (E : XK) (G : Gd), RoomG k (A.deeper (PyProof.Rows.envOfC "holds" (defScope s_holds) s.heap.objs.size f cdv)) → G.i0.length = 0 →
      VSs (cxOf C8.CX0 P w K mg base N_holds "holds" (defScope s_holds) f cdv A outer s H E).nox G (defBody s_holds) (t_holds sp_inner_claims sp_holds) := by
  intro cdv A outer s H E G hr hG
  have hU : ∀ n : Nat, n ≤ 200 → (A.deeper (PyProof.Rows.envOfC "holds" (defScope s_holds) s.heap.objs.size f cdv)).units + n < cLine := fun n hn => by have := hr.rm.un; omega
  exact (vss_cons (vs_set nd_holds rfl (by first | exact Or.inl rfl | exact Or.inr rfl) (VE.pure2 (ve_idx (ve_v 0) ve_int)))
  (vss_cons (vs_if (VT.pureB2 (vt_cmp (op_inX (hU 65 (by decide))) rd_in (ve_v 2) (ve_glob rfl hm_PLAIN kv_PLAIN) rfl)) (vss_one (vs_ret (VE.pure2 (ve_cmp (op_eqX (hU 64 (by decide))) rd_eq (ve_v 2) ve_str (nomark _))))) vss_nil)
  (vss_cons (vs_if (VT.pureB2 (vt_cmp (op_eqX (hU 64 (by decide))) rd_eq (ve_v 2) ve_str (nomark _))) (vss_one (vs_ret (VE.pure2 (ve_cmp (op_eqX (hU 64 (by decide))) rd_eq (VE.pure2 (ve_idx (ve_v 1) (VE.pure2 (ve_idx (ve_v 0) ve_int)))) ve_int (nomark _))))) vss_nil)
  (vss_cons (vs_setLcF (own := [("one", 4)]) rfl nd_holds rfl rfl rfl (vi_sq (VE.seal hG (ve_call [false] ca_inner_claims hr hk_inner_claims rfl (va_p (ve_v 0) va_p0)))) (blkOk_by (show blkC N_holds (defScope s_holds) _ _ = true by decide +kernel)) (fun s H C cl fp => pg_name nd_holds rfl (by first | exact Or.inl rfl | exact Or.inr rfl) (by first | exact Or.inr rfl | exact Or.inl rfl)) (fun s H C cl fp G hG' => vts_nil) (fun s H C cl fp G hG' => (ve_call [false, false] ca_holds hr hk_holds rfl (va_p (ve_v 4) (va_p (ve_v 1) va_p0)))) (by decide))
  (vss_cons (vs_if (VT.pureB2 (vt_cmp (op_eqX (hU 64 (by decide))) rd_eq (ve_v 2) ve_str (nomark _))) (vss_one (vs_ret (VE.pNt (ve_not (VE.pure2 (ve_idx (ve_v 3) ve_int)))))) vss_nil)
  (vss_cons (vs_if (VT.pureB2 (vt_cmp (op_eqX (hU 64 (by decide))) rd_eq (ve_v 2) ve_str (nomark _))) (vss_one (vs_ret (VE.pure2 (ve_cmp (op_eqX (hU 64 (by decide))) rd_eq (VE.pure2 (ve_idx (ve_v 3) ve_int)) (VE.pure2 (ve_idx (ve_v 3) ve_int)) (nomark _))))) vss_nil)
  (vss_cons (vs_if (VT.pureB2 (vt_cmp (op_eqX (hU 64 (by decide))) rd_eq (ve_v 2) ve_str (nomark _))) (vss_one (vs_ret (VE.pureN (ve_callB (cr_all rfl) rd_all rfl m_all bt_all (va_p (ve_v 3) va_p0))))) vss_nil)
  (vss_cons (vs_if (VT.pureB2 (vt_cmp (op_eqX (hU 64 (by decide))) rd_eq (ve_v 2) ve_str (nomark _))) (vss_one (vs_ret (VE.pureN (ve_callB (cr_any rfl) rd_any rfl m_any bt_any (va_p (ve_v 3) va_p0))))) vss_nil)
  (vss_one (vs_ret (VE.pure2 (ve_cmp op_ge rd_ge (VE.pMt (ve_mt F.plainAttrs_list F.slot_list_count rfl (mt_countD (hU 65 (by decide))) rd_count (ve_v 3) (va_p ve_bl va_p0))) (VE.pure2 (ve_idx (ve_v 0) ve_int)) (nomark _)))))))))))))
abbrev s_all_settings : Stmt := top 5
def N_all_settings : List Str := ["many", "rows", "place", "longer", "row"]
def t_all_settings  : TS' :=
  (sSeq (sSet 1 (eP (pFz (plLst [(poTup [])]))))
  (sSeq (sFor (iRg false (aP [(pV 0)])) (gNm 2)
  (sSeq (sSet 3 (eNw (fP (plLst []))))
  (sSeq (sFor (iPq (pV 1)) (gNm 4)
  (sDrop (eMt "list" mExt (eP (pV 3)) (aP [(pFz (plLst [(po2 addD (pV 4) (poTup [(pC (.int 0))])), (po2 addD (pV 4) (poTup [(pC (.int 1))]))]))]))))
  (sSet 1 (eSeal 0 (eP (pV 3)))))))
  (sRet (eP (pV 1)))))
theorem nd_all_settings : N_all_settings.Nodup := by decide
theorem sc_all_settings : FnScope N_all_settings ["many"] (defScope s_all_settings) := C8.fnScope_by (by decide +kernel)
theorem d_all_settings {P : Program} {w : World} {K : PySem.W.Frag} {mg : Str → Option Value} {base : Heap} {f : Addr} {k : Nat} (m_range : mg "range" = none) :
    ∀ (cdv : Value) (A : Around) (outer : List Env) (s : Shared) (H : Hp) (E : XK) (G : Gd), RoomG k (A.deeper (PyProof.Rows.envOfC "all_settings" (defScope s_all_settings) s.heap.objs.size f cdv)) → G.i0.length = 0 →
      VSs (cxOf C8.CX0 P w K mg base N_all_settings "all_settings" (defScope s_all_settings) f cdv A outer s H E).nox G (defBody s_all_settings) (t_all_settings ) := by
  intro cdv A outer s H E G hr hG
  have hU : ∀ n : Nat, n ≤ 200 → (A.deeper (PyProof.Rows.envOfC "all_settings" (defScope s_all_settings) s.heap.objs.size f cdv)).units + n < cLine := fun n hn => by have := hr.rm.un; omega
  exact (vss_cons (vs_set nd_all_settings rfl (by first | exact Or.inl rfl | exact Or.inr rfl) (VF.pure (VF.pLst (vf_lst (va_p (VE.pTup (ve_tup va_p0)) va_p0)))))
  (vss_cons (vs_for (bd := false) PassesOwn.never rfl (vi_range1 rfl m_range (va_p (ve_v 0) va_p0)) (vg_name nd_all_settings rfl (by first | exact Or.inl rfl | exact Or.inr rfl)) (vss_cons (vs_set nd_all_settings rfl (by first | exact Or.inl rfl | exact Or.inr rfl) (VF.nw (VF.pLst (vf_lst va_p0))))
  (vss_cons (vs_for (bd := false) PassesOwn.never rfl (vi_pq (ve_v 1)) (vg_name nd_all_settings rfl (by first | exact Or.inl rfl | exact Or.inr rfl)) (vss_one (vs_expr (ve_mt F.plainAttrs_list F.slot_list_extend rfl mt_extend rd_ext (ve_v 3) (va_p (VF.pure (VF.pLst (vf_lst (va_p (VE.pure2 (ve_add (ve_v 4) (VE.pTup (ve_tup (va_p ve_int va_p0))))) (va_p (VE.pure2 (ve_add (ve_v 4) (VE.pTup (ve_tup (va_p ve_int va_p0))))) va_p0))))) va_p0)))))
  (vss_one (vs_set nd_all_settings rfl (by first | exact Or.inl rfl | exact Or.inr rfl) (VE.seal hG (ve_v 3)))))))
  (vss_one (vs_ret (ve_v 1)))))
abbrev s_filling_by : Stmt := top 6
def N_filling_by : List Str := ["order", "bits", "filling", "name", "bit"]
def t_filling_by  : TS' :=
  (sSeq (sSet 2 (eNw (fP (pl2 repF (pFz (plLst [(pC (.int 0))])) (poN lenD [(pV 0)])))))
  (sSeq (sFor (iZm (aP [(pV 0), (pV 1)])) (gTp [3, 4])
  (sSub (eP (pV 4)) (eP (pV 2)) (eP (pV 3))))
  (sRet (eP (po1 tupC (pV 2))))))
theorem nd_filling_by : N_filling_by.Nodup := by decide
theorem sc_filling_by : FnScope N_filling_by ["order", "bits"] (defScope s_filling_by) := C8.fnScope_by (by decide +kernel)
theorem d_filling_by {P : Program} {w : World} {K : PySem.W.Frag} {mg : Str → Option Value} {base : Heap} {f : Addr} {k : Nat} (m_len : mg "len" = none) (m_zip : mg "zip" = none) (m_tuple : mg "tuple" = none) :
    ∀ (cdv : Value) (A : Around) (outer : List Env) (s : Shared) (H : Hp) (E : XK) (G : Gd), RoomG k (A.deeper (PyProof.Rows.envOfC "filling_by" (defScope s_filling_by) s.heap.objs.size f cdv)) → G.i0.length = 0 →
      VSs (cxOf C8.CX0 P w K mg base N_filling_by "filling_by" (defScope s_filling_by) f cdv A outer s H E).nox G (defBody s_filling_by) (t_filling_by ) := by
  intro cdv A outer s H E G hr hG
  have hU : ∀ n : Nat, n ≤ 200 → (A.deeper (PyProof.Rows.envOfC "filling_by" (defScope s_filling_by) s.heap.objs.size f cdv)).units + n < cLine := fun n hn => by have := hr.rm.un; omega
  exact (vss_cons (vs_set nd_filling_by rfl (by first | exact Or.inl rfl | exact Or.inr rfl) (VF.nw (VF.p2 (vf_rep (VF.pure (VF.pLst (vf_lst (va_p ve_int va_p0)))) (VE.pureN (ve_callB call_lenX rd_len rfl m_len bt_len (va_p (ve_v 0) va_p0)))))))
  (vss_cons (vs_for (bd := false) PassesOwn.never rfl (vi_zipM (K := K) rfl m_zip (va_p (ve_v 0) (va_p (ve_v 1) va_p0))) (vg_tup rfl (vgs_cons nd_filling_by rfl (by first | exact Or.inl rfl | exact Or.inr rfl) (vgs_cons nd_filling_by rfl (by first | exact Or.inl rfl | exact Or.inr rfl) vgs_nil))) (vss_one (vs_sub (ve_v 4) (ve_v 2) (ve_v 3))))
  (vss_one (vs_ret (VE.pure1 (ve_tupleOf rfl m_tuple (ve_v 2)))))))
abbrev s_meaning_of : Stmt := top 7
def N_meaning_of : List Str := ["claim", "many", "order", "bits"]
def t_meaning_of (sp_all_settings : SpD) (sp_holds : SpD) (sp_filling_by : SpD) : TS' :=
  (sRet (eo1 tupC (eFz (fLc (iSq (eSeal 0 (eCall [false] sp_all_settings (aP [(pV 1)])))) (.nm 3) tYs (eoN intD (aCons (eCall [false, false] sp_holds (aCons (eP (pV 0)) (aCons (eCall [false, false] sp_filling_by (aP [(pV 2), (pV 3)])) (aP [])))) (aP []))) [3]))))
theorem nd_meaning_of : N_meaning_of.Nodup := by decide
theorem sc_meaning_of : FnScope N_meaning_of ["claim", "many", "order"] (defScope s_meaning_of) := C8.fnScope_by (by decide +kernel)
theorem d_meaning_of {P : Program} {w : World} {K : PySem.W.Frag} {mg : Str → Option Value} {base : Heap} {f : Addr} {k : Nat} (m_int : mg "int" = none) (m_tuple : mg "tuple" = none) {sp_all_settings : SpD} {k_all_settings : Nat} (ca_all_settings : Ca P w K mg base k_all_settings "all_settings" 1 sp_all_settings) (hk_all_settings : k_all_settings ≤ k) {sp_holds : SpD} {k_holds : Nat} (ca_holds : Ca P w K mg base k_holds "holds" 2 sp_holds) (hk_holds : k_holds ≤ k) {sp_filling_by : SpD} {k_filling_by : Nat} (ca_filling_by : Ca P w K mg base k_filling_by "filling_by" 2 sp_filling_by) (hk_filling_by : k_filling_by ≤ k) :
    ∀ (cdv : Value) (A : Around) (outer : List Env) (s : Shared) (H : Hp) (E : XK) (G : Gd), RoomG k (A.deeper (PyProof.Rows.envOfC "meaning_of" (defScope s_meaning_of) s.heap.objs.size f cdv)) → G.i0.length = 0 →
      VSs (cxOf C8.CX0 P w K mg base N_meaning_of "meaning_of" (defScope s_meaning_of) f cdv A outer s H E).nox G (defBody s_meaning_of) (t_meaning_of sp_all_settings sp_holds sp_filling_by) := by
  intro cdv A outer s H E G hr hG
  have hU : ∀ n : Nat, n ≤ 200 → (A.deeper (PyProof.Rows.envOfC "meaning_of" (defScope s_meaning_of) s.heap.objs.size f cdv)).units + n < cLine := fun n hn => by have := hr.rm.un; omega
  exact (vss_one (vs_ret (ve_tupleOf rfl m_tuple (VF.fz (vf_lc (own := [("bits", 3)]) rfl nd_meaning_of (vi_sq (VE.seal hG (ve_call [false] ca_all_settings hr hk_all_settings rfl (va_p (ve_v 1) va_p0)))) (blkOk_by (show blkC N_meaning_of (defScope s_meaning_of) _ _ = true by decide +kernel)) (fun s H C cl fp => pg_name nd_meaning_of rfl (by first | exact Or.inl rfl | exact Or.inr rfl) (by first | exact Or.inr rfl | exact Or.inl rfl)) (fun s H C cl fp G hG' => vts_nil) (fun s H C cl fp G hG' => (ve_callTy call_int1 rd_intC rfl m_int bt_int (va_cons (ve_call [false, false] ca_holds hr hk_holds rfl (va_cons (ve_v 0) (va_cons (ve_call [false, false] ca_filling_by hr hk_filling_by rfl (va_p (ve_v 2) (va_p (ve_v 3) va_p0))) va_p0))) va_p0))) (by decide))))))
abbrev s_rests_at : Stmt := top 9
def N_rests_at : List Str := ["meaning", "long", "at"]
def t_rests_at  : TS' :=
  (sRet (eNw (fLc (iRg true (aP [(pC (.int 0)), (poN lenD [(pV 0)]), (pV 1)])) (.nm 2) tYs (eP (poSl (pV 0) (poI (pV 2)) (poI (po2 addD (pV 2) (pV 1))))) [2])))
theorem nd_rests_at : N_rests_at.Nodup := by decide
theorem sc_rests_at : FnScope N_rests_at ["meaning", "long"] (defScope s_rests_at) := C8.fnScope_by (by decide +kernel)
theorem d_rests_at {P : Program} {w : World} {K : PySem.W.Frag} {mg : Str → Option Value} {base : Heap} {f : Addr} {k : Nat} (m_len : mg "len" = none) (m_range : mg "range" = none) :
    ∀ (cdv : Value) (A : Around) (outer : List Env) (s : Shared) (H : Hp) (E : XK) (G : Gd), RoomG k (A.deeper (PyProof.Rows.envOfC "rests_at" (defScope s_rests_at) s.heap.objs.size f cdv)) → G.i0.length = 0 →
      VSs (cxOf C8.CX0 P w K mg base N_rests_at "rests_at" (defScope s_rests_at) f cdv A outer s H E).nox G (defBody s_rests_at) (t_rests_at ) := by
  intro cdv A outer s H E G hr hG
  have hU : ∀ n : Nat, n ≤ 200 → (A.deeper (PyProof.Rows.envOfC "rests_at" (defScope s_rests_at) s.heap.objs.size f cdv)).units + n < cLine := fun n hn => by have := hr.rm.un; omega
  exact (vss_one (vs_ret (VF.nw (vf_lc (own := [("at", 2)]) rfl nd_rests_at (vi_range3 rfl m_range (va_p ve_int (va_p (VE.pureN (ve_callB call_lenX rd_len rfl m_len bt_len (va_p (ve_v 0) va_p0))) (va_p (ve_v 1) va_p0)))) (blkOk_by (show blkC N_rests_at (defScope s_rests_at) _ _ = true by decide +kernel)) (fun s H C cl fp => pg_name nd_rests_at rfl (by first | exact Or.inl rfl | exact Or.inr rfl) (by first | exact Or.inr rfl | exact Or.inl rfl)) (fun s H C cl fp G hG' => vts_nil) (fun s H C cl fp G hG' => (ve_slice (ve_v 0) (vo_some (ve_v 2)) (vo_some (VE.pure2 (ve_add (ve_v 2) (ve_v 1)))))) (by decide)))))
abbrev s_least_heads : Stmt := top 10
def N_least_heads : List Str := ["rests", "known", "heads", "place", "rest"]
def t_least_heads  : TS' :=
  (sSeq (sSet 1 eKdN)
  (sSeq (sSet 2 (eNw (fP (plLst []))))
  (sSeq (sFor (iEn (eP (pV 0))) (gTp [3, 4])
  (sIf (cP (bB (po2 kninD (pV 4) (pV 1))))
  (sSeq (sSubN (eP (pC (.bl true))) (eP (pV 1)) (eP (pV 4)))
  (sDrop (eMt "list" mApp (eP (pV 2)) (aP [(pV 3)]))))
  sNil))
  (sRet (eP (pV 2))))))
theorem nd_least_heads : N_least_heads.Nodup := by decide
theorem sc_least_heads : FnScope N_least_heads ["rests"] (defScope s_least_heads) := C8.fnScope_by (by decide +kernel)
theorem d_least_heads {P : Program} {w : World} {K : PySem.W.Frag} {mg : Str → Option Value} {base : Heap} {f : Addr} {k : Nat} (m_enumerate : mg "enumerate" = none) :
    ∀ (cdv : Value) (A : Around) (outer : List Env) (s : Shared) (H : Hp) (E : XK) (G : Gd), RoomG k (A.deeper (PyProof.Rows.envOfC "least_heads" (defScope s_least_heads) s.heap.objs.size f cdv)) → G.i0.length = 0 →
      VSs (cxOf C8.CX0 P w K mg base N_least_heads "least_heads" (defScope s_least_heads) f cdv A outer s H E).nox G (defBody s_least_heads) (t_least_heads ) := by
  intro cdv A outer s H E G hr hG
  have hU : ∀ n : Nat, n ≤ 200 → (A.deeper (PyProof.Rows.envOfC "least_heads" (defScope s_least_heads) s.heap.objs.size f cdv)).units + n < cLine := fun n hn => by have := hr.rm.un; omega
  exact (vss_cons (vs_set nd_least_heads rfl (by first | exact Or.inl rfl | exact Or.inr rfl) ve_knew)
  (vss_cons (vs_set nd_least_heads rfl (by first | exact Or.inl rfl | exact Or.inr rfl) (VF.nw (VF.pLst (vf_lst va_p0))))
  (vss_cons (vs_for (bd := false) PassesOwn.never rfl (vi_enum rfl m_enumerate (ve_v 0)) (vg_tup rfl (vgs_cons nd_least_heads rfl (by first | exact Or.inl rfl | exact Or.inr rfl) (vgs_cons nd_least_heads rfl (by first | exact Or.inl rfl | exact Or.inr rfl) vgs_nil))) (vss_one (vs_if (VT.pureB2 (vt_cmp (op_nnin (hU 9 (by decide))) rd_knin (ve_v 4) (ve_v 1) rfl)) (vss_cons (vs_subN (hU 9 (by decide)) ve_bl (ve_v 1) (ve_v 4))
  (vss_one (vs_expr (ve_mt F.plainAttrs_list F.slot_list_append rfl mt_append rd_app (ve_v 2) (va_p (ve_v 3) va_p0))))) vss_nil)))
  (vss_one (vs_ret (ve_v 2))))))
abbrev s_first_unlike : Stmt := top 11
def N_first_unlike : List Str := ["one", "other", "bit", "more"]
def t_first_unlike  : TS' :=
  (sRet (eMt "list" (mPure indexD) (eFz (fLc (iZq (aP [(pV 0), (pV 1)])) (.tp [2, 3]) tYs (eP (po2 eqD (pV 2) (pV 3))) [2, 3])) (aP [(pC (.bl false))])))
theorem nd_first_unlike : N_first_unlike.Nodup := by decide
theorem sc_first_unlike : FnScope N_first_unlike ["one", "other"] (defScope s_first_unlike) := C8.fnScope_by (by decide +kernel)
theorem d_first_unlike {P : Program} {w : World} {K : PySem.W.Frag} {mg : Str → Option Value} {base : Heap} {f : Addr} {k : Nat} (m_zip : mg "zip" = none) :
    ∀ (cdv : Value) (A : Around) (outer : List Env) (s : Shared) (H : Hp) (E : XK) (G : Gd), RoomG k (A.deeper (PyProof.Rows.envOfC "first_unlike" (defScope s_first_unlike) s.heap.objs.size f cdv)) → G.i0.length = 0 →
      VSs (cxOf C8.CX0 P w K mg base N_first_unlike "first_unlike" (defScope s_first_unlike) f cdv A outer s H E).nox G (defBody s_first_unlike) (t_first_unlike ) := by
  intro cdv A outer s H E G hr hG
  have hU : ∀ n : Nat, n ≤ 200 → (A.deeper (PyProof.Rows.envOfC "first_unlike" (defScope s_first_unlike) s.heap.objs.size f cdv)).units + n < cLine := fun n hn => by have := hr.rm.un; omega
  exact (vss_one (vs_ret (ve_mt F.plainAttrs_list F.slot_list_index rfl (mt_indexD (hU 65 (by decide))) rd_index (VF.fz (vf_lc (own := [("bit", 2), ("more", 3)]) rfl nd_first_unlike (vi_zipQ rfl m_zip (va_p (ve_v 0) (va_p (ve_v 1) va_p0))) (blkOk_by (show blkC N_first_unlike (defScope s_first_unlike) _ _ = true by decide +kernel)) (fun s H C cl fp => pg_tup rfl (pgs_cons (pg_name nd_first_unlike rfl (by first | exact Or.inl rfl | exact Or.inr rfl) (by first | exact Or.inr rfl | exact Or.inl rfl)) (pgs_cons (pg_name nd_first_unlike rfl (by first | exact Or.inl rfl | exact Or.inr rfl) (by first | exact Or.inr rfl | exact Or.inl rfl)) pgs_nil))) (fun s H C cl fp G hG' => vts_nil) (fun s H C cl fp G hG' => (VE.pure2 (ve_cmp (op_eqX (hU 64 (by decide))) rd_eq (ve_v 2) (ve_v 3) (nomark _)))) (by decide))) (va_p ve_bl va_p0))))
abbrev s_paper_for : Stmt := top 12
def N_paper_for : List Str := ["claim", "many", "order", "j", "rests", "heads", "tails", "ahead", "behind_them", "at", "one", "place", "other"]
def t_paper_for (sp_rests_at : SpD) (sp_meaning_of : SpD) (sp_least_heads : SpD) (sp_all_settings : SpD) (sp_first_unlike : SpD) : TS' :=
  (sSeq (sSet 4 (eSeal 0 (eCall [false, false] sp_rests_at (aCons (eCall [false, false, false] sp_meaning_of (aP [(pV 0), (pV 1), (pV 2)])) (aP [(po2 shlD (pC (.int 1)) (po2 subD (pV 1) (pV 3)))])))))
  (sSeq (sSet 5 (eSeal 0 (eCall [false] sp_least_heads (aP [(pV 4)]))))
  (sSeq (sParT [7, 8] (aCons (eSeal 0 (eCall [false] sp_all_settings (aP [(pV 3)]))) (aCons (eSeal 0 (eCall [false] sp_all_settings (aP [(po2 subD (pV 1) (pV 3))]))) (aP []))))
  (sSeq (sSet 6 (eNw (fP (plLst []))))
  (sSeq (sFor (iEn (eP (pV 5))) (gTp [9, 10])
  (sDrop (eMt "list" mExt (eP (pV 6)) (aCons (eFz (fLc (iPq (pFz (plSl (pV 5) (poI (po2 addD (pV 9) (pC (.int 1)))) poNo))) (.nm 12) tYs (eo2 ixD (eP (pV 8)) (eCall [false, false] sp_first_unlike (aP [(po2 ixD (pV 4) (pV 10)), (po2 ixD (pV 4) (pV 12))]))) [12])) (aP [])))))
  (sRet (tTupE (aCons (eFz (fLc (iPq (pV 5)) (.nm 11) tYs (eP (po2 ixD (pV 7) (pV 11))) [11])) (aCons (eSeal 0 (eP (pV 6))) (aP []))))))))))
theorem nd_paper_for : N_paper_for.Nodup := by decide
theorem sc_paper_for : FnScope N_paper_for ["claim", "many", "order", "j"] (defScope s_paper_for) := C8.fnScope_by (by decide +kernel)
theorem d_paper_for {P : Program} {w : World} {K : PySem.W.Frag} {mg : Str → Option Value} {base : Heap} {f : Addr} {k : Nat} (m_enumerate : mg "enumerate" = none) {sp_rests_at : SpD} {k_rests_at : Nat} (ca_rests_at : Ca P w K mg base k_rests_at "rests_at" 2 sp_rests_at) (hk_rests_at : k_rests_at ≤ k) {sp_meaning_of : SpD} {k_meaning_of : Nat} (ca_meaning_of : Ca P w K mg base k_meaning_of "meaning_of" 3 sp_meaning_of) (hk_meaning_of : k_meaning_of ≤ k) {sp_least_heads : SpD} {k_least_heads : Nat} (ca_least_heads : Ca P w K mg base k_least_heads "least_heads" 1 sp_least_heads) (hk_least_heads : k_least_heads ≤ k) {sp_all_settings : SpD} {k_all_settings : Nat} (ca_all_settings : Ca P w K mg base k_all_settings "all_settings" 1 sp_all_settings) (hk_all_settings : k_all_settings ≤ k) {sp_first_unlike : SpD} {k_first_unlike : Nat} (ca_first_unlike : Ca P w K mg base k_first_unlike "first_unlike" 2 sp_first_unlike) (hk_first_unlike : k_first_unlike ≤ k) :
    ∀ (cdv : Value) (A : Around) (outer : List Env) (s : Shared) (H : Hp) (E : XK) (G : Gd), RoomG k (A.deeper (PyProof.Rows.envOfC "paper_for" (defScope s_paper_for) s.heap.objs.size f cdv)) → G.i0.length = 0 →
      VSs (cxOf C8.CX0 P w K mg base N_paper_for "paper_for" (defScope s_paper_for) f cdv A outer s H E).nox G (defBody s_paper_for) (t_paper_for sp_rests_at sp_meaning_of sp_least_heads sp_all_settings sp_first_unlike) := by
  intro cdv A outer s H E G hr hG
  have hU : ∀ n : Nat, n ≤ 200 → (A.deeper (PyProof.Rows.envOfC "paper_for" (defScope s_paper_for) s.heap.objs.size f cdv)).units + n < cLine := fun n hn => by have := hr.rm.un; omega
  exact (vss_cons (vs_set nd_paper_for rfl (by first | exact Or.inl rfl | exact Or.inr rfl) (VE.seal hG (ve_call [false, false] ca_rests_at hr hk_rests_at rfl (va_cons (ve_call [false, false, false] ca_meaning_of hr hk_meaning_of rfl (va_p (ve_v 0) (va_p (ve_v 1) (va_p (ve_v 2) va_p0)))) (va_p (VE.pure2 (ve_shl ve_int (VE.pure2 (ve_sub (ve_v 1) (ve_v 3))))) va_p0)))))
  (vss_cons (vs_set nd_paper_for rfl (by first | exact Or.inl rfl | exact Or.inr rfl) (VE.seal hG (ve_call [false] ca_least_heads hr hk_least_heads rfl (va_p (ve_v 4) va_p0))))
  (vss_cons (vs_parT (is := [7, 8]) rfl (pgs_names nd_paper_for rfl (by first | exact Or.inl rfl | exact Or.inr rfl) (pgs_names nd_paper_for rfl (by first | exact Or.inl rfl | exact Or.inr rfl) pgs_names_nil)) (va_cons (VE.seal hG (ve_call [false] ca_all_settings hr hk_all_settings rfl (va_p (ve_v 3) va_p0))) (va_cons (VE.seal hG (ve_call [false] ca_all_settings hr hk_all_settings rfl (va_p (VE.pure2 (ve_sub (ve_v 1) (ve_v 3))) va_p0))) va_p0)))
  (vss_cons (vs_set nd_paper_for rfl (by first | exact Or.inl rfl | exact Or.inr rfl) (VF.nw (VF.pLst (vf_lst va_p0))))
  (vss_cons (vs_for (bd := false) PassesOwn.never rfl (vi_enum rfl m_enumerate (ve_v 5)) (vg_tup rfl (vgs_cons nd_paper_for rfl (by first | exact Or.inl rfl | exact Or.inr rfl) (vgs_cons nd_paper_for rfl (by first | exact Or.inl rfl | exact Or.inr rfl) vgs_nil))) (vss_one (vs_expr (ve_mt F.plainAttrs_list F.slot_list_extend rfl mt_extend rd_ext (ve_v 6) (va_cons (VF.fz (vf_lc (own := [("other", 12)]) rfl nd_paper_for (vi_pq (VF.pure (vf_slice (ve_v 5) (vo_some (VE.pure2 (ve_add (ve_v 9) ve_int))) vo_none))) (blkOk_by (show blkC N_paper_for (defScope s_paper_for) _ _ = true by decide +kernel)) (fun s H C cl fp => pg_name nd_paper_for rfl (by first | exact Or.inl rfl | exact Or.inr rfl) (by first | exact Or.inr rfl | exact Or.inl rfl)) (fun s H C cl fp G hG' => vts_nil) (fun s H C cl fp G hG' => (ve_idx (ve_v 8) (ve_call [false, false] ca_first_unlike hr hk_first_unlike rfl (va_p (VE.pure2 (ve_idx (ve_v 4) (ve_v 10))) (va_p (VE.pure2 (ve_idx (ve_v 4) (ve_v 12))) va_p0))))) (by decide))) va_p0)))))
  (vss_one (vs_ret (ve_tup (va_cons (VF.fz (vf_lc (own := [("place", 11)]) rfl nd_paper_for (vi_pq (ve_v 5)) (blkOk_by (show blkC N_paper_for (defScope s_paper_for) _ _ = true by decide +kernel)) (fun s H C cl fp => pg_name nd_paper_for rfl (by first | exact Or.inl rfl | exact Or.inr rfl) (by first | exact Or.inr rfl | exact Or.inl rfl)) (fun s H C cl fp G hG' => vts_nil) (fun s H C cl fp G hG' => (VE.pure2 (ve_idx (ve_v 7) (ve_v 11)))) (by decide))) (va_cons (VE.seal hG (ve_v 6)) va_p0))))))))))
abbrev s__law_cell_at : Stmt := top 14
def N__law_cell_at : List Str := ["_law_script", "_law_k"]
def t__law_cell_at  : TS' :=
  (sRet (eP (poIf (bB (po2 ltD (pV 1) (poN lenD [(pV 0)]))) (po2 ixD (pV 0) (pV 1)) (pC (.int 0)))))
theorem sc__law_cell_at : FnScope N__law_cell_at ["_law_script", "_law_k"] (defScope s__law_cell_at) := C8.fnScope_by (by decide +kernel)
theorem d__law_cell_at {P : Program} {w : World} {K : PySem.W.Frag} {mg : Str → Option Value} {base : Heap} {f : Addr} {k : Nat} (m_len : mg "len" = none) :
    ∀ (cdv : Value) (A : Around) (outer : List Env) (s : Shared) (H : Hp) (E : XK) (G : Gd), RoomG k (A.deeper (PyProof.Rows.envOfC "_law_cell_at" (defScope s__law_cell_at) s.heap.objs.size f cdv)) → G.i0.length = 0 →
      VSs (cxOf C8.CX0 P w K mg base N__law_cell_at "_law_cell_at" (defScope s__law_cell_at) f cdv A outer s H E).nox G (defBody s__law_cell_at) (t__law_cell_at ) := by
  intro cdv A outer s H E G hr hG
  have hU : ∀ n : Nat, n ≤ 200 → (A.deeper (PyProof.Rows.envOfC "_law_cell_at" (defScope s__law_cell_at) s.heap.objs.size f cdv)).units + n < cLine := fun n hn => by have := hr.rm.un; omega
  exact (vss_one (vs_ret (VE.pIf (ve_if (VT.pureB2 (vt_cmp op_lt rd_lt (ve_v 1) (VE.pureN (ve_callB call_lenX rd_len rfl m_len bt_len (va_p (ve_v 0) va_p0))) (nomark _))) (VE.pure2 (ve_idx (ve_v 0) (ve_v 1))) ve_int))))
abbrev s__law_tape : Stmt := top 15
def N__law_tape : List Str := ["_law_script", "_law_k", "_law_cell"]
def t__law_tape (sp__law_cell_at : SpD) : TS' :=
  (sSeq (sSet 2 (eCall [false, false] sp__law_cell_at (aP [(pV 0), (pV 1)])))
  (sRet (eNw (fP (plLst [(po2 mulD (poN absD [(pV 2)]) (poN intD [(po2 geD (poN absD [(pV 2)]) (po2 powD (pC (.int 10)) (pC (.int 18))))])), (po2 modD (po2 mulD (po2 addD (po2 addD (po2 modD (pV 2) (pC (.int 2147483647))) (po2 mulD (po2 mulD (pC (.int 7753)) (pV 1)) (pV 1))) (pC (.int 41))) (pC (.int 48271))) (pC (.int 2147483629))), (pC (.int 0))])))))
theorem nd__law_tape : N__law_tape.Nodup := by decide
theorem sc__law_tape : FnScope N__law_tape ["_law_script", "_law_k"] (defScope s__law_tape) := C8.fnScope_by (by decide +kernel)
theorem d__law_tape {P : Program} {w : World} {K : PySem.W.Frag} {mg : Str → Option Value} {base : Heap} {f : Addr} {k : Nat} (m_abs : mg "abs" = none) (m_int : mg "int" = none) {sp__law_cell_at : SpD} {k__law_cell_at : Nat} (ca__law_cell_at : Ca P w K mg base k__law_cell_at "_law_cell_at" 2 sp__law_cell_at) (hk__law_cell_at : k__law_cell_at ≤ k) :
    ∀ (cdv : Value) (A : Around) (outer : List Env) (s : Shared) (H : Hp) (E : XK) (G : Gd), RoomG k (A.deeper (PyProof.Rows.envOfC "_law_tape" (defScope s__law_tape) s.heap.objs.size f cdv)) → G.i0.length = 0 →
      VSs (cxOf C8.CX0 P w K mg base N__law_tape "_law_tape" (defScope s__law_tape) f cdv A outer s H E).nox G (defBody s__law_tape) (t__law_tape sp__law_cell_at) := by
  intro cdv A outer s H E G hr hG
  have hU : ∀ n : Nat, n ≤ 200 → (A.deeper (PyProof.Rows.envOfC "_law_tape" (defScope s__law_tape) s.heap.objs.size f cdv)).units + n < cLine := fun n hn => by have := hr.rm.un; omega
  exact (vss_cons (vs_set nd__law_tape rfl (by first | exact Or.inl rfl | exact Or.inr rfl) (ve_call [false, false] ca__law_cell_at hr hk__law_cell_at rfl (va_p (ve_v 0) (va_p (ve_v 1) va_p0))))
  (vss_one (vs_ret (VF.nw (VF.pLst (vf_lst (va_p (VE.pure2 (ve_mul (VE.pureN (ve_callB call_abs rd_abs rfl m_abs bt_abs (va_p (ve_v 2) va_p0))) (VE.pureN (ve_callTy call_int1 rd_intC rfl m_int bt_int (va_p (VE.pure2 (ve_cmp op_ge rd_ge (VE.pureN (ve_callB call_abs rd_abs rfl m_abs bt_abs (va_p (ve_v 2) va_p0))) (VE.pure2 (ve_pow ve_int ve_int)) (nomark _))) va_p0))))) (va_p (VE.pure2 (ve_mod (VE.pure2 (ve_mul (VE.pure2 (ve_add (VE.pure2 (ve_add (VE.pure2 (ve_mod (ve_v 2) ve_int)) (VE.pure2 (ve_mul (VE.pure2 (ve_mul ve_int (ve_v 1))) (ve_v 1))))) ve_int)) ve_int)) ve_int)) (va_p ve_int va_p0)))))))))
abbrev s__law_take : Stmt := top 16
def N__law_take : List Str := ["_law_tape_here", "_law_many_here", "_law_prime", "_law_once", "_law_found"]
def t__law_take (sp__law_take : SpD) : TS' :=
  (sSeq (sIf (cP (bB (po2 gtD (po2 ixD (pV 0) (pC (.int 0))) (pC (.int 0)))))
  (sSeq (sSet 4 (eP (po2 modD (po2 ixD (pV 0) (pC (.int 0))) (pV 1))))
  (sSeq (sSub (eP (po2 fdivD (po2 ixD (pV 0) (pC (.int 0))) (pV 1))) (eP (pV 0)) (eP (pC (.int 0))))
  (sRet (eP (pV 4)))))
  sNil)
  (sSeq (sSub (eP (po2 addD (po2 ixD (pV 0) (pC (.int 2))) (pC (.int 1)))) (eP (pV 0)) (eP (pC (.int 2))))
  (sSeq (sSet 2 (eP (po2 ixD (pFz (plLst [(pC (.int 2147483587)), (pC (.int 2147483579)), (pC (.int 2147483563)), (pC (.int 2147483549)), (pC (.int 2147483543)), (pC (.int 2147483497)), (pC (.int 2147483489))])) (po2 modD (po2 ixD (pV 0) (pC (.int 2))) (pC (.int 7))))))
  (sSeq (sSet 3 (eP (po2 modD (po2 mulD (po2 addD (po2 ixD (pV 0) (pC (.int 1))) (po2 mulD (pC (.int 39373)) (po2 ixD (pV 0) (pC (.int 2))))) (po2 addD (pC (.int 48271)) (po2 ixD (pV 0) (pC (.int 2))))) (pV 2))))
  (sSeq (sSub (eP (po2 modD (po2 addD (po2 mulD (pV 3) (po2 addD (po2 modD (pV 3) (pC (.int 40009))) (pC (.int 7)))) (po2 ixD (pV 0) (pC (.int 2)))) (pC (.int 2147483629)))) (eP (pV 0)) (eP (pC (.int 1))))
  (sSeq (sSet 4 (eP (po2 fdivD (po2 modD (po2 mulD (po2 ixD (pV 0) (pC (.int 1))) (po2 addD (po2 modD (po2 ixD (pV 0) (pC (.int 1))) (pC (.int 1009))) (pC (.int 3)))) (pC (.int 998244353))) (pC (.int 7)))))
  (sRet (eIf (cP (bB (po2 ltD (pV 1) (po2 powD (pC (.int 10)) (pC (.int 6)))))) (eP (po2 modD (pV 4) (pV 1))) (eo2 modD (eo2 addD (eP (po2 mulD (pV 4) (pC (.int 99991)))) (eCall [true, false] sp__law_take (aP [(pV 0), (pC (.int 99991))]))) (eP (pV 1)))))))))))
theorem nd__law_take : N__law_take.Nodup := by decide
theorem sc__law_take : FnScope N__law_take ["_law_tape_here", "_law_many_here"] (defScope s__law_take) := C8.fnScope_by (by decide +kernel)
theorem d__law_take {P : Program} {w : World} {K : PySem.W.Frag} {mg : Str → Option Value} {base : Heap} {f : Addr} {k : Nat} {sp__law_take : SpD} {k__law_take : Nat} (ca__law_take : Ca P w K mg base k__law_take "_law_take" 2 sp__law_take) (hk__law_take : k__law_take ≤ k) :
    ∀ (cdv : Value) (A : Around) (outer : List Env) (s : Shared) (H : Hp) (E : XK) (G : Gd), RoomG k (A.deeper (PyProof.Rows.envOfC "_law_take" (defScope s__law_take) s.heap.objs.size f cdv)) → G.i0.length = 1 →
      VSs (cxOf C8.CX0 P w K mg base N__law_take "_law_take" (defScope s__law_take) f cdv A outer s H E).nox G (defBody s__law_take) (t__law_take sp__law_take) := by
  intro cdv A outer s H E G hr hG
  have hU : ∀ n : Nat, n ≤ 200 → (A.deeper (PyProof.Rows.envOfC "_law_take" (defScope s__law_take) s.heap.objs.size f cdv)).units + n < cLine := fun n hn => by have := hr.rm.un; omega
  exact (vss_cons (vs_if (VT.pureB2 (vt_cmp op_gt rd_gt (VE.pure2 (ve_idx (ve_v 0) ve_int)) ve_int (nomark _))) (vss_cons (vs_set nd__law_take rfl (by first | exact Or.inl rfl | exact Or.inr rfl) (VE.pure2 (ve_mod (VE.pure2 (ve_idx (ve_v 0) ve_int)) (ve_v 1))))
  (vss_cons (vs_sub (VE.pure2 (ve_fdiv (VE.pure2 (ve_idx (ve_v 0) ve_int)) (ve_v 1))) (ve_v 0) ve_int)
  (vss_one (vs_ret (ve_v 4))))) vss_nil)
  (vss_cons (vs_sub (VE.pure2 (ve_add (VE.pure2 (ve_idx (ve_v 0) ve_int)) ve_int)) (ve_v 0) ve_int)
  (vss_cons (vs_set nd__law_take rfl (by first | exact Or.inl rfl | exact Or.inr rfl) (VE.pure2 (ve_idx (VF.pure (VF.pLst (vf_lst (va_p ve_int (va_p ve_int (va_p ve_int (va_p ve_int (va_p ve_int (va_p ve_int (va_p ve_int va_p0)))))))))) (VE.pure2 (ve_mod (VE.pure2 (ve_idx (ve_v 0) ve_int)) ve_int)))))
  (vss_cons (vs_set nd__law_take rfl (by first | exact Or.inl rfl | exact Or.inr rfl) (VE.pure2 (ve_mod (VE.pure2 (ve_mul (VE.pure2 (ve_add (VE.pure2 (ve_idx (ve_v 0) ve_int)) (VE.pure2 (ve_mul ve_int (VE.pure2 (ve_idx (ve_v 0) ve_int)))))) (VE.pure2 (ve_add ve_int (VE.pure2 (ve_idx (ve_v 0) ve_int)))))) (ve_v 2))))
  (vss_cons (vs_sub (VE.pure2 (ve_mod (VE.pure2 (ve_add (VE.pure2 (ve_mul (ve_v 3) (VE.pure2 (ve_add (VE.pure2 (ve_mod (ve_v 3) ve_int)) ve_int)))) (VE.pure2 (ve_idx (ve_v 0) ve_int)))) ve_int)) (ve_v 0) ve_int)
  (vss_cons (vs_set nd__law_take rfl (by first | exact Or.inl rfl | exact Or.inr rfl) (VE.pure2 (ve_fdiv (VE.pure2 (ve_mod (VE.pure2 (ve_mul (VE.pure2 (ve_idx (ve_v 0) ve_int)) (VE.pure2 (ve_add (VE.pure2 (ve_mod (VE.pure2 (ve_idx (ve_v 0) ve_int)) ve_int)) ve_int)))) ve_int)) ve_int)))
  (vss_one (vs_ret (ve_if (VT.pureB2 (vt_cmp op_lt rd_lt (ve_v 1) (VE.pure2 (ve_pow ve_int ve_int)) (nomark _))) (VE.pure2 (ve_mod (ve_v 4) (ve_v 1))) (ve_mod (ve_add (VE.pure2 (ve_mul (ve_v 4) ve_int)) (ve_call [true, false] ca__law_take hr hk__law_take rfl (va_p (ve_v 0) (va_p ve_int va_p0)))) (ve_v 1)))))))))))
abbrev s__law_claim : Stmt := top 17
def N__law_claim : List Str := ["_law_tape_here", "_law_many_here", "_law_deep", "_law_way", "_law_claims", "_law_k", "_law_one", "_law_turn"]
def t__law_claim (sp__law_take : SpD) (sp__law_claim : SpD) : TS' :=
  (sSeq (sSet 3 (eCall [true, false] sp__law_take (aP [(pV 0), (pC (.int 12))])))
  (sSeq (sIf (cP (bOr (bB (po2 eqD (pV 2) (pC (.int 0)))) (bB (po2 ltD (pV 3) (pC (.int 3))))))
  (sSeq (sSet 5 (eCall [true, false] sp__law_take (aP [(pV 0), (poN maxD [(pC (.int 1)), (pV 1)])])))
  (sRet (eIf (cP (bAn (bB (po2 gtD (pV 1) (pC (.int 0)))) (bB (po2 neD (pV 3) (pC (.int 3)))))) (eP (poTup [(pC (.str "name")), (pV 5)])) (eo2 ixD (eP (pFz (plLst [(poTup [(pC (.str "yes"))]), (poTup [(pC (.str "no"))])]))) (eCall [true, false] sp__law_take (aP [(pV 0), (pC (.int 2))]))))))
  sNil)
  (sSeq (sIf (cP (bB (po2 eqD (pV 3) (pC (.int 3)))))
  (sRet (eo2 ixD (eP (pFz (plLst [(poTup [(pC (.str "yes"))]), (poTup [(pC (.str "no"))]), (poTup [(pC (.str "and")), (poTup [])]), (poTup [(pC (.str "or")), (poTup [])]), (poTup [(pC (.str "least")), (pC (.int 0)), (poTup [])])]))) (eCall [true, false] sp__law_take (aP [(pV 0), (pC (.int 5))]))))
  sNil)
  (sSeq (sIf (cP (bB (po2 eqD (pV 3) (pC (.int 4)))))
  (sRet (tTupE (aCons (eP (pC (.str "not"))) (aCons (eCall [true, false, false] sp__law_claim (aP [(pV 0), (pV 1), (po2 subD (pV 2) (pC (.int 1)))])) (aP [])))))
  sNil)
  (sSeq (sIf (cP (bB (po2 eqD (pV 3) (pC (.int 5)))))
  (sSeq (sSet 6 (eCall [true, false, false] sp__law_claim (aP [(pV 0), (pV 1), (po2 subD (pV 2) (pC (.int 1)))])))
  (sRet (tTupE (aCons (eP (pC (.str "same"))) (aCons (eP (pV 6)) (aCons (eCall [true, false, false] sp__law_claim (aP [(pV 0), (pV 1), (po2 subD (pV 2) (pC (.int 1)))])) (aP [])))))))
  sNil)
  (sSeq (sSet 4 (eo1 tupC (eFz (fLc (iRg true (aCons (eo2 addD (eP (pC (.int 1))) (eCall [true, false] sp__law_take (aP [(pV 0), (pC (.int 4))]))) (aP []))) (.nm 7) tYs (eCall [true, false, false] sp__law_claim (aP [(pV 0), (pV 1), (po2 subD (pV 2) (pC (.int 1)))])) [7]))))
  (sSeq (sIf (cP (bB (po2 gtD (pV 3) (pC (.int 9)))))
  (sRet (tTupE (aCons (eP (pC (.str "least"))) (aCons (eCall [true, false] sp__law_take (aP [(pV 0), (po2 addD (poN lenD [(pV 4)]) (pC (.int 2)))])) (aP [(pV 4)])))))
  sNil)
  (sRet (eP (poTup [(po2 ixD (pFz (plLst [(pC (.str "and")), (pC (.str "or"))])) (po2 modD (pV 3) (pC (.int 2)))), (pV 4)]))))))))))
theorem nd__law_claim : N__law_claim.Nodup := by decide
theorem sc__law_claim : FnScope N__law_claim ["_law_tape_here", "_law_many_here", "_law_deep"] (defScope s__law_claim) := C8.fnScope_by (by decide +kernel)
theorem d__law_claim {P : Program} {w : World} {K : PySem.W.Frag} {mg : Str → Option Value} {base : Heap} {f : Addr} {k : Nat} (m_max : mg "max" = none) (m_range : mg "range" = none) (m_tuple : mg "tuple" = none) (m_len : mg "len" = none) {sp__law_take : SpD} {k__law_take : Nat} (ca__law_take : Ca P w K mg base k__law_take "_law_take" 2 sp__law_take) (hk__law_take : k__law_take ≤ k) {sp__law_claim : SpD} {k__law_claim : Nat} (ca__law_claim : Ca P w K mg base k__law_claim "_law_claim" 3 sp__law_claim) (hk__law_claim : k__law_claim ≤ k) :
    ∀ (cdv : Value) (A : Around) (outer : List Env) (s : Shared) (H : Hp) (E : XK) (G : Gd), RoomG k (A.deeper (PyProof.Rows.envOfC "_law_claim" (defScope s__law_claim) s.heap.objs.size f cdv)) → G.i0.length = 1 →
      VSs (cxOf C8.CX0 P w K mg base N__law_claim "_law_claim" (defScope s__law_claim) f cdv A outer s H E).nox G (defBody s__law_claim) (t__law_claim sp__law_take sp__law_claim) := by
  intro cdv A outer s H E G hr hG
  have hU : ∀ n : Nat, n ≤ 200 → (A.deeper (PyProof.Rows.envOfC "_law_claim" (defScope s__law_claim) s.heap.objs.size f cdv)).units + n < cLine := fun n hn => by have := hr.rm.un; omega
  exact (vss_cons (vs_set nd__law_claim rfl (by first | exact Or.inl rfl | exact Or.inr rfl) (ve_call [true, false] ca__law_take hr hk__law_take rfl (va_p (ve_v 0) (va_p ve_int va_p0))))
  (vss_cons (vs_if (VW.vt (VW.pOr (vw_or (VT.pureB2 (vt_cmp (op_eqX (hU 64 (by decide))) rd_eq (ve_v 2) ve_int (nomark _))) (vw_or1 (VT.pureB2 (vt_cmp op_lt rd_lt (ve_v 3) ve_int (nomark _))))))) (vss_cons (vs_set nd__law_claim rfl (by first | exact Or.inl rfl | exact Or.inr rfl) (ve_call [true, false] ca__law_take hr hk__law_take rfl (va_p (ve_v 0) (va_p (VE.pureN (ve_callB (call_maxX rfl) rd_max rfl m_max bt_max (va_p ve_int (va_p (ve_v 1) va_p0)))) va_p0))))
  (vss_one (vs_ret (ve_if (VW.vt (VW.pAn (vw_and (VT.pureB2 (vt_cmp op_gt rd_gt (ve_v 1) ve_int (nomark _))) (vw_and1 (VT.pureB2 (vt_cmp (op_neX (hU 64 (by decide))) rd_ne (ve_v 3) ve_int (nomark _))))))) (VE.pTup (ve_tup (va_p ve_str (va_p (ve_v 5) va_p0)))) (ve_idx (VF.pure (VF.pLst (vf_lst (va_p (VE.pTup (ve_tup (va_p ve_str va_p0))) (va_p (VE.pTup (ve_tup (va_p ve_str va_p0))) va_p0))))) (ve_call [true, false] ca__law_take hr hk__law_take rfl (va_p (ve_v 0) (va_p ve_int va_p0)))))))) vss_nil)
  (vss_cons (vs_if (VT.pureB2 (vt_cmp (op_eqX (hU 64 (by decide))) rd_eq (ve_v 3) ve_int (nomark _))) (vss_one (vs_ret (ve_idx (VF.pure (VF.pLst (vf_lst (va_p (VE.pTup (ve_tup (va_p ve_str va_p0))) (va_p (VE.pTup (ve_tup (va_p ve_str va_p0))) (va_p (VE.pTup (ve_tup (va_p ve_str (va_p (VE.pTup (ve_tup va_p0)) va_p0)))) (va_p (VE.pTup (ve_tup (va_p ve_str (va_p (VE.pTup (ve_tup va_p0)) va_p0)))) (va_p (VE.pTup (ve_tup (va_p ve_str (va_p ve_int (va_p (VE.pTup (ve_tup va_p0)) va_p0))))) va_p0)))))))) (ve_call [true, false] ca__law_take hr hk__law_take rfl (va_p (ve_v 0) (va_p ve_int va_p0)))))) vss_nil)
  (vss_cons (vs_if (VT.pureB2 (vt_cmp (op_eqX (hU 64 (by decide))) rd_eq (ve_v 3) ve_int (nomark _))) (vss_one (vs_ret (ve_tup (va_cons ve_str (va_cons (ve_call [true, false, false] ca__law_claim hr hk__law_claim rfl (va_p (ve_v 0) (va_p (ve_v 1) (va_p (VE.pure2 (ve_sub (ve_v 2) ve_int)) va_p0)))) va_p0))))) vss_nil)
  (vss_cons (vs_if (VT.pureB2 (vt_cmp (op_eqX (hU 64 (by decide))) rd_eq (ve_v 3) ve_int (nomark _))) (vss_cons (vs_set nd__law_claim rfl (by first | exact Or.inl rfl | exact Or.inr rfl) (ve_call [true, false, false] ca__law_claim hr hk__law_claim rfl (va_p (ve_v 0) (va_p (ve_v 1) (va_p (VE.pure2 (ve_sub (ve_v 2) ve_int)) va_p0)))))
  (vss_one (vs_ret (ve_tup (va_cons ve_str (va_cons (ve_v 6) (va_cons (ve_call [true, false, false] ca__law_claim hr hk__law_claim rfl (va_p (ve_v 0) (va_p (ve_v 1) (va_p (VE.pure2 (ve_sub (ve_v 2) ve_int)) va_p0)))) va_p0))))))) vss_nil)
  (vss_cons (vs_set nd__law_claim rfl (by first | exact Or.inl rfl | exact Or.inr rfl) (ve_tupleOf rfl m_tuple (VF.fz (vf_lc (own := [("_law_turn", 7)]) rfl nd__law_claim (vi_range1 rfl m_range (va_cons (ve_add ve_int (ve_call [true, false] ca__law_take hr hk__law_take rfl (va_p (ve_v 0) (va_p ve_int va_p0)))) va_p0)) (blkOk_by (show blkC N__law_claim (defScope s__law_claim) _ _ = true by decide +kernel)) (fun s H C cl fp => pg_name nd__law_claim rfl (by first | exact Or.inl rfl | exact Or.inr rfl) (by first | exact Or.inr rfl | exact Or.inl rfl)) (fun s H C cl fp G hG' => vts_nil) (fun s H C cl fp G hG' => (ve_call [true, false, false] ca__law_claim hr hk__law_claim rfl (va_p (ve_v 0) (va_p (ve_v 1) (va_p (VE.pure2 (ve_sub (ve_v 2) ve_int)) va_p0))))) (by decide)))))
  (vss_cons (vs_if (VT.pureB2 (vt_cmp op_gt rd_gt (ve_v 3) ve_int (nomark _))) (vss_one (vs_ret (ve_tup (va_cons ve_str (va_cons (ve_call [true, false] ca__law_take hr hk__law_take rfl (va_p (ve_v 0) (va_p (VE.pure2 (ve_add (VE.pureN (ve_callB call_lenX rd_len rfl m_len bt_len (va_p (ve_v 4) va_p0))) ve_int)) va_p0))) (va_p (ve_v 4) va_p0)))))) vss_nil)
  (vss_one (vs_ret (VE.pTup (ve_tup (va_p (VE.pure2 (ve_idx (VF.pure (VF.pLst (vf_lst (va_p ve_str (va_p ve_str va_p0))))) (VE.pure2 (ve_mod (ve_v 3) ve_int)))) (va_p (ve_v 4) va_p0)))))))))))))
abbrev s__law_any_claim : Stmt := top 18
def N__law_any_claim : List Str := ["_law_tape_here", "_law_many_here", "_law_pieces", "_law_turn", "_law_names", "_law_some", "_law_place", "_law_one"]
def t__law_any_claim (sp__law_take : SpD) (sp__law_claim : SpD) : TS' :=
  (sSeq (sIf (tOrr (cP (bB (po2 ltD (pV 1) (pC (.int 2))))) (tTb (eo2 gtD (eCall [true, false] sp__law_take (aP [(pV 0), (pC (.int 4))])) (eP (pC (.int 0))))))
  (sRet (eCall [true, false, false] sp__law_claim (aP [(pV 0), (pV 1), (pC (.int 3))])))
  sNil)
  (sSeq (sSet 2 (eNw (fP (plLst []))))
  (sSeq (sFor (iRg false (aCons (eo2 addD (eP (pC (.int 2))) (eCall [true, false] sp__law_take (aP [(pV 0), (pC (.int 4))]))) (aP []))) (gNm 3)
  (sSeq (sSet 4 (eFz (fLc (iRg true (aCons (eo2 addD (eP (pC (.int 2))) (eCall [true, false] sp__law_take (aP [(pV 0), (pC (.int 2))]))) (aP []))) (.nm 6) tYs (tTupE (aCons (eP (pC (.str "name"))) (aCons (eCall [true, false] sp__law_take (aP [(pV 0), (pV 1)])) (aP [])))) [6])))
  (sSeq (sSet 4 (eo1 tupC (eFz (fLc (iPq (pV 4)) (.nm 7) tYs (eIf (tTb (eo2 eqD (eCall [true, false] sp__law_take (aP [(pV 0), (pC (.int 3))])) (eP (pC (.int 0))))) (eP (poTup [(pC (.str "not")), (pV 7)])) (eP (pV 7))) [7]))))
  (sSeq (sSet 5 (eP (pFz (plLst [(poTup [(pC (.str "or")), (pV 4)]), (poTup [(pC (.str "and")), (pV 4)]), (poTup [(pC (.str "same")), (po2 ixD (pV 4) (pC (.int 0))), (po2 ixD (pV 4) (pC (.int 1)))]), (poTup [(pC (.str "least")), (pC (.int 2)), (pV 4)])]))))
  (sDrop (eMt "list" mApp (eP (pV 2)) (aCons (eo2 ixD (eP (pV 5)) (eCall [true, false] sp__law_take (aP [(pV 0), (pC (.int 4))]))) (aP []))))))))
  (sRet (tTupE (aCons (eo2 ixD (eP (pFz (plLst [(pC (.str "and")), (pC (.str "and")), (pC (.str "or"))]))) (eCall [true, false] sp__law_take (aP [(pV 0), (pC (.int 3))]))) (aP [(po1 tupC (pV 2))])))))))
theorem nd__law_any_claim : N__law_any_claim.Nodup := by decide
theorem sc__law_any_claim : FnScope N__law_any_claim ["_law_tape_here", "_law_many_here"] (defScope s__law_any_claim) := C8.fnScope_by (by decide +kernel)
theorem d__law_any_claim {P : Program} {w : World} {K : PySem.W.Frag} {mg : Str → Option Value} {base : Heap} {f : Addr} {k : Nat} (m_range : mg "range" = none) (m_tuple : mg "tuple" = none) {sp__law_take : SpD} {k__law_take : Nat} (ca__law_take : Ca P w K mg base k__law_take "_law_take" 2 sp__law_take) (hk__law_take : k__law_take ≤ k) {sp__law_claim : SpD} {k__law_claim : Nat} (ca__law_claim : Ca P w K mg base k__law_claim "_law_claim" 3 sp__law_claim) (hk__law_claim : k__law_claim ≤ k) :
    ∀ (cdv : Value) (A : Around) (outer : List Env) (s : Shared) (H : Hp) (E : XK) (G : Gd), RoomG k (A.deeper (PyProof.Rows.envOfC "_law_any_claim" (defScope s__law_any_claim) s.heap.objs.size f cdv)) → G.i0.length = 1 →
      VSs (cxOf C8.CX0 P w K mg base N__law_any_claim "_law_any_claim" (defScope s__law_any_claim) f cdv A outer s H E).nox G (defBody s__law_any_claim) (t__law_any_claim sp__law_take sp__law_claim) := by
  intro cdv A outer s H E G hr hG
  have hU : ∀ n : Nat, n ≤ 200 → (A.deeper (PyProof.Rows.envOfC "_law_any_claim" (defScope s__law_any_claim) s.heap.objs.size f cdv)).units + n < cLine := fun n hn => by have := hr.rm.un; omega
  exact (vss_cons (vs_if (VW.vt (vw_or (VT.pureB2 (vt_cmp op_lt rd_lt (ve_v 1) ve_int (nomark _))) (vw_or1 (vt_cmp op_gt rd_gt (ve_call [true, false] ca__law_take hr hk__law_take rfl (va_p (ve_v 0) (va_p ve_int va_p0))) ve_int (nomark _))))) (vss_one (vs_ret (ve_call [true, false, false] ca__law_claim hr hk__law_claim rfl (va_p (ve_v 0) (va_p (ve_v 1) (va_p ve_int va_p0)))))) vss_nil)
  (vss_cons (vs_set nd__law_any_claim rfl (by first | exact Or.inl rfl | exact Or.inr rfl) (VF.nw (VF.pLst (vf_lst va_p0))))
  (vss_cons (vs_for (bd := false) PassesOwn.never rfl (vi_range1 rfl m_range (va_cons (ve_add ve_int (ve_call [true, false] ca__law_take hr hk__law_take rfl (va_p (ve_v 0) (va_p ve_int va_p0)))) va_p0)) (vg_name nd__law_any_claim rfl (by first | exact Or.inl rfl | exact Or.inr rfl)) (vss_cons (vs_setLcF (own := [("_law_place", 6)]) rfl nd__law_any_claim rfl rfl rfl (vi_range1 rfl m_range (va_cons (ve_add ve_int (ve_call [true, false] ca__law_take hr hk__law_take rfl (va_p (ve_v 0) (va_p ve_int va_p0)))) va_p0)) (blkOk_by (show blkC N__law_any_claim (defScope s__law_any_claim) _ _ = true by decide +kernel)) (fun s H C cl fp => pg_name nd__law_any_claim rfl (by first | exact Or.inl rfl | exact Or.inr rfl) (by first | exact Or.inr rfl | exact Or.inl rfl)) (fun s H C cl fp G hG' => vts_nil) (fun s H C cl fp G hG' => (ve_tup (va_cons ve_str (va_cons (ve_call [true, false] ca__law_take hr hk__law_take rfl (va_p (ve_v 0) (va_p (ve_v 1) va_p0))) va_p0)))) (by decide))
  (vss_cons (vs_set nd__law_any_claim rfl (by first | exact Or.inl rfl | exact Or.inr rfl) (ve_tupleOf rfl m_tuple (VF.fz (vf_lc (own := [("_law_one", 7)]) rfl nd__law_any_claim (vi_pq (ve_v 4)) (blkOk_by (show blkC N__law_any_claim (defScope s__law_any_claim) _ _ = true by decide +kernel)) (fun s H C cl fp => pg_name nd__law_any_claim rfl (by first | exact Or.inl rfl | exact Or.inr rfl) (by first | exact Or.inr rfl | exact Or.inl rfl)) (fun s H C cl fp G hG' => vts_nil) (fun s H C cl fp G hG' => (ve_if (vt_cmp (op_eqX (hU 64 (by decide))) rd_eq (ve_call [true, false] ca__law_take hr hk__law_take rfl (va_p (ve_v 0) (va_p ve_int va_p0))) ve_int (nomark _)) (VE.pTup (ve_tup (va_p ve_str (va_p (ve_v 7) va_p0)))) (ve_v 7))) (by decide)))))
  (vss_cons (vs_set nd__law_any_claim rfl (by first | exact Or.inl rfl | exact Or.inr rfl) (VF.pure (VF.pLst (vf_lst (va_p (VE.pTup (ve_tup (va_p ve_str (va_p (ve_v 4) va_p0)))) (va_p (VE.pTup (ve_tup (va_p ve_str (va_p (ve_v 4) va_p0)))) (va_p (VE.pTup (ve_tup (va_p ve_str (va_p (VE.pure2 (ve_idx (ve_v 4) ve_int)) (va_p (VE.pure2 (ve_idx (ve_v 4) ve_int)) va_p0))))) (va_p (VE.pTup (ve_tup (va_p ve_str (va_p ve_int (va_p (ve_v 4) va_p0))))) va_p0))))))))
  (vss_one (vs_expr (ve_mt F.plainAttrs_list F.slot_list_append rfl mt_append rd_app (ve_v 2) (va_cons (ve_idx (ve_v 5) (ve_call [true, false] ca__law_take hr hk__law_take rfl (va_p (ve_v 0) (va_p ve_int va_p0)))) va_p0))))))))
  (vss_one (vs_ret (ve_tup (va_cons (ve_idx (VF.pure (VF.pLst (vf_lst (va_p ve_str (va_p ve_str (va_p ve_str va_p0)))))) (ve_call [true, false] ca__law_take hr hk__law_take rfl (va_p (ve_v 0) (va_p ve_int va_p0)))) (va_p (VE.pure1 (ve_tupleOf rfl m_tuple (ve_v 2))) va_p0))))))))
abbrev s__law_holds : Stmt := top 19
def N__law_holds : List Str := ["_law_claim_here", "_law_filling", "_law_word", "_law_held", "_law_one"]
def t__law_holds (sp__law_holds : SpD) : TS' :=
  (sSeq (sSet 2 (eP (po2 ixD (pV 0) (pC (.int 0)))))
  (sSeq (sIf (cP (bB (po2 inD (pV 2) (poTup [(pC (.str "yes")), (pC (.str "no"))]))))
  (sRet (eP (po2 eqD (pV 2) (pC (.str "yes")))))
  sNil)
  (sSeq (sIf (cP (bB (po2 eqD (pV 2) (pC (.str "name")))))
  (sRet (eP (po2 eqD (po2 ixD (pV 1) (po2 ixD (pV 0) (pC (.int 1)))) (pC (.int 1)))))
  sNil)
  (sSeq (sIf (cP (bB (po2 eqD (pV 2) (pC (.str "not")))))
  (sRet (eNt (eCall [false, false] sp__law_holds (aP [(po2 ixD (pV 0) (pC (.int 1))), (pV 1)]))))
  sNil)
  (sSeq (sIf (cP (bB (po2 eqD (pV 2) (pC (.str "same")))))
  (sRet (eo2 eqD (eCall [false, false] sp__law_holds (aP [(po2 ixD (pV 0) (pC (.int 1))), (pV 1)])) (eCall [false, false] sp__law_holds (aP [(po2 ixD (pV 0) (pC (.int 2))), (pV 1)]))))
  sNil)
  (sSeq (sSet 3 (eFz (fLc (iPq (po2 ixD (pV 0) (po1 negD (pC (.int 1))))) (.nm 4) tYs (eCall [false, false] sp__law_holds (aP [(pV 4), (pV 1)])) [4])))
  (sSeq (sIf (cP (bB (po2 eqD (pV 2) (pC (.str "least")))))
  (sRet (eP (po2 geD (poMt "list" countD (pV 3) [(pC (.bl true))]) (po2 ixD (pV 0) (pC (.int 1))))))
  sNil)
  (sRet (eP (poIf (bB (po2 eqD (pV 2) (pC (.str "and")))) (poN allD [(pV 3)]) (poN anyD [(pV 3)])))))))))))
theorem nd__law_holds : N__law_holds.Nodup := by decide
theorem sc__law_holds : FnScope N__law_holds ["_law_claim_here", "_law_filling"] (defScope s__law_holds) := C8.fnScope_by (by decide +kernel)
theorem d__law_holds {P : Program} {w : World} {K : PySem.W.Frag} {mg : Str → Option Value} {base : Heap} {f : Addr} {k : Nat} (m_all : mg "all" = none) (m_any : mg "any" = none) {sp__law_holds : SpD} {k__law_holds : Nat} (ca__law_holds : Ca P w K mg base k__law_holds "_law_holds" 2 sp__law_holds) (hk__law_holds : k__law_holds ≤ k) :
    ∀ (cdv : Value) (A : Around) (outer : List Env) (s : Shared) (H : Hp) (E : XK) (G : Gd), RoomG k (A.deeper (PyProof.Rows.envOfC "_law_holds" (defScope s__law_holds) s.heap.objs.size f cdv)) → G.i0.length = 0 →
      VSs (cxOf C8.CX0 P w K mg base N__law_holds "_law_holds" (defScope s__law_holds) f cdv A outer s H E).nox G (defBody s__law_holds) (t__law_holds sp__law_holds) := by
  intro cdv A outer s H E G hr hG
  have hU : ∀ n : Nat, n ≤ 200 → (A.deeper (PyProof.Rows.envOfC "_law_holds" (defScope s__law_holds) s.heap.objs.size f cdv)).units + n < cLine := fun n hn => by have := hr.rm.un; omega
  exact (vss_cons (vs_set nd__law_holds rfl (by first | exact Or.inl rfl | exact Or.inr rfl) (VE.pure2 (ve_idx (ve_v 0) ve_int)))
  (vss_cons (vs_if (VT.pureB2 (vt_cmp (op_inX (hU 65 (by decide))) rd_in (ve_v 2) (VE.pTup (ve_tup (va_p ve_str (va_p ve_str va_p0)))) rfl)) (vss_one (vs_ret (VE.pure2 (ve_cmp (op_eqX (hU 64 (by decide))) rd_eq (ve_v 2) ve_str (nomark _))))) vss_nil)
  (vss_cons (vs_if (VT.pureB2 (vt_cmp (op_eqX (hU 64 (by decide))) rd_eq (ve_v 2) ve_str (nomark _))) (vss_one (vs_ret (VE.pure2 (ve_cmp (op_eqX (hU 64 (by decide))) rd_eq (VE.pure2 (ve_idx (ve_v 1) (VE.pure2 (ve_idx (ve_v 0) ve_int)))) ve_int (nomark _))))) vss_nil)
  (vss_cons (vs_if (VT.pureB2 (vt_cmp (op_eqX (hU 64 (by decide))) rd_eq (ve_v 2) ve_str (nomark _))) (vss_one (vs_ret (ve_not (ve_call [false, false] ca__law_holds hr hk__law_holds rfl (va_p (VE.pure2 (ve_idx (ve_v 0) ve_int)) (va_p (ve_v 1) va_p0)))))) vss_nil)
  (vss_cons (vs_if (VT.pureB2 (vt_cmp (op_eqX (hU 64 (by decide))) rd_eq (ve_v 2) ve_str (nomark _))) (vss_one (vs_ret (ve_cmp (op_eqX (hU 64 (by decide))) rd_eq (ve_call [false, false] ca__law_holds hr hk__law_holds rfl (va_p (VE.pure2 (ve_idx (ve_v 0) ve_int)) (va_p (ve_v 1) va_p0))) (ve_call [false, false] ca__law_holds hr hk__law_holds rfl (va_p (VE.pure2 (ve_idx (ve_v 0) ve_int)) (va_p (ve_v 1) va_p0))) (nomark _)))) vss_nil)
  (vss_cons (vs_setLcF (own := [("_law_one", 4)]) rfl nd__law_holds rfl rfl rfl (vi_pq (VE.pure2 (ve_idx (ve_v 0) (VE.pure1 (ve_neg ve_int))))) (blkOk_by (show blkC N__law_holds (defScope s__law_holds) _ _ = true by decide +kernel)) (fun s H C cl fp => pg_name nd__law_holds rfl (by first | exact Or.inl rfl | exact Or.inr rfl) (by first | exact Or.inr rfl | exact Or.inl rfl)) (fun s H C cl fp G hG' => vts_nil) (fun s H C cl fp G hG' => (ve_call [false, false] ca__law_holds hr hk__law_holds rfl (va_p (ve_v 4) (va_p (ve_v 1) va_p0)))) (by decide))
  (vss_cons (vs_if (VT.pureB2 (vt_cmp (op_eqX (hU 64 (by decide))) rd_eq (ve_v 2) ve_str (nomark _))) (vss_one (vs_ret (VE.pure2 (ve_cmp op_ge rd_ge (VE.pMt (ve_mt F.plainAttrs_list F.slot_list_count rfl (mt_countD (hU 65 (by decide))) rd_count (ve_v 3) (va_p ve_bl va_p0))) (VE.pure2 (ve_idx (ve_v 0) ve_int)) (nomark _))))) vss_nil)
  (vss_one (vs_ret (VE.pIf (ve_if (VT.pureB2 (vt_cmp (op_eqX (hU 64 (by decide))) rd_eq (ve_v 2) ve_str (nomark _))) (VE.pureN (ve_callB (cr_all rfl) rd_all rfl m_all bt_all (va_p (ve_v 3) va_p0))) (VE.pureN (ve_callB (cr_any rfl) rd_any rfl m_any bt_any (va_p (ve_v 3) va_p0))))))))))))))
abbrev s__law_all_fillings : Stmt := top 20
def N__law_all_fillings : List Str := ["_law_many_here", "_law_found", "_law_k", "_law_one"]
def t__law_all_fillings  : TS' :=
  (sSeq (sSet 1 (eP (pFz (plLst [(poTup [])]))))
  (sSeq (sFor (iRg false (aP [(pV 0)])) (gNm 2)
  (sSet 1 (eFz (f2 catF (eFz (fLc (iPq (pV 1)) (.nm 3) tYs (eP (po2 addD (poTup [(pC (.int 0))]) (pV 3))) [3])) (eFz (fLc (iPq (pV 1)) (.nm 3) tYs (eP (po2 addD (poTup [(pC (.int 1))]) (pV 3))) [3]))))))
  (sRet (eP (pV 1)))))
theorem nd__law_all_fillings : N__law_all_fillings.Nodup := by decide
theorem sc__law_all_fillings : FnScope N__law_all_fillings ["_law_many_here"] (defScope s__law_all_fillings) := C8.fnScope_by (by decide +kernel)
theorem d__law_all_fillings {P : Program} {w : World} {K : PySem.W.Frag} {mg : Str → Option Value} {base : Heap} {f : Addr} {k : Nat} (m_range : mg "range" = none) :
    ∀ (cdv : Value) (A : Around) (outer : List Env) (s : Shared) (H : Hp) (E : XK) (G : Gd), RoomG k (A.deeper (PyProof.Rows.envOfC "_law_all_fillings" (defScope s__law_all_fillings) s.heap.objs.size f cdv)) → G.i0.length = 0 →
      VSs (cxOf C8.CX0 P w K mg base N__law_all_fillings "_law_all_fillings" (defScope s__law_all_fillings) f cdv A outer s H E).nox G (defBody s__law_all_fillings) (t__law_all_fillings ) := by
  intro cdv A outer s H E G hr hG
  have hU : ∀ n : Nat, n ≤ 200 → (A.deeper (PyProof.Rows.envOfC "_law_all_fillings" (defScope s__law_all_fillings) s.heap.objs.size f cdv)).units + n < cLine := fun n hn => by have := hr.rm.un; omega
  exact (vss_cons (vs_set nd__law_all_fillings rfl (by first | exact Or.inl rfl | exact Or.inr rfl) (VF.pure (VF.pLst (vf_lst (va_p (VE.pTup (ve_tup va_p0)) va_p0)))))
  (vss_cons (vs_for (bd := false) PassesOwn.never rfl (vi_range1 rfl m_range (va_p (ve_v 0) va_p0)) (vg_name nd__law_all_fillings rfl (by first | exact Or.inl rfl | exact Or.inr rfl)) (vss_one (vs_set nd__law_all_fillings rfl (by first | exact Or.inl rfl | exact Or.inr rfl) (VF.fz (vf_cat (VF.fz (vf_lc (own := [("_law_one", 3)]) rfl nd__law_all_fillings (vi_pq (ve_v 1)) (blkOk_by (show blkC N__law_all_fillings (defScope s__law_all_fillings) _ _ = true by decide +kernel)) (fun s H C cl fp => pg_name nd__law_all_fillings rfl (by first | exact Or.inl rfl | exact Or.inr rfl) (by first | exact Or.inr rfl | exact Or.inl rfl)) (fun s H C cl fp G hG' => vts_nil) (fun s H C cl fp G hG' => (VE.pure2 (ve_add (VE.pTup (ve_tup (va_p ve_int va_p0))) (ve_v 3)))) (by decide))) (VF.fz (vf_lc (own := [("_law_one", 3)]) rfl nd__law_all_fillings (vi_pq (ve_v 1)) (blkOk_by (show blkC N__law_all_fillings (defScope s__law_all_fillings) _ _ = true by decide +kernel)) (fun s H C cl fp => pg_name nd__law_all_fillings rfl (by first | exact Or.inl rfl | exact Or.inr rfl) (by first | exact Or.inr rfl | exact Or.inl rfl)) (fun s H C cl fp G hG' => vts_nil) (fun s H C cl fp G hG' => (VE.pure2 (ve_add (VE.pTup (ve_tup (va_p ve_int va_p0))) (ve_v 3)))) (by decide))))))))
  (vss_one (vs_ret (ve_v 1)))))
abbrev s__law_many : Stmt := top 21
def N__law_many : List Str := ["_law_tape_here", "_law_great"]
def t__law_many (sp__law_take : SpD) : TS' :=
  (sSeq (sSet 1 (eo2 eqD (eCall [true, false] sp__law_take (aP [(pV 0), (pC (.int 8))])) (eP (pC (.int 0)))))
  (sRet (eIf (cP (bTr (pV 1))) (eo2 addD (eP (pC (.int 7))) (eCall [true, false] sp__law_take (aP [(pV 0), (pC (.int 2))]))) (eCall [true, false] sp__law_take (aP [(pV 0), (pC (.int 7))])))))
theorem nd__law_many : N__law_many.Nodup := by decide
theorem sc__law_many : FnScope N__law_many ["_law_tape_here"] (defScope s__law_many) := C8.fnScope_by (by decide +kernel)
theorem d__law_many {P : Program} {w : World} {K : PySem.W.Frag} {mg : Str → Option Value} {base : Heap} {f : Addr} {k : Nat} {sp__law_take : SpD} {k__law_take : Nat} (ca__law_take : Ca P w K mg base k__law_take "_law_take" 2 sp__law_take) (hk__law_take : k__law_take ≤ k) :
    ∀ (cdv : Value) (A : Around) (outer : List Env) (s : Shared) (H : Hp) (E : XK) (G : Gd), RoomG k (A.deeper (PyProof.Rows.envOfC "_law_many" (defScope s__law_many) s.heap.objs.size f cdv)) → G.i0.length = 1 →
      VSs (cxOf C8.CX0 P w K mg base N__law_many "_law_many" (defScope s__law_many) f cdv A outer s H E).nox G (defBody s__law_many) (t__law_many sp__law_take) := by
  intro cdv A outer s H E G hr hG
  have hU : ∀ n : Nat, n ≤ 200 → (A.deeper (PyProof.Rows.envOfC "_law_many" (defScope s__law_many) s.heap.objs.size f cdv)).units + n < cLine := fun n hn => by have := hr.rm.un; omega
  exact (vss_cons (vs_set nd__law_many rfl (by first | exact Or.inl rfl | exact Or.inr rfl) (ve_cmp (op_eqX (hU 64 (by decide))) rd_eq (ve_call [true, false] ca__law_take hr hk__law_take rfl (va_p (ve_v 0) (va_p ve_int va_p0))) ve_int (nomark _)))
  (vss_one (vs_ret (ve_if (VT.pure (vt_val (ve_v 1))) (ve_add ve_int (ve_call [true, false] ca__law_take hr hk__law_take rfl (va_p (ve_v 0) (va_p ve_int va_p0)))) (ve_call [true, false] ca__law_take hr hk__law_take rfl (va_p (ve_v 0) (va_p ve_int va_p0)))))))
abbrev s__law_mixed : Stmt := top 22
def N__law_mixed : List Str := ["_law_tape_here", "_law_some", "_law_left", "_law_found"]
def t__law_mixed (sp__law_take : SpD) : TS' :=
  (sSeq (sPar 2 3 (aCons (eNw (fP (plN listF [(pV 1)]))) (aCons (eNw (fP (plLst []))) (aP []))))
  (sSeq (sWh (cP (bB (po2 neD (pV 2) (pFz (plLst [])))))
  (sDrop (eMt "list" mApp (eP (pV 3)) (aCons (eMt "list" mPopAt (eP (pV 2)) (aCons (eCall [true, false] sp__law_take (aP [(pV 0), (poN lenD [(pV 2)])])) (aP []))) (aP [])))))
  (sRet (eP (pV 3)))))
theorem nd__law_mixed : N__law_mixed.Nodup := by decide
theorem sc__law_mixed : FnScope N__law_mixed ["_law_tape_here", "_law_some"] (defScope s__law_mixed) := C8.fnScope_by (by decide +kernel)
theorem d__law_mixed {P : Program} {w : World} {K : PySem.W.Frag} {mg : Str → Option Value} {base : Heap} {f : Addr} {k : Nat} (m_list : mg "list" = none) (m_len : mg "len" = none) {sp__law_take : SpD} {k__law_take : Nat} (ca__law_take : Ca P w K mg base k__law_take "_law_take" 2 sp__law_take) (hk__law_take : k__law_take ≤ k) :
    ∀ (cdv : Value) (A : Around) (outer : List Env) (s : Shared) (H : Hp) (E : XK) (G : Gd), RoomG k (A.deeper (PyProof.Rows.envOfC "_law_mixed" (defScope s__law_mixed) s.heap.objs.size f cdv)) → G.i0.length = 1 →
      VSs (cxOf C8.CX0 P w K mg base N__law_mixed "_law_mixed" (defScope s__law_mixed) f cdv A outer s H E).nox G (defBody s__law_mixed) (t__law_mixed sp__law_take) := by
  intro cdv A outer s H E G hr hG
  have hU : ∀ n : Nat, n ≤ 200 → (A.deeper (PyProof.Rows.envOfC "_law_mixed" (defScope s__law_mixed) s.heap.objs.size f cdv)).units + n < cLine := fun n hn => by have := hr.rm.un; omega
  exact (vss_cons (vs_par rfl nd__law_mixed rfl rfl (by decide) rfl rfl (va_cons (VF.nw (VF.pN (vf_callTy call_list_of rd_list rfl m_list bt_list (va_p (ve_v 1) va_p0)))) (va_cons (VF.nw (VF.pLst (vf_lst va_p0))) va_p0)) rfl)
  (vss_cons (vs_while PassesOwn.never (VT.pureB2 (vt_cmp (op_neX (hU 64 (by decide))) rd_ne (ve_v 2) (VF.pure (VF.pLst (vf_lst va_p0))) (nomark _))) (vss_one (vs_expr (ve_mt F.plainAttrs_list F.slot_list_append rfl mt_append rd_app (ve_v 3) (va_cons (ve_mt F.plainAttrs_list F.slot_list_pop rfl mt_popAt rd_popAt (ve_v 2) (va_cons (ve_call [true, false] ca__law_take hr hk__law_take rfl (va_p (ve_v 0) (va_p (VE.pureN (ve_callB call_lenX rd_len rfl m_len bt_len (va_p (ve_v 2) va_p0))) va_p0))) va_p0)) va_p0)))))
  (vss_one (vs_ret (ve_v 3)))))
abbrev s__law_order : Stmt := top 23
def N__law_order : List Str := ["_law_tape_here", "_law_many_here"]
def t__law_order (sp__law_take : SpD) (sp__law_mixed : SpD) : TS' :=
  (sRet (eIf (tTb (eo2 eqD (eCall [true, false] sp__law_take (aP [(pV 0), (pC (.int 3))])) (eP (pC (.int 0))))) (eP (pFz (plN rgLF [(pV 1)]))) (eSeal 1 (eCall [true, false] sp__law_mixed (aP [(pV 0), (pFz (plN rgLF [(pV 1)]))])))))
theorem sc__law_order : FnScope N__law_order ["_law_tape_here", "_law_many_here"] (defScope s__law_order) := C8.fnScope_by (by decide +kernel)
theorem d__law_order {P : Program} {w : World} {K : PySem.W.Frag} {mg : Str → Option Value} {base : Heap} {f : Addr} {k : Nat} (m_list : mg "list" = none) (m_range : mg "range" = none) {sp__law_take : SpD} {k__law_take : Nat} (ca__law_take : Ca P w K mg base k__law_take "_law_take" 2 sp__law_take) (hk__law_take : k__law_take ≤ k) {sp__law_mixed : SpD} {k__law_mixed : Nat} (ca__law_mixed : Ca P w K mg base k__law_mixed "_law_mixed" 2 sp__law_mixed) (hk__law_mixed : k__law_mixed ≤ k) :
    ∀ (cdv : Value) (A : Around) (outer : List Env) (s : Shared) (H : Hp) (E : XK) (G : Gd), RoomG k (A.deeper (PyProof.Rows.envOfC "_law_order" (defScope s__law_order) s.heap.objs.size f cdv)) → G.i0.length = 1 →
      VSs (cxOf C8.CX0 P w K mg base N__law_order "_law_order" (defScope s__law_order) f cdv A outer s H E).nox G (defBody s__law_order) (t__law_order sp__law_take sp__law_mixed) := by
  intro cdv A outer s H E G hr hG
  have hU : ∀ n : Nat, n ≤ 200 → (A.deeper (PyProof.Rows.envOfC "_law_order" (defScope s__law_order) s.heap.objs.size f cdv)).units + n < cLine := fun n hn => by have := hr.rm.un; omega
  exact (vss_one (vs_ret (ve_if (vt_cmp (op_eqX (hU 64 (by decide))) rd_eq (ve_call [true, false] ca__law_take hr hk__law_take rfl (va_p (ve_v 0) (va_p ve_int va_p0))) ve_int (nomark _)) (VF.pure (VF.pN (VF.aP1 (vf_listRg1 rfl rfl m_list rfl m_range (ve_v 1))))) (VE.seal hG (ve_call [true, false] ca__law_mixed hr hk__law_mixed rfl (va_p (ve_v 0) (va_p (VF.pure (VF.pN (VF.aP1 (vf_listRg1 rfl rfl m_list rfl m_range (ve_v 1))))) va_p0)))))))
abbrev s__law_same : Stmt := top 24
def N__law_same : List Str := ["_law_found", "_law_due", "_law_one", "_law_other"]
def t__law_same (sp__law_same : SpD) : TS' :=
  (sSeq (sIf (cP (bTr (poN isiD [(pV 1), (poTup [(pC (.ty "list")), (pC (.ty "tuple"))])])))
  (sSeq (sIf (cP (bOr (bB (po2 neD (poN isiD [(pV 0), (pC (.ty "list"))]) (poN isiD [(pV 1), (pC (.ty "list"))]))) (bB (po2 neD (poN isiD [(pV 0), (pC (.ty "tuple"))]) (poN isiD [(pV 1), (pC (.ty "tuple"))])))))
  (sRet (eP (pC (.bl false))))
  sNil)
  (sSeq (sIf (cP (bB (po2 neD (poN lenD [(pV 0)]) (poN lenD [(pV 1)]))))
  (sRet (eP (pC (.bl false))))
  sNil)
  (sRet (eoN allD (aCons (eFz (fLc (iZq (aP [(pV 0), (pV 1)])) (.tp [2, 3]) tYs (eCall [false, false] sp__law_same (aP [(pV 2), (pV 3)])) [2, 3])) (aP []))))))
  sNil)
  (sSeq (sIf (cP (bOr (bB (po2 isD (pV 1) (pC .non))) (bTr (poN isiD [(pV 1), (pC (.ty "str"))]))))
  (sRet (eP (poAn (po2 eqD (pV 0) (pV 1)) (po2 eqD (poN isiD [(pV 0), (pC (.ty "str"))]) (poN isiD [(pV 1), (pC (.ty "str"))])))))
  sNil)
  (sSeq (sIf (cP (bTr (poN isiD [(pV 1), (pC (.ty "bool"))])))
  (sRet (eP (poAn (poN isiD [(pV 0), (pC (.ty "bool"))]) (po2 eqD (pV 0) (pV 1)))))
  sNil)
  (sRet (eP (poAn (poN isiD [(pV 0), (pC (.ty "int"))]) (poAn (poNt (poN isiD [(pV 0), (pC (.ty "bool"))])) (po2 eqD (pV 0) (pV 1)))))))))
theorem nd__law_same : N__law_same.Nodup := by decide
theorem sc__law_same : FnScope N__law_same ["_law_found", "_law_due"] (defScope s__law_same) := C8.fnScope_by (by decide +kernel)
theorem d__law_same {P : Program} {w : World} {K : PySem.W.Frag} {mg : Str → Option Value} {base : Heap} {f : Addr} {k : Nat} (m_list : mg "list" = none) (m_tuple : mg "tuple" = none) (m_isinstance : mg "isinstance" = none) (m_len : mg "len" = none) (m_zip : mg "zip" = none) (m_all : mg "all" = none) (m_str : mg "str" = none) (m_bool : mg "bool" = none) (m_int : mg "int" = none) {sp__law_same : SpD} {k__law_same : Nat} (ca__law_same : Ca P w K mg base k__law_same "_law_same" 2 sp__law_same) (hk__law_same : k__law_same ≤ k) :
    ∀ (cdv : Value) (A : Around) (outer : List Env) (s : Shared) (H : Hp) (E : XK) (G : Gd), RoomG k (A.deeper (PyProof.Rows.envOfC "_law_same" (defScope s__law_same) s.heap.objs.size f cdv)) → G.i0.length = 0 →
      VSs (cxOf C8.CX0 P w K mg base N__law_same "_law_same" (defScope s__law_same) f cdv A outer s H E).nox G (defBody s__law_same) (t__law_same sp__law_same) := by
  intro cdv A outer s H E G hr hG
  have hU : ∀ n : Nat, n ≤ 200 → (A.deeper (PyProof.Rows.envOfC "_law_same" (defScope s__law_same) s.heap.objs.size f cdv)).units + n < cLine := fun n hn => by have := hr.rm.un; omega
  exact (vss_cons (vs_if (VT.pure (vt_val (VE.pureN (ve_callB call_isiX rd_isi rfl m_isinstance bt_isinstance (va_p (ve_v 1) (va_p (VE.pTup (ve_tup (va_p (ve_ty rfl m_list bt_list) (va_p (ve_ty rfl m_tuple bt_tuple) va_p0)))) va_p0)))))) (vss_cons (vs_if (VW.vt (VW.pOr (vw_or (VT.pureB2 (vt_cmp (op_neX (hU 64 (by decide))) rd_ne (VE.pureN (ve_callB call_isiX rd_isi rfl m_isinstance bt_isinstance (va_p (ve_v 0) (va_p (ve_ty rfl m_list bt_list) va_p0)))) (VE.pureN (ve_callB call_isiX rd_isi rfl m_isinstance bt_isinstance (va_p (ve_v 1) (va_p (ve_ty rfl m_list bt_list) va_p0)))) (nomark _))) (vw_or1 (VT.pureB2 (vt_cmp (op_neX (hU 64 (by decide))) rd_ne (VE.pureN (ve_callB call_isiX rd_isi rfl m_isinstance bt_isinstance (va_p (ve_v 0) (va_p (ve_ty rfl m_tuple bt_tuple) va_p0)))) (VE.pureN (ve_callB call_isiX rd_isi rfl m_isinstance bt_isinstance (va_p (ve_v 1) (va_p (ve_ty rfl m_tuple bt_tuple) va_p0)))) (nomark _))))))) (vss_one (vs_ret ve_bl)) vss_nil)
  (vss_cons (vs_if (VT.pureB2 (vt_cmp (op_neX (hU 64 (by decide))) rd_ne (VE.pureN (ve_callB call_lenX rd_len rfl m_len bt_len (va_p (ve_v 0) va_p0))) (VE.pureN (ve_callB call_lenX rd_len rfl m_len bt_len (va_p (ve_v 1) va_p0))) (nomark _))) (vss_one (vs_ret ve_bl)) vss_nil)
  (vss_one (vs_ret (ve_callB (cr_all rfl) rd_all rfl m_all bt_all (va_cons (VF.fz (vf_lc (own := [("_law_one", 2), ("_law_other", 3)]) rfl nd__law_same (vi_zipQ rfl m_zip (va_p (ve_v 0) (va_p (ve_v 1) va_p0))) (blkOk_by (show blkC N__law_same (defScope s__law_same) _ _ = true by decide +kernel)) (fun s H C cl fp => pg_tup rfl (pgs_cons (pg_name nd__law_same rfl (by first | exact Or.inl rfl | exact Or.inr rfl) (by first | exact Or.inr rfl | exact Or.inl rfl)) (pgs_cons (pg_name nd__law_same rfl (by first | exact Or.inl rfl | exact Or.inr rfl) (by first | exact Or.inr rfl | exact Or.inl rfl)) pgs_nil))) (fun s H C cl fp G hG' => vts_nil) (fun s H C cl fp G hG' => (ve_call [false, false] ca__law_same hr hk__law_same rfl (va_p (ve_v 2) (va_p (ve_v 3) va_p0)))) (by decide))) va_p0)))))) vss_nil)
  (vss_cons (vs_if (VW.vt (VW.pOr (vw_or (VT.pureB2 (vt_cmp op_isX rd_is (ve_v 1) ve_non (nomark _))) (vw_or1 (VT.pure (vt_val (VE.pureN (ve_callB call_isiX rd_isi rfl m_isinstance bt_isinstance (va_p (ve_v 1) (va_p (ve_ty rfl m_str bt_str) va_p0)))))))))) (vss_one (vs_ret (VE.pAn (ve_and (VE.pure2 (ve_cmp (op_eqX (hU 64 (by decide))) rd_eq (ve_v 0) (ve_v 1) (nomark _))) (ve_one (VE.pure2 (ve_cmp (op_eqX (hU 64 (by decide))) rd_eq (VE.pureN (ve_callB call_isiX rd_isi rfl m_isinstance bt_isinstance (va_p (ve_v 0) (va_p (ve_ty rfl m_str bt_str) va_p0)))) (VE.pureN (ve_callB call_isiX rd_isi rfl m_isinstance bt_isinstance (va_p (ve_v 1) (va_p (ve_ty rfl m_str bt_str) va_p0)))) (nomark _)))))))) vss_nil)
  (vss_cons (vs_if (VT.pure (vt_val (VE.pureN (ve_callB call_isiX rd_isi rfl m_isinstance bt_isinstance (va_p (ve_v 1) (va_p (ve_ty rfl m_bool bt_bool) va_p0)))))) (vss_one (vs_ret (VE.pAn (ve_and (VE.pureN (ve_callB call_isiX rd_isi rfl m_isinstance bt_isinstance (va_p (ve_v 0) (va_p (ve_ty rfl m_bool bt_bool) va_p0)))) (ve_one (VE.pure2 (ve_cmp (op_eqX (hU 64 (by decide))) rd_eq (ve_v 0) (ve_v 1) (nomark _)))))))) vss_nil)
  (vss_one (vs_ret (VE.pAn (ve_and (VE.pureN (ve_callB call_isiX rd_isi rfl m_isinstance bt_isinstance (va_p (ve_v 0) (va_p (ve_ty rfl m_int bt_int) va_p0)))) (VE.pAn (ve_and (VE.pNt (ve_not (VE.pureN (ve_callB call_isiX rd_isi rfl m_isinstance bt_isinstance (va_p (ve_v 0) (va_p (ve_ty rfl m_bool bt_bool) va_p0)))))) (ve_one (VE.pure2 (ve_cmp (op_eqX (hU 64 (by decide))) rd_eq (ve_v 0) (ve_v 1) (nomark _)))))))))))))
abbrev s__law_by : Stmt := top 25
def N__law_by : List Str := ["_law_order_here", "_law_bits", "_law_filling", "_law_name", "_law_bit"]
def t__law_by  : TS' :=
  (sSeq (sSet 2 (eNw (fP (pl2 repF (pFz (plLst [(pC (.int 0))])) (poN lenD [(pV 0)])))))
  (sSeq (sFor (iZm (aP [(pV 0), (pV 1)])) (gTp [3, 4])
  (sSub (eP (pV 4)) (eP (pV 2)) (eP (pV 3))))
  (sRet (eP (po1 tupC (pV 2))))))
theorem nd__law_by : N__law_by.Nodup := by decide
theorem sc__law_by : FnScope N__law_by ["_law_order_here", "_law_bits"] (defScope s__law_by) := C8.fnScope_by (by decide +kernel)
theorem d__law_by {P : Program} {w : World} {K : PySem.W.Frag} {mg : Str → Option Value} {base : Heap} {f : Addr} {k : Nat} (m_len : mg "len" = none) (m_zip : mg "zip" = none) (m_tuple : mg "tuple" = none) :
    ∀ (cdv : Value) (A : Around) (outer : List Env) (s : Shared) (H : Hp) (E : XK) (G : Gd), RoomG k (A.deeper (PyProof.Rows.envOfC "_law_by" (defScope s__law_by) s.heap.objs.size f cdv)) → G.i0.length = 0 →
      VSs (cxOf C8.CX0 P w K mg base N__law_by "_law_by" (defScope s__law_by) f cdv A outer s H E).nox G (defBody s__law_by) (t__law_by ) := by
  intro cdv A outer s H E G hr hG
  have hU : ∀ n : Nat, n ≤ 200 → (A.deeper (PyProof.Rows.envOfC "_law_by" (defScope s__law_by) s.heap.objs.size f cdv)).units + n < cLine := fun n hn => by have := hr.rm.un; omega
  exact (vss_cons (vs_set nd__law_by rfl (by first | exact Or.inl rfl | exact Or.inr rfl) (VF.nw (VF.p2 (vf_rep (VF.pure (VF.pLst (vf_lst (va_p ve_int va_p0)))) (VE.pureN (ve_callB call_lenX rd_len rfl m_len bt_len (va_p (ve_v 0) va_p0)))))))
  (vss_cons (vs_for (bd := false) PassesOwn.never rfl (vi_zipM (K := K) rfl m_zip (va_p (ve_v 0) (va_p (ve_v 1) va_p0))) (vg_tup rfl (vgs_cons nd__law_by rfl (by first | exact Or.inl rfl | exact Or.inr rfl) (vgs_cons nd__law_by rfl (by first | exact Or.inl rfl | exact Or.inr rfl) vgs_nil))) (vss_one (vs_sub (ve_v 4) (ve_v 2) (ve_v 3))))
  (vss_one (vs_ret (VE.pure1 (ve_tupleOf rfl m_tuple (ve_v 2)))))))
abbrev s__law_meaning : Stmt := top 26
def N__law_meaning : List Str := ["_law_claim_here", "_law_order_here", "_law_bits"]
def t__law_meaning (sp__law_all_fillings : SpD) (sp__law_holds : SpD) (sp__law_by : SpD) : TS' :=
  (sRet (eo1 tupC (eFz (fLc (iSq (eSeal 0 (eCall [false] sp__law_all_fillings (aP [(poN lenD [(pV 1)])])))) (.nm 2) tYs (eoN intD (aCons (eCall [false, false] sp__law_holds (aCons (eP (pV 0)) (aCons (eCall [false, false] sp__law_by (aP [(pV 1), (pV 2)])) (aP [])))) (aP []))) [2]))))
theorem nd__law_meaning : N__law_meaning.Nodup := by decide
theorem sc__law_meaning : FnScope N__law_meaning ["_law_claim_here", "_law_order_here"] (defScope s__law_meaning) := C8.fnScope_by (by decide +kernel)
theorem d__law_meaning {P : Program} {w : World} {K : PySem.W.Frag} {mg : Str → Option Value} {base : Heap} {f : Addr} {k : Nat} (m_len : mg "len" = none) (m_int : mg "int" = none) (m_tuple : mg "tuple" = none) {sp__law_all_fillings : SpD} {k__law_all_fillings : Nat} (ca__law_all_fillings : Ca P w K mg base k__law_all_fillings "_law_all_fillings" 1 sp__law_all_fillings) (hk__law_all_fillings : k__law_all_fillings ≤ k) {sp__law_holds : SpD} {k__law_holds : Nat} (ca__law_holds : Ca P w K mg base k__law_holds "_law_holds" 2 sp__law_holds) (hk__law_holds : k__law_holds ≤ k) {sp__law_by : SpD} {k__law_by : Nat} (ca__law_by : Ca P w K mg base k__law_by "_law_by" 2 sp__law_by) (hk__law_by : k__law_by ≤ k) :
    ∀ (cdv : Value) (A : Around) (outer : List Env) (s : Shared) (H : Hp) (E : XK) (G : Gd), RoomG k (A.deeper (PyProof.Rows.envOfC "_law_meaning" (defScope s__law_meaning) s.heap.objs.size f cdv)) → G.i0.length = 0 →
      VSs (cxOf C8.CX0 P w K mg base N__law_meaning "_law_meaning" (defScope s__law_meaning) f cdv A outer s H E).nox G (defBody s__law_meaning) (t__law_meaning sp__law_all_fillings sp__law_holds sp__law_by) := by
  intro cdv A outer s H E G hr hG
  have hU : ∀ n : Nat, n ≤ 200 → (A.deeper (PyProof.Rows.envOfC "_law_meaning" (defScope s__law_meaning) s.heap.objs.size f cdv)).units + n < cLine := fun n hn => by have := hr.rm.un; omega
  exact (vss_one (vs_ret (ve_tupleOf rfl m_tuple (VF.fz (vf_lc (own := [("_law_bits", 2)]) rfl nd__law_meaning (vi_sq (VE.seal hG (ve_call [false] ca__law_all_fillings hr hk__law_all_fillings rfl (va_p (VE.pureN (ve_callB call_lenX rd_len rfl m_len bt_len (va_p (ve_v 1) va_p0))) va_p0)))) (blkOk_by (show blkC N__law_meaning (defScope s__law_meaning) _ _ = true by decide +kernel)) (fun s H C cl fp => pg_name nd__law_meaning rfl (by first | exact Or.inl rfl | exact Or.inr rfl) (by first | exact Or.inr rfl | exact Or.inl rfl)) (fun s H C cl fp G hG' => vts_nil) (fun s H C cl fp G hG' => (ve_callTy call_int1 rd_intC rfl m_int bt_int (va_cons (ve_call [false, false] ca__law_holds hr hk__law_holds rfl (va_cons (ve_v 0) (va_cons (ve_call [false, false] ca__law_by hr hk__law_by rfl (va_p (ve_v 1) (va_p (ve_v 2) va_p0))) va_p0))) va_p0))) (by decide))))))
abbrev s__law_rests : Stmt := top 27
def N__law_rests : List Str := ["_law_meaning_here", "_law_many_here", "_law_j", "_law_long", "_law_at"]
def t__law_rests  : TS' :=
  (sSeq (sSet 3 (eP (po2 shlD (pC (.int 1)) (po2 subD (pV 1) (pV 2)))))
  (sRet (eNw (fLc (iRg true (aP [(pC (.int 0)), (poN lenD [(pV 0)]), (pV 3)])) (.nm 4) tYs (eP (poSl (pV 0) (poI (pV 4)) (poI (po2 addD (pV 4) (pV 3))))) [4]))))
theorem nd__law_rests : N__law_rests.Nodup := by decide
theorem sc__law_rests : FnScope N__law_rests ["_law_meaning_here", "_law_many_here", "_law_j"] (defScope s__law_rests) := C8.fnScope_by (by decide +kernel)
theorem d__law_rests {P : Program} {w : World} {K : PySem.W.Frag} {mg : Str → Option Value} {base : Heap} {f : Addr} {k : Nat} (m_len : mg "len" = none) (m_range : mg "range" = none) :
    ∀ (cdv : Value) (A : Around) (outer : List Env) (s : Shared) (H : Hp) (E : XK) (G : Gd), RoomG k (A.deeper (PyProof.Rows.envOfC "_law_rests" (defScope s__law_rests) s.heap.objs.size f cdv)) → G.i0.length = 0 →
      VSs (cxOf C8.CX0 P w K mg base N__law_rests "_law_rests" (defScope s__law_rests) f cdv A outer s H E).nox G (defBody s__law_rests) (t__law_rests ) := by
  intro cdv A outer s H E G hr hG
  have hU : ∀ n : Nat, n ≤ 200 → (A.deeper (PyProof.Rows.envOfC "_law_rests" (defScope s__law_rests) s.heap.objs.size f cdv)).units + n < cLine := fun n hn => by have := hr.rm.un; omega
  exact (vss_cons (vs_set nd__law_rests rfl (by first | exact Or.inl rfl | exact Or.inr rfl) (VE.pure2 (ve_shl ve_int (VE.pure2 (ve_sub (ve_v 1) (ve_v 2))))))
  (vss_one (vs_ret (VF.nw (vf_lc (own := [("_law_at", 4)]) rfl nd__law_rests (vi_range3 rfl m_range (va_p ve_int (va_p (VE.pureN (ve_callB call_lenX rd_len rfl m_len bt_len (va_p (ve_v 0) va_p0))) (va_p (ve_v 3) va_p0)))) (blkOk_by (show blkC N__law_rests (defScope s__law_rests) _ _ = true by decide +kernel)) (fun s H C cl fp => pg_name nd__law_rests rfl (by first | exact Or.inl rfl | exact Or.inr rfl) (by first | exact Or.inr rfl | exact Or.inl rfl)) (fun s H C cl fp G hG' => vts_nil) (fun s H C cl fp G hG' => (ve_slice (ve_v 0) (vo_some (ve_v 4)) (vo_some (VE.pure2 (ve_add (ve_v 4) (ve_v 3)))))) (by decide))))))
abbrev s__law_paper : Stmt := top 28
def N__law_paper : List Str := ["_law_meaning_here", "_law_many_here", "_law_j", "_law_rests_here", "_law_first", "_law_heads", "_law_tails", "_law_head", "_law_rest", "_law_place", "_law_one", "_law_more", "_law_other", "_law_unlike", "_law_tail", "_law_bit", "_law_its"]
def t__law_paper (sp__law_rests : SpD) (sp__law_all_fillings : SpD) : TS' :=
  (sSeq (sSet 3 (eSeal 0 (eCall [false, false, false] sp__law_rests (aP [(pV 0), (pV 1), (pV 2)]))))
  (sSeq (sSet 4 eKdN)
  (sSeq (sFor (iZq (aCons (eSeal 0 (eCall [false] sp__law_all_fillings (aP [(pV 2)]))) (aP [(pV 3)]))) (gTp [7, 8])
  (sDrop (tKsetd (eP (pV 4)) (eP (pV 8)) (eP (pV 7)))))
  (sFrz 0 4 (sSeq (sSet 5 (eFz (fN sortGF (aCons (eFz (fLc (iItN (eP (pV 4))) (.tp [8, 7]) tYs (eP (poTup [(pV 7), (pV 8)])) [8, 7])) (aP [])))))
  (sSeq (sSet 6 (eNw (fP (plLst []))))
  (sSeq (sFor (iEn (eP (pV 5))) (gTG 2 (gsC (gNm 9) (gsC (gTG 2 (gsC (gNm 7) (gsC (gNm 10) gsN))) gsN)))
  (sFor (iPq (pFz (plSl (pV 5) (poI (po2 addD (pV 9) (pC (.int 1)))) poNo))) (gTp [11, 12])
  (sSeq (sSet 13 (eFz (fLc (iZm3 (aCons (eSeal 0 (eCall [false] sp__law_all_fillings (aP [(po2 subD (pV 1) (pV 2))]))) (aP [(pV 10), (pV 12)]))) (.tp [14, 15, 16]) (cP (bB (po2 neD (pV 15) (pV 16)))) (eP (pV 14)) [14, 15, 16])))
  (sDrop (eMt "list" mApp (eP (pV 6)) (aP [(po2 ixD (pV 13) (pC (.int 0)))]))))))
  (sRet (tTupE (aCons (eFz (fLc (iPq (pV 5)) (.tp [7, 8]) tYs (eP (pV 7)) [7, 8])) (aCons (eSeal 0 (eP (pV 6))) (aP []))))))))))))
theorem nd__law_paper : N__law_paper.Nodup := by decide
theorem sc__law_paper : FnScope N__law_paper ["_law_meaning_here", "_law_many_here", "_law_j"] (defScope s__law_paper) := C8.fnScope_by (by decide +kernel)
theorem d__law_paper {P : Program} {w : World} {K : PySem.W.Frag} {mg : Str → Option Value} {base : Heap} {f : Addr} {k : Nat} (m_zip : mg "zip" = none) (m_sorted : mg "sorted" = none) (m_enumerate : mg "enumerate" = none) {sp__law_rests : SpD} {k__law_rests : Nat} (ca__law_rests : Ca P w K mg base k__law_rests "_law_rests" 3 sp__law_rests) (hk__law_rests : k__law_rests ≤ k) {sp__law_all_fillings : SpD} {k__law_all_fillings : Nat} (ca__law_all_fillings : Ca P w K mg base k__law_all_fillings "_law_all_fillings" 1 sp__law_all_fillings) (hk__law_all_fillings : k__law_all_fillings ≤ k) :
    ∀ (cdv : Value) (A : Around) (outer : List Env) (s : Shared) (H : Hp) (E : XK) (G : Gd), RoomG k (A.deeper (PyProof.Rows.envOfC "_law_paper" (defScope s__law_paper) s.heap.objs.size f cdv)) → G.i0.length = 0 →
      VSs (cxOf C8.CX0 P w K mg base N__law_paper "_law_paper" (defScope s__law_paper) f cdv A outer s H E).nox G (defBody s__law_paper) (t__law_paper sp__law_rests sp__law_all_fillings) := by
  intro cdv A outer s H E G hr hG
  have hU : ∀ n : Nat, n ≤ 200 → (A.deeper (PyProof.Rows.envOfC "_law_paper" (defScope s__law_paper) s.heap.objs.size f cdv)).units + n < cLine := fun n hn => by have := hr.rm.un; omega
  exact (vss_cons (vs_set nd__law_paper rfl (by first | exact Or.inl rfl | exact Or.inr rfl) (VE.seal hG (ve_call [false, false, false] ca__law_rests hr hk__law_rests rfl (va_p (ve_v 0) (va_p (ve_v 1) (va_p (ve_v 2) va_p0))))))
  (vss_cons (vs_set nd__law_paper rfl (by first | exact Or.inl rfl | exact Or.inr rfl) ve_knew)
  (vss_cons (vs_for (bd := false) PassesOwn.never rfl (vi_zipQ rfl m_zip (va_cons (VE.seal hG (ve_call [false] ca__law_all_fillings hr hk__law_all_fillings rfl (va_p (ve_v 2) va_p0))) (va_p (ve_v 3) va_p0))) (vg_tup rfl (vgs_cons nd__law_paper rfl (by first | exact Or.inl rfl | exact Or.inr rfl) (vgs_cons nd__law_paper rfl (by first | exact Or.inl rfl | exact Or.inr rfl) vgs_nil))) (vss_one (vs_expr (ve_ksetd (hU 9 (by decide)) (ve_v 4) (ve_v 8) (ve_v 7) ⟨rfl, rfl, rfl, rfl⟩))))
  (vss_frz (i := 4) hG (vss_cons (vs_set nd__law_paper rfl (by first | exact Or.inl rfl | exact Or.inr rfl) (VF.fz (vf_callB (cr_sortedG (hU 63 (by decide))) rd_sortG rfl m_sorted bt_sorted (va_cons (VF.fz (vf_lc (own := [("_law_rest", 8), ("_law_head", 7)]) rfl nd__law_paper (vi_itemsN (ve_v 4)) (blkOk_by (show blkC N__law_paper (defScope s__law_paper) _ _ = true by decide +kernel)) (fun s H C cl fp => pg_tup rfl (pgs_cons (pg_name nd__law_paper rfl (by first | exact Or.inl rfl | exact Or.inr rfl) (by first | exact Or.inr rfl | exact Or.inl rfl)) (pgs_cons (pg_name nd__law_paper rfl (by first | exact Or.inl rfl | exact Or.inr rfl) (by first | exact Or.inr rfl | exact Or.inl rfl)) pgs_nil))) (fun s H C cl fp G hG' => vts_nil) (fun s H C cl fp G hG' => (VE.pTup (ve_tup (va_p (ve_v 7) (va_p (ve_v 8) va_p0))))) (by decide))) va_p0))))
  (vss_cons (vs_set nd__law_paper rfl (by first | exact Or.inl rfl | exact Or.inr rfl) (VF.nw (VF.pLst (vf_lst va_p0))))
  (vss_cons (vs_for (bd := false) PassesOwn.never rfl (vi_enum rfl m_enumerate (ve_v 5)) (vgg_tup rfl (vgg_cons (vg_name nd__law_paper rfl (by first | exact Or.inl rfl | exact Or.inr rfl)) (vgg_cons (vgg_tup rfl (vgg_cons (vg_name nd__law_paper rfl (by first | exact Or.inl rfl | exact Or.inr rfl)) (vgg_cons (vg_name nd__law_paper rfl (by first | exact Or.inl rfl | exact Or.inr rfl)) vgg_nil))) vgg_nil))) (vss_one (vs_for (bd := false) PassesOwn.never rfl (vi_pq (VF.pure (vf_slice (ve_v 5) (vo_some (VE.pure2 (ve_add (ve_v 9) ve_int))) vo_none))) (vg_tup rfl (vgs_cons nd__law_paper rfl (by first | exact Or.inl rfl | exact Or.inr rfl) (vgs_cons nd__law_paper rfl (by first | exact Or.inl rfl | exact Or.inr rfl) vgs_nil))) (vss_cons (vs_setLcF (own := [("_law_tail", 14), ("_law_bit", 15), ("_law_its", 16)]) rfl nd__law_paper rfl rfl rfl (vi_zipM3 (K := K) rfl m_zip (va_cons (VE.seal hG (ve_call [false] ca__law_all_fillings hr hk__law_all_fillings rfl (va_p (VE.pure2 (ve_sub (ve_v 1) (ve_v 2))) va_p0))) (va_p (ve_v 10) (va_p (ve_v 12) va_p0)))) (blkOk_by (show blkC N__law_paper (defScope s__law_paper) _ _ = true by decide +kernel)) (fun s H C cl fp => pg_tup rfl (pgs_cons (pg_name nd__law_paper rfl (by first | exact Or.inl rfl | exact Or.inr rfl) (by first | exact Or.inr rfl | exact Or.inl rfl)) (pgs_cons (pg_name nd__law_paper rfl (by first | exact Or.inl rfl | exact Or.inr rfl) (by first | exact Or.inr rfl | exact Or.inl rfl)) (pgs_cons (pg_name nd__law_paper rfl (by first | exact Or.inl rfl | exact Or.inr rfl) (by first | exact Or.inr rfl | exact Or.inl rfl)) pgs_nil)))) (fun s H C cl fp G hG' => vts_one (VT.pureB2 (vt_cmp (op_neX (hU 64 (by decide))) rd_ne (ve_v 15) (ve_v 16) (nomark _)))) (fun s H C cl fp G hG' => (ve_v 14)) (by decide))
  (vss_one (vs_expr (ve_mt F.plainAttrs_list F.slot_list_append rfl mt_append rd_app (ve_v 6) (va_p (VE.pure2 (ve_idx (ve_v 13) ve_int)) va_p0))))))))
  (vss_one (vs_ret (ve_tup (va_cons (VF.fz (vf_lc (own := [("_law_head", 7), ("_law_rest", 8)]) rfl nd__law_paper (vi_pq (ve_v 5)) (blkOk_by (show blkC N__law_paper (defScope s__law_paper) _ _ = true by decide +kernel)) (fun s H C cl fp => pg_tup rfl (pgs_cons (pg_name nd__law_paper rfl (by first | exact Or.inl rfl | exact Or.inr rfl) (by first | exact Or.inr rfl | exact Or.inl rfl)) (pgs_cons (pg_name nd__law_paper rfl (by first | exact Or.inl rfl | exact Or.inr rfl) (by first | exact Or.inr rfl | exact Or.inl rfl)) pgs_nil))) (fun s H C cl fp G hG' => vts_nil) (fun s H C cl fp G hG' => (ve_v 7)) (by decide))) (va_cons (VE.seal hG (ve_v 6)) va_p0))))))))))))
abbrev s_law : Stmt := top 29
def N_law : List Str := ["_law_script", "_law_k", "_law_tape_here", "_law_many_here", "_law_meaning_here", "_law_j", "_law_claim_here", "_law_order_here", "_law_due", "_law_again", "_law_found"]
def t_law (sp__law_tape : SpD) (sp__law_many : SpD) (sp__law_any_claim : SpD) (sp__law_order : SpD) (sp__law_meaning : SpD) (sp__law_take : SpD) (sp__law_paper : SpD) (sp_paper_for : SpD) (sp__law_same : SpD) : TS' :=
  (sSeq (sFor (iRg false (aP [(po2 addD (pC (.int 1)) (poN minD [(pC (.int 4)), (poN lenD [(pV 0)])]))])) (gNm 1)
  (sSeq (sSet 2 (eCall [false, false] sp__law_tape (aP [(pV 0), (pV 1)])))
  (sSeq (sSet 3 (eo2 modD (eCall [true] sp__law_many (aP [(pV 2)])) (eP (po2 ixD (pFz (plLst [(pC (.int 9)), (pC (.int 6))])) (poN intD [(po2 gtD (pV 1) (pC (.int 0)))])))))
  (sSeq (sPar 6 7 (aCons (eCall [true, false] sp__law_any_claim (aP [(pV 2), (pV 3)])) (aCons (eSeal 0 (eCall [true, false] sp__law_order (aP [(pV 2), (pV 3)]))) (aP []))))
  (sSeq (sSet 4 (eCall [false, false] sp__law_meaning (aP [(pV 6), (pV 7)])))
  (sFor (iSq (eFz (f1 soSetF (eFz (tLstF (aCons (eP (pC (.int 0))) (aCons (eP (poN minD [(pC (.int 1)), (pV 3)])) (aCons (eP (poN minD [(pC (.int 2)), (pV 3)])) (aCons (eoN minD (aCons (eCall [true, false] sp__law_take (aP [(pV 2), (pC (.int 5))])) (aP [(pV 3)]))) (aP [(pV 3)])))))))))) (gNm 5)
  (sSeq (sSet 8 (eCall [false, false, false] sp__law_paper (aP [(pV 4), (pV 3), (pV 5)])))
  (sFor (iRg false (aP [(pC (.int 2))])) (gNm 9)
  (sScrap 10 [10] okTP (eCallF sp_paper_for (aP [(pV 6), (pV 3), (pV 7), (pV 5)])) (sSeq (sIf (tNt (tTr (eCall [false, false] sp__law_same (aP [(pV 10), (pV 8)])))) (sRet (eP (pC (.bl false)))) sNil) sNil))))))))))
  (sRet (eP (pC (.bl true)))))
theorem nd_law : N_law.Nodup := by decide
theorem sc_law : FnScope N_law ["_law_script"] (defScope s_law) := C8.fnScope_by (by decide +kernel)
theorem d_law {P : Program} {w : World} {K : PySem.W.Frag} {mg : Str → Option Value} {base : Heap} {f : Addr} {k : Nat} (m_len : mg "len" = none) (m_min : mg "min" = none) (m_range : mg "range" = none) (m_int : mg "int" = none) (m_sorted : mg "sorted" = none) (m_set : mg "set" = none) {sp__law_tape : SpD} {k__law_tape : Nat} (ca__law_tape : Ca P w K mg base k__law_tape "_law_tape" 2 sp__law_tape) (hk__law_tape : k__law_tape ≤ k) {sp__law_many : SpD} {k__law_many : Nat} (ca__law_many : Ca P w K mg base k__law_many "_law_many" 1 sp__law_many) (hk__law_many : k__law_many ≤ k) {sp__law_any_claim : SpD} {k__law_any_claim : Nat} (ca__law_any_claim : Ca P w K mg base k__law_any_claim "_law_any_claim" 2 sp__law_any_claim) (hk__law_any_claim : k__law_any_claim ≤ k) {sp__law_order : SpD} {k__law_order : Nat} (ca__law_order : Ca P w K mg base k__law_order "_law_order" 2 sp__law_order) (hk__law_order : k__law_order ≤ k) {sp__law_meaning : SpD} {k__law_meaning : Nat} (ca__law_meaning : Ca P w K mg base k__law_meaning "_law_meaning" 2 sp__law_meaning) (hk__law_meaning : k__law_meaning ≤ k) {sp__law_take : SpD} {k__law_take : Nat} (ca__law_take : Ca P w K mg base k__law_take "_law_take" 2 sp__law_take) (hk__law_take : k__law_take ≤ k) {sp__law_paper : SpD} {k__law_paper : Nat} (ca__law_paper : Ca P w K mg base k__law_paper "_law_paper" 3 sp__law_paper) (hk__law_paper : k__law_paper ≤ k) {sp_paper_for : SpD} {k_paper_for : Nat} (ca_paper_for : Ca P w K mg base k_paper_for "paper_for" 4 sp_paper_for) (hk_paper_for : k_paper_for ≤ k) {sp__law_same : SpD} {k__law_same : Nat} (ca__law_same : Ca P w K mg base k__law_same "_law_same" 2 sp__law_same) (hk__law_same : k__law_same ≤ k) :
    ∀ (cdv : Value) (A : Around) (outer : List Env) (s : Shared) (H : Hp) (E : XK) (G : Gd), RoomG k (A.deeper (PyProof.Rows.envOfC "law" (defScope s_law) s.heap.objs.size f cdv)) → G.i0.length = 0 →
      VSs (cxOf C8.CX0 P w K mg base N_law "law" (defScope s_law) f cdv A outer s H E).nox G (defBody s_law) (t_law sp__law_tape sp__law_many sp__law_any_claim sp__law_order sp__law_meaning sp__law_take sp__law_paper sp_paper_for sp__law_same) := by
  intro cdv A outer s H E G hr hG
  have hU : ∀ n : Nat, n ≤ 200 → (A.deeper (PyProof.Rows.envOfC "law" (defScope s_law) s.heap.objs.size f cdv)).units + n < cLine := fun n hn => by have := hr.rm.un; omega
  exact (vss_cons (vs_for (bd := false) PassesOwn.never rfl (vi_range1 rfl m_range (va_p (VE.pure2 (ve_add ve_int (VE.pureN (ve_callB (call_minX rfl) rd_min rfl m_min bt_min (va_p ve_int (va_p (VE.pureN (ve_callB call_lenX rd_len rfl m_len bt_len (va_p (ve_v 0) va_p0))) va_p0)))))) va_p0)) (vg_name nd_law rfl (by first | exact Or.inl rfl | exact Or.inr rfl)) (vss_cons (vs_set nd_law rfl (by first | exact Or.inl rfl | exact Or.inr rfl) (ve_call [false, false] ca__law_tape hr hk__law_tape rfl (va_p (ve_v 0) (va_p (ve_v 1) va_p0))))
  (vss_cons (vs_set nd_law rfl (by first | exact Or.inl rfl | exact Or.inr rfl) (ve_mod (ve_call [true] ca__law_many hr hk__law_many rfl (va_p (ve_v 2) va_p0)) (VE.pure2 (ve_idx (VF.pure (VF.pLst (vf_lst (va_p ve_int (va_p ve_int va_p0))))) (VE.pureN (ve_callTy call_int1 rd_intC rfl m_int bt_int (va_p (VE.pure2 (ve_cmp op_gt rd_gt (ve_v 1) ve_int (nomark _))) va_p0)))))))
  (vss_cons (vs_par rfl nd_law rfl rfl (by decide) rfl rfl (va_cons (ve_call [true, false] ca__law_any_claim hr hk__law_any_claim rfl (va_p (ve_v 2) (va_p (ve_v 3) va_p0))) (va_cons (VE.seal hG (ve_call [true, false] ca__law_order hr hk__law_order rfl (va_p (ve_v 2) (va_p (ve_v 3) va_p0)))) va_p0)) rfl)
  (vss_cons (vs_set nd_law rfl (by first | exact Or.inl rfl | exact Or.inr rfl) (ve_call [false, false] ca__law_meaning hr hk__law_meaning rfl (va_p (ve_v 6) (va_p (ve_v 7) va_p0))))
  (vss_one (vs_for (bd := false) PassesOwn.never rfl (vi_sq (VF.fz (vf_sortedSet rfl rfl m_sorted rfl m_set (VF.fz (vf_lst (va_cons ve_int (va_cons (VE.pureN (ve_callB (call_minX rfl) rd_min rfl m_min bt_min (va_p ve_int (va_p (ve_v 3) va_p0)))) (va_cons (VE.pureN (ve_callB (call_minX rfl) rd_min rfl m_min bt_min (va_p ve_int (va_p (ve_v 3) va_p0)))) (va_cons (ve_callB (call_minX rfl) rd_min rfl m_min bt_min (va_cons (ve_call [true, false] ca__law_take hr hk__law_take rfl (va_p (ve_v 2) (va_p ve_int va_p0))) (va_p (ve_v 3) va_p0))) (va_p (ve_v 3) va_p0)))))))))) (vg_name nd_law rfl (by first | exact Or.inl rfl | exact Or.inr rfl)) (vss_cons (vs_set nd_law rfl (by first | exact Or.inl rfl | exact Or.inr rfl) (ve_call [false, false, false] ca__law_paper hr hk__law_paper rfl (va_p (ve_v 4) (va_p (ve_v 3) (va_p (ve_v 5) va_p0)))))
  (vss_one (vs_for (bd := false) PassesOwn.never rfl (vi_range1 rfl m_range (va_p ve_int va_p0)) (vg_name nd_law rfl (by first | exact Or.inl rfl | exact Or.inr rfl)) (vss_scrap hG nd_law rfl (by first | exact Or.inl rfl | exact Or.inr rfl) (fr_call ca_paper_for hr hk_paper_for rfl (va_p (ve_v 6) (va_p (ve_v 3) (va_p (ve_v 7) (va_p (ve_v 5) va_p0))))) (vk_ifret (vt_not (vt_val (ve_call [false, false] ca__law_same hr hk__law_same rfl (va_p (ve_v 10) (va_p (ve_v 8) va_p0))))) ve_bl (vk_done (tail_tp (js_app (jp_part 10) (any_tup anys_nil)) (js_rev (jp_part 10)) (js_app (jp_part 10) (any_tup anys_nil))))))))))))))))
  (vss_one (vs_ret ve_bl)))
end Zk36
set_option Elab.async false
set_option linter.all false
set_option maxRecDepth 100000
set_option maxHeartbeats 1000000
namespace VL
open PySem PySem.Spec L2
theorem ok_gd {α : Type} {c : Prop} [Decidable c] {x : α} {k : α → Prop} : ok (gd c x) k ↔ c ∧ k x := by
  unfold gd
  by_cases h : c
  · simp [h, ok]
  · simp [h, ok]
theorem ok_ite {α : Type} {c : Prop} [Decidable c] {a b : Option α} {k : α → Prop} : ok (if c then a else b) k ↔ if c then ok a k else ok b k := by
  by_cases h : c <;> simp [h]
section
variable {M : Mem} {Q : QD} {i j : Int} {n m : Nat} {x y z u v : D} {a b : List D} {s t : Str} {p q : Bool} {ns : List Int} {c : Cell}
theorem ix_ref : ixD M (.ref n) (.d (.int i)) = (cellL M[n]?).bind fun ds => (atI ds i).map .d := rfl
theorem ix_tup : ixD M (.d (.tup a)) (.d (.int i)) = (atI a i).map .d := rfl
theorem ix_lst : ixD M (.d (.lst a)) (.d (.int i)) = (atI a i).map .d := rfl
theorem ix_bor : ixD M (.bor a) (.d (.int i)) = (atI a i).map .d := rfl
theorem ix_scr : ixD M (.d (.scr ns)) (.d (.int i)) = (atI (ns.map D.int) i).map .d := rfl
theorem add_int : addD M (.d (.int i)) (.d (.int j)) = some (.d (.int (i + j))) := rfl
theorem add_str : addD M (.d (.str s)) (.d (.str t)) = gd (s.length + t.length ≤ sizeLine) (.d (.str (s ++ t))) := rfl
theorem add_tup : addD M (.d (.tup a)) (.d (.tup b)) = gd (a.length + b.length ≤ sizeLine) (.d (.tup (a ++ b))) := rfl
theorem sub_int : subD M (.d (.int i)) (.d (.int j)) = some (.d (.int (i - j))) := rfl
theorem mul_int : mulD M (.d (.int i)) (.d (.int j)) = gd (MulOk i j) (.d (.int (i * j))) := rfl
theorem fdiv_int : fdivD M (.d (.int i)) (.d (.int j)) = gd (0 < j ∧ j.natAbs.log2 < 9000) (.d (.int (i / j))) := rfl
theorem mod_int : modD M (.d (.int i)) (.d (.int j)) = gd (0 < j) (.d (.int (i % j))) := rfl
theorem pow_int : powD M (.d (.int i)) (.d (.int j)) = gd (CPow i j) (.d (.int (i ^ j.toNat))) := rfl
theorem neg_int : negD M (.d (.int i)) = some (.d (.int (-i))) := rfl
theorem lt_int : ltD M (.d (.int i)) (.d (.int j)) = some (.d (.bl (decide (i < j)))) := rfl
theorem le_int : leD M (.d (.int i)) (.d (.int j)) = some (.d (.bl (decide (i ≤ j)))) := rfl
theorem gt_int : gtD M (.d (.int i)) (.d (.int j)) = some (.d (.bl (decide (j < i)))) := rfl
theorem ge_int : geD M (.d (.int i)) (.d (.int j)) = some (.d (.bl (decide (j ≤ i)))) := rfl
theorem eq_int : eqD M (.d (.int i)) (.d (.int j)) = some (.d (.bl (decide (i = j)))) := rfl
theorem eq_str : eqD M (.d (.str s)) (.d (.str t)) = some (.d (.bl (decide (s = t)))) := rfl
theorem eq_bl : eqD M (.d (.bl p)) (.d (.bl q)) = some (.d (.bl (decide (p = q)))) := rfl
theorem ne_int : neD M (.d (.int i)) (.d (.int j)) = some (.d (.bl (!decide (i = j)))) := rfl
theorem ne_str : neD M (.d (.str s)) (.d (.str t)) = some (.d (.bl (!decide (s = t)))) := rfl
theorem ne_bl : neD M (.d (.bl p)) (.d (.bl q)) = some (.d (.bl (!decide (p = q)))) := rfl
theorem is_bl : isD M (.d (.bl p)) (.d (.bl q)) = some (.d (.bl (decide (p = q)))) := rfl
theorem isnt_bl : isntD M (.d (.bl p)) (.d (.bl q)) = some (.d (.bl (!decide (p = q)))) := rfl
theorem is_non {w : Sv} : isD M w (.d .non) = some (.d (.bl (nonB w))) := by cases w with | d x => cases x <;> rfl | _ => rfl
theorem isnt_non {w : Sv} : isntD M w (.d .non) = some (.d (.bl (!nonB w))) := by cases w with | d x => cases x <;> rfl | _ => rfl
theorem len_tup : lenD M [.d (.tup a)] = some (.d (.int a.length)) := rfl
theorem len_lst : lenD M [.d (.lst a)] = some (.d (.int a.length)) := rfl
theorem len_bor : lenD M [.bor a] = some (.d (.int a.length)) := rfl
theorem len_scr : lenD M [.d (.scr ns)] = some (.d (.int ns.length)) := by simp [lenD, lenOf, seqD, intS]
theorem len_ref (h : M[n]? = some (.lst a)) : lenD M [.ref n] = some (.d (.int a.length)) := by simp [lenD, lenOf, h, intS]
theorem int_bl : intD M [.d (.bl p)] = some (.d (.int (if p then 1 else 0))) := rfl
theorem int_int : intD M [.d (.int i)] = some (.d (.int i)) := rfl
theorem abs_int : absD M [.d (.int i)] = some (.d (.int (if i < 0 then -i else i))) := rfl
theorem min_int : minD M [.d (.int i), .d (.int j)] = some (.d (.int (if j < i then j else i))) := rfl
theorem max_int : maxD M [.d (.int i), .d (.int j)] = some (.d (.int (if j > i then j else i))) := rfl
theorem blD_bl : blD (.d (.bl p)) = some p := rfl
theorem cell_lst : cellL (some (.lst a)) = some a := rfl
theorem st_ref {R : Mem → Prop} : stD (.ref n) (.d (.int i)) x M R = ok (cellL M[n]?) fun ds => ok (ixN ds.length i) fun j => R (M.set n (.lst (ds.set j x))) := rfl
theorem at_nat {α : Type} {xs : List α} {k : Nat} : atI xs ((k : Nat) : Int) = xs[k]? := by
  unfold atI ixN
  rw [if_pos (by omega)]
  split
  · simp
  · rw [List.getElem?_eq_none (by omega)]; rfl
theorem at_0 {α : Type} {x : α} {xs : List α} : atI (x :: xs) 0 = some x := at_nat (k := 0)
theorem at_1 {α : Type} {x y : α} {xs : List α} : atI (x :: y :: xs) 1 = some y := at_nat (k := 1)
theorem at_2 {α : Type} {x y z : α} {xs : List α} : atI (x :: y :: z :: xs) 2 = some z := at_nat (k := 2)
theorem at_3 {α : Type} {x y z u : α} {xs : List α} : atI (x :: y :: z :: u :: xs) 3 = some u := at_nat (k := 3)
theorem at_4 {α : Type} {x y z u v : α} {xs : List α} : atI (x :: y :: z :: u :: v :: xs) 4 = some v := at_nat (k := 4)
theorem ixN_10 : ixN 1 0 = some 0 := by decide
theorem ixN_20 : ixN 2 0 = some 0 := by decide
theorem ixN_21 : ixN 2 1 = some 1 := by decide
theorem ixN_30 : ixN 3 0 = some 0 := by decide
theorem ixN_31 : ixN 3 1 = some 1 := by decide
theorem ixN_32 : ixN 3 2 = some 2 := by decide
theorem dataS_d : dataS (.d x) = some x := rfl
theorem datas_nil : datas [] = some [] := rfl
theorem datas_cons {xs : List Sv} : datas (.d x :: xs) = (datas xs).map fun ds => x :: ds := rfl
theorem truth_bl : truth M (.d (.bl p)) = some p := rfl
theorem endsF_rt {R : Rv → Mem → Prop} {k : Nat} {w : Sv} : (endsF k R).rt w M = (okRef k w ∧ ok (resD M w) fun r => R r (M.take k)) := rfl
theorem endsF_nx {R : Rv → Mem → Prop} {k : Nat} {δ : DS} : (endsF k R).nx δ M = R (.d .non) (M.take k) := rfl
theorem rv_d : resD M (.d x) = some (.d x) := rfl
theorem rv_ref : resD M (.ref n) = resC M[n]? := rfl
theorem rv_cl {ds : List D} : resC (some (.lst ds)) = some (.new ds) := rfl
theorem rv_ck {kvs : List (Key × D)} : resC (some (.dk kvs)) = some (.newK kvs) := rfl
theorem rvQ_d : rvQ Q (.d x) M = Q (.d x) M := rfl
theorem rvQ_new : rvQ Q (.new a) M = Q (.ref M.length) (M ++ [.lst a]) := rfl
theorem rvQ_newK {kvs : List (Key × D)} : rvQ Q (.newK kvs) M = Q (.ref M.length) (M ++ [.dk kvs]) := rfl
theorem okRef_d {k : Nat} : okRef k (.d x) = True := rfl
theorem okRef_ref {k : Nat} : okRef k (.ref n) = (k ≤ n) := rfl
theorem at_pick {P : D → Prop} {R : D → Prop} {ds : List D} {i : Int} (h0 : 0 ≤ i) (h1 : i < ds.length) (h : ∀ d ∈ ds, P d) (k : ∀ d, P d → R d) : ok (atI ds i) R := by
  obtain ⟨j, rfl⟩ := Int.eq_ofNat_of_zero_le h0
  have hj : j < ds.length := by omega
  rw [at_nat, List.getElem?_eq_getElem hj]
  exact k _ (h _ (List.getElem_mem hj))
theorem handS_n {ks : List Nat} : handS M [] [] ks = some ([], ks) := rfl
theorem handS_tr {ms : List Bool} {xs : List Sv} {ks : List Nat} : handS M (true :: ms) (.ref n :: xs) ks = if n ∈ ks then none else (cellA M[n]?).bind fun _ => (handS M ms xs (ks ++ [n])).map fun r => (.ref ks.length :: r.1, r.2) := rfl
theorem handS_fr {ms : List Bool} {xs : List Sv} {ks : List Nat} : handS M (false :: ms) (.ref n :: xs) ks = (cellL M[n]?).bind fun ds => (handS M ms xs ks).bind fun r => if n ∈ r.2 then none else some (.bor ds :: r.1, r.2) := rfl
theorem handS_fd {ms : List Bool} {xs : List Sv} {ks : List Nat} : handS M (false :: ms) (.d x :: xs) ks = (handS M ms xs ks).map fun r => (.d x :: r.1, r.2) := rfl
theorem handS_fb {ms : List Bool} {xs : List Sv} {ks : List Nat} : handS M (false :: ms) (.bor a :: xs) ks = (handS M ms xs ks).map fun r => (.bor a :: r.1, r.2) := rfl
theorem cellA_lst {a : List D} : cellA (some (.lst a)) = some () := rfl
theorem cellA_dk {a : List (Key × D)} : cellA (some (.dk a)) = some () := rfl
theorem cellsAt_0 : cellsAt M [] = [] := rfl
theorem cellsAt_c {ks : List Nat} : cellsAt M (n :: ks) = M[n]?.getD .gone :: cellsAt M ks := rfl
theorem tup_lst : tupC M (.d (.lst a)) = some (.d (.tup a)) := rfl
theorem tup_tup : tupC M (.d (.tup a)) = some (.d (.tup a)) := rfl
theorem tup_ref : tupC M (.ref n) = (cellL M[n]?).map fun ds => .d (.tup ds) := rfl
theorem rng_1 {k : List D → Prop} : rngD [.d (.int j)] k = (I62 j ∧ k (rgL 0 j.toNat)) := rfl
theorem rng_2 {k : List D → Prop} : rngD [.d (.int i), .d (.int j)] k = ((I62 i ∧ I62 j) ∧ k (rgL i (j - i).toNat)) := rfl
theorem wipeS_c {δ : DS} {vs : List Nat} : wipeS δ (n :: vs) = (wipeS δ vs).set n none := rfl
theorem wipeS_n {δ : DS} : wipeS δ [] = δ := rfl
theorem ite_two {p q : Prop} [Decidable p] [Decidable q] {A B : Prop} (a : A) (b : ¬p → ¬q → B) : if p then A else if q then A else B := by
  by_cases h : p
  · rw [if_pos h]; exact a
  · rw [if_neg h]
    by_cases h2 : q
    · rw [if_pos h2]; exact a
    · rw [if_neg h2]; exact b h h2
theorem seq_tup : seqD M (.d (.tup a)) = some a := rfl
theorem seq_lst : seqD M (.d (.lst a)) = some a := rfl
theorem seq_bor : seqD M (.bor a) = some a := rfl
theorem lst_lst : lstD M (.d (.lst a)) = some a := rfl
theorem lst_bor : lstD M (.bor a) = some a := rfl
theorem gdS_d : gdS (.d x) a = fun _ => True := rfl
theorem gdS_b : gdS (.bor b) a = fun _ => True := rfl
theorem gcS_c {k : Nat} {o : Option Sv} {δ : DS} : gcS k (o :: δ) = gcO k o :: gcS k δ := rfl
theorem gcS_n {k : Nat} : gcS k [] = [] := rfl
theorem gcO_d {k : Nat} : gcO k (some (.d x)) = some (.d x) := rfl
theorem gcO_n {k : Nat} : gcO k none = none := rfl
theorem gcO_z : gcO 0 (some (.ref n)) = none := rfl
theorem seal_d {m0 : Nat} : sealD m0 M (.d x) = some (.d x, M) := rfl
theorem gcO_r0 {k : Nat} : gcO (k + 1) (some (.ref 0)) = some (.ref 0) := rfl
theorem gcO_r1 {k : Nat} : gcO (k + 2) (some (.ref 1)) = some (.ref 1) := rfl
theorem mapp {R : QD} : mApp (.ref n) [.d x] M R = ok (cellL M[n]?) fun ds => ds.length < sizeLine ∧ R (.d .non) (M.set n (.lst (ds ++ [x]))) := rfl
theorem rcv_0 : rcv (.lst a :: M) (.ref 0) = some "list" := rfl
theorem rcv_1 : rcv (c :: .lst a :: M) (.ref 1) = some "list" := rfl
theorem rcv_l : rcv M (.d (.lst a)) = some "list" := rfl
theorem backS_0 {cs : Mem} : backS [] cs M = M := by cases cs <;> rfl
theorem backS_1 : backS [n] [c] M = M.set n c := rfl
end
/-- the tape: its third number at most b -/
structure Tp (b : Nat) (ds : List D) : Prop where
  ex : ∃ t0 t1 t2 : Int, ds = [.int t0, .int t1, .int t2] ∧ 0 ≤ t0 ∧ 0 ≤ t1 ∧ t1 < 2147483629 ∧ 0 ≤ t2 ∧ t2 ≤ b
theorem Tp.mono {b c : Nat} {ds : List D} (h : Tp b ds) (hb : b ≤ c) : Tp c ds := by
  obtain ⟨t0, t1, t2, rfl, h0, h1, h2, h3, h4⟩ := h.ex
  exact ⟨t0, t1, t2, rfl, h0, h1, h2, h3, by omega⟩
def sp_take : SpD := fun as M Q => ∃ (ds : List D) (n : Int) (b : Nat), as = [.ref 0, .d (.int n)] ∧ M = [.lst ds] ∧ Tp b ds ∧ b < 1099511627776 ∧ 1 ≤ n ∧ n ≤ 99999 ∧
  ∀ (v : Int) (ds' : List D), 0 ≤ v → v < n → Tp (b + 1) ds' → Q (.d (.int v)) [.lst ds']
def r_take (sp__law_take : SpD) : TS' :=
  (sSeq (sIf (cP (bB (po2 gtD (po2 ixD (pV 0) (pC (.int 0))) (pC (.int 0)))))
  (sSeq (sSet 4 (eP (po2 modD (po2 ixD (pV 0) (pC (.int 0))) (pV 1))))
  (sSeq (sSub (eP (po2 fdivD (po2 ixD (pV 0) (pC (.int 0))) (pV 1))) (eP (pV 0)) (eP (pC (.int 0))))
  (sRet (eP (pV 4)))))
  sNil)
  (sSeq (sSub (eP (po2 addD (po2 ixD (pV 0) (pC (.int 2))) (pC (.int 1)))) (eP (pV 0)) (eP (pC (.int 2))))
  (sSeq (sSet 2 (eP (po2 ixD (pFz (plLst [(pC (.int 2147483587)), (pC (.int 2147483579)), (pC (.int 2147483563)), (pC (.int 2147483549)), (pC (.int 2147483543)), (pC (.int 2147483497)), (pC (.int 2147483489))])) (po2 modD (po2 ixD (pV 0) (pC (.int 2))) (pC (.int 7))))))
  (sSeq (sSet 3 (eP (po2 modD (po2 mulD (po2 addD (po2 ixD (pV 0) (pC (.int 1))) (po2 mulD (pC (.int 39373)) (po2 ixD (pV 0) (pC (.int 2))))) (po2 addD (pC (.int 48271)) (po2 ixD (pV 0) (pC (.int 2))))) (pV 2))))
  (sSeq (sSub (eP (po2 modD (po2 addD (po2 mulD (pV 3) (po2 addD (po2 modD (pV 3) (pC (.int 40009))) (pC (.int 7)))) (po2 ixD (pV 0) (pC (.int 2)))) (pC (.int 2147483629)))) (eP (pV 0)) (eP (pC (.int 1))))
  (sSeq (sSet 4 (eP (po2 fdivD (po2 modD (po2 mulD (po2 ixD (pV 0) (pC (.int 1))) (po2 addD (po2 modD (po2 ixD (pV 0) (pC (.int 1))) (pC (.int 1009))) (pC (.int 3)))) (pC (.int 998244353))) (pC (.int 7)))))
  (sRet (eIf (cP (bB (po2 ltD (pV 1) (po2 powD (pC (.int 10)) (pC (.int 6)))))) (eP (po2 modD (pV 4) (pV 1))) (eo2 modD (eo2 addD (eP (po2 mulD (pV 4) (pC (.int 99991)))) (eCall [true, false] sp__law_take (aP [(pV 0), (pC (.int 99991))]))) (eP (pV 1)))))))))))
local macro_rules
  | `(tactic| simp only [VLS]) => `(tactic| simp only [sSeq, sIf, sSet, sSub, sRet, sRetN, sNil, sDrop, sAsg, sPar, sParT, sAug, cP, bB, bTr, bNt, bAn, bOr, po1, po2, poN, pArgs, poIf, poAn, poOr, poNt, poTup, plLst, plN, pl2, pl1, pFz, pV, pC, eP, eo1, eo2, eoN, aP, aNil, aCons, eAn, eOr, eNt, eIf, eFz, eNw, fP, fN, f2, f1, tTupE, tLstF, tTr, tTb, tAn, tOrr, tNt, tYs, eSeal, eMt, poMt, mPure, eCh, pCh, ok_bind, ok_map, ok_some, ok_none, ok_gd, ok_ite, List.getElem?_cons_zero, List.getElem?_cons_succ, List.set_cons_zero, List.set_cons_succ, Option.join_some, Option.bind_some, Option.map_some, Option.bind_none, Option.map_none, ix_ref, ix_tup, ix_lst, ix_bor, ix_scr, add_int, add_str, add_tup, sub_int, mul_int, fdiv_int, mod_int, pow_int, neg_int, lt_int, le_int, gt_int, ge_int, eq_int, eq_str, eq_bl, ne_int, ne_str, ne_bl, is_bl, isnt_bl, is_non, isnt_non, len_tup, len_lst, len_ref, len_bor, len_scr, int_bl, int_int, abs_int, min_int, max_int, blD_bl, cell_lst, cellA_lst, cellA_dk, st_ref, at_0, at_1, at_2, at_3, at_4, ixN_10, ixN_20, ixN_21, ixN_30, ixN_31, ixN_32, dataS_d, datas_nil, datas_cons, truth_bl, notD, intS, blS, nonB, List.length_cons, List.length_nil, Nat.reduceAdd, endsF_rt, endsF_nx, rvQ_d, rvQ_new, rvQ_newK, rv_d, rv_ref, rv_cl, rv_ck, okRef_d, okRef_ref, List.not_mem_nil, List.nil_append, true_and, and_true, List.take_succ_cons, List.take_zero, Nat.zero_add, decide_eq_true_eq, Bool.false_eq_true, if_false, if_true, callS, handS_n, handS_tr, handS_fr, handS_fd, handS_fb, cellsAt_c, cellsAt_0, Option.getD_some, backS_0, backS_1, eCall, tup_lst, tup_tup, tup_ref, fLc, iRg, rng_1, rng_2, wipeS_c, wipeS_n, iPq, iSq, seq_tup, seq_lst, seq_bor, lst_lst, lst_bor, gdS_d, gdS_b, sFor, gNm, gcS_c, gcS_n, gcO_d, gcO_n, mapp, rcv_0, rcv_1, rcv_l, gcO_r0, gcO_r1, gcO_z, seal_d, eq_self, List.take_nil, List.cons_append])
  | `(tactic| simp only [VLS, $xs,*]) => `(tactic| simp only [sSeq, sIf, sSet, sSub, sRet, sRetN, sNil, sDrop, sAsg, sPar, sParT, sAug, cP, bB, bTr, bNt, bAn, bOr, po1, po2, poN, pArgs, poIf, poAn, poOr, poNt, poTup, plLst, plN, pl2, pl1, pFz, pV, pC, eP, eo1, eo2, eoN, aP, aNil, aCons, eAn, eOr, eNt, eIf, eFz, eNw, fP, fN, f2, f1, tTupE, tLstF, tTr, tTb, tAn, tOrr, tNt, tYs, eSeal, eMt, poMt, mPure, eCh, pCh, ok_bind, ok_map, ok_some, ok_none, ok_gd, ok_ite, List.getElem?_cons_zero, List.getElem?_cons_succ, List.set_cons_zero, List.set_cons_succ, Option.join_some, Option.bind_some, Option.map_some, Option.bind_none, Option.map_none, ix_ref, ix_tup, ix_lst, ix_bor, ix_scr, add_int, add_str, add_tup, sub_int, mul_int, fdiv_int, mod_int, pow_int, neg_int, lt_int, le_int, gt_int, ge_int, eq_int, eq_str, eq_bl, ne_int, ne_str, ne_bl, is_bl, isnt_bl, is_non, isnt_non, len_tup, len_lst, len_ref, len_bor, len_scr, int_bl, int_int, abs_int, min_int, max_int, blD_bl, cell_lst, cellA_lst, cellA_dk, st_ref, at_0, at_1, at_2, at_3, at_4, ixN_10, ixN_20, ixN_21, ixN_30, ixN_31, ixN_32, dataS_d, datas_nil, datas_cons, truth_bl, notD, intS, blS, nonB, List.length_cons, List.length_nil, Nat.reduceAdd, endsF_rt, endsF_nx, rvQ_d, rvQ_new, rvQ_newK, rv_d, rv_ref, rv_cl, rv_ck, okRef_d, okRef_ref, List.not_mem_nil, List.nil_append, true_and, and_true, List.take_succ_cons, List.take_zero, Nat.zero_add, decide_eq_true_eq, Bool.false_eq_true, if_false, if_true, callS, handS_n, handS_tr, handS_fr, handS_fd, handS_fb, cellsAt_c, cellsAt_0, Option.getD_some, backS_0, backS_1, eCall, tup_lst, tup_tup, tup_ref, fLc, iRg, rng_1, rng_2, wipeS_c, wipeS_n, iPq, iSq, seq_tup, seq_lst, seq_bor, lst_lst, lst_bor, gdS_d, gdS_b, sFor, gNm, gcS_c, gcS_n, gcO_d, gcO_n, mapp, rcv_0, rcv_1, rcv_l, gcO_r0, gcO_r1, gcO_z, seal_d, eq_self, List.take_nil, List.cons_append, $xs,*])
theorem pure_take {sp : SpD} (as : List Sv) (M : Mem) (Q : Rv → Mem → Prop) (h : sp_take as M Q) : r_take sp (endsF M.length Q) (startD 5 as) M := by
  obtain ⟨ds, n, b, rfl, rfl, ht, hb, h1, h2, z⟩ := h
  obtain ⟨t0, t1, t2, rfl, a0, a1, a2, a3, a4⟩ := ht.ex
  show r_take sp (endsF 1 Q) [some (.ref 0), some (.d (.int n)), none, none, none] [.lst [.int t0, .int t1, .int t2]]
  simp only [VLS, r_take]
  split
  · rename_i h0
    refine ⟨by omega, ⟨by omega, ?_⟩, z _ _ (Int.emod_nonneg _ (by omega)) (Int.emod_lt_of_pos _ (by omega)) ⟨t0 / n, t1, t2, rfl, Int.ediv_nonneg a0 (by omega), a1, a2, a3, by omega⟩⟩
    have hn : n.natAbs < 2 ^ 17 := by omega
    have := (Nat.log2_lt (n := n.natAbs) (k := 17) (by omega)).mpr hn
    omega
  · refine ⟨by decide, at_pick (P := fun d => ∃ p : Int, d = .int p ∧ 2147483489 ≤ p ∧ p ≤ 2147483587) (Int.emod_nonneg _ (by decide)) (by have := Int.emod_lt_of_pos (t2 + 1) (show (0:Int) < 7 by decide); simpa using this) ?_ ?_⟩
    · intro d hd
      simp only [List.mem_cons, List.not_mem_nil, or_false] at hd
      rcases hd with rfl | rfl | rfl | rfl | rfl | rfl | rfl <;> exact ⟨_, rfl, by decide, by decide⟩
    · rintro d ⟨p, rfl, p1, p2⟩
      simp only [VLS]
      generalize hz : (t1 + 39373 * (t2 + 1)) * (48271 + (t2 + 1)) = zz
      have e1 := Int.emod_nonneg zz (show p ≠ 0 by omega)
      have e2 := Int.emod_lt_of_pos zz (show 0 < p by omega)
      generalize zz % p = q at e1 e2
      have e3 := Int.emod_nonneg q (show (40009:Int) ≠ 0 by decide)
      have e4 := Int.emod_lt_of_pos q (show (0:Int) < 40009 by decide)
      generalize q % 40009 = r at e3 e4
      generalize q * (r + 7) + (t2 + 1) = y
      have e5 := Int.emod_nonneg y (show (2147483629:Int) ≠ 0 by decide)
      have e6 := Int.emod_lt_of_pos y (show (0:Int) < 2147483629 by decide)
      generalize y % 2147483629 = x at e5 e6
      have e7 := Int.emod_nonneg x (show (1009:Int) ≠ 0 by decide)
      have e8 := Int.emod_lt_of_pos x (show (0:Int) < 1009 by decide)
      generalize x % 1009 = v at e7 e8
      have e9 : n < 10 ^ Int.toNat 6 := by have : (10:Int) ^ Int.toNat 6 = 1000000 := by decide
                                           omega
      rw [if_pos e9]
      refine ⟨.inl ⟨by decide, by decide⟩, .inr (.inl ⟨by omega, by omega⟩), by omega, by decide, .inl ⟨by omega, by omega⟩, by decide, by decide, .inl ⟨by omega, by omega⟩, by decide, ⟨by decide, by decide⟩, by unfold CPow; decide, by omega, ?_⟩
      exact z _ _ (Int.emod_nonneg _ (by omega)) (Int.emod_lt_of_pos _ (by omega)) ⟨t0, x, t2 + 1, rfl, a0, e5, e6, by omega, by omega⟩
set_option maxHeartbeats 1000000
theorem for_inv {k : Nat} {g : TG'} {b : TS'} {E : Ends'} {gd : Mem → Prop} (I : List D → DS → Mem → Prop) (fin : ∀ δ M, I [] δ M → gd M ∧ E.nx δ M)
    (step : ∀ d rest δ M (nx : DS → Mem → Prop), I (d :: rest) δ M → (∀ δ' M', I rest (gcS k δ') (M'.take k) → nx δ' M') → gd M ∧ g d δ M fun δ1 M1 => b ⟨nx, E.rt, E.nx, nx⟩ δ1 M1) : ∀ ds δ M, I ds δ M → forL k g b E gd ds δ M
  | [], δ, M, h => fin δ M h
  | d :: ds, δ, M, h => step d ds δ M _ h fun δ' M' h' => for_inv I fin step ds _ _ h'
theorem lc_inv {i : Nat} {te : TE'} {δw : DS} {gd : Mem → Prop} {Q : List D → Mem → Prop} (I : List D → List D → Mem → Prop) (fin : ∀ acc M, I [] acc M → gd M ∧ Q acc M)
    (step : ∀ d rest acc M (R : QD), I (d :: rest) acc M → (∀ y M', I rest (acc ++ [y]) M' → R (.d y) M') → gd M ∧ te (δw.set i (some (.d d))) M R) : ∀ ds acc M, I ds acc M → lcL (LcG.nm i).to tYs te δw gd Q ds acc M
  | [], acc, M, h => fin acc M h
  | d :: ds, acc, M, h => by
    have hs := step d ds acc M (fun s M4 => ok (dataS s) fun y => lcL (LcG.nm i).to tYs te δw gd Q ds (acc ++ [y]) M4) h fun y M' h' => lc_inv I fin step ds _ _ h'
    exact ⟨hs.1, hs.2⟩
/-- each item's value hangs on the item alone, nothing changes -/
theorem lc_map {i : Nat} {te : TE'} {δw : DS} {gd : Mem → Prop} {Q : List D → Mem → Prop} {f : D → D} {M : Mem} {ds : List D} (hg : gd M) (h : ∀ d ∈ ds, ∀ R : QD, R (.d (f d)) M → te (δw.set i (some (.d d))) M R) (q : Q (ds.map f) M) :
    lcL (LcG.nm i).to tYs te δw gd Q ds [] M := by
  have : ∀ (l acc : List D), (∀ d ∈ l, d ∈ ds) → Q (acc ++ l.map f) M → lcL (LcG.nm i).to tYs te δw gd Q l acc M := by
    intro l
    induction l with
    | nil => intro acc _ q; exact ⟨hg, by simpa using q⟩
    | cons d l ih =>
      intro acc hl q
      refine ⟨hg, h d (hl d List.mem_cons_self) _ ?_⟩
      exact ih (acc ++ [f d]) (fun x hx => hl x (List.mem_cons_of_mem _ hx)) (by simpa using q)
  exact this ds [] (fun _ h => h) (by simpa using q)
def spB (sp : Nat → SpD) (d : Nat) : SpD := fun as M Q => ∃ e, e < d ∧ sp e as M Q
theorem ca_bot {P : Program} {w : World} {K : PySem.W.Frag} {mg : Str → Option Value} {base : Heap} {x qual : Str} {params : Arguments} {body : List Stmt} {scope : Scope} {f : Addr} {fd : FuncData} {ps : List Str} {k : Nat} {sp : Nat → SpD}
    (F : FunD K x qual params body scope [] [] f fd) (hg : mg x = some (.ref f)) (b : Binds K fd ps []) (n : Nat) : Ca P w K mg base k x n (spB sp 0) :=
  ⟨f, fd, ps, ⟨fun vs H Q E ⟨_, _, _, _, _, _, _, _, _, ⟨e, he, _⟩, _⟩ => by omega, fun A outer s H args us vs Q E _ _ _ _ ⟨_, _, _, _, _, _, _, _, _, ⟨e, he, _⟩, _⟩ => by omega⟩, hg, F.kp, b⟩
def sp_cell : SpD := fun as M Q => ∃ (ns : List Int) (k : Int), as = [.d (.scr ns), .d (.int k)] ∧ M = [] ∧ 0 ≤ k ∧ ∀ c : Int, Q (.d (.int c)) []
def r_cell : TS' :=
  (sRet (eP (poIf (bB (po2 ltD (pV 1) (poN lenD [(pV 0)]))) (po2 ixD (pV 0) (pV 1)) (pC (.int 0)))))
theorem pure_cell (as : List Sv) (M : Mem) (Q : Rv → Mem → Prop) (h : sp_cell as M Q) : r_cell (endsF M.length Q) (startD 2 as) M := by
  obtain ⟨ns, k, rfl, rfl, hk, z⟩ := h
  obtain ⟨k, rfl⟩ := Int.eq_ofNat_of_zero_le hk
  show r_cell (endsF 0 Q) [some (.d (.scr ns)), some (.d (.int k))] []
  simp only [VLS, r_cell]
  by_cases h : (k : Int) < ns.length
  · rw [if_pos h]
    have h' : k < ns.length := by omega
    rw [at_nat, List.getElem?_map, List.getElem?_eq_getElem h']
    simp only [VLS]
    exact z _
  · rw [if_neg h]
    exact z _
def sp_tape : SpD := fun as M Q => ∃ (ns : List Int) (k : Int), as = [.d (.scr ns), .d (.int k)] ∧ M = [] ∧ 0 ≤ k ∧ k ≤ 1000 ∧ ∀ ds, Tp 0 ds → Q (.new ds) []
def r_tape (sp__law_cell_at : SpD) : TS' :=
  (sSeq (sSet 2 (eCall [false, false] sp__law_cell_at (aP [(pV 0), (pV 1)])))
  (sRet (eNw (fP (plLst [(po2 mulD (poN absD [(pV 2)]) (poN intD [(po2 geD (poN absD [(pV 2)]) (po2 powD (pC (.int 10)) (pC (.int 18))))])), (po2 modD (po2 mulD (po2 addD (po2 addD (po2 modD (pV 2) (pC (.int 2147483647))) (po2 mulD (po2 mulD (pC (.int 7753)) (pV 1)) (pV 1))) (pC (.int 41))) (pC (.int 48271))) (pC (.int 2147483629))), (pC (.int 0))])))))
theorem pure_tape (as : List Sv) (M : Mem) (Q : Rv → Mem → Prop) (h : sp_tape as M Q) : r_tape sp_cell (endsF M.length Q) (startD 3 as) M := by
  obtain ⟨ns, k, rfl, rfl, hk, hk2, z⟩ := h
  show r_tape sp_cell (endsF 0 Q) [some (.d (.scr ns)), some (.d (.int k)), none] []
  simp only [VLS, r_tape]
  refine ⟨ns, k, rfl, rfl, hk, fun c => ?_⟩
  simp only [VLS]
  have h0 : 0 ≤ (if c < 0 then -c else c) := by split <;> omega
  generalize (if c < 0 then -c else c) = ac at h0
  have e1 : (if 10 ^ Int.toNat 18 ≤ ac then (1 : Int) else 0) = 0 ∨ (if 10 ^ Int.toNat 18 ≤ ac then (1 : Int) else 0) = 1 := by split <;> simp
  generalize (if 10 ^ Int.toNat 18 ≤ ac then (1 : Int) else 0) = t at e1
  have h1 : 0 ≤ ac * t := by rcases e1 with rfl | rfl <;> omega
  have h2 : 0 ≤ 7753 * k * k ∧ 7753 * k * k ≤ 7753 * 1000 * 1000 := by
    refine ⟨Int.mul_nonneg (by omega) hk, Int.mul_le_mul (by omega) hk2 hk (by omega)⟩
  generalize 7753 * k * k = u at h2
  have e3 := Int.emod_nonneg ((c % 2147483647 + u + 41) * 48271) (show (2147483629 : Int) ≠ 0 by decide)
  have e4 := Int.emod_lt_of_pos ((c % 2147483647 + u + 41) * 48271) (show (0 : Int) < 2147483629 by decide)
  refine ⟨by unfold CPow; decide, .inr (.inl ⟨by omega, by omega⟩), by decide, .inl ⟨by decide, by decide⟩, .inr (.inl ⟨by omega, by omega⟩), .inr (.inl ⟨by decide, by decide⟩), by decide, by decide, z _ ⟨_, _, _, rfl, h1, e3, e4, by decide, by decide⟩⟩
inductive Cm where
  | yes | no | name (k : Nat) | neg (c : Cm) | same (a b : Cm) | all (cs : List Cm) | any (cs : List Cm) | least (m : Nat) (cs : List Cm)
mutual
def cD : Cm → D
  | .yes => .tup [.str "yes"]
  | .no => .tup [.str "no"]
  | .name k => .tup [.str "name", .int k]
  | .neg c => .tup [.str "not", cD c]
  | .same a b => .tup [.str "same", cD a, cD b]
  | .all cs => .tup [.str "and", .tup (cDs cs)]
  | .any cs => .tup [.str "or", .tup (cDs cs)]
  | .least m cs => .tup [.str "least", .int m, .tup (cDs cs)]
def cDs : List Cm → List D
  | [] => []
  | c :: cs => cD c :: cDs cs
end
mutual
/-- claims of names less than n, at most d deep -/
def Cm.ok (n : Nat) : Nat → Cm → Prop
  | _, .yes => True
  | _, .no => True
  | _, .name k => k < n
  | d + 1, .neg c => Cm.ok n d c
  | d + 1, .same a b => Cm.ok n d a ∧ Cm.ok n d b
  | d + 1, .all cs => Cm.oks n d cs
  | d + 1, .any cs => Cm.oks n d cs
  | d + 1, .least m cs => m ≤ cs.length + 1 ∧ Cm.oks n d cs
  | 0, _ => False
def Cm.oks (n : Nat) : Nat → List Cm → Prop
  | _, [] => True
  | d, c :: cs => Cm.ok n d c ∧ Cm.oks n d cs
end
mutual
def Cm.sz : Cm → Nat
  | .yes => 1
  | .no => 1
  | .name _ => 1
  | .neg c => c.sz + 1
  | .same a b => a.sz + b.sz + 1
  | .all cs => Cm.szs cs + 1
  | .any cs => Cm.szs cs + 1
  | .least _ cs => Cm.szs cs + 1
def Cm.szs : List Cm → Nat
  | [] => 0
  | c :: cs => c.sz + Cm.szs cs
end
theorem cDs_len : ∀ cs : List Cm, (cDs cs).length = cs.length
  | [] => rfl
  | c :: cs => by simp [cDs, cDs_len cs]
theorem cDs_app : ∀ (a b : List Cm), cDs (a ++ b) = cDs a ++ cDs b
  | [], b => rfl
  | c :: cs, b => by simp [cDs, cDs_app cs b]
theorem szs_app : ∀ (a b : List Cm), Cm.szs (a ++ b) = Cm.szs a + Cm.szs b
  | [], b => by simp [Cm.szs]
  | c :: cs, b => by simp [Cm.szs, szs_app cs b]; omega
theorem oks_app {n d : Nat} : ∀ (a b : List Cm), Cm.oks n d (a ++ b) ↔ Cm.oks n d a ∧ Cm.oks n d b
  | [], b => by simp [Cm.oks]
  | c :: cs, b => by simp [Cm.oks, oks_app cs b, and_assoc]
set_option maxHeartbeats 1000000
def cS : Nat → Nat
  | 0 => 1
  | d + 1 => 1 + 4 * cS d
def cC : Nat → Nat
  | 0 => 3
  | d + 1 => 3 + 4 * cC d
theorem cC_pos : ∀ d, 3 ≤ cC d
  | 0 => by decide
  | d + 1 => by simp only [cC]; omega
theorem cS_pos : ∀ d, 1 ≤ cS d
  | 0 => by decide
  | d + 1 => by simp only [cS]; omega
def sp_claim (d : Nat) : SpD := fun as M Q => ∃ (ds : List D) (n b : Nat), as = [.ref 0, .d (.int n), .d (.int d)] ∧ M = [.lst ds] ∧ Tp b ds ∧ b + cC d < 1099511627776 ∧ n ≤ 99990 ∧
  ∀ (c : Cm) (ds' : List D), c.ok n d → c.sz ≤ cS d → Tp (b + cC d) ds' → Q (.d (cD c)) [.lst ds']
def r_claim (sp__law_take : SpD) (sp__law_claim : SpD) : TS' :=
  (sSeq (sSet 3 (eCall [true, false] sp__law_take (aP [(pV 0), (pC (.int 12))])))
  (sSeq (sIf (cP (bOr (bB (po2 eqD (pV 2) (pC (.int 0)))) (bB (po2 ltD (pV 3) (pC (.int 3))))))
  (sSeq (sSet 5 (eCall [true, false] sp__law_take (aP [(pV 0), (poN maxD [(pC (.int 1)), (pV 1)])])))
  (sRet (eIf (cP (bAn (bB (po2 gtD (pV 1) (pC (.int 0)))) (bB (po2 neD (pV 3) (pC (.int 3)))))) (eP (poTup [(pC (.str "name")), (pV 5)])) (eo2 ixD (eP (pFz (plLst [(poTup [(pC (.str "yes"))]), (poTup [(pC (.str "no"))])]))) (eCall [true, false] sp__law_take (aP [(pV 0), (pC (.int 2))]))))))
  sNil)
  (sSeq (sIf (cP (bB (po2 eqD (pV 3) (pC (.int 3)))))
  (sRet (eo2 ixD (eP (pFz (plLst [(poTup [(pC (.str "yes"))]), (poTup [(pC (.str "no"))]), (poTup [(pC (.str "and")), (poTup [])]), (poTup [(pC (.str "or")), (poTup [])]), (poTup [(pC (.str "least")), (pC (.int 0)), (poTup [])])]))) (eCall [true, false] sp__law_take (aP [(pV 0), (pC (.int 5))]))))
  sNil)
  (sSeq (sIf (cP (bB (po2 eqD (pV 3) (pC (.int 4)))))
  (sRet (tTupE (aCons (eP (pC (.str "not"))) (aCons (eCall [true, false, false] sp__law_claim (aP [(pV 0), (pV 1), (po2 subD (pV 2) (pC (.int 1)))])) (aP [])))))
  sNil)
  (sSeq (sIf (cP (bB (po2 eqD (pV 3) (pC (.int 5)))))
  (sSeq (sSet 6 (eCall [true, false, false] sp__law_claim (aP [(pV 0), (pV 1), (po2 subD (pV 2) (pC (.int 1)))])))
  (sRet (tTupE (aCons (eP (pC (.str "same"))) (aCons (eP (pV 6)) (aCons (eCall [true, false, false] sp__law_claim (aP [(pV 0), (pV 1), (po2 subD (pV 2) (pC (.int 1)))])) (aP [])))))))
  sNil)
  (sSeq (sSet 4 (eo1 tupC (eFz (fLc (iRg true (aCons (eo2 addD (eP (pC (.int 1))) (eCall [true, false] sp__law_take (aP [(pV 0), (pC (.int 4))]))) (aP []))) (.nm 7) tYs (eCall [true, false, false] sp__law_claim (aP [(pV 0), (pV 1), (po2 subD (pV 2) (pC (.int 1)))])) [7]))))
  (sSeq (sIf (cP (bB (po2 gtD (pV 3) (pC (.int 9)))))
  (sRet (tTupE (aCons (eP (pC (.str "least"))) (aCons (eCall [true, false] sp__law_take (aP [(pV 0), (po2 addD (poN lenD [(pV 4)]) (pC (.int 2)))])) (aP [(pV 4)])))))
  sNil)
  (sRet (eP (poTup [(po2 ixD (pFz (plLst [(pC (.str "and")), (pC (.str "or"))])) (po2 modD (pV 3) (pC (.int 2)))), (pV 4)]))))))))))
theorem pure_claim {d : Nat} (as : List Sv) (M : Mem) (Q : Rv → Mem → Prop) (h : spB sp_claim (d + 1) as M Q) : r_claim sp_take (spB sp_claim d) (endsF M.length Q) (startD 8 as) M := by
  obtain ⟨e, he, ds, n, b, rfl, rfl, ht, hb, hn, z⟩ := h
  have hc := cC_pos e
  show r_claim sp_take (spB sp_claim d) (endsF 1 Q) [some (.ref 0), some (.d (.int n)), some (.d (.int e)), none, none, none, none, none] [.lst ds]
  simp only [VLS, r_claim]
  refine ⟨ds, 12, b, rfl, rfl, ht, by omega, by omega, by omega, fun w ds1 w0 w1 t1 => ?_⟩
  simp only [VLS]
  refine ite_two ?_ fun he0 hw3 => ?_
  · refine ⟨ds1, _, b + 1, rfl, rfl, t1, by omega, by split <;> omega, by split <;> omega, fun k ds2 k0 k1 t2 => ?_⟩
    simp only [VLS]
    have two : ∀ (R : Rv → Mem → Prop), (∀ u ds3, 0 ≤ u → u < 2 → Tp (b + 3) ds3 → R (.d (.int u)) [.lst ds3]) → sp_take [.ref 0, .d (.int 2)] [.lst ds2] R := fun R hR =>
      ⟨ds2, 2, b + 2, rfl, rfl, t2, by omega, by decide, by decide, hR⟩
    have leaf : ∀ u ds3, 0 ≤ u → u < 2 → Tp (b + 3) ds3 → ok (atI [D.tup [D.str "yes"], D.tup [D.str "no"]] u) fun d => Q (Rv.d d) [Cell.lst ds3] := fun u ds3 u0 u1 t3 => by
      have hu : u = 0 ∨ u = 1 := by omega
      have hp := cS_pos e
      rcases hu with rfl | rfl
      · simp only [VLS]; exact z .yes ds3 (by cases e <;> trivial) hp (t3.mono (by omega))
      · simp only [VLS]; exact z .no ds3 (by cases e <;> trivial) hp (t3.mono (by omega))
    split
    · rename_i hn0
      split
      · obtain ⟨k, rfl⟩ := Int.eq_ofNat_of_zero_le k0
        refine z (.name k) ds2 ?_ (cS_pos e) (t2.mono (by omega))
        have : k < n := by
          split at k1 <;> omega
        cases e <;> exact this
      · exact two _ fun u ds3 u0 u1 t3 => by simp only [VLS]; exact leaf u ds3 u0 u1 t3
    · exact two _ fun u ds3 u0 u1 t3 => by simp only [VLS]; exact leaf u ds3 u0 u1 t3
  · obtain ⟨e, rfl⟩ : ∃ e', e = e' + 1 := ⟨e - 1, by omega⟩
    have hp := cS_pos e
    have e1 : ((e + 1 : Nat) : Int) - 1 = (e : Int) := by omega
    simp only [cC, cS] at hb hc z ⊢
    rw [e1]
    have rec_ : ∀ (c0 : Nat) (ds2 : List D) (R : Rv → Mem → Prop), Tp c0 ds2 → c0 + cC e < 1099511627776 → (∀ (c : Cm) ds3, c.ok n e → c.sz ≤ cS e → Tp (c0 + cC e) ds3 → R (.d (cD c)) [.lst ds3]) →
        spB sp_claim d [.ref 0, .d (.int n), .d (.int e)] [.lst ds2] R := fun c0 ds2 R t h1 h2 => ⟨e, by omega, ds2, n, c0, rfl, rfl, t, h1, hn, h2⟩
    have h3 := cC_pos e
    split
    · refine ⟨ds1, 5, b + 1, rfl, rfl, t1, by omega, by decide, by decide, fun u ds3 u0 u1 t3 => ?_⟩
      simp only [VLS]
      have hu : u = 0 ∨ u = 1 ∨ u = 2 ∨ u = 3 ∨ u = 4 := by omega
      have t4 := t3.mono (c := b + (3 + 4 * cC e)) (by omega)
      rcases hu with rfl | rfl | rfl | rfl | rfl <;> simp only [VLS]
      · exact z .yes ds3 trivial (by simp only [Cm.sz]; omega) t4
      · exact z .no ds3 trivial (by simp only [Cm.sz]; omega) t4
      · exact z (.all []) ds3 trivial (by simp only [Cm.sz, Cm.szs]; omega) t4
      · exact z (.any []) ds3 trivial (by simp only [Cm.sz, Cm.szs]; omega) t4
      · exact z (.least 0 []) ds3 ⟨by decide, trivial⟩ (by simp only [Cm.sz, Cm.szs]; omega) t4
    split
    · refine rec_ (b + 1) ds1 _ t1 (by omega) fun c ds3 h1 h2 t3 => ?_
      simp only [VLS]
      exact z (.neg c) ds3 h1 (by simp only [Cm.sz]; omega) (t3.mono (by omega))
    split
    · refine rec_ (b + 1) ds1 _ t1 (by omega) fun c ds3 h1 h2 t3 => ?_
      simp only [VLS]
      refine rec_ _ ds3 _ t3 (by omega) fun c' ds4 h1' h2' t4 => ?_
      simp only [VLS]
      exact z (.same c c') ds4 ⟨h1, h1'⟩ (by simp only [Cm.sz]; omega) (t4.mono (by omega))
    · refine ⟨ds1, 4, b + 1, rfl, rfl, t1, by omega, by decide, by decide, fun u ds2 u0 u1 t2 => ?_⟩
      obtain ⟨u, rfl⟩ := Int.eq_ofNat_of_zero_le u0
      have e2 : ((1 : Int) + (u : Int)).toNat = u + 1 := by omega
      simp only [VLS, e2, rgL_len]
      refine ⟨⟨by omega, by omega⟩, fun _ => by rw [sizeLine_eq]; omega, ?_⟩
      refine lc_inv (fun rest acc M => ∃ cs ds3, acc = cDs cs ∧ M = [.lst ds3] ∧ Cm.oks n e cs ∧ Cm.szs cs ≤ cs.length * cS e ∧ cs.length + rest.length = u + 1 ∧ Tp (b + 2 + cs.length * cC e) ds3) ?_ ?_ _ _ _ ⟨[], ds2, rfl, rfl, trivial, by simp [Cm.szs], by simp [rgL_len], by simpa using t2⟩
      · rintro acc M ⟨cs, ds3, rfl, rfl, o3, s3, l3, t3⟩
        simp only [List.length_nil, Nat.add_zero] at l3
        have m1 : cs.length * cS e ≤ 4 * cS e := Nat.mul_le_mul_right _ (by omega)
        have m2 : cs.length * cC e ≤ 4 * cC e := Nat.mul_le_mul_right _ (by omega)
        refine ⟨trivial, ?_⟩
        simp only [VLS]
        split
        · refine ⟨ds3, _, b + 2 + cs.length * cC e, rfl, rfl, t3, by omega, by rw [cDs_len]; omega, by rw [cDs_len]; omega, fun v ds4 v0 v1 t4 => ?_⟩
          obtain ⟨v, rfl⟩ := Int.eq_ofNat_of_zero_le v0
          simp only [VLS]
          rw [cDs_len] at v1
          exact z (.least v cs) ds4 ⟨by omega, o3⟩ (by simp only [Cm.sz]; omega) (t4.mono (by omega))
        · refine ⟨by decide, ?_⟩
          have hw : w % 2 = 0 ∨ w % 2 = 1 := by omega
          rcases hw with hw | hw <;> rw [hw] <;> simp only [VLS]
          · exact z (.all cs) ds3 o3 (by simp only [Cm.sz]; omega) (t3.mono (by omega))
          · exact z (.any cs) ds3 o3 (by simp only [Cm.sz]; omega) (t3.mono (by omega))
      · rintro x rest acc M R ⟨cs, ds3, rfl, rfl, o3, s3, l3, t3⟩ k
        simp only [List.length_cons] at l3
        refine ⟨trivial, ?_⟩
        have m2 : cs.length * cC e ≤ 3 * cC e := Nat.mul_le_mul_right _ (by omega)
        simp only [VLS, e1]
        refine rec_ _ ds3 _ t3 (by omega) fun c ds4 h1 h2 t4 => ?_
        simp only [VLS]
        refine k (cD c) _ ⟨cs ++ [c], ds4, by rw [cDs_app]; rfl, rfl, (oks_app _ _).mpr ⟨o3, h1, trivial⟩, ?_, by simp; omega, ?_⟩
        · rw [szs_app, List.length_append, List.length_singleton, Nat.add_mul]; simp only [Cm.szs]; omega
        · rw [List.length_append, List.length_singleton, Nat.add_mul]; exact t4.mono (by omega)
set_option maxHeartbeats 1000000
mutual
theorem Cm.ok_up {n : Nat} : ∀ (d : Nat) (c : Cm), c.ok n d → c.ok n (d + 1)
  | d, .yes, _ => by cases d <;> trivial
  | d, .no, _ => by cases d <;> trivial
  | d, .name k, h => by cases d <;> exact h
  | 0, .neg c, h => h.elim
  | 0, .same _ _, h => h.elim
  | 0, .all _, h => h.elim
  | 0, .any _, h => h.elim
  | 0, .least _ _, h => h.elim
  | d + 1, .neg c, h => Cm.ok_up d c h
  | d + 1, .same a b, h => ⟨Cm.ok_up d a h.1, Cm.ok_up d b h.2⟩
  | d + 1, .all cs, h => Cm.oks_up d cs h
  | d + 1, .any cs, h => Cm.oks_up d cs h
  | d + 1, .least m cs, h => ⟨h.1, Cm.oks_up d cs h.2⟩
theorem Cm.oks_up {n : Nat} : ∀ (d : Nat) (cs : List Cm), Cm.oks n d cs → Cm.oks n (d + 1) cs
  | _, [], _ => trivial
  | d, c :: cs, h => ⟨Cm.ok_up d c h.1, Cm.oks_up d cs h.2⟩
end
def sp_any : SpD := fun as M Q => ∃ (ds : List D) (n b : Nat), as = [.ref 0, .d (.int n)] ∧ M = [.lst ds] ∧ Tp b ds ∧ b + 300 < 1099511627776 ∧ n ≤ 99990 ∧
  ∀ (c : Cm) (ds' : List D), c.ok n 3 → c.sz ≤ 100 → Tp (b + 300) ds' → Q (.d (cD c)) [.lst ds']
def r_any (sp__law_take : SpD) (sp__law_claim : SpD) : TS' :=
  (sSeq (sIf (tOrr (cP (bB (po2 ltD (pV 1) (pC (.int 2))))) (tTb (eo2 gtD (eCall [true, false] sp__law_take (aP [(pV 0), (pC (.int 4))])) (eP (pC (.int 0))))))
  (sRet (eCall [true, false, false] sp__law_claim (aP [(pV 0), (pV 1), (pC (.int 3))])))
  sNil)
  (sSeq (sSet 2 (eNw (fP (plLst []))))
  (sSeq (sFor (iRg false (aCons (eo2 addD (eP (pC (.int 2))) (eCall [true, false] sp__law_take (aP [(pV 0), (pC (.int 4))]))) (aP []))) (gNm 3)
  (sSeq (sSet 4 (eFz (fLc (iRg true (aCons (eo2 addD (eP (pC (.int 2))) (eCall [true, false] sp__law_take (aP [(pV 0), (pC (.int 2))]))) (aP []))) (.nm 6) tYs (tTupE (aCons (eP (pC (.str "name"))) (aCons (eCall [true, false] sp__law_take (aP [(pV 0), (pV 1)])) (aP [])))) [6])))
  (sSeq (sSet 4 (eo1 tupC (eFz (fLc (iPq (pV 4)) (.nm 7) tYs (eIf (tTb (eo2 eqD (eCall [true, false] sp__law_take (aP [(pV 0), (pC (.int 3))])) (eP (pC (.int 0))))) (eP (poTup [(pC (.str "not")), (pV 7)])) (eP (pV 7))) [7]))))
  (sSeq (sSet 5 (eP (pFz (plLst [(poTup [(pC (.str "or")), (pV 4)]), (poTup [(pC (.str "and")), (pV 4)]), (poTup [(pC (.str "same")), (po2 ixD (pV 4) (pC (.int 0))), (po2 ixD (pV 4) (pC (.int 1)))]), (poTup [(pC (.str "least")), (pC (.int 2)), (pV 4)])]))))
  (sDrop (eMt "list" mApp (eP (pV 2)) (aCons (eo2 ixD (eP (pV 5)) (eCall [true, false] sp__law_take (aP [(pV 0), (pC (.int 4))]))) (aP []))))))))
  (sRet (tTupE (aCons (eo2 ixD (eP (pFz (plLst [(pC (.str "and")), (pC (.str "and")), (pC (.str "or"))]))) (eCall [true, false] sp__law_take (aP [(pV 0), (pC (.int 3))]))) (aP [(po1 tupC (pV 2))])))))))
theorem take_ok {R : Rv → Mem → Prop} {n : Int} {b : Nat} {ds : List D} (t : Tp b ds) (hb : b < 1099511627776) (h1 : 1 ≤ n) (h2 : n ≤ 99999) (h : ∀ (v : Int) (ds' : List D), 0 ≤ v → v < n → Tp (b + 1) ds' → R (.d (.int v)) [.lst ds']) : sp_take [.ref 0, .d (.int n)] [.lst ds] R :=
  ⟨ds, n, b, rfl, rfl, t, hb, h1, h2, h⟩
theorem pure_any (as : List Sv) (M : Mem) (Q : Rv → Mem → Prop) (h : sp_any as M Q) : r_any sp_take (sp_claim 3) (endsF M.length Q) (startD 8 as) M := by
  obtain ⟨ds, n, b, rfl, rfl, ht, hb, hn, z⟩ := h
  show r_any sp_take (sp_claim 3) (endsF 1 Q) [some (.ref 0), some (.d (.int n)), none, none, none, none, none, none] [.lst ds]
  have big : ∀ (c0 : Nat) (ds2 : List D) (R : Rv → Mem → Prop), Tp c0 ds2 → c0 ≤ b + 1 → (∀ (c : Cm) ds3, c.ok n 3 → c.sz ≤ 100 → Tp (b + 300) ds3 → R (.d (cD c)) [.lst ds3]) → sp_claim 3 [.ref 0, .d (.int n), .d (.int 3)] [.lst ds2] R := fun c0 ds2 R t hc hR =>
    ⟨ds2, n, c0, rfl, rfl, t, by simp only [cC]; omega, hn, fun c ds3 h1 h2 t3 => hR c ds3 h1 (by simp only [cS] at h2; omega) (t3.mono (by simp only [cC]; omega))⟩
  simp only [VLS, r_any]
  split
  · refine big b ds _ ht (by omega) fun c ds3 h1 h2 t3 => ?_
    simp only [VLS]
    exact z c ds3 h1 h2 t3
  rename_i hn2
  refine take_ok ht (by omega) (by decide) (by decide) fun v ds1 v0 v1 t1 => ?_
  simp only [VLS]
  split
  · refine big (b + 1) ds1 _ t1 (by omega) fun c ds3 h1 h2 t3 => ?_
    simp only [VLS]
    exact z c ds3 h1 h2 t3
  refine take_ok t1 (by omega) (by decide) (by decide) fun v2 ds2 v20 v21 t2 => ?_
  simp only [VLS]
  refine ⟨⟨by omega, by omega⟩, fun h => h.elim, ?_⟩
  have hm : (2 + v2).toNat ≤ 5 := by omega
  generalize (2 + v2).toNat = m at hm
  refine for_inv (fun rest δ M => ∃ cs ds3 o3 o4 o5, δ = [some (.ref 0), some (.d (.int n)), some (.ref 1), o3, o4, o5, none, none] ∧ M = [.lst ds3, .lst (cDs cs)] ∧ Cm.oks n 2 cs ∧ Cm.szs cs ≤ 7 * cs.length ∧ cs.length + rest.length = m ∧ Tp (b + 2 + 8 * cs.length) ds3) ?_ ?_ _ _ _
    ⟨[], ds2, none, none, none, rfl, rfl, trivial, by simp [Cm.szs], by simp [rgL_len], by simpa using t2⟩
  · rintro δ M ⟨cs, ds3, o3, o4, o5, rfl, rfl, q1, q2, q3, t3⟩
    simp only [List.length_nil, Nat.add_zero] at q3
    refine ⟨trivial, ?_⟩
    simp only [VLS]
    refine take_ok t3 (by omega) (by decide) (by decide) fun v ds4 v0 v1 t4 => ?_
    simp only [VLS]
    have t5 := t4.mono (c := b + 300) (by omega)
    have hv : v = 0 ∨ v = 1 ∨ v = 2 := by omega
    rcases hv with rfl | rfl | rfl <;> simp only [VLS]
    · exact z (.all cs) ds4 q1 (by simp only [Cm.sz]; omega) t5
    · exact z (.all cs) ds4 q1 (by simp only [Cm.sz]; omega) t5
    · exact z (.any cs) ds4 q1 (by simp only [Cm.sz]; omega) t5
  · rintro x rest δ M nx ⟨cs, ds3, o3, o4, o5, rfl, rfl, q1, q2, q3, t3⟩ k
    simp only [List.length_cons] at q3
    refine ⟨trivial, ?_⟩
    simp only [VLS]
    refine take_ok t3 (by omega) (by decide) (by decide) fun u ds4 u0 u1 t4 => ?_
    obtain ⟨u, rfl⟩ := Int.eq_ofNat_of_zero_le u0
    have e2 : ((2 : Int) + (u : Int)).toNat = u + 2 := by omega
    simp only [VLS, e2, rgL_len]
    refine ⟨⟨by omega, by omega⟩, fun _ => by rw [sizeLine_eq]; omega, ?_⟩
    refine lc_inv (fun rest acc M => ∃ cs' ds5, acc = cDs cs' ∧ M = [.lst ds5, .lst (cDs cs)] ∧ Cm.oks n 0 cs' ∧ Cm.szs cs' = cs'.length ∧ cs'.length + rest.length = u + 2 ∧ Tp (b + 2 + 8 * cs.length + 1 + cs'.length) ds5) ?_ ?_ _ _ _
      ⟨[], ds4, rfl, rfl, trivial, rfl, by simp [rgL_len], by simpa using t4⟩
    · rintro acc M ⟨cs', ds5, rfl, rfl, w1, w2, w3, t5⟩
      simp only [List.length_nil, Nat.add_zero] at w3
      refine ⟨trivial, ?_⟩
      refine lc_inv (fun rest acc M => ∃ r cs2 ds6, rest = cDs r ∧ Cm.oks n 0 r ∧ Cm.szs r = r.length ∧ acc = cDs cs2 ∧ M = [.lst ds6, .lst (cDs cs)] ∧ Cm.oks n 1 cs2 ∧ Cm.szs cs2 ≤ 2 * cs2.length ∧ cs2.length + r.length = u + 2 ∧ Tp (b + 2 + 8 * cs.length + 1 + (u + 2) + cs2.length) ds6) ?_ ?_ _ _ _
        ⟨cs', [], ds5, rfl, w1, w2, rfl, rfl, trivial, by simp [Cm.szs], by simpa using w3, t5.mono (by omega)⟩
      · rintro acc M ⟨r, cs2, ds6, hr, y1, y2, rfl, rfl, y3, y4, y5, t6⟩
        obtain rfl : r = [] := by
          cases r with
          | nil => rfl
          | cons c r => cases hr
        simp only [List.length_nil, Nat.add_zero] at y5
        refine ⟨trivial, ?_⟩
        obtain ⟨c1, c2, r, rfl⟩ : ∃ c1 c2 r, cs2 = c1 :: c2 :: r := by
          match cs2, y5 with
          | c1 :: c2 :: r, _ => exact ⟨c1, c2, r, rfl⟩
        simp only [VLS, cDs]
        refine take_ok t6 (by omega) (by decide) (by decide) fun v ds7 v0 v1 t7 => ?_
        simp only [VLS]
        have hv : v = 0 ∨ v = 1 ∨ v = 2 ∨ v = 3 := by omega
        have fin : ∀ c : Cm, c.ok n 2 → c.sz ≤ 7 → nx [some (.ref 0), some (.d (.int n)), some (.ref 1), some (.d x), some (.d (.tup (cD c1 :: cD c2 :: cDs r))), some (.d (.lst [.tup [.str "or", .tup (cD c1 :: cD c2 :: cDs r)], .tup [.str "and", .tup (cD c1 :: cD c2 :: cDs r)], .tup [.str "same", cD c1, cD c2], .tup [.str "least", .int 2, .tup (cD c1 :: cD c2 :: cDs r)]])), none, none] [.lst ds7, .lst (cDs cs ++ [cD c])] := fun c h1 h2 => by
          refine k _ _ ⟨cs ++ [c], ds7, _, _, _, rfl, by rw [cDs_app]; rfl, (oks_app _ _).mpr ⟨q1, h1, trivial⟩, ?_, by simp; omega, t7.mono (by simp at y5 ⊢; omega)⟩
          rw [szs_app, List.length_append]; simp only [Cm.szs, List.length_cons, List.length_nil]; omega
        have hsz : (cDs cs).length < sizeLine := by rw [cDs_len, sizeLine_eq]; omega
        simp only [List.length_cons] at y5 y4
        rcases hv with rfl | rfl | rfl | rfl <;> simp only [VLS]
        · exact ⟨hsz, fin (.any (c1 :: c2 :: r)) (y3) (by simp only [Cm.sz]; omega)⟩
        · exact ⟨hsz, fin (.all (c1 :: c2 :: r)) (y3) (by simp only [Cm.sz]; omega)⟩
        · exact ⟨hsz, fin (.same c1 c2) ⟨y3.1, y3.2.1⟩ (by simp only [Cm.szs] at y4; simp only [Cm.sz]; omega)⟩
        · exact ⟨hsz, fin (.least 2 (c1 :: c2 :: r)) ⟨by simp, y3⟩ (by simp only [Cm.sz]; omega)⟩
      · rintro x2 rest2 acc M R ⟨r, cs2, ds6, hr, y1, y2, rfl, rfl, y3, y4, y5, t6⟩ k2
        cases r with
        | nil => cases hr
        | cons c r =>
          simp only [cDs, List.cons.injEq] at hr
          obtain ⟨rfl, rfl⟩ := hr
          simp only [List.length_cons] at y5
          have hc1 : c.sz = 1 ∧ Cm.szs r = r.length := by
            have : ∀ l : List Cm, Cm.oks n 0 l → Cm.szs l = l.length := by
              intro l
              induction l with
              | nil => intro _; rfl
              | cons c l ih =>
                intro h
                have := ih h.2
                have h1 := h.1
                cases c <;> first | exact h1.elim | (simp only [Cm.szs, Cm.sz, List.length_cons]; omega)
            have := this r y1.2
            simp only [Cm.szs, List.length_cons] at y2
            omega
          refine ⟨trivial, ?_⟩
          simp only [VLS]
          refine take_ok t6 (by omega) (by decide) (by decide) fun v ds7 v0 v1 t7 => ?_
          simp only [VLS]
          have done : ∀ c' : Cm, c'.ok n 1 → c'.sz ≤ 2 → R (.d (cD c')) [.lst ds7, .lst (cDs cs)] := fun c' h1 h2 => by
            refine k2 _ _ ⟨r, cs2 ++ [c'], ds7, rfl, y1.2, hc1.2, by rw [cDs_app]; rfl, rfl, (oks_app _ _).mpr ⟨y3, h1, trivial⟩, ?_, by simp; omega, t7.mono (by simp; omega)⟩
            rw [szs_app, List.length_append]; simp only [Cm.szs, List.length_cons, List.length_nil]; omega
          split
          · exact done (.neg c) y1.1 (by simp only [Cm.sz]; omega)
          · exact done c (Cm.ok_up 0 c y1.1) (by omega)
    · rintro x2 rest2 acc M R ⟨cs', ds5, rfl, rfl, w1, w2, w3, t5⟩ k2
      simp only [List.length_cons] at w3
      refine ⟨trivial, ?_⟩
      simp only [VLS]
      refine take_ok t5 (by omega) (by omega) (by omega) fun v ds6 v0 v1 t6 => ?_
      obtain ⟨v, rfl⟩ := Int.eq_ofNat_of_zero_le v0
      simp only [VLS]
      refine k2 (cD (.name v)) _ ⟨cs' ++ [.name v], ds6, by rw [cDs_app]; rfl, rfl, (oks_app _ _).mpr ⟨w1, (show Cm.ok n 0 (.name v) from (show v < n by omega)), trivial⟩, ?_, by simp; omega, t6.mono (by simp; omega)⟩
      rw [szs_app, List.length_append]; simp only [Cm.szs, Cm.sz, List.length_cons, List.length_nil]; omega
set_option maxHeartbeats 1000000
theorem toNat_inj {a b : Char} (h : a.toNat = b.toNat) : a = b := Char.ext (UInt32.toNat_inj.mp h)
theorem ofS_inj {a b : String} : (Str.ofString a = Str.ofString b) = (a = b) := by
  apply propext
  constructor
  · intro h
    rw [Str.ofString_eq_toList, Str.ofString_eq_toList] at h
    have h1 : a.toList.map Char.toNat = b.toList.map Char.toNat := by
      have := congrArg (fun z : Str => z.cps.toList) h
      simpa using this
    have h2 : ∀ (l m : List Char), l.map Char.toNat = m.map Char.toNat → l = m := by
      intro l
      induction l with
      | nil => intro m hm; cases m with | nil => rfl | cons _ _ => cases hm
      | cons x l ih =>
        intro m hm
        cases m with
        | nil => cases hm
        | cons y m =>
          simp only [List.map_cons, List.cons.injEq] at hm
          rw [toNat_inj hm.1, ih m hm.2]
    exact String.toList_inj.mp (h2 _ _ h1)
  · rintro rfl; rfl
theorem in_tup {M : Mem} {s : Str} {ds : List D} : inD M (.d (.str s)) (.d (.tup ds)) = (gd ((atomD (.str s) = true ∧ ds.all atomD = true) ∨ (okE (.str s) = true ∧ isTupD (.d (.tup ds)) = false ∧ okE (.lst ds) = true)) (ds.any fun z => eqvD z (.str s))).map blS := rfl
theorem in_str2 {M : Mem} {s a b : Str} : inD M (.d (.str s)) (.d (.tup [.str a, .str b])) = some (.d (.bl (decide (a = s ∨ b = s)))) := by
  rw [in_tup]
  have h : (atomD (.str s) = true ∧ [D.str a, D.str b].all atomD = true) ∨ (okE (.str s) = true ∧ isTupD (.d (.tup [D.str a, D.str b])) = false ∧ okE (.lst [D.str a, D.str b]) = true) := .inl ⟨rfl, rfl⟩
  rw [gd_pos h]
  simp only [Option.map_some, blS, List.any_cons, List.any_nil, eqvD, Bool.or_false]
  congr 3
  rw [Bool.eq_iff_iff]
  simp [beq_iff_eq]
theorem at_m1_2 {α : Type} {x y : α} : atI [x, y] (-1) = some y := rfl
theorem at_m1_3 {α : Type} {x y z : α} : atI [x, y, z] (-1) = some z := rfl
theorem cut_2 {x y : D} : cutD [x, y] (some 1) none = [y] := rfl
theorem cut_3 {x y z : D} : cutD [x, y, z] (some 1) none = [y, z] := rfl
theorem bls_map {bs : List Bool} : blsOf (bs.map D.bl) = some bs := blsOf_map bs
theorem all_bls {M : Mem} {bs : List Bool} : allD M [.d (.lst (bs.map D.bl))] = some (.d (.bl (bs.all id))) := by
  simp only [allD, lstD, Option.bind_some, bls_map, Option.map_some, blS]
theorem any_bls {M : Mem} {bs : List Bool} : anyD M [.d (.lst (bs.map D.bl))] = some (.d (.bl (bs.any id))) := by
  simp only [anyD, lstD, Option.bind_some, bls_map, Option.map_some, blS]
theorem okE_bl {b : Bool} : okE (.bl b) = true := by cases b <;> rfl
theorem bls_lay : ∀ bs : List Bool, PyData.canLayAll0 (pys (bs.map D.bl)) = true ∧ PyData.depthAll (pys (bs.map D.bl)) = 0 ∧ noRs (bs.map D.bl) = true
  | [] => ⟨rfl, rfl, rfl⟩
  | b :: bs => by
    obtain ⟨h1, h2, h3⟩ := bls_lay bs
    simp only [List.map_cons, pys, py, PyData.canLayAll0, PyData.canLay0, PyData.depthAll, PyData.depth, noRs, noR, h1, h2, h3]
    decide
theorem okE_bls {bs : List Bool} : okE (.lst (bs.map D.bl)) = true := by
  obtain ⟨h1, h2, h3⟩ := bls_lay bs
  unfold okE SeqAt.shaped
  simp only [noR, py, PyData.canLay0, PyData.depth, h1, h2, h3]
  decide
theorem count_bls {M : Mem} {bs : List Bool} {b : Bool} : countD M (.d (.lst (bs.map D.bl))) [.d (.bl b)] = some (.d (.int (bs.count b))) := by
  simp only [countD, lstD, Option.bind_some]
  rw [gd_pos ⟨okE_bl, okE_bls⟩]
  simp only [intS]
  congr 4
  rw [List.countP_map]
  rfl
theorem slD_t {M : Mem} {a : List D} {lo hi : Option Int} : slD M (.d (.tup a)) lo hi = some (.d (.tup (cutD a lo hi))) := rfl
theorem intO_i {i : Int} : intO (.d (.int i)) = some (some i) := rfl
theorem list_t {M : Mem} {a : List D} : listF M [.d (.tup a)] = some a := rfl
theorem list_l {M : Mem} {a : List D} : listF M [.d (.lst a)] = some a := rfl
def bitD (b : Bool) : D := .int (if b then 1 else 0)
def fD (fs : List Bool) : D := .tup (fs.map bitD)
mutual
def Cm.hv (fs : List Bool) : Cm → Bool
  | .yes => true
  | .no => false
  | .name k => fs.getD k false
  | .neg c => !c.hv fs
  | .same a b => a.hv fs == b.hv fs
  | .all cs => (Cm.hvs fs cs).all id
  | .any cs => (Cm.hvs fs cs).any id
  | .least m cs => decide (m ≤ (Cm.hvs fs cs).count true)
def Cm.hvs (fs : List Bool) : List Cm → List Bool
  | [] => []
  | c :: cs => c.hv fs :: Cm.hvs fs cs
end
set_option maxHeartbeats 1000000
def Cm.subs : Cm → List Cm
  | .neg c => [c]
  | .same a b => [a, b]
  | .all cs => cs
  | .any cs => cs
  | .least _ cs => cs
  | _ => []
def c_PLAIN : D := (.tup [(.str "yes"), (.str "no")])
def sp_inner : SpD := fun as M Q => ∃ c : Cm, as = [.d (cD c)] ∧ M = [] ∧ Q (.new (cDs c.subs)) []
def r_inner : TS' :=
  (sSeq (sIf (cP (bOr (bB (po2 inD (po2 ixD (pV 0) (pC (.int 0))) (pC c_PLAIN))) (bB (po2 eqD (po2 ixD (pV 0) (pC (.int 0))) (pC (.str "name"))))))
  (sRet (eNw (fP (plLst []))))
  sNil)
  (sSeq (sIf (cP (bB (po2 inD (po2 ixD (pV 0) (pC (.int 0))) (poTup [(pC (.str "not")), (pC (.str "same"))]))))
  (sRet (eNw (fP (plN listF [(poSl (pV 0) (poI (pC (.int 1))) poNo)]))))
  sNil)
  (sRet (eNw (fP (plN listF [(po2 ixD (pV 0) (po1 negD (pC (.int 1))))]))))))
theorem pure_inner (as : List Sv) (M : Mem) (Q : Rv → Mem → Prop) (h : sp_inner as M Q) : r_inner (endsF M.length Q) (startD 1 as) M := by
  obtain ⟨c, rfl, rfl, z⟩ := h
  show r_inner (endsF 0 Q) [some (.d (cD c))] []
  cases c <;> simp only [sSeq, sIf, sSet, sSub, sRet, sRetN, sNil, sDrop, sAsg, sPar, sParT, sAug, cP, bB, bTr, bNt, bAn, bOr, po1, po2, poN, pArgs, poIf, poAn, poOr, poNt, poTup, plLst, plN, pl2, pl1, pFz, pV, pC, eP, eo1, eo2, eoN, aP, aNil, aCons, eAn, eOr, eNt, eIf, eFz, eNw, fP, fN, f2, f1, tTupE, tLstF, tTr, tTb, tAn, tOrr, tNt, tYs, eSeal, eMt, poMt, mPure, eCh, pCh, ok_bind, ok_map, ok_some, ok_none, ok_gd, ok_ite, List.getElem?_cons_zero, List.getElem?_cons_succ, List.set_cons_zero, List.set_cons_succ, Option.join_some, Option.bind_some, Option.map_some, Option.bind_none, Option.map_none, ix_ref, ix_tup, ix_lst, ix_bor, ix_scr, add_int, add_str, add_tup, sub_int, mul_int, fdiv_int, mod_int, pow_int, neg_int, lt_int, le_int, gt_int, ge_int, eq_int, eq_str, eq_bl, ne_int, ne_str, ne_bl, is_bl, isnt_bl, is_non, isnt_non, len_tup, len_lst, len_ref, len_bor, len_scr, int_bl, int_int, abs_int, min_int, max_int, blD_bl, cell_lst, cellA_lst, cellA_dk, st_ref, at_0, at_1, at_2, at_3, at_4, ixN_10, ixN_20, ixN_21, ixN_30, ixN_31, ixN_32, dataS_d, datas_nil, datas_cons, truth_bl, notD, intS, blS, nonB, List.length_cons, List.length_nil, Nat.reduceAdd, endsF_rt, endsF_nx, rvQ_d, rvQ_new, rvQ_newK, rv_d, rv_ref, rv_cl, rv_ck, okRef_d, okRef_ref, List.not_mem_nil, List.nil_append, true_and, and_true, List.take_succ_cons, List.take_zero, Nat.zero_add, decide_eq_true_eq, Bool.false_eq_true, if_false, if_true, callS, handS_n, handS_tr, handS_fr, handS_fd, handS_fb, cellsAt_c, cellsAt_0, Option.getD_some, backS_0, backS_1, eCall, tup_lst, tup_tup, tup_ref, fLc, iRg, rng_1, rng_2, wipeS_c, wipeS_n, iPq, iSq, seq_tup, seq_lst, seq_bor, lst_lst, lst_bor, gdS_d, gdS_b, sFor, gNm, gcS_c, gcS_n, gcO_d, gcO_n, mapp, rcv_0, rcv_1, rcv_l, gcO_r0, gcO_r1, gcO_z, seal_d, eq_self, List.take_nil, List.cons_append, poSl, poI, poNo, slD_t, intO_i, list_t, list_l, in_str2, ofS_inj, String.reduceEq, or_false, false_or, or_true, true_or, or_self, decide_true, decide_false, Bool.not_true, Bool.not_false, at_m1_2, at_m1_3, cut_2, cut_3, all_bls, any_bls, count_bls, r_inner, c_PLAIN, cD, cDs, Cm.subs] at z ⊢ <;> exact ⟨Nat.zero_le _, z⟩
def sp_holds (d : Nat) : SpD := fun as M Q => ∃ (c : Cm) (fs : List Bool), as = [.d (cD c), .d (fD fs)] ∧ M = [] ∧ c.ok fs.length d ∧ Q (.d (.bl (c.hv fs))) []
def r_holds (sp_inner_claims : SpD) (sp_holds : SpD) : TS' :=
  (sSeq (sSet 2 (eP (po2 ixD (pV 0) (pC (.int 0)))))
  (sSeq (sIf (cP (bB (po2 inD (pV 2) (pC c_PLAIN))))
  (sRet (eP (po2 eqD (pV 2) (pC (.str "yes")))))
  sNil)
  (sSeq (sIf (cP (bB (po2 eqD (pV 2) (pC (.str "name")))))
  (sRet (eP (po2 eqD (po2 ixD (pV 1) (po2 ixD (pV 0) (pC (.int 1)))) (pC (.int 1)))))
  sNil)
  (sSeq (sSet 3 (eFz (fLc (iSq (eSeal 0 (eCall [false] sp_inner_claims (aP [(pV 0)])))) (.nm 4) tYs (eCall [false, false] sp_holds (aP [(pV 4), (pV 1)])) [4])))
  (sSeq (sIf (cP (bB (po2 eqD (pV 2) (pC (.str "not")))))
  (sRet (eP (poNt (po2 ixD (pV 3) (pC (.int 0))))))
  sNil)
  (sSeq (sIf (cP (bB (po2 eqD (pV 2) (pC (.str "same")))))
  (sRet (eP (po2 eqD (po2 ixD (pV 3) (pC (.int 0))) (po2 ixD (pV 3) (pC (.int 1))))))
  sNil)
  (sSeq (sIf (cP (bB (po2 eqD (pV 2) (pC (.str "and")))))
  (sRet (eP (poN allD [(pV 3)])))
  sNil)
  (sSeq (sIf (cP (bB (po2 eqD (pV 2) (pC (.str "or")))))
  (sRet (eP (poN anyD [(pV 3)])))
  sNil)
  (sRet (eP (po2 geD (poMt "list" countD (pV 3) [(pC (.bl true))]) (po2 ixD (pV 0) (pC (.int 1))))))))))))))
theorem dec_beq {a b : Bool} : decide (a = b) = (a == b) := by cases a <;> cases b <;> rfl
theorem dec_le {m k : Nat} : decide ((m : Int) ≤ (k : Int)) = decide (m ≤ k) := by
  rw [Bool.eq_iff_iff]; simp [Int.ofNat_le]
theorem fD_at {fs : List Bool} {k : Nat} (h : k < fs.length) {M : Mem} : ixD M (.d (fD fs)) (.d (.int k)) = some (.d (bitD (fs.getD k false))) := by
  simp only [fD, ix_tup, at_nat, List.getElem?_map, List.getElem?_eq_getElem h, Option.map_some, List.getD_eq_getElem?_getD, Option.getD_some]
theorem bit_one {b : Bool} {M : Mem} : eqD M (.d (bitD b)) (.d (.int 1)) = some (.d (.bl b)) := by
  cases b <;> rfl
/-- the claims in a claim, held each -/
theorem lc_holds {fs : List Bool} {d n i : Nat} {te : TE'} {δw : DS} {gd : Mem → Prop} {Q : List D → Mem → Prop} {M0 : Mem} (hg : gd M0) (h : ∀ (c : Cm) (R : QD), c.ok n d → R (.d (.bl (c.hv fs))) M0 → te (δw.set i (some (.d (cD c)))) M0 R) :
    ∀ (cs : List Cm) (acc : List Bool), Cm.oks n d cs → Q ((acc ++ Cm.hvs fs cs).map D.bl) M0 → lcL (LcG.nm i).to tYs te δw gd Q (cDs cs) (acc.map D.bl) M0
  | [], acc, _, q => ⟨hg, by simpa [Cm.hvs] using q⟩
  | c :: cs, acc, o, q => by
    refine ⟨hg, h c _ o.1 ?_⟩
    have := lc_holds (Q := Q) hg h cs (acc ++ [c.hv fs]) o.2 (by simpa [Cm.hvs] using q)
    rw [List.map_append] at this
    exact this
theorem subs_ok {n d : Nat} {c : Cm} (h : c.ok n (d + 1)) : Cm.oks n d c.subs := by
  cases c <;> first | trivial | exact ⟨h, trivial⟩ | exact ⟨h.1, h.2, trivial⟩ | exact h | exact h.2
theorem seal_r {m0 n : Nat} {M : Mem} : sealD m0 M (.ref n) = if m0 ≤ n then (cellL M[n]?).map fun ds => (.d (.lst ds), M.set n .gone) else none := rfl
local macro_rules
  | `(tactic| simp only [VLT]) => `(tactic| simp only [sSeq, sIf, sSet, sSub, sRet, sRetN, sNil, sDrop, sAsg, sPar, sParT, sAug, cP, bB, bTr, bNt, bAn, bOr, po1, po2, poN, pArgs, poIf, poAn, poOr, poNt, poTup, plLst, plN, pl2, pl1, pFz, pV, pC, eP, eo1, eo2, eoN, aP, aNil, aCons, eAn, eOr, eNt, eIf, eFz, eNw, fP, fN, f2, f1, tTupE, tLstF, tTr, tTb, tAn, tOrr, tNt, tYs, eSeal, eMt, poMt, mPure, eCh, pCh, ok_bind, ok_map, ok_some, ok_none, ok_gd, ok_ite, List.getElem?_cons_zero, List.getElem?_cons_succ, List.set_cons_zero, List.set_cons_succ, Option.join_some, Option.bind_some, Option.map_some, Option.bind_none, Option.map_none, ix_ref, ix_tup, ix_lst, ix_bor, ix_scr, add_int, add_str, add_tup, sub_int, mul_int, fdiv_int, mod_int, pow_int, neg_int, lt_int, le_int, gt_int, ge_int, eq_int, eq_str, eq_bl, ne_int, ne_str, ne_bl, is_bl, isnt_bl, is_non, isnt_non, len_tup, len_lst, len_ref, len_bor, len_scr, int_bl, int_int, abs_int, min_int, max_int, blD_bl, cell_lst, cellA_lst, cellA_dk, st_ref, at_0, at_1, at_2, at_3, at_4, ixN_10, ixN_20, ixN_21, ixN_30, ixN_31, ixN_32, dataS_d, datas_nil, datas_cons, truth_bl, notD, intS, blS, nonB, List.length_cons, List.length_nil, Nat.reduceAdd, endsF_rt, endsF_nx, rvQ_d, rvQ_new, rvQ_newK, rv_d, rv_ref, rv_cl, rv_ck, okRef_d, okRef_ref, List.not_mem_nil, List.nil_append, true_and, and_true, List.take_succ_cons, List.take_zero, Nat.zero_add, decide_eq_true_eq, Bool.false_eq_true, if_false, if_true, callS, handS_n, handS_tr, handS_fr, handS_fd, handS_fb, cellsAt_c, cellsAt_0, Option.getD_some, backS_0, backS_1, eCall, tup_lst, tup_tup, tup_ref, fLc, iRg, rng_1, rng_2, wipeS_c, wipeS_n, iPq, iSq, seq_tup, seq_lst, seq_bor, lst_lst, lst_bor, gdS_d, gdS_b, sFor, gNm, gcS_c, gcS_n, gcO_d, gcO_n, mapp, rcv_0, rcv_1, rcv_l, gcO_r0, gcO_r1, gcO_z, seal_d, eq_self, List.take_nil, List.cons_append, poSl, poI, poNo, slD_t, intO_i, list_t, list_l, in_str2, ofS_inj, String.reduceEq, or_false, false_or, or_true, true_or, or_self, decide_true, decide_false, Bool.not_true, Bool.not_false, at_m1_2, at_m1_3, cut_2, cut_3, all_bls, any_bls, count_bls])
  | `(tactic| simp only [VLT, $xs,*]) => `(tactic| simp only [sSeq, sIf, sSet, sSub, sRet, sRetN, sNil, sDrop, sAsg, sPar, sParT, sAug, cP, bB, bTr, bNt, bAn, bOr, po1, po2, poN, pArgs, poIf, poAn, poOr, poNt, poTup, plLst, plN, pl2, pl1, pFz, pV, pC, eP, eo1, eo2, eoN, aP, aNil, aCons, eAn, eOr, eNt, eIf, eFz, eNw, fP, fN, f2, f1, tTupE, tLstF, tTr, tTb, tAn, tOrr, tNt, tYs, eSeal, eMt, poMt, mPure, eCh, pCh, ok_bind, ok_map, ok_some, ok_none, ok_gd, ok_ite, List.getElem?_cons_zero, List.getElem?_cons_succ, List.set_cons_zero, List.set_cons_succ, Option.join_some, Option.bind_some, Option.map_some, Option.bind_none, Option.map_none, ix_ref, ix_tup, ix_lst, ix_bor, ix_scr, add_int, add_str, add_tup, sub_int, mul_int, fdiv_int, mod_int, pow_int, neg_int, lt_int, le_int, gt_int, ge_int, eq_int, eq_str, eq_bl, ne_int, ne_str, ne_bl, is_bl, isnt_bl, is_non, isnt_non, len_tup, len_lst, len_ref, len_bor, len_scr, int_bl, int_int, abs_int, min_int, max_int, blD_bl, cell_lst, cellA_lst, cellA_dk, st_ref, at_0, at_1, at_2, at_3, at_4, ixN_10, ixN_20, ixN_21, ixN_30, ixN_31, ixN_32, dataS_d, datas_nil, datas_cons, truth_bl, notD, intS, blS, nonB, List.length_cons, List.length_nil, Nat.reduceAdd, endsF_rt, endsF_nx, rvQ_d, rvQ_new, rvQ_newK, rv_d, rv_ref, rv_cl, rv_ck, okRef_d, okRef_ref, List.not_mem_nil, List.nil_append, true_and, and_true, List.take_succ_cons, List.take_zero, Nat.zero_add, decide_eq_true_eq, Bool.false_eq_true, if_false, if_true, callS, handS_n, handS_tr, handS_fr, handS_fd, handS_fb, cellsAt_c, cellsAt_0, Option.getD_some, backS_0, backS_1, eCall, tup_lst, tup_tup, tup_ref, fLc, iRg, rng_1, rng_2, wipeS_c, wipeS_n, iPq, iSq, seq_tup, seq_lst, seq_bor, lst_lst, lst_bor, gdS_d, gdS_b, sFor, gNm, gcS_c, gcS_n, gcO_d, gcO_n, mapp, rcv_0, rcv_1, rcv_l, gcO_r0, gcO_r1, gcO_z, seal_d, eq_self, List.take_nil, List.cons_append, poSl, poI, poNo, slD_t, intO_i, list_t, list_l, in_str2, ofS_inj, String.reduceEq, or_false, false_or, or_true, true_or, or_self, decide_true, decide_false, Bool.not_true, Bool.not_false, at_m1_2, at_m1_3, cut_2, cut_3, all_bls, any_bls, count_bls, $xs,*])
theorem pure_holds {d : Nat} (as : List Sv) (M : Mem) (Q : Rv → Mem → Prop) (h : spB sp_holds (d + 1) as M Q) : r_holds sp_inner (spB sp_holds d) (endsF M.length Q) (startD 5 as) M := by
  obtain ⟨e, he, c, fs, rfl, rfl, o, z⟩ := h
  show r_holds sp_inner (spB sp_holds d) (endsF 0 Q) [some (.d (cD c)), some (.d (fD fs)), none, none, none] []
  cases c with
  | yes => simp only [VLT, r_holds, c_PLAIN, cD]; exact z
  | no => simp only [VLT, r_holds, c_PLAIN, cD]; exact z
  | name k =>
    have hk : k < fs.length := by cases e <;> exact o
    simp only [VLT, r_holds, c_PLAIN, cD, fD_at hk, bit_one]
    exact z
  | neg c =>
    obtain ⟨e, rfl⟩ : ∃ e', e = e' + 1 := by
      cases e with
      | zero => exact o.elim
      | succ e => exact ⟨e, rfl⟩
    simp only [VLT, r_holds, c_PLAIN, cD]
    refine ⟨.neg c, rfl, rfl, ?_⟩
    simp only [VLT, seal_r, Nat.le_refl]
    refine lc_holds (acc := []) (M0 := [.gone]) trivial (fun c' R' o' hR' => by
      simp only [VLT]
      exact ⟨e, by omega, c', fs, rfl, rfl, o', by simp only [VLT]; exact hR'⟩) (Cm.neg c).subs (subs_ok o) ?_
    simp only [Cm.hv] at z
    simp only [VLT, Cm.subs, Cm.hvs, List.map_cons, List.map_nil, gdT]
    exact z
  | same c1 c2 =>
    obtain ⟨e, rfl⟩ : ∃ e', e = e' + 1 := by
      cases e with
      | zero => exact o.elim
      | succ e => exact ⟨e, rfl⟩
    simp only [VLT, r_holds, c_PLAIN, cD]
    refine ⟨.same c1 c2, rfl, rfl, ?_⟩
    simp only [VLT, seal_r, Nat.le_refl]
    refine lc_holds (acc := []) (M0 := [.gone]) trivial (fun c' R' o' hR' => by
      simp only [VLT]
      exact ⟨e, by omega, c', fs, rfl, rfl, o', by simp only [VLT]; exact hR'⟩) (Cm.same c1 c2).subs (subs_ok o) ?_
    simp only [Cm.hv] at z
    simp only [VLT, Cm.subs, Cm.hvs, List.map_cons, List.map_nil, gdT]
    rw [dec_beq]; exact z
  | all cs =>
    obtain ⟨e, rfl⟩ : ∃ e', e = e' + 1 := by
      cases e with
      | zero => exact o.elim
      | succ e => exact ⟨e, rfl⟩
    simp only [VLT, r_holds, c_PLAIN, cD]
    refine ⟨.all cs, rfl, rfl, ?_⟩
    simp only [VLT, seal_r, Nat.le_refl]
    refine lc_holds (acc := []) (M0 := [.gone]) trivial (fun c' R' o' hR' => by
      simp only [VLT]
      exact ⟨e, by omega, c', fs, rfl, rfl, o', by simp only [VLT]; exact hR'⟩) (Cm.all cs).subs (subs_ok o) ?_
    simp only [Cm.hv] at z
    simp only [VLT, Cm.subs, Cm.hvs, List.map_cons, List.map_nil, gdT]
    exact z
  | any cs =>
    obtain ⟨e, rfl⟩ : ∃ e', e = e' + 1 := by
      cases e with
      | zero => exact o.elim
      | succ e => exact ⟨e, rfl⟩
    simp only [VLT, r_holds, c_PLAIN, cD]
    refine ⟨.any cs, rfl, rfl, ?_⟩
    simp only [VLT, seal_r, Nat.le_refl]
    refine lc_holds (acc := []) (M0 := [.gone]) trivial (fun c' R' o' hR' => by
      simp only [VLT]
      exact ⟨e, by omega, c', fs, rfl, rfl, o', by simp only [VLT]; exact hR'⟩) (Cm.any cs).subs (subs_ok o) ?_
    simp only [Cm.hv] at z
    simp only [VLT, Cm.subs, Cm.hvs, List.map_cons, List.map_nil, gdT]
    exact z
  | least m cs =>
    obtain ⟨e, rfl⟩ : ∃ e', e = e' + 1 := by
      cases e with
      | zero => exact o.elim
      | succ e => exact ⟨e, rfl⟩
    simp only [VLT, r_holds, c_PLAIN, cD]
    refine ⟨.least m cs, rfl, rfl, ?_⟩
    simp only [VLT, seal_r, Nat.le_refl]
    refine lc_holds (acc := []) (M0 := [.gone]) trivial (fun c' R' o' hR' => by
      simp only [VLT]
      exact ⟨e, by omega, c', fs, rfl, rfl, o', by simp only [VLT]; exact hR'⟩) (Cm.least m cs).subs (subs_ok o) ?_
    simp only [Cm.hv] at z
    simp only [VLT, Cm.subs, Cm.hvs, List.map_cons, List.map_nil, gdT]
    rw [dec_le]; exact z
def r_lholds (sp__law_holds : SpD) : TS' :=
  (sSeq (sSet 2 (eP (po2 ixD (pV 0) (pC (.int 0)))))
  (sSeq (sIf (cP (bB (po2 inD (pV 2) (poTup [(pC (.str "yes")), (pC (.str "no"))]))))
  (sRet (eP (po2 eqD (pV 2) (pC (.str "yes")))))
  sNil)
  (sSeq (sIf (cP (bB (po2 eqD (pV 2) (pC (.str "name")))))
  (sRet (eP (po2 eqD (po2 ixD (pV 1) (po2 ixD (pV 0) (pC (.int 1)))) (pC (.int 1)))))
  sNil)
  (sSeq (sIf (cP (bB (po2 eqD (pV 2) (pC (.str "not")))))
  (sRet (eNt (eCall [false, false] sp__law_holds (aP [(po2 ixD (pV 0) (pC (.int 1))), (pV 1)]))))
  sNil)
  (sSeq (sIf (cP (bB (po2 eqD (pV 2) (pC (.str "same")))))
  (sRet (eo2 eqD (eCall [false, false] sp__law_holds (aP [(po2 ixD (pV 0) (pC (.int 1))), (pV 1)])) (eCall [false, false] sp__law_holds (aP [(po2 ixD (pV 0) (pC (.int 2))), (pV 1)]))))
  sNil)
  (sSeq (sSet 3 (eFz (fLc (iPq (po2 ixD (pV 0) (po1 negD (pC (.int 1))))) (.nm 4) tYs (eCall [false, false] sp__law_holds (aP [(pV 4), (pV 1)])) [4])))
  (sSeq (sIf (cP (bB (po2 eqD (pV 2) (pC (.str "least")))))
  (sRet (eP (po2 geD (poMt "list" countD (pV 3) [(pC (.bl true))]) (po2 ixD (pV 0) (pC (.int 1))))))
  sNil)
  (sRet (eP (poIf (bB (po2 eqD (pV 2) (pC (.str "and")))) (poN allD [(pV 3)]) (poN anyD [(pV 3)])))))))))))
theorem pure_lholds {d : Nat} (as : List Sv) (M : Mem) (Q : Rv → Mem → Prop) (h : spB sp_holds (d + 1) as M Q) : r_lholds (spB sp_holds d) (endsF M.length Q) (startD 5 as) M := by
  obtain ⟨e, he, c, fs, rfl, rfl, o, z⟩ := h
  show r_lholds (spB sp_holds d) (endsF 0 Q) [some (.d (cD c)), some (.d (fD fs)), none, none, none] []
  cases c with
  | yes => simp only [VLT, r_lholds, cD]; exact z
  | no => simp only [VLT, r_lholds, cD]; exact z
  | name k =>
    have hk : k < fs.length := by cases e <;> exact o
    simp only [VLT, r_lholds, cD, fD_at hk, bit_one]
    exact z
  | neg c =>
    obtain ⟨e, rfl⟩ : ∃ e', e = e' + 1 := by
      cases e with
      | zero => exact o.elim
      | succ e => exact ⟨e, rfl⟩
    simp only [VLT, r_lholds, cD]
    simp only [Cm.hv] at z
    refine ⟨e, by omega, c, fs, rfl, rfl, o, ?_⟩
    simp only [VLT]
    exact z
  | same c1 c2 =>
    obtain ⟨e, rfl⟩ : ∃ e', e = e' + 1 := by
      cases e with
      | zero => exact o.elim
      | succ e => exact ⟨e, rfl⟩
    simp only [VLT, r_lholds, cD]
    simp only [Cm.hv] at z
    refine ⟨e, by omega, c1, fs, rfl, rfl, o.1, ?_⟩
    simp only [VLT]
    refine ⟨e, by omega, c2, fs, rfl, rfl, o.2, ?_⟩
    simp only [VLT]
    rw [dec_beq]
    exact z
  | all cs =>
    obtain ⟨e, rfl⟩ : ∃ e', e = e' + 1 := by
      cases e with
      | zero => exact o.elim
      | succ e => exact ⟨e, rfl⟩
    simp only [VLT, r_lholds, cD]
    simp only [Cm.hv] at z
    refine lc_holds (acc := []) (M0 := []) trivial (fun c' R' o' hR' => by
      simp only [VLT]
      exact ⟨e, by omega, c', fs, rfl, rfl, o', by simp only [VLT]; exact hR'⟩) cs (o) ?_
    simp only [VLT, List.map_cons, List.map_nil, gdT]
    exact z
  | any cs =>
    obtain ⟨e, rfl⟩ : ∃ e', e = e' + 1 := by
      cases e with
      | zero => exact o.elim
      | succ e => exact ⟨e, rfl⟩
    simp only [VLT, r_lholds, cD]
    simp only [Cm.hv] at z
    refine lc_holds (acc := []) (M0 := []) trivial (fun c' R' o' hR' => by
      simp only [VLT]
      exact ⟨e, by omega, c', fs, rfl, rfl, o', by simp only [VLT]; exact hR'⟩) cs (o) ?_
    simp only [VLT, List.map_cons, List.map_nil, gdT]
    exact z
  | least m cs =>
    obtain ⟨e, rfl⟩ : ∃ e', e = e' + 1 := by
      cases e with
      | zero => exact o.elim
      | succ e => exact ⟨e, rfl⟩
    simp only [VLT, r_lholds, cD]
    simp only [Cm.hv] at z
    refine lc_holds (acc := []) (M0 := []) trivial (fun c' R' o' hR' => by
      simp only [VLT]
      exact ⟨e, by omega, c', fs, rfl, rfl, o', by simp only [VLT]; exact hR'⟩) cs (o.2) ?_
    simp only [VLT, List.map_cons, List.map_nil, gdT]
    rw [dec_le]; exact z
set_option maxHeartbeats 1000000
structure Pl (w dp : Nat) (d : D) : Prop where
  no : noR d = true
  sh : (py d).leavesShort 40 = true
  la : (py d).canLay0 = true
  sw : (py d).showable = true
  we : (py d).weight ≤ w
  de : (py d).depth ≤ dp
structure Pls (w dp : Nat) (d : List D) : Prop where
  no : noRs d = true
  sh : PyData.leavesShortAll 40 (pys d) = true
  la : PyData.canLayAll0 (pys d) = true
  sw : PyData.showableAll (pys d) = true
  we : PyData.weightAll (pys d) ≤ w
  de : PyData.depthAll (pys d) ≤ dp
theorem Pl.mono {w dp w' dp' : Nat} {d : D} (h : Pl w dp d) (h1 : w ≤ w') (h2 : dp ≤ dp') : Pl w' dp' d := ⟨h.no, h.sh, h.la, h.sw, Nat.le_trans h.we h1, Nat.le_trans h.de h2⟩
theorem Pls.mono {w dp w' dp' : Nat} {d : List D} (h : Pls w dp d) (h1 : w ≤ w') (h2 : dp ≤ dp') : Pls w' dp' d := ⟨h.no, h.sh, h.la, h.sw, Nat.le_trans h.we h1, Nat.le_trans h.de h2⟩
theorem Pl.int {i : Int} (h : i.natAbs < 10 ^ 39) : Pl 140 0 (.int i) := by
  have h2 : i.natAbs < 2 ^ 130 := Nat.lt_trans h (by decide)
  have hl : i.natAbs ≠ 0 → i.natAbs.log2 < 130 := fun h0 => (Nat.log2_lt h0).mpr h2
  have hl2 : i.natAbs.log2 < 130 := by
    by_cases h0 : i.natAbs = 0
    · rw [h0]; decide
    · exact hl h0
  refine ⟨rfl, ?_, rfl, ?_, ?_, Nat.le_refl _⟩
  · show decide ((PyData.shown (.int i)).length ≤ 40) = true
    have e := int_text_length_le10 (k := 39) (by decide) h
    have : (Str.ofString (toString i)).length ≤ 40 := by rw [ofString_length]; exact e
    exact decide_eq_true this
  · show decide (i.natAbs.log2 < 1920) = true
    exact decide_eq_true (by omega)
  · show (if i == 0 then 0 else i.natAbs.log2 + 1) ≤ 140
    split <;> omega
theorem Pl.str {s : Str} {n : Nat} (h : (PyData.canLay0 (.str s) && s.cps.toList.all (fun c => decide (c < 16 ^ 8)) && decide (s.cps.size ≤ n)) = true) : Pl n 0 (.str s) := by
  simp only [Bool.and_eq_true, decide_eq_true_eq] at h
  exact ⟨rfl, h.1.2, h.1.1, rfl, h.2, Nat.le_refl _⟩
theorem Pl.bl {b : Bool} : Pl 0 0 (.bl b) := ⟨rfl, rfl, rfl, rfl, Nat.le_refl _, Nat.le_refl _⟩
theorem Pl.non : Pl 0 0 .non := ⟨rfl, rfl, rfl, rfl, Nat.le_refl _, Nat.le_refl _⟩
theorem Pls.nil {dp : Nat} : Pls 0 dp [] := ⟨rfl, rfl, rfl, rfl, Nat.le_refl _, Nat.zero_le _⟩
theorem Pls.cons {w1 w2 dp : Nat} {d : D} {ds : List D} (h : Pl w1 dp d) (h2 : Pls w2 dp ds) : Pls (w1 + 1 + w2) dp (d :: ds) := by
  refine ⟨?_, ?_, ?_, ?_, ?_, ?_⟩
  · simp only [noRs, h.no, h2.no]; rfl
  · simp only [pys, PyData.leavesShortAll, h.sh, h2.sh]; rfl
  · simp only [pys, PyData.canLayAll0, h.la, h2.la]; rfl
  · simp only [pys, PyData.showableAll, h.sw, h2.sw]; rfl
  · simp only [pys, PyData.weightAll]; have := h.we; have := h2.we; omega
  · simp only [pys, PyData.depthAll]; have := h.de; have := h2.de; omega
theorem Pl.tup {w dp : Nat} {ds : List D} (h : Pls w dp ds) : Pl w (dp + 1) (.tup ds) := by
  refine ⟨h.no, ?_, ?_, ?_, ?_, ?_⟩
  · simp only [py, PyData.leavesShort]; exact h.sh
  · simp only [py, PyData.canLay0]; exact h.la
  · simp only [py, PyData.showable]; exact h.sw
  · simp only [py, PyData.weight]; exact h.we
  · simp only [py, PyData.depth]; have := h.de; omega
theorem Pl.lst {w dp : Nat} {ds : List D} (h : Pls w dp ds) : Pl w (dp + 1) (.lst ds) := by
  refine ⟨h.no, ?_, ?_, ?_, ?_, ?_⟩
  · simp only [py, PyData.leavesShort]; exact h.sh
  · simp only [py, PyData.canLay0]; exact h.la
  · simp only [py, PyData.showable]; exact h.sw
  · simp only [py, PyData.weight]; exact h.we
  · simp only [py, PyData.depth]; have := h.de; omega
set_option maxHeartbeats 1000000
def afs : Nat → List (List Bool)
  | 0 => [[]]
  | k + 1 => (afs k).map (false :: ·) ++ (afs k).map (true :: ·)
theorem afs_len : ∀ k, (afs k).length = 2 ^ k
  | 0 => rfl
  | k + 1 => by simp only [afs, List.length_append, List.length_map, afs_len k]; omega
theorem afs_mem : ∀ (k : Nat) (f : List Bool), f ∈ afs k → f.length = k
  | 0, f, h => by simp only [afs, List.mem_singleton] at h; subst h; rfl
  | k + 1, f, h => by
    simp only [afs, List.mem_append, List.mem_map] at h
    rcases h with ⟨g, hg, rfl⟩ | ⟨g, hg, rfl⟩ <;> simp [afs_mem k g hg]
theorem cat_l {M : Mem} {a b : List D} : catF M (.d (.lst a)) (.d (.lst b)) = gd (a.length + b.length ≤ sizeLine) (a ++ b) := rfl
def sp_afs : SpD := fun as M Q => ∃ n : Nat, as = [.d (.int n)] ∧ M = [] ∧ n ≤ 12 ∧ Q (.d (.lst ((afs n).map fD))) []
def r_afs : TS' :=
  (sSeq (sSet 1 (eP (pFz (plLst [(poTup [])]))))
  (sSeq (sFor (iRg false (aP [(pV 0)])) (gNm 2)
  (sSet 1 (eFz (f2 catF (eFz (fLc (iPq (pV 1)) (.nm 3) tYs (eP (po2 addD (poTup [(pC (.int 0))]) (pV 3))) [3])) (eFz (fLc (iPq (pV 1)) (.nm 3) tYs (eP (po2 addD (poTup [(pC (.int 1))]) (pV 3))) [3]))))))
  (sRet (eP (pV 1)))))
def pre (x : D) : D → D
  | .tup ds => .tup (x :: ds)
  | d => d
theorem pre_fD {b : Bool} {k : Nat} : ((afs k).map fD).map (pre (bitD b)) = ((afs k).map (b :: ·)).map fD := by
  rw [List.map_map, List.map_map]; rfl
theorem pure_afs (as : List Sv) (M : Mem) (Q : Rv → Mem → Prop) (h : sp_afs as M Q) : r_afs (endsF M.length Q) (startD 4 as) M := by
  obtain ⟨n, rfl, rfl, hn, z⟩ := h
  show r_afs (endsF 0 Q) [some (.d (.int n)), none, none, none] []
  simp only [VLT, r_afs]
  refine ⟨⟨by omega, by omega⟩, fun h => h.elim, ?_⟩
  rw [Int.toNat_natCast]
  refine for_inv (fun rest δ M => ∃ j o2, δ = [some (.d (.int n)), some (.d (.lst ((afs j).map fD))), o2, none] ∧ M = [] ∧ j + rest.length = n) ?_ ?_ _ _ _ ⟨0, none, rfl, rfl, by simp [rgL_len]⟩
  · rintro δ M ⟨j, o2, rfl, rfl, hj⟩
    simp only [List.length_nil, Nat.add_zero] at hj
    subst hj
    refine ⟨trivial, ?_⟩
    simp only [VLT]
    exact z
  · rintro x rest δ M nx ⟨j, o2, rfl, rfl, hj⟩ k
    simp only [List.length_cons] at hj
    have hl : ((afs j).map fD).length ≤ 4096 := by
      rw [List.length_map, afs_len]
      exact Nat.pow_le_pow_right (n := 2) (by decide) (show j ≤ 12 by omega)
    have step : ∀ (b : Bool), ∀ d ∈ (afs j).map fD, ∀ R : QD, R (.d (pre (bitD b) d)) [] → ok (addD [] (.d (.tup [bitD b])) (.d d)) fun v => R v [] := fun b d hd R hR => by
      obtain ⟨f, hf, rfl⟩ := List.mem_map.mp hd
      have := afs_mem j f hf
      show ok (addD [] (.d (.tup [bitD b])) (.d (.tup (f.map bitD)))) _
      rw [add_tup, ok_gd]
      exact ⟨by rw [sizeLine_eq]; simp; omega, hR⟩
    refine ⟨trivial, ?_⟩
    simp only [VLT]
    refine lc_map (f := pre (bitD false)) trivial (fun d hd R hR => by simp only [VLT]; exact step false d hd R hR) ?_
    refine lc_map (f := pre (bitD true)) trivial (fun d hd R hR => by simp only [VLT]; exact step true d hd R hR) ?_
    simp only [VLT, cat_l]
    rw [pre_fD, pre_fD]
    refine ⟨by rw [List.length_map, List.length_map, List.length_map, List.length_map, sizeLine_eq]; rw [List.length_map] at hl; omega, ?_⟩
    refine k _ _ ⟨j + 1, some (.d x), ?_, rfl, by omega⟩
    simp only [VLT, afs, List.map_append]
def sp_many : SpD := fun as M Q => ∃ (ds : List D) (b : Nat), as = [.ref 0] ∧ M = [.lst ds] ∧ Tp b ds ∧ b + 10 < 1099511627776 ∧ ∀ (v : Nat) ds', v ≤ 8 → Tp (b + 3) ds' → Q (.d (.int v)) [.lst ds']
def r_many (sp__law_take : SpD) : TS' :=
  (sSeq (sSet 1 (eo2 eqD (eCall [true, false] sp__law_take (aP [(pV 0), (pC (.int 8))])) (eP (pC (.int 0)))))
  (sRet (eIf (cP (bTr (pV 1))) (eo2 addD (eP (pC (.int 7))) (eCall [true, false] sp__law_take (aP [(pV 0), (pC (.int 2))]))) (eCall [true, false] sp__law_take (aP [(pV 0), (pC (.int 7))])))))
theorem pure_many (as : List Sv) (M : Mem) (Q : Rv → Mem → Prop) (h : sp_many as M Q) : r_many sp_take (endsF M.length Q) (startD 2 as) M := by
  obtain ⟨ds, b, rfl, rfl, ht, hb, z⟩ := h
  show r_many sp_take (endsF 1 Q) [some (.ref 0), none] [.lst ds]
  simp only [VLT, r_many]
  refine take_ok ht (by omega) (by decide) (by decide) fun v ds1 v0 v1 t1 => ?_
  simp only [VLT]
  split
  · refine take_ok t1 (by omega) (by decide) (by decide) fun v ds1 v0 v1 t1 => ?_
    obtain ⟨v, rfl⟩ := Int.eq_ofNat_of_zero_le v0
    simp only [VLT]
    exact z (7 + v) ds1 (by omega) (t1.mono (by omega))
  · refine take_ok t1 (by omega) (by decide) (by decide) fun v ds1 v0 v1 t1 => ?_
    obtain ⟨v, rfl⟩ := Int.eq_ofNat_of_zero_le v0
    simp only [VLT]
    exact z v ds1 (by omega) (t1.mono (by omega))
theorem repr_d {M : Mem} {x : D} : reprD M [.d x] = gd (okR x = true) (.d (.str (PyData.shown (py x)))) := rfl
set_option maxHeartbeats 1000000
def sp_law : SpD := fun as M Q => ∃ ns : List Int, as = [.d (.scr ns)] ∧ M = [] ∧ ns.length ≤ 63 ∧ Q (.d (.bl true)) []
theorem all_true' {M : Mem} {l : List D} : allD M [.d (.lst (l.map fun _ => D.bl true))] = some (.d (.bl true)) := by
  have e : (l.map fun _ => D.bl true) = (l.map fun _ => true).map D.bl := by rw [List.map_map]; rfl
  rw [e, all_bls]
  simp
end VL
set_option Elab.async false
set_option linter.all false
set_option maxRecDepth 100000
set_option maxHeartbeats 400000
namespace VL
open PySem PySem.Spec PyProof.Rows L2
theorem Ca.imp {P : Program} {w : World} {K : PySem.W.Frag} {mg : Str → Option Value} {base : Heap} {k n : Nat} {x : Str} {sp sp' : SpD} (c : Ca P w K mg base k x n sp) (h : ∀ as M Q, sp' as M Q → sp as M Q) : Ca P w K mg base k x n sp' := by
  obtain ⟨f, fd, ps, F, hm, kp, b⟩ := c.ex
  have up : ∀ vs H Q E, lP K n sp' vs H Q E → lP K n sp vs H Q E := fun vs H Q E ⟨as, M, i0, B, Q0, a1, a2, a3, a4, a5, a6⟩ => ⟨as, M, i0, B, Q0, a1, a2, a3, a4, h _ _ _ a5, a6⟩
  exact ⟨f, fd, ps, ⟨fun vs H Q E q => F.len vs H Q E (up _ _ _ _ q), fun A outer s H args us vs Q E hr he hb hv hs => F.run A outer s H args us vs Q E hr he hb hv (up _ _ _ _ hs)⟩, hm, kp, b⟩
theorem fg_of {P : Program} {w : World} {K : PySem.W.Frag} {mg : Str → Option Value} {base : Heap} {x qual : Str} {params : Arguments} {body : List Stmt} {scope : Scope} {f : Addr} {fd : FuncData} {Ns ps : List Str} {k m0 : Nat} {sp : SpD} {t : TS'}
    (F : FunD K x qual params body scope [] [] f fd) (S : FnScope Ns ps scope) (hm0 : ∀ as M Q0, sp as M Q0 → M.length = m0)
    (hb : ∀ (cdv : Value) (A : Around) (outer : List Env) (s : Shared) (H : Hp) (E : XK) (G : Gd), RoomG k (A.deeper (PyProof.Rows.envOfC qual scope s.heap.objs.size f cdv)) → G.i0.length = m0 → VSs (cxOf C8.CX0 P w K mg base Ns qual scope f cdv A outer s H E).nox G body t)
    (hp : ∀ as M Q0, as.length = ps.length → sp as M Q0 → t (endsF M.length Q0) (startD Ns.length as) M) : FnG P w K mg base C8.CX0 (k + 1) f fd ps (lP K ps.length sp) := by
  refine fn_g F S (fun vs H Q E ⟨as, M, i0, B, Q0, hn, hB, ra, h⟩ => by rw [← ra.length, hn]) fun cdv A outer s H vs Q E hr h => ?_
  obtain ⟨t', h1, h2⟩ := body_ok (X := (cxOf C8.CX0 P w K mg base Ns qual scope f cdv A outer s H E).nox) (Ns := Ns) m0 rfl (fun G hG => hb cdv A outer s H E G hr hG) hm0 hp h
  exact ⟨t', h1.nox, h2⟩
/-- the law's own promise, of a script -/
theorem lawSp {K : PySem.W.Frag} {H : Hp} {a : Addr} {ns : List Int} (hl : ns.length ≤ 63) (hO : Only H) (hS : SqL K H a (ns.map V.int)) : lP K 1 sp_law [.ref a] H (fun v _ => v = .bl true) fun _ _ _ => False := by
  have hs : RD K (NB fun _ => False) H [] (.scr ns) (.ref a) := by
    refine ⟨a, rfl, ?_, by rw [sizeLine_eq]; omega⟩
    rcases hS with (h | ⟨o, h⟩) | h
    · rcases hO a with z | ⟨o, xs, z⟩
      · rw [z] at h; cases h
      · rw [z] at h; cases h
    · exact .inl ⟨o, h, by simp⟩
    · exact .inr h
  refine ⟨[.d (.scr ns)], [], [], fun _ => False, fun r _ => r = .d (.bl true), rfl, fun _ h => h.elim, ⟨_, _, rfl, hs, rfl⟩, ⟨rfl, fun n m b h => by simp at h, fun n c b h => by simp at h, fun n h => by simp at h, fun n c h => by simp at h⟩, ⟨ns, rfl, rfl, hl, rfl⟩, ?_⟩
  rintro r M' v H' rfl ⟨h, _⟩
  exact h
end VL
set_option Elab.async false
set_option linter.all false
set_option maxRecDepth 100000
set_option maxHeartbeats 1000000
namespace VL
open PySem PySem.Spec L2
inductive Rw where
  | yes | no | has (k : Nat) (b : Bool) | all (ps : List Nat) | any (ps : List Nat) | pick (k lo hi : Nat)
  deriving DecidableEq
def nD (n : Nat) : D := .int n
abbrev Wb := List Rw
def scan {α : Type} (g : List α → Rw → α) : List α → Wb → List α
  | acc, [] => acc
  | acc, r :: rs => scan g (acc ++ [g acc r]) rs
section
variable {α : Type} {g : List α → Rw → α}
theorem scan_app : ∀ (acc : List α) (a b : Wb), scan g acc (a ++ b) = scan g (scan g acc a) b
  | _, [], _ => rfl
  | acc, r :: a, b => scan_app (acc ++ [g acc r]) a b
theorem scan_len : ∀ (acc : List α) (a : Wb), (scan g acc a).length = acc.length + a.length
  | _, [] => rfl
  | acc, r :: a => by
    rw [scan, scan_len]
    simp only [List.length_append, List.length_cons, List.length_nil]; omega
theorem scan_pre : ∀ (acc : List α) (a : Wb), acc <+: scan g acc a
  | acc, [] => List.prefix_refl _
  | acc, r :: a => (List.prefix_append acc [g acc r]).trans (scan_pre _ a)
theorem pre_get {a b : List α} (h : a <+: b) {i : Nat} (hi : i < a.length) (d : α) : b.getD i d = a.getD i d := by
  obtain ⟨t, rfl⟩ := h
  rw [List.getD_eq_getElem?_getD, List.getD_eq_getElem?_getD, List.getElem?_append_left hi]
/-- the value at i: what g tells of the values ahead -/
theorem scan_at {w : Wb} {i : Nat} {r : Rw} (h : w[i]? = some r) (d : α) : (scan g [] w).getD i d = g (scan g [] (w.take i)) r := by
  have hi := (List.getElem?_eq_some_iff.mp h).1
  have e : w = w.take i ++ (r :: w.drop (i + 1)) := by
    have : w[i] = r := (List.getElem?_eq_some_iff.mp h).2
    rw [← this, List.getElem_cons_drop, List.take_append_drop]
  have hl : (scan g [] (w.take i)).length = i := by rw [scan_len]; simp; omega
  have e2 : scan g [] w = scan g (scan g [] (w.take i) ++ [g (scan g [] (w.take i)) r]) (w.drop (i + 1)) := by
    conv => lhs; rw [e, scan_app]
    rfl
  rw [e2, pre_get (scan_pre _ _) (by simp [hl]) d, List.getD_eq_getElem?_getD, List.getElem?_append_right (by omega), hl]
  simp
theorem scan_take {w : Wb} {i j : Nat} (h : j < i) (hi : i ≤ w.length) (d : α) : (scan g [] (w.take i)).getD j d = (scan g [] w).getD j d := by
  have e : scan g [] w = scan g (scan g [] (w.take i)) (w.drop i) := by rw [← scan_app, List.take_append_drop]
  rw [e]
  exact (pre_get (scan_pre _ _) (by rw [scan_len]; simp; omega) d).symm
end
def Rw.below : Rw → List Nat
  | .all ps => ps
  | .any ps => ps
  | .pick _ lo hi => [lo, hi]
  | _ => []
def Rw.hv (f : List Bool) (acc : List Bool) : Rw → Bool
  | .yes => true
  | .no => false
  | .has k b => f.getD k false == b
  | .all ps => (ps.map fun p => acc.getD p false).all id
  | .any ps => (ps.map fun p => acc.getD p false).any id
  | .pick k lo hi => if f.getD k false then acc.getD hi false else acc.getD lo false
def hvW (f : List Bool) (w : Wb) : List Bool := scan (Rw.hv f) [] w
/-- whether row i holds -/
def hvAt (f : List Bool) (w : Wb) (i : Nat) : Bool := (hvW f w).getD i false
def Rw.ks : Rw → List Int
  | .has k _ => [(k : Int)]
  | .pick k _ _ => [(k : Int)]
  | _ => []
def Rw.nm (acc : List (List Int)) (r : Rw) : List Int := usort (r.ks ++ (r.below.map fun p => acc.getD p []).flatten)
def nmW (w : Wb) : List (List Int) := scan Rw.nm [] w
def nmAt (w : Wb) (i : Nat) : List Int := (nmW w).getD i []
/-- a row, its names less than n, its rows less than i -/
def Rw.ok (n i : Nat) : Rw → Prop
  | .yes => True
  | .no => True
  | .has k _ => k < n
  | .all ps => (2 ≤ ps.length ∧ ps.length ≤ 32) ∧ ps.Pairwise (· < ·) ∧ ∀ p ∈ ps, p < i
  | .any ps => (2 ≤ ps.length ∧ ps.length ≤ 32) ∧ ps.Pairwise (· < ·) ∧ ∀ p ∈ ps, p < i
  | .pick k lo hi => k < n ∧ lo < i ∧ hi < i
def WbOk (n : Nat) (w : Wb) : Prop := ∀ (i : Nat) (r : Rw), w[i]? = some r → r.ok n i
/-- what a row of a form must be -/
def Rw.fm (w : Wb) : Rw → Prop
  | .all ps => ps.Pairwise fun p q => ∀ k, k ∈ nmAt w p → k ∉ nmAt w q
  | .any ps => ps.Pairwise fun p q => ∀ f, ¬ (hvAt f w p = true ∧ hvAt f w q = true)
  | .pick k lo hi => (k : Int) ∉ nmAt w lo ∧ (k : Int) ∉ nmAt w hi
  | _ => True
def WbFm (w : Wb) : Prop := ∀ (i : Nat) (r : Rw), w[i]? = some r → r.fm w
theorem Rw.ok.mono {n m i j : Nat} {r : Rw} (h : r.ok n i) (hn : n ≤ m) (hi : i ≤ j) : r.ok m j := by
  cases r with
  | yes => trivial
  | no => trivial
  | has k b => exact Nat.lt_of_lt_of_le h hn
  | all ps => exact ⟨h.1, h.2.1, fun p hp => Nat.lt_of_lt_of_le (h.2.2 p hp) hi⟩
  | any ps => exact ⟨h.1, h.2.1, fun p hp => Nat.lt_of_lt_of_le (h.2.2 p hp) hi⟩
  | pick k lo hi' => exact ⟨Nat.lt_of_lt_of_le h.1 hn, Nat.lt_of_lt_of_le h.2.1 hi, Nat.lt_of_lt_of_le h.2.2 hi⟩
theorem Rw.ok.below {n i : Nat} {r : Rw} (h : r.ok n i) : ∀ p ∈ r.below, p < i := by
  cases r with
  | all ps => exact h.2.2
  | any ps => exact h.2.2
  | pick k lo hi =>
    intro p hp
    simp only [Rw.below, List.mem_cons, List.not_mem_nil, or_false] at hp
    rcases hp with rfl | rfl
    · exact h.2.1
    · exact h.2.2
  | _ => intro p hp; cases hp
theorem hvAt_app {f : List Bool} {a b : Wb} {i : Nat} (h : i < a.length) : hvAt f (a ++ b) i = hvAt f a i := by
  unfold hvAt hvW
  rw [scan_app]
  exact pre_get (scan_pre _ _) (by rw [scan_len]; simpa using h) _
theorem nmAt_app {a b : Wb} {i : Nat} (h : i < a.length) : nmAt (a ++ b) i = nmAt a i := by
  unfold nmAt nmW
  rw [scan_app]
  exact pre_get (scan_pre _ _) (by rw [scan_len]; simpa using h) _
theorem nm_cong {a b : List (List Int)} {r : Rw} (h : ∀ p ∈ r.below, a.getD p [] = b.getD p []) : r.nm a = r.nm b := by
  unfold Rw.nm
  rw [List.map_congr_left (g := fun p => b.getD p []) h]
theorem nmAt_row {n : Nat} {w : Wb} {i : Nat} {r : Rw} (o : WbOk n w) (h : w[i]? = some r) : nmAt w i = r.nm (nmW w) := by
  unfold nmAt
  have hi := (List.getElem?_eq_some_iff.mp h).1
  show (scan Rw.nm [] w).getD i [] = _
  rw [scan_at h]
  refine nm_cong fun p hp => ?_
  exact scan_take ((o i r h).below p hp) (by omega) _
theorem WbOk.nil {n : Nat} : WbOk n [] := fun i r h => by simp at h
theorem WbOk.snoc {n : Nat} {w : Wb} {r : Rw} (h : WbOk n w) (hr : r.ok n w.length) : WbOk n (w ++ [r]) := fun i q e => by
  by_cases hi : i < w.length
  · rw [List.getElem?_append_left hi] at e; exact h i q e
  · have hl := (List.getElem?_eq_some_iff.mp e).1
    simp at hl
    have : i = w.length := by omega
    subst this
    simp at e
    subst e; exact hr
theorem WbOk.pre {n : Nat} {a b : Wb} (h : WbOk n b) (p : a <+: b) : WbOk n a := fun i r e => by
  obtain ⟨t, rfl⟩ := p
  exact h i r (by rw [List.getElem?_append_left (List.getElem?_eq_some_iff.mp e).1]; exact e)
theorem pw_iff {α : Type} {P Q : α → α → Prop} : ∀ {l : List α}, (∀ a b, a ∈ l → b ∈ l → (P a b ↔ Q a b)) → (l.Pairwise P ↔ l.Pairwise Q)
  | [], _ => by simp
  | x :: l, h => by
    rw [List.pairwise_cons, List.pairwise_cons, pw_iff (l := l) fun a b ha hb => h a b (List.mem_cons_of_mem _ ha) (List.mem_cons_of_mem _ hb)]
    refine and_congr_left fun _ => forall_congr' fun y => ?_
    exact ⟨fun z hy => (h x y List.mem_cons_self (List.mem_cons_of_mem _ hy)).mp (z hy), fun z hy => (h x y List.mem_cons_self (List.mem_cons_of_mem _ hy)).mpr (z hy)⟩
theorem Rw.fm_app {n : Nat} {a b : Wb} {r : Rw} (o : r.ok n a.length) : r.fm (a ++ b) ↔ r.fm a := by
  have hb := o.below
  cases r with
  | all ps =>
    refine pw_iff ?_
    intro p q hp hq
    rw [nmAt_app (hb p hp), nmAt_app (hb q hq)]
  | any ps =>
    refine pw_iff ?_
    intro p q hp hq
    simp only [hvAt_app (hb p hp), hvAt_app (hb q hq)]
  | pick k lo hi =>
    simp only [Rw.fm]
    rw [nmAt_app (hb lo (by simp [Rw.below])), nmAt_app (hb hi (by simp [Rw.below]))]
  | _ => exact Iff.rfl
theorem WbFm.snoc {n : Nat} {w : Wb} {r : Rw} (o : WbOk n w) (hf : WbFm w) (hr : r.ok n w.length) (hrf : r.fm w) : WbFm (w ++ [r]) := fun i q e => by
  by_cases hi : i < w.length
  · rw [List.getElem?_append_left hi] at e
    exact (Rw.fm_app ((o i q e).mono (Nat.le_refl _) (Nat.le_of_lt hi))).mpr (hf i q e)
  · have hl := (List.getElem?_eq_some_iff.mp e).1
    simp at hl
    have : i = w.length := by omega
    subst this
    simp at e
    subst e
    exact (Rw.fm_app hr).mpr hrf
theorem WbFm.nil : WbFm [] := fun i r h => by simp at h
theorem WbFm.pre {n : Nat} {a b : Wb} (o : WbOk n b) (h : WbFm b) (p : a <+: b) : WbFm a := fun i r e => by
  obtain ⟨t, rfl⟩ := p
  have hi := (List.getElem?_eq_some_iff.mp e).1
  have e2 : (a ++ t)[i]? = some r := by rw [List.getElem?_append_left hi]; exact e
  exact (Rw.fm_app ((o i r e2).mono (Nat.le_refl _) (Nat.le_of_lt hi))).mp (h i r e2)
set_option maxHeartbeats 1000000
theorem wh_inv {k : Nat} {c : TT'} {b : TS'} {E : Ends'} (I : Nat → DS → Mem → Prop)
    (step : ∀ m δ M (nx : DS → Mem → Prop), I m δ M → (∀ m' δ' M', m' < m → I m' (gcS k δ') (M'.take k) → nx δ' M') → c δ M fun t M' => if t then b ⟨nx, E.rt, E.nx, nx⟩ δ M' else E.nx δ M') {m : Nat} {δ : DS} {M : Mem} (h : I m δ M) : ∃ n, whL k c b E n δ M := by
  have go : ∀ n m δ M, m < n → I m δ M → whL k c b E n δ M := by
    intro n
    induction n with
    | zero => intro m δ M h; omega
    | succ n ih =>
      intro m δ M h hI
      exact step m δ M _ hI fun m' δ' M' h' hI' => ih m' _ _ (by omega) hI'
  exact ⟨m + 1, go _ m δ M (by omega) h⟩
theorem mpopAt {R : QD} {M : Mem} {n : Nat} {i : Int} : mPopAt (.ref n) [.d (.int i)] M R = ok (cellL M[n]?) fun ds => ok (ixN ds.length i) fun k => ok ds[k]? fun y => R (.d y) (M.set n (.lst (ds.eraseIdx k))) := rfl
theorem ixN_nat {n k : Nat} (h : k < n) : ixN n (k : Int) = some k := by
  unfold ixN
  rw [if_pos (by omega), if_pos (by omega)]
  simp
theorem rcv_2 {c d : Cell} {M : Mem} {a : List D} : rcv (c :: d :: .lst a :: M) (.ref 2) = some "list" := rfl
theorem rcv_3 {c d e : Cell} {M : Mem} {a : List D} : rcv (c :: d :: e :: .lst a :: M) (.ref 3) = some "list" := rfl
theorem rcv_b {M : Mem} {a : List D} : rcv M (.bor a) = some "list" := rfl
theorem lst_ref {M : Mem} {n : Nat} : lstD M (.ref n) = cellL M[n]? := rfl
theorem len_refI {M : Mem} {n : Nat} : lenD M [.ref n] = (lenOf M (.ref n)).map intS := rfl
theorem lenOf_ref {M : Mem} {n : Nat} : lenOf M (.ref n) = (match M[n]? with
    | some (.lst ds) => some (ds.length : Int)
    | some (.dk kvs) => some (kvs.length : Int)
    | _ => none) := rfl
theorem list_b {M : Mem} {a : List D} : listF M [.bor a] = some a := rfl
theorem list_r {M : Mem} {n : Nat} : listF M [.ref n] = cellL M[n]? := rfl
theorem laid_l {M : Mem} {a : List D} : laidD M (.d (.lst a)) = some a := rfl
theorem laid_b {M : Mem} {a : List D} : laidD M (.bor a) = some a := rfl
theorem laid_r {M : Mem} {n : Nat} : laidD M (.ref n) = cellL M[n]? := rfl
/-- data that == may look at, one level within a list -/
structure EqOk (d : D) : Prop where
  no : noR d = true
  la : (py d).canLay0 = true
  de : (py d).depth ≤ 60
theorem EqOk.all : ∀ {ds : List D}, (∀ d ∈ ds, EqOk d) → noRs ds = true ∧ PyData.canLayAll0 (pys ds) = true ∧ PyData.depthAll (pys ds) ≤ 60
  | [], _ => ⟨rfl, rfl, Nat.zero_le _⟩
  | d :: ds, h => by
    obtain ⟨h1, h2, h3⟩ := EqOk.all (ds := ds) fun x hx => h x (List.mem_cons_of_mem _ hx)
    have h0 := h d List.mem_cons_self
    refine ⟨?_, ?_, ?_⟩
    · simp only [noRs, h0.no, h1]; rfl
    · simp only [pys, PyData.canLayAll0, h0.la, h2]; rfl
    · simp only [pys, PyData.depthAll]; have := h0.de; omega
theorem EqOk.lst {ds : List D} (h : ∀ d ∈ ds, EqOk d) : VL.okE (.lst ds) = true := by
  obtain ⟨h1, h2, h3⟩ := EqOk.all h
  unfold VL.okE SeqAt.shaped
  simp only [noR, py, PyData.canLay0, PyData.depth, h1, h2]
  rw [decide_eq_true (show PyData.depthAll (pys ds) + 1 ≤ 64 by omega)]
  rfl
theorem EqOk.int {i : Int} : EqOk (.int i) := ⟨rfl, rfl, Nat.zero_le _⟩
theorem EqOk.non : EqOk .non := ⟨rfl, rfl, Nat.zero_le _⟩
theorem EqOk.bl {b : Bool} : EqOk (.bl b) := ⟨rfl, rfl, Nat.zero_le _⟩
theorem eq_s {M : Mem} {x y : Sv} {a b : List D} (h1 : rsv M x = .lst a) (h2 : rsv M y = .lst b) (hx : ∀ d, x = .d d → d = .lst a) (ha : VL.okE (.lst a) = true) (hb : VL.okE (.lst b) = true) : eqD M x y = some (.d (.bl (eqvDs a b))) := by
  have g : gd (VL.okE (rsv M x) = true ∧ VL.okE (rsv M y) = true) (Sv.d (.bl (eqvD (rsv M x) (rsv M y)))) = some (.d (.bl (eqvDs a b))) := by
    rw [gd_pos ⟨by rw [h1]; exact ha, by rw [h2]; exact hb⟩, h1, h2]; rfl
  cases x with
  | d d => cases hx d rfl; exact g
  | ref n => exact g
  | bor n => exact g
theorem ne_s {M : Mem} {x y : Sv} {a b : List D} (h1 : rsv M x = .lst a) (h2 : rsv M y = .lst b) (hx : ∀ d, x = .d d → d = .lst a) (ha : VL.okE (.lst a) = true) (hb : VL.okE (.lst b) = true) : neD M x y = some (.d (.bl (!eqvDs a b))) := by
  unfold neD
  rw [eq_s h1 h2 hx ha hb]; rfl
theorem rsv_r {M : Mem} {n : Nat} {a : List D} (h : M[n]? = some (.lst a)) : rsv M (.ref n) = .lst a := by simp [rsv, h, cellL]
theorem ne_rl {M : Mem} {n : Nat} {a b : List D} (hn : M[n]? = some (.lst a)) (ha : VL.okE (.lst a) = true) (hb : VL.okE (.lst b) = true) : neD M (.ref n) (.d (.lst b)) = some (.d (.bl (!eqvDs a b))) := ne_s (rsv_r hn) rfl (fun _ h => by cases h) ha hb
theorem eqv_nil {a : List D} : eqvDs a [] = a.isEmpty := by cases a <;> rfl
theorem okE_nil : VL.okE (.lst []) = true := EqOk.lst fun _ h => by cases h
/-- a list, lent or data -/
def LV (s : Sv) (xs : List D) : Prop := s = .d (.lst xs) ∨ s = .bor xs
def sp_mixed : SpD := fun as M Q => ∃ (ds : List D) (b : Nat) (s : Sv) (xs : List D), as = [.ref 0, s] ∧ LV s xs ∧ M = [.lst ds] ∧ Tp b ds ∧ xs.length ≤ 9999 ∧ b + xs.length < 1099511627776 ∧ (∀ x ∈ xs, EqOk x) ∧
  ∀ (ys ds' : List D), ys.Perm xs → Tp (b + xs.length) ds' → Q (.new ys) [.lst ds']
def r_mixed (sp__law_take : SpD) : TS' :=
  (sSeq (sPar 2 3 (aCons (eNw (fP (plN listF [(pV 1)]))) (aCons (eNw (fP (plLst []))) (aP []))))
  (sSeq (sWh (cP (bB (po2 neD (pV 2) (pFz (plLst [])))))
  (sDrop (eMt "list" mApp (eP (pV 3)) (aCons (eMt "list" mPopAt (eP (pV 2)) (aCons (eCall [true, false] sp__law_take (aP [(pV 0), (poN lenD [(pV 2)])])) (aP []))) (aP [])))))
  (sRet (eP (pV 3)))))
local macro_rules
  | `(tactic| simp only [VLT]) => `(tactic| simp only [sSeq, sIf, sSet, sSub, sRet, sRetN, sNil, sDrop, sAsg, sPar, sParT, sAug, cP, bB, bTr, bNt, bAn, bOr, po1, po2, poN, pArgs, poIf, poAn, poOr, poNt, poTup, plLst, plN, pl2, pl1, pFz, pV, pC, eP, eo1, eo2, eoN, aP, aNil, aCons, eAn, eOr, eNt, eIf, eFz, eNw, fP, fN, f2, f1, tTupE, tLstF, tTr, tTb, tAn, tOrr, tNt, tYs, eSeal, eMt, poMt, mPure, eCh, pCh, ok_bind, ok_map, ok_some, ok_none, ok_gd, ok_ite, List.getElem?_cons_zero, List.getElem?_cons_succ, List.set_cons_zero, List.set_cons_succ, Option.join_some, Option.bind_some, Option.map_some, Option.bind_none, Option.map_none, ix_ref, ix_tup, ix_lst, ix_bor, ix_scr, add_int, add_str, add_tup, sub_int, mul_int, fdiv_int, mod_int, pow_int, neg_int, lt_int, le_int, gt_int, ge_int, eq_int, eq_str, eq_bl, ne_int, ne_str, ne_bl, is_bl, isnt_bl, is_non, isnt_non, len_tup, len_lst, len_ref, len_bor, len_scr, int_bl, int_int, abs_int, min_int, max_int, blD_bl, cell_lst, cellA_lst, cellA_dk, st_ref, at_0, at_1, at_2, at_3, at_4, ixN_10, ixN_20, ixN_21, ixN_30, ixN_31, ixN_32, dataS_d, datas_nil, datas_cons, truth_bl, notD, intS, blS, nonB, List.length_cons, List.length_nil, Nat.reduceAdd, endsF_rt, endsF_nx, rvQ_d, rvQ_new, rvQ_newK, rv_d, rv_ref, rv_cl, rv_ck, okRef_d, okRef_ref, List.not_mem_nil, List.nil_append, true_and, and_true, List.take_succ_cons, List.take_zero, Nat.zero_add, decide_eq_true_eq, Bool.false_eq_true, if_false, if_true, callS, handS_n, handS_tr, handS_fr, handS_fd, handS_fb, cellsAt_c, cellsAt_0, Option.getD_some, backS_0, backS_1, eCall, tup_lst, tup_tup, tup_ref, fLc, iRg, rng_1, rng_2, wipeS_c, wipeS_n, iPq, iSq, seq_tup, seq_lst, seq_bor, lst_lst, lst_bor, gdS_d, gdS_b, sFor, gNm, gcS_c, gcS_n, gcO_d, gcO_n, mapp, rcv_0, rcv_1, rcv_l, gcO_r0, gcO_r1, gcO_z, seal_d, eq_self, List.take_nil, List.cons_append, poSl, poI, poNo, slD_t, intO_i, list_t, list_l, in_str2, ofS_inj, String.reduceEq, or_false, false_or, or_true, true_or, or_self, decide_true, decide_false, Bool.not_true, Bool.not_false, at_m1_2, at_m1_3, cut_2, cut_3, all_bls, any_bls, count_bls])
  | `(tactic| simp only [VLT, $xs,*]) => `(tactic| simp only [sSeq, sIf, sSet, sSub, sRet, sRetN, sNil, sDrop, sAsg, sPar, sParT, sAug, cP, bB, bTr, bNt, bAn, bOr, po1, po2, poN, pArgs, poIf, poAn, poOr, poNt, poTup, plLst, plN, pl2, pl1, pFz, pV, pC, eP, eo1, eo2, eoN, aP, aNil, aCons, eAn, eOr, eNt, eIf, eFz, eNw, fP, fN, f2, f1, tTupE, tLstF, tTr, tTb, tAn, tOrr, tNt, tYs, eSeal, eMt, poMt, mPure, eCh, pCh, ok_bind, ok_map, ok_some, ok_none, ok_gd, ok_ite, List.getElem?_cons_zero, List.getElem?_cons_succ, List.set_cons_zero, List.set_cons_succ, Option.join_some, Option.bind_some, Option.map_some, Option.bind_none, Option.map_none, ix_ref, ix_tup, ix_lst, ix_bor, ix_scr, add_int, add_str, add_tup, sub_int, mul_int, fdiv_int, mod_int, pow_int, neg_int, lt_int, le_int, gt_int, ge_int, eq_int, eq_str, eq_bl, ne_int, ne_str, ne_bl, is_bl, isnt_bl, is_non, isnt_non, len_tup, len_lst, len_ref, len_bor, len_scr, int_bl, int_int, abs_int, min_int, max_int, blD_bl, cell_lst, cellA_lst, cellA_dk, st_ref, at_0, at_1, at_2, at_3, at_4, ixN_10, ixN_20, ixN_21, ixN_30, ixN_31, ixN_32, dataS_d, datas_nil, datas_cons, truth_bl, notD, intS, blS, nonB, List.length_cons, List.length_nil, Nat.reduceAdd, endsF_rt, endsF_nx, rvQ_d, rvQ_new, rvQ_newK, rv_d, rv_ref, rv_cl, rv_ck, okRef_d, okRef_ref, List.not_mem_nil, List.nil_append, true_and, and_true, List.take_succ_cons, List.take_zero, Nat.zero_add, decide_eq_true_eq, Bool.false_eq_true, if_false, if_true, callS, handS_n, handS_tr, handS_fr, handS_fd, handS_fb, cellsAt_c, cellsAt_0, Option.getD_some, backS_0, backS_1, eCall, tup_lst, tup_tup, tup_ref, fLc, iRg, rng_1, rng_2, wipeS_c, wipeS_n, iPq, iSq, seq_tup, seq_lst, seq_bor, lst_lst, lst_bor, gdS_d, gdS_b, sFor, gNm, gcS_c, gcS_n, gcO_d, gcO_n, mapp, rcv_0, rcv_1, rcv_l, gcO_r0, gcO_r1, gcO_z, seal_d, eq_self, List.take_nil, List.cons_append, poSl, poI, poNo, slD_t, intO_i, list_t, list_l, in_str2, ofS_inj, String.reduceEq, or_false, false_or, or_true, true_or, or_self, decide_true, decide_false, Bool.not_true, Bool.not_false, at_m1_2, at_m1_3, cut_2, cut_3, all_bls, any_bls, count_bls, $xs,*])
theorem pure_mixed (as : List Sv) (M : Mem) (Q : Rv → Mem → Prop) (h : sp_mixed as M Q) : r_mixed sp_take (endsF M.length Q) (startD 4 as) M := by
  obtain ⟨ds, b, s, xs, rfl, hs, rfl, ht, hl, hb, hx, z⟩ := h
  have go : ∀ s, LV s xs → r_mixed sp_take (endsF 1 Q) [some (.ref 0), some s, none, none] [.lst ds] := by
    intro s hs
    rcases hs with rfl | rfl <;>
    · simp only [r_mixed, sSeq]
      simp only [VLT, list_b]
      refine wh_inv (fun m δ M => ∃ left found dt, m = left.length ∧ δ = [some (.ref 0), some _, some (.ref 1), some (.ref 2)] ∧ M = [.lst dt, .lst left, .lst found] ∧ (left ++ found).Perm xs ∧ Tp (b + found.length) dt) ?_ ⟨xs, [], ds, rfl, rfl, rfl, by simp, ht⟩
      rintro m δ M nx ⟨left, found, dt, rfl, rfl, rfl, hp, t1⟩ k
      have hlen := hp.length_eq
      rw [List.length_append] at hlen
      have ok1 : VL.okE (.lst left) = true := EqOk.lst fun d hd => hx d (hp.mem_iff.mp (by simp [hd]))
      have e1 := ne_rl (M := [.lst dt, .lst left, .lst found]) (n := 1) (a := left) (b := []) rfl ok1 okE_nil
      simp only [VLT, e1, eqv_nil]
      cases hl0 : left with
      | nil =>
        subst hl0
        simp only [VLT, List.isEmpty_nil]
        refine ⟨by decide, ?_⟩
        refine z found dt (by simpa using hp) ?_
        have : found.length = xs.length := by simpa using hlen
        rw [← this]; exact t1
      | cons l0 lr =>
        have hpos : 0 < left.length := by rw [hl0]; simp
        rw [← hl0]
        have he : left.isEmpty = false := by rw [hl0]; rfl
        simp only [VLT, he, lenOf_ref, len_refI, intS, rcv_2]
        refine take_ok t1 (by omega) (by omega) (by omega) fun v dt1 v0 v1 t2 => ?_
        obtain ⟨v, rfl⟩ := Int.eq_ofNat_of_zero_le v0
        have hv : v < left.length := by omega
        simp only [VLT, mpopAt, ixN_nat hv, List.getElem?_eq_getElem hv]
        refine ⟨by rw [sizeLine_eq]; omega, ?_⟩
        refine k (left.length - 1) _ _ (by omega) ⟨left.eraseIdx v, found ++ [left[v]], dt1, by rw [List.length_eraseIdx_of_lt hv], rfl, by simp only [VLT], ?_, t2.mono (by simp; omega)⟩
        refine List.Perm.trans ?_ hp
        have p1 : (left[v] :: left.eraseIdx v).Perm left := by
          have e : left = left.take v ++ (left[v] :: left.drop (v + 1)) := by rw [List.getElem_cons_drop, List.take_append_drop]
          rw [List.eraseIdx_eq_take_drop_succ]
          conv => rhs; rw [e]
          exact List.perm_middle.symm
        calc (left.eraseIdx v ++ (found ++ [left[v]])).Perm ((found ++ [left[v]]) ++ left.eraseIdx v) := List.perm_append_comm
          _ = found ++ (left[v] :: left.eraseIdx v) := by simp
          List.Perm _ (found ++ left) := p1.append_left found
          List.Perm _ (left ++ found) := List.perm_append_comm
  exact go s hs
set_option maxHeartbeats 1000000
structure EqK (k : Nat) (d : D) : Prop where
  no : noR d = true
  la : (py d).canLay0 = true
  de : (py d).depth ≤ k
theorem EqK.ok {k : Nat} {d : D} (h : EqK k d) (hk : k ≤ 60) : EqOk d := ⟨h.no, h.la, Nat.le_trans h.de hk⟩
theorem EqK.mono {k j : Nat} {d : D} (h : EqK k d) (hk : k ≤ j) : EqK j d := ⟨h.no, h.la, Nat.le_trans h.de hk⟩
theorem EqK.int {i : Int} : EqK 0 (.int i) := ⟨rfl, rfl, Nat.le_refl _⟩
theorem EqK.bl {i : Bool} : EqK 0 (.bl i) := ⟨rfl, rfl, Nat.le_refl _⟩
theorem EqK.non : EqK 0 .non := ⟨rfl, rfl, Nat.le_refl _⟩
theorem EqK.bit {b : Bool} : EqK 0 (bitD b) := EqK.int
theorem EqK.str {s : Str} (h : PyData.canLay0 (.str s) = true) : EqK 0 (.str s) := ⟨rfl, h, Nat.le_refl _⟩
theorem EqK.alls {k : Nat} : ∀ {ds : List D}, (∀ d ∈ ds, EqK k d) → noRs ds = true ∧ PyData.canLayAll0 (pys ds) = true ∧ PyData.depthAll (pys ds) ≤ k
  | [], _ => ⟨rfl, rfl, Nat.zero_le _⟩
  | d :: ds, h => by
    obtain ⟨h1, h2, h3⟩ := EqK.alls (ds := ds) fun x hx => h x (List.mem_cons_of_mem _ hx)
    have h0 := h d List.mem_cons_self
    refine ⟨?_, ?_, ?_⟩
    · simp only [noRs, h0.no, h1]; rfl
    · simp only [pys, PyData.canLayAll0, h0.la, h2]; rfl
    · simp only [pys, PyData.depthAll]; have := h0.de; omega
theorem EqK.tup {k : Nat} {ds : List D} (h : ∀ d ∈ ds, EqK k d) : EqK (k + 1) (.tup ds) := by
  obtain ⟨h1, h2, h3⟩ := EqK.alls h
  exact ⟨h1, h2, by simp only [py, PyData.depth]; omega⟩
theorem EqK.lst {k : Nat} {ds : List D} (h : ∀ d ∈ ds, EqK k d) : EqK (k + 1) (.lst ds) := by
  obtain ⟨h1, h2, h3⟩ := EqK.alls h
  exact ⟨h1, h2, by simp only [py, PyData.depth]; omega⟩
theorem EqK.t2 {k : Nat} {a b : D} (ha : EqK k a) (hb : EqK k b) : EqK (k + 1) (.tup [a, b]) := EqK.tup fun d hd => by
  simp only [List.mem_cons, List.not_mem_nil, or_false] at hd
  rcases hd with rfl | rfl <;> assumption
set_option maxHeartbeats 1000000
theorem for_ix {k : Nat} {g : TG'} {b : TS'} {E : Ends'} {gd : Mem → Prop} : ∀ (ds : List D) (I : Nat → DS → Mem → Prop) (fin : ∀ δ M, I ds.length δ M → gd M ∧ E.nx δ M)
    (step : ∀ j d δ M (nx : DS → Mem → Prop), ds[j]? = some d → I j δ M → (∀ δ' M', I (j + 1) (gcS k δ') (M'.take k) → nx δ' M') → gd M ∧ g d δ M fun δ1 M1 => b ⟨nx, E.rt, E.nx, nx⟩ δ1 M1) (δ : DS) (M : Mem), I 0 δ M → forL k g b E gd ds δ M
  | [], I, fin, step, δ, M, h => fin δ M h
  | d :: ds, I, fin, step, δ, M, h => step 0 d δ M _ rfl h fun δ' M' h' => for_ix ds (fun j => I (j + 1)) (fun δ M h => fin δ M h) (fun j d' δ M nx e hI k => step (j + 1) d' δ M nx (by simpa using e) hI k) _ _ h'
theorem lc_ix {g : TG'} {tt : TT'} {te : TE'} {δw : DS} {gd : Mem → Prop} {Q : List D → Mem → Prop} : ∀ (ds : List D) (I : Nat → List D → Mem → Prop) (fin : ∀ acc M, I ds.length acc M → gd M ∧ Q acc M)
    (step : ∀ j d acc M (nx : List D → Mem → Prop), ds[j]? = some d → I j acc M → (∀ acc' M', I (j + 1) acc' M' → nx acc' M') → gd M ∧ g d δw M fun δ2 M2 => tt δ2 M2 fun b M3 => if b then te δ2 M3 fun s M4 => ok (dataS s) fun y => nx (acc ++ [y]) M4 else nx acc M3) (acc : List D) (M : Mem), I 0 acc M → lcL g tt te δw gd Q ds acc M
  | [], I, fin, step, acc, M, h => fin acc M h
  | d :: ds, I, fin, step, acc, M, h => step 0 d acc M _ rfl h fun acc' M' h' => lc_ix ds (fun j => I (j + 1)) (fun acc M h => fin acc M h) (fun j d' acc M nx e hI k => step (j + 1) d' acc M nx (by simpa using e) hI k) _ _ h'
theorem rg_at {lo : Int} {n j : Nat} {d : D} (h : (rgL lo n)[j]? = some d) : j < n ∧ d = .int (lo + (j : Nat)) := by
  unfold rgL at h
  rw [List.getElem?_map, Option.map_eq_some_iff] at h
  obtain ⟨i, hi, rfl⟩ := h
  obtain ⟨hl, e⟩ := List.getElem?_eq_some_iff.mp hi
  simp only [List.length_range] at hl
  simp only [List.getElem_range] at e
  subst e
  exact ⟨hl, rfl⟩
theorem lcg_nm {i : Nat} : (LcG.nm i).to = gNm i := rfl
theorem lcg_tp {is : List Nat} : (LcG.tp is).to = gTp is := rfl
theorem slF_l {M : Mem} {a : List D} {lo hi : Option Int} : slF M (.d (.lst a)) lo hi = some (cutD a lo hi) := rfl
theorem slF_b {M : Mem} {a : List D} {lo hi : Option Int} : slF M (.bor a) lo hi = some (cutD a lo hi) := rfl
theorem slF_r {M : Mem} {n : Nat} {lo hi : Option Int} : slF M (.ref n) lo hi = (cellL M[n]?).map fun ds => cutD ds lo hi := rfl
theorem cut_from {ds : List D} {k : Nat} : cutD ds (some (k : Int)) none = ds.drop k := by
  unfold cutD
  rw [HT.sIx_none, HT.sIx_nat]
  by_cases h : k ≤ ds.length
  · rw [Nat.min_eq_left h, List.take_of_length_le (by simp)]
  · rw [Nat.min_eq_right (by omega), List.take_of_length_le (by simp), List.drop_of_length_le (Nat.le_refl _), List.drop_of_length_le (by omega)]
theorem nats_D {ps : List Nat} : (ps.map Int.ofNat).map D.int = ps.map nD := by rw [List.map_map]; rfl
theorem intsOf_nats {ps : List Nat} : intsOf (ps.map nD) = some (ps.map Int.ofNat) := by rw [← nats_D, intsOf_map]
local macro_rules
  | `(tactic| simp only [VLU]) => `(tactic| simp only [sSeq, sIf, sSet, sSub, sRet, sRetN, sNil, sDrop, sAsg, sPar, sParT, sAug, cP, bB, bTr, bNt, bAn, bOr, po1, po2, poN, pArgs, poIf, poAn, poOr, poNt, poTup, plLst, plN, pl2, pl1, pFz, pV, pC, eP, eo1, eo2, eoN, aP, aNil, aCons, eAn, eOr, eNt, eIf, eFz, eNw, fP, fN, f2, f1, tTupE, tLstF, tTr, tTb, tAn, tOrr, tNt, tYs, eSeal, eMt, poMt, mPure, eCh, pCh, ok_bind, ok_map, ok_some, ok_none, ok_gd, ok_ite, List.getElem?_cons_zero, List.getElem?_cons_succ, List.set_cons_zero, List.set_cons_succ, Option.join_some, Option.bind_some, Option.map_some, Option.bind_none, Option.map_none, ix_ref, ix_tup, ix_lst, ix_bor, ix_scr, add_int, add_str, add_tup, sub_int, mul_int, fdiv_int, mod_int, pow_int, neg_int, lt_int, le_int, gt_int, ge_int, eq_int, eq_str, eq_bl, ne_int, ne_str, ne_bl, is_bl, isnt_bl, is_non, isnt_non, len_tup, len_lst, len_ref, len_bor, len_scr, int_bl, int_int, abs_int, min_int, max_int, blD_bl, cell_lst, cellA_lst, cellA_dk, st_ref, at_0, at_1, at_2, at_3, at_4, ixN_10, ixN_20, ixN_21, ixN_30, ixN_31, ixN_32, dataS_d, datas_nil, datas_cons, truth_bl, notD, intS, blS, nonB, List.length_cons, List.length_nil, Nat.reduceAdd, endsF_rt, endsF_nx, rvQ_d, rvQ_new, rvQ_newK, rv_d, rv_ref, rv_cl, rv_ck, okRef_d, okRef_ref, List.not_mem_nil, List.nil_append, true_and, and_true, List.take_succ_cons, List.take_zero, Nat.zero_add, decide_eq_true_eq, Bool.false_eq_true, if_false, if_true, callS, handS_n, handS_tr, handS_fr, handS_fd, handS_fb, cellsAt_c, cellsAt_0, Option.getD_some, backS_0, backS_1, eCall, tup_lst, tup_tup, tup_ref, fLc, iRg, rng_1, rng_2, wipeS_c, wipeS_n, iPq, iSq, seq_tup, seq_lst, seq_bor, lst_lst, lst_bor, gdS_d, gdS_b, sFor, gNm, gcS_c, gcS_n, gcO_d, gcO_n, mapp, rcv_0, rcv_1, rcv_l, gcO_r0, gcO_r1, gcO_z, seal_d, eq_self, List.take_nil, List.cons_append, poSl, poI, poNo, slD_t, intO_i, list_t, list_l, in_str2, ofS_inj, String.reduceEq, or_false, false_or, or_true, true_or, or_self, decide_true, decide_false, Bool.not_true, Bool.not_false, at_m1_2, at_m1_3, cut_2, cut_3, all_bls, any_bls, count_bls, lcg_nm, lcg_tp, lst_ref, laid_l, laid_b, laid_r, list_b, list_r, len_refI, lenOf_ref, rcv_2, rcv_3, rcv_b, slF_l, slF_b, slF_r, cat_l, repr_d, plSl])
  | `(tactic| simp only [VLU, $xs,*]) => `(tactic| simp only [sSeq, sIf, sSet, sSub, sRet, sRetN, sNil, sDrop, sAsg, sPar, sParT, sAug, cP, bB, bTr, bNt, bAn, bOr, po1, po2, poN, pArgs, poIf, poAn, poOr, poNt, poTup, plLst, plN, pl2, pl1, pFz, pV, pC, eP, eo1, eo2, eoN, aP, aNil, aCons, eAn, eOr, eNt, eIf, eFz, eNw, fP, fN, f2, f1, tTupE, tLstF, tTr, tTb, tAn, tOrr, tNt, tYs, eSeal, eMt, poMt, mPure, eCh, pCh, ok_bind, ok_map, ok_some, ok_none, ok_gd, ok_ite, List.getElem?_cons_zero, List.getElem?_cons_succ, List.set_cons_zero, List.set_cons_succ, Option.join_some, Option.bind_some, Option.map_some, Option.bind_none, Option.map_none, ix_ref, ix_tup, ix_lst, ix_bor, ix_scr, add_int, add_str, add_tup, sub_int, mul_int, fdiv_int, mod_int, pow_int, neg_int, lt_int, le_int, gt_int, ge_int, eq_int, eq_str, eq_bl, ne_int, ne_str, ne_bl, is_bl, isnt_bl, is_non, isnt_non, len_tup, len_lst, len_ref, len_bor, len_scr, int_bl, int_int, abs_int, min_int, max_int, blD_bl, cell_lst, cellA_lst, cellA_dk, st_ref, at_0, at_1, at_2, at_3, at_4, ixN_10, ixN_20, ixN_21, ixN_30, ixN_31, ixN_32, dataS_d, datas_nil, datas_cons, truth_bl, notD, intS, blS, nonB, List.length_cons, List.length_nil, Nat.reduceAdd, endsF_rt, endsF_nx, rvQ_d, rvQ_new, rvQ_newK, rv_d, rv_ref, rv_cl, rv_ck, okRef_d, okRef_ref, List.not_mem_nil, List.nil_append, true_and, and_true, List.take_succ_cons, List.take_zero, Nat.zero_add, decide_eq_true_eq, Bool.false_eq_true, if_false, if_true, callS, handS_n, handS_tr, handS_fr, handS_fd, handS_fb, cellsAt_c, cellsAt_0, Option.getD_some, backS_0, backS_1, eCall, tup_lst, tup_tup, tup_ref, fLc, iRg, rng_1, rng_2, wipeS_c, wipeS_n, iPq, iSq, seq_tup, seq_lst, seq_bor, lst_lst, lst_bor, gdS_d, gdS_b, sFor, gNm, gcS_c, gcS_n, gcO_d, gcO_n, mapp, rcv_0, rcv_1, rcv_l, gcO_r0, gcO_r1, gcO_z, seal_d, eq_self, List.take_nil, List.cons_append, poSl, poI, poNo, slD_t, intO_i, list_t, list_l, in_str2, ofS_inj, String.reduceEq, or_false, false_or, or_true, true_or, or_self, decide_true, decide_false, Bool.not_true, Bool.not_false, at_m1_2, at_m1_3, cut_2, cut_3, all_bls, any_bls, count_bls, lcg_nm, lcg_tp, lst_ref, laid_l, laid_b, laid_r, list_b, list_r, len_refI, lenOf_ref, rcv_2, rcv_3, rcv_b, slF_l, slF_b, slF_r, cat_l, repr_d, plSl, $xs,*])
set_option maxHeartbeats 1000000
def nsort (l : List Nat) : List Nat := (usort (l.map Int.ofNat)).map Int.toNat
theorem nsort_ofNat {l : List Nat} : (nsort l).map Int.ofNat = usort (l.map Int.ofNat) := by
  unfold nsort
  rw [List.map_map]
  conv => rhs; rw [← List.map_id (usort (l.map Int.ofNat))]
  refine List.map_congr_left fun x hx => ?_
  obtain ⟨p, _, rfl⟩ := List.mem_map.mp (usort_mem.mp hx)
  rfl
theorem nsort_D {l : List Nat} : (usort (l.map Int.ofNat)).map D.int = (nsort l).map nD := by rw [← nsort_ofNat, nats_D]
theorem nsort_mem {l : List Nat} {q : Nat} : q ∈ nsort l ↔ q ∈ l := by
  have h : (q : Int) ∈ (nsort l).map Int.ofNat ↔ (q : Int) ∈ l.map Int.ofNat := by rw [nsort_ofNat, usort_mem]
  simp only [List.mem_map] at h
  constructor
  · intro hq
    obtain ⟨p, hp, e⟩ := h.mp ⟨q, hq, rfl⟩
    have : p = q := Int.ofNat.inj e
    rw [← this]; exact hp
  · intro hq
    obtain ⟨p, hp, e⟩ := h.mpr ⟨q, hq, rfl⟩
    have : p = q := Int.ofNat.inj e
    rw [← this]; exact hp
theorem soSet_nats {M : Mem} {s : Sv} {l : List Nat} (hs : lstD M s = some (l.map nD)) (h : l.length < 64) : soSetF M s = some ((nsort l).map nD) := by
  unfold soSetF
  rw [hs]
  simp only [Option.bind_some, intsOf_nats]
  have := usort_len (l.map Int.ofNat)
  rw [List.length_map] at this
  rw [gd_pos ⟨by rw [List.length_map]; omega, by omega⟩, nsort_D]
structure PutOk (n : Nat) (w : Wb) (r : Rw) (i : Nat) (w' : Wb) : Prop where
  pre : w <+: w'
  at_ : w'[i]? = some r
  ok : WbOk n w'
  len : w'.length ≤ w.length + 1
  new : ∀ p, w.length ≤ p → p < w'.length → w'[p]? = some r
theorem PutOk.lt {n : Nat} {w w' : Wb} {r : Rw} {i : Nat} (h : PutOk n w r i w') : i < w'.length := (List.getElem?_eq_some_iff.mp h.at_).1
theorem PutOk.of {n : Nat} {w w' : Wb} {r : Rw} {i : Nat} (o : WbOk n w) (hr : r.ok n w.length) (h1 : w <+: w') (h2 : w'[i]? = some r) (h3 : w' = w ∨ w' = w ++ [r]) : PutOk n w r i w' := by
  refine ⟨h1, h2, ?_, ?_, fun p p1 p2 => ?_⟩
  · rcases h3 with rfl | rfl
    · exact o
    · exact o.snoc hr
  · rcases h3 with rfl | rfl <;> simp
  · rcases h3 with rfl | rfl
    · omega
    · have : p = w.length := by simp at p2; omega
      subst this
      simp
theorem PutOk.fm {n : Nat} {w w' : Wb} {r : Rw} {i : Nat} (o : WbOk n w) (f : WbFm w) (hr : r.ok n w.length) (hf : r.fm w) (h3 : w' = w ∨ w' = w ++ [r]) : WbFm w' := by
  rcases h3 with rfl | rfl
  · exact f
  · exact WbFm.snoc o f hr hf
theorem PutOk.nm {n : Nat} {w w' : Wb} {r : Rw} {i : Nat} (h : PutOk n w r i w') : nmAt w' i = r.nm (nmW w') := nmAt_row h.ok h.at_
set_option maxHeartbeats 2000000
theorem backS_2 {n m : Nat} {c d : Cell} {M : Mem} : backS [n, m] [c, d] M = (M.set n c).set m d := rfl
theorem one_ne : ((1 : Nat) = 0) = False := by simp
/-- how many picks and has a part brings, gone down by ands and ors -/
def Rw.bq (acc : List Nat) : Rw → Nat
  | .has _ _ => 1
  | .pick _ _ _ => 1
  | .all ps => (ps.map fun p => acc.getD p 0).sum
  | .any ps => (ps.map fun p => acc.getD p 0).sum
  | _ => 0
def bqW (w : Wb) : List Nat := scan Rw.bq [] w
def bqAt (w : Wb) (i : Nat) : Nat := (bqW w).getD i 0
theorem bqAt_app {a b : Wb} {i : Nat} (h : i < a.length) : bqAt (a ++ b) i = bqAt a i := by
  unfold bqAt bqW
  rw [scan_app]
  exact pre_get (scan_pre _ _) (by rw [scan_len]; simpa using h) _
theorem pre_bq {a b : Wb} (h : a <+: b) {i : Nat} (hi : i < a.length) : bqAt b i = bqAt a i := by
  obtain ⟨t, rfl⟩ := h
  exact bqAt_app hi
/-- how deep ands and ors lie -/
def Rw.ht (acc : List Nat) : Rw → Nat
  | .all ps => 1 + (ps.map fun p => acc.getD p 0).foldr max 0
  | .any ps => 1 + (ps.map fun p => acc.getD p 0).foldr max 0
  | _ => 0
def htW (w : Wb) : List Nat := scan Rw.ht [] w
def htAt (w : Wb) (i : Nat) : Nat := (htW w).getD i 0
theorem htAt_app {a b : Wb} {i : Nat} (h : i < a.length) : htAt (a ++ b) i = htAt a i := by
  unfold htAt htW
  rw [scan_app]
  exact pre_get (scan_pre _ _) (by rw [scan_len]; simpa using h) _
theorem pre_ht {a b : Wb} (h : a <+: b) {i : Nat} (hi : i < a.length) : htAt b i = htAt a i := by
  obtain ⟨t, rfl⟩ := h
  exact htAt_app hi
/-- a row that brings at most c picks and has, by ands and ors h deep -/
structure Cb (w : Wb) (p c h : Nat) : Prop where
  cn : bqAt w p ≤ c
  ht : htAt w p ≤ h
theorem Cb.mono {w : Wb} {p c h c' h' : Nat} (k : Cb w p c h) (hc : c ≤ c') (hh : h ≤ h') : Cb w p c' h' := ⟨Nat.le_trans k.cn hc, Nat.le_trans k.ht hh⟩
theorem Cb.pre {a b : Wb} {p c h : Nat} (k : Cb a p c h) (hp : a <+: b) (hi : p < a.length) : Cb b p c h := ⟨by rw [pre_bq hp hi]; exact k.cn, by rw [pre_ht hp hi]; exact k.ht⟩
/-- the new rows bring at most c -/
def CnN (w w' : Wb) (c h : Nat) : Prop := ∀ p, w.length ≤ p → p < w'.length → Cb w' p c h
theorem CnN.refl {w : Wb} {c h : Nat} : CnN w w c h := fun p h1 h2 => absurd h1 (by omega)
theorem CnN.mono {w w' : Wb} {c h c' h' : Nat} (k : CnN w w' c h) (hc : c ≤ c') (hh : h ≤ h') : CnN w w' c' h' := fun p h1 h2 => (k p h1 h2).mono hc hh
theorem CnN.trans {w w1 w2 : Wb} {c h : Nat} (h1 : CnN w w1 c h) (h2 : CnN w1 w2 c h) (pr : w1 <+: w2) : CnN w w2 c h := fun p p1 p2 => by
  by_cases h : p < w1.length
  · exact (h1 p p1 h).pre pr h
  · exact h2 p (by omega) p2
set_option maxHeartbeats 4000000
local macro_rules
  | `(tactic| simp only [VLV]) => `(tactic| simp only [sSeq, sIf, sSet, sSub, sRet, sRetN, sNil, sDrop, sAsg, sPar, sParT, sAug, cP, bB, bTr, bNt, bAn, bOr, po1, po2, poN, pArgs, poIf, poAn, poOr, poNt, poTup, plLst, plN, pl2, pl1, pFz, pV, pC, eP, eo1, eo2, eoN, aP, aNil, aCons, eAn, eOr, eNt, eIf, eFz, eNw, fP, fN, f2, f1, tTupE, tLstF, tTr, tTb, tAn, tOrr, tNt, tYs, eSeal, eMt, poMt, mPure, eCh, pCh, ok_bind, ok_map, ok_some, ok_none, ok_gd, ok_ite, List.getElem?_cons_zero, List.getElem?_cons_succ, List.set_cons_zero, List.set_cons_succ, Option.join_some, Option.bind_some, Option.map_some, Option.bind_none, Option.map_none, ix_ref, ix_tup, ix_lst, ix_bor, ix_scr, add_int, add_str, add_tup, sub_int, mul_int, fdiv_int, mod_int, pow_int, neg_int, lt_int, le_int, gt_int, ge_int, eq_int, eq_str, eq_bl, ne_int, ne_str, ne_bl, is_bl, isnt_bl, is_non, isnt_non, len_tup, len_lst, len_ref, len_bor, len_scr, int_bl, int_int, abs_int, min_int, max_int, blD_bl, cell_lst, cellA_lst, cellA_dk, st_ref, at_0, at_1, at_2, at_3, at_4, ixN_10, ixN_20, ixN_21, ixN_30, ixN_31, ixN_32, dataS_d, datas_nil, datas_cons, truth_bl, notD, intS, blS, nonB, List.length_cons, List.length_nil, Nat.reduceAdd, endsF_rt, endsF_nx, rvQ_d, rvQ_new, rvQ_newK, rv_d, rv_ref, rv_cl, rv_ck, okRef_d, okRef_ref, List.not_mem_nil, List.nil_append, true_and, and_true, List.take_succ_cons, List.take_zero, Nat.zero_add, decide_eq_true_eq, Bool.false_eq_true, if_false, if_true, callS, handS_n, handS_tr, handS_fr, handS_fd, handS_fb, cellsAt_c, cellsAt_0, Option.getD_some, backS_0, backS_1, eCall, tup_lst, tup_tup, tup_ref, fLc, iRg, rng_1, rng_2, wipeS_c, wipeS_n, iPq, iSq, seq_tup, seq_lst, seq_bor, lst_lst, lst_bor, gdS_d, gdS_b, sFor, gNm, gcS_c, gcS_n, gcO_d, gcO_n, mapp, rcv_0, rcv_1, rcv_l, gcO_r0, gcO_r1, gcO_z, seal_d, eq_self, List.take_nil, List.cons_append, poSl, poI, poNo, slD_t, intO_i, list_t, list_l, in_str2, ofS_inj, String.reduceEq, or_false, false_or, or_true, true_or, or_self, decide_true, decide_false, Bool.not_true, Bool.not_false, at_m1_2, at_m1_3, cut_2, cut_3, all_bls, any_bls, count_bls, lcg_nm, lcg_tp, lst_ref, laid_l, laid_b, laid_r, list_b, list_r, len_refI, lenOf_ref, rcv_2, rcv_3, rcv_b, slF_l, slF_b, slF_r, cat_l, repr_d, plSl, backS_2, List.mem_singleton, one_ne, if_false, callS, seal_r, Nat.le_refl])
  | `(tactic| simp only [VLV, $xs,*]) => `(tactic| simp only [sSeq, sIf, sSet, sSub, sRet, sRetN, sNil, sDrop, sAsg, sPar, sParT, sAug, cP, bB, bTr, bNt, bAn, bOr, po1, po2, poN, pArgs, poIf, poAn, poOr, poNt, poTup, plLst, plN, pl2, pl1, pFz, pV, pC, eP, eo1, eo2, eoN, aP, aNil, aCons, eAn, eOr, eNt, eIf, eFz, eNw, fP, fN, f2, f1, tTupE, tLstF, tTr, tTb, tAn, tOrr, tNt, tYs, eSeal, eMt, poMt, mPure, eCh, pCh, ok_bind, ok_map, ok_some, ok_none, ok_gd, ok_ite, List.getElem?_cons_zero, List.getElem?_cons_succ, List.set_cons_zero, List.set_cons_succ, Option.join_some, Option.bind_some, Option.map_some, Option.bind_none, Option.map_none, ix_ref, ix_tup, ix_lst, ix_bor, ix_scr, add_int, add_str, add_tup, sub_int, mul_int, fdiv_int, mod_int, pow_int, neg_int, lt_int, le_int, gt_int, ge_int, eq_int, eq_str, eq_bl, ne_int, ne_str, ne_bl, is_bl, isnt_bl, is_non, isnt_non, len_tup, len_lst, len_ref, len_bor, len_scr, int_bl, int_int, abs_int, min_int, max_int, blD_bl, cell_lst, cellA_lst, cellA_dk, st_ref, at_0, at_1, at_2, at_3, at_4, ixN_10, ixN_20, ixN_21, ixN_30, ixN_31, ixN_32, dataS_d, datas_nil, datas_cons, truth_bl, notD, intS, blS, nonB, List.length_cons, List.length_nil, Nat.reduceAdd, endsF_rt, endsF_nx, rvQ_d, rvQ_new, rvQ_newK, rv_d, rv_ref, rv_cl, rv_ck, okRef_d, okRef_ref, List.not_mem_nil, List.nil_append, true_and, and_true, List.take_succ_cons, List.take_zero, Nat.zero_add, decide_eq_true_eq, Bool.false_eq_true, if_false, if_true, callS, handS_n, handS_tr, handS_fr, handS_fd, handS_fb, cellsAt_c, cellsAt_0, Option.getD_some, backS_0, backS_1, eCall, tup_lst, tup_tup, tup_ref, fLc, iRg, rng_1, rng_2, wipeS_c, wipeS_n, iPq, iSq, seq_tup, seq_lst, seq_bor, lst_lst, lst_bor, gdS_d, gdS_b, sFor, gNm, gcS_c, gcS_n, gcO_d, gcO_n, mapp, rcv_0, rcv_1, rcv_l, gcO_r0, gcO_r1, gcO_z, seal_d, eq_self, List.take_nil, List.cons_append, poSl, poI, poNo, slD_t, intO_i, list_t, list_l, in_str2, ofS_inj, String.reduceEq, or_false, false_or, or_true, true_or, or_self, decide_true, decide_false, Bool.not_true, Bool.not_false, at_m1_2, at_m1_3, cut_2, cut_3, all_bls, any_bls, count_bls, lcg_nm, lcg_tp, lst_ref, laid_l, laid_b, laid_r, list_b, list_r, len_refI, lenOf_ref, rcv_2, rcv_3, rcv_b, slF_l, slF_b, slF_r, cat_l, repr_d, plSl, backS_2, List.mem_singleton, one_ne, if_false, callS, seal_r, Nat.le_refl, $xs,*])
set_option maxHeartbeats 4000000
def backN : D → Nat
  | .int i => i.toNat
  | _ => 0
theorem perm_nD {ys : List D} {ns : List Nat} (h : ys.Perm (ns.map nD)) : ∃ zs : List Nat, zs.Perm ns ∧ ys = zs.map nD := by
  refine ⟨ys.map backN, ?_, ?_⟩
  · have := h.map backN
    rw [List.map_map] at this
    have e : ns.map (backN ∘ nD) = ns := by
      conv => rhs; rw [← List.map_id ns]
      exact List.map_congr_left fun x _ => rfl
    rwa [e] at this
  · rw [List.map_map]
    conv => lhs; rw [← List.map_id ys]
    refine List.map_congr_left fun y hy => ?_
    obtain ⟨m, _, rfl⟩ := List.mem_map.mp (h.mem_iff.mp hy)
    rfl
theorem ite_of {p : Prop} [Decidable p] {A B : Prop} (a : p → A) (b : ¬p → B) : if p then A else B := by
  by_cases h : p
  · rw [if_pos h]; exact a h
  · rw [if_neg h]; exact b h
set_option maxHeartbeats 2000000
section
variable {s : Sv} {xs : List D}
theorem LV.seq {M : Mem} (h : LV s xs) : seqD M s = some xs := by rcases h with rfl | rfl <;> rfl
theorem LV.lst {M : Mem} (h : LV s xs) : lstD M s = some xs := by rcases h with rfl | rfl <;> rfl
theorem LV.laid {M : Mem} (h : LV s xs) : laidD M s = some xs := by rcases h with rfl | rfl <;> rfl
theorem LV.gd {ys : List D} (h : LV s xs) : gdS s ys = fun _ => True := by rcases h with rfl | rfl <;> rfl
theorem LV.gc {k : Nat} (h : LV s xs) : gcO k (some s) = some s := by rcases h with rfl | rfl <;> rfl
theorem LV.hand {M : Mem} {ms : List Bool} {as : List Sv} {ks : List Nat} (h : LV s xs) : handS M (false :: ms) (s :: as) ks = (handS M ms as ks).map fun r => (s :: r.1, r.2) := by rcases h with rfl | rfl <;> rfl
theorem LV.len {M : Mem} (h : LV s xs) : lenD M [s] = some (.d (.int xs.length)) := by rcases h with rfl | rfl <;> rfl
end
theorem rgL_nats {n : Nat} : rgL 0 n = (List.range n).map nD := by
  unfold rgL
  refine List.map_congr_left fun i _ => ?_
  show D.int _ = D.int _
  congr 1; omega
theorem take_snoc {α : Type} {w : List α} {j : Nat} {r : α} (h : w[j]? = some r) : w.take (j + 1) = w.take j ++ [r] := by
  rw [List.take_add_one, h]; rfl
theorem eq_bit {M : Mem} {a b : Bool} : eqD M (.d (bitD a)) (.d (bitD b)) = some (.d (.bl (a == b))) := by cases a <;> cases b <;> rfl
set_option maxHeartbeats 2000000
/-- data in which _law_same may look -/
inductive Sm : Nat → D → Prop
  | int {k i} : Sm k (.int i)
  | bl {k b} : Sm k (.bl b)
  | non {k} : Sm k .non
  | str {k s} : Sm k (.str s)
  | tup {k ds} : ds.length < 1000000 → (∀ d ∈ ds, Sm k d) → Sm (k + 1) (.tup ds)
  | lst {k ds} : ds.length < 1000000 → (∀ d ∈ ds, Sm k d) → Sm (k + 1) (.lst ds)
/-- a value that is this data, or this list lent -/
def DV (s : Sv) (x : D) : Prop := s = .d x ∨ ∃ xs, x = .lst xs ∧ s = .bor xs
def sp_same (e : Nat) : SpD := fun as M Q => ∃ (s1 s2 : Sv) (x : D), as = [s1, s2] ∧ DV s1 x ∧ DV s2 x ∧ M = [] ∧ Sm e x ∧ Q (.d (.bl true)) []
theorem isi1 {M : Mem} {s : Sv} {a t : String} {b : Bool} (h : tyN M s = some a) (hk : known t = true) (hb : subT a t = b) : isiD M [s, .d (.ty t)] = some (.d (.bl b)) := by
  have e : isiD M [s, .d (.ty t)] = (tyN M s).bind fun a => gd (known t = true) (.d (.bl (subT a t))) := rfl
  rw [e, h, Option.bind_some, gd_pos hk, hb]
theorem isi2 {M : Mem} {s : Sv} {a t u : String} {b : Bool} (h : tyN M s = some a) (hk : known t = true ∧ known u = true) (hb : (subT a t || subT a u) = b) : isiD M [s, .d (.tup [.ty t, .ty u])] = some (.d (.bl b)) := by
  have e : isiD M [s, .d (.tup [.ty t, .ty u])] = (tyN M s).bind fun a => gd (known t = true ∧ known u = true) (.d (.bl (subT a t || subT a u))) := rfl
  rw [e, h, Option.bind_some, gd_pos hk, hb]
def r_sameG (sp__law_same : SpD) : TS' :=
  (sSeq (sIf (cP (bTr (poN isiD [(pV 1), (poTup [(pC (.ty "list")), (pC (.ty "tuple"))])])))
  (sSeq (sIf (cP (bOr (bB (po2 neD (poN isiD [(pV 0), (pC (.ty "list"))]) (poN isiD [(pV 1), (pC (.ty "list"))]))) (bB (po2 neD (poN isiD [(pV 0), (pC (.ty "tuple"))]) (poN isiD [(pV 1), (pC (.ty "tuple"))])))))
  (sRet (eP (pC (.bl false))))
  sNil)
  (sSeq (sIf (cP (bB (po2 neD (poN lenD [(pV 0)]) (poN lenD [(pV 1)]))))
  (sRet (eP (pC (.bl false))))
  sNil)
  (sRet (eoN allD (aCons (eFz (fLc (iZq (aP [(pV 0), (pV 1)])) (.tp [2, 3]) tYs (eCall [false, false] sp__law_same (aP [(pV 2), (pV 3)])) [2, 3])) (aP []))))))
  sNil)
  (sSeq (sIf (cP (bOr (bB (po2 isD (pV 1) (pC .non))) (bTr (poN isiD [(pV 1), (pC (.ty "str"))]))))
  (sRet (eP (poAn (po2 eqD (pV 0) (pV 1)) (po2 eqD (poN isiD [(pV 0), (pC (.ty "str"))]) (poN isiD [(pV 1), (pC (.ty "str"))])))))
  sNil)
  (sSeq (sIf (cP (bTr (poN isiD [(pV 1), (pC (.ty "bool"))])))
  (sRet (eP (poAn (poN isiD [(pV 0), (pC (.ty "bool"))]) (po2 eqD (pV 0) (pV 1)))))
  sNil)
  (sRet (eP (poAn (poN isiD [(pV 0), (pC (.ty "int"))]) (poAn (poNt (poN isiD [(pV 0), (pC (.ty "bool"))])) (po2 eqD (pV 0) (pV 1)))))))))
theorem iZq_tt {as bs : List D} {δ : DS} {M : Mem} {i j : Nat} {Q : List D → (Mem → Prop) → Mem → Prop} (h1 : (δ[i]?).join = some (.d (.tup as))) (h2 : (δ[j]?).join = some (.d (.tup bs))) (q : Q (zipL as bs) gdT M) : iZq (aP [pV i, pV j]) δ M Q := by
  show aP [pV i, pV j] δ M _
  unfold aP pArgs pArgs pArgs pV
  rw [h1, h2]
  exact q
theorem iZq_ll {s1 s2 : Sv} {as bs : List D} {δ : DS} {M : Mem} {i j : Nat} {Q : List D → (Mem → Prop) → Mem → Prop} (h1 : (δ[i]?).join = some s1) (h2 : (δ[j]?).join = some s2) (l1 : LV s1 as) (l2 : LV s2 bs) (q : Q (zipL as bs) (fun M => gdS s1 as M ∧ gdS s2 bs M) M) : iZq (aP [pV i, pV j]) δ M Q := by
  show aP [pV i, pV j] δ M _
  unfold aP pArgs pArgs pArgs pV
  rw [h1, h2]
  rcases l1 with rfl | rfl <;> rcases l2 with rfl | rfl <;> exact q
theorem zip_self {as : List D} : zipL as as = as.map fun d => .tup [d, d] := by
  unfold zipL
  induction as with
  | nil => rfl
  | cons a l ih => simp only [List.zip_cons_cons, List.map_cons, ih]
theorem lc_pairs {te : TE'} {δw : DS} {gd : Mem → Prop} {Q : List D → Mem → Prop} {ds : List D} (hg : gd []) (h : ∀ d ∈ ds, ∀ R : QD, R (.d (.bl true)) [] → te ((δw.set 2 (some (.d d))).set 3 (some (.d d))) [] R) (q : Q (ds.map fun _ => .bl true) []) :
    lcL (LcG.tp [2, 3]).to tYs te δw gd Q (zipL ds ds) [] [] := by
  rw [zip_self]
  refine lc_ix _ (fun j acc M => acc = (ds.take j).map (fun _ => D.bl true) ∧ M = []) ?_ ?_ _ _ ⟨rfl, rfl⟩
  · rintro acc M ⟨rfl, rfl⟩
    rw [List.length_map, List.take_length]
    exact ⟨hg, q⟩
  · rintro j x acc M nx hx ⟨rfl, rfl⟩ k
    rw [List.getElem?_map, Option.map_eq_some_iff] at hx
    obtain ⟨d, hd, rfl⟩ := hx
    refine ⟨hg, ?_⟩
    show te ((δw.set 2 (some (.d d))).set 3 (some (.d d))) [] _
    refine h d (List.mem_of_getElem? hd) _ ?_
    refine k _ _ ⟨?_, rfl⟩
    rw [List.take_add_one, hd, List.map_append]; rfl
theorem ty_l {M : Mem} {s : Sv} {xs : List D} (h : LV s xs) : tyN M s = some "list" := by rcases h with rfl | rfl <;> rfl
theorem pure_same {d : Nat} (as : List Sv) (M : Mem) (Q : Rv → Mem → Prop) (h : spB sp_same (d + 1) as M Q) : r_sameG (spB sp_same d) (endsF M.length Q) (startD 4 as) M := by
  obtain ⟨e, he, s1, s2, x, rfl, h1, h2, rfl, hx, z⟩ := h
  show r_sameG (spB sp_same d) (endsF 0 Q) [some s1, some s2, none, none] []
  have lv : ∀ {s : Sv} {ds : List D}, DV s (.lst ds) → LV s ds := fun h => by
    rcases h with rfl | ⟨_, h, rfl⟩
    · exact .inl rfl
    · cases h; exact .inr rfl
  have nl : ∀ {s : Sv} {x : D}, (∀ ds, x ≠ .lst ds) → DV s x → s = .d x := fun hn h => by
    rcases h with rfl | ⟨xs, h, _⟩
    · rfl
    · exact absurd h (hn xs)
  cases hx with
  | int =>
    rename_i i
    cases nl (fun _ h => by cases h) h1
    cases nl (fun _ h => by cases h) h2
    have t0 : tyN [] (.d (.int i)) = some "int" := rfl
    simp only [r_sameG, sSeq]
    simp only [VLV, isi2 t0 (t := "list") (u := "tuple") ⟨rfl, rfl⟩ (b := false) (by decide), isi1 t0 (t := "str") rfl (b := false) (by decide), isi1 t0 (t := "bool") rfl (b := false) (by decide), isi1 t0 (t := "int") rfl (b := true) (by decide), truth_bl, decide_true]
    exact z
  | bl =>
    rename_i i
    cases nl (fun _ h => by cases h) h1
    cases nl (fun _ h => by cases h) h2
    have t0 : tyN [] (.d (.bl i)) = some "bool" := rfl
    simp only [r_sameG, sSeq]
    simp only [VLV, isi2 t0 (t := "list") (u := "tuple") ⟨rfl, rfl⟩ (b := false) (by decide), isi1 t0 (t := "str") rfl (b := false) (by decide), isi1 t0 (t := "bool") rfl (b := true) (by decide), truth_bl, decide_true]
    exact z
  | non =>
    cases nl (fun _ h => by cases h) h1
    cases nl (fun _ h => by cases h) h2
    have t0 : tyN [] (.d .non) = some "NoneType" := rfl
    have e0 : eqD [] (.d .non) (.d .non) = some (.d (.bl true)) := rfl
    simp only [r_sameG, sSeq]
    simp only [VLV, e0, isi2 t0 (t := "list") (u := "tuple") ⟨rfl, rfl⟩ (b := false) (by decide), isi1 t0 (t := "str") rfl (b := false) (by decide), truth_bl, decide_true]
    exact z
  | str =>
    rename_i i
    cases nl (fun _ h => by cases h) h1
    cases nl (fun _ h => by cases h) h2
    have t0 : tyN [] (.d (.str i)) = some "str" := rfl
    simp only [r_sameG, sSeq]
    simp only [VLV, isi2 t0 (t := "list") (u := "tuple") ⟨rfl, rfl⟩ (b := false) (by decide), isi1 t0 (t := "str") rfl (b := true) (by decide), truth_bl, decide_true]
    exact z
  | tup hl hd =>
    rename_i k ds
    cases nl (fun _ h => by cases h) h1
    cases nl (fun _ h => by cases h) h2
    have t0 : tyN [] (.d (.tup ds)) = some "tuple" := rfl
    simp only [r_sameG, sSeq]
    simp only [VLV, isi2 t0 (t := "list") (u := "tuple") ⟨rfl, rfl⟩ (b := true) (by decide), isi1 t0 (t := "list") rfl (b := false) (by decide), isi1 t0 (t := "tuple") rfl (b := true) (by decide), truth_bl, decide_true]
    refine iZq_tt rfl rfl ?_
    refine lc_pairs trivial (fun d hdm R hR => ?_) ?_
    · simp only [VLV]
      exact ⟨k, by omega, _, _, d, rfl, .inl rfl, .inl rfl, rfl, hd d hdm, hR⟩
    · simp only [VLV, all_true']
      exact z
  | lst hl hd =>
    rename_i k ds
    have l1 := lv h1
    have l2 := lv h2
    have t1 : tyN [] s1 = some "list" := ty_l l1
    have t2 : tyN [] s2 = some "list" := ty_l l2
    simp only [r_sameG, sSeq]
    simp only [VLV, isi2 t2 (t := "list") (u := "tuple") ⟨rfl, rfl⟩ (b := true) (by decide), isi1 t1 (t := "list") rfl (b := true) (by decide), isi1 t1 (t := "tuple") rfl (b := false) (by decide), isi1 t2 (t := "list") rfl (b := true) (by decide), isi1 t2 (t := "tuple") rfl (b := false) (by decide), truth_bl, decide_true, l1.len, l2.len]
    refine iZq_ll rfl rfl l1 l2 ?_
    refine lc_pairs (by rw [l1.gd, l2.gd]; exact ⟨trivial, trivial⟩) (fun d hdm R hR => ?_) ?_
    · simp only [VLV]
      exact ⟨k, by omega, _, _, d, rfl, .inl rfl, .inl rfl, rfl, hd d hdm, hR⟩
    · simp only [VLV, all_true']
      exact z
set_option maxHeartbeats 2000000
/-- data of small leaves -/
structure Pq (w dp : Nat) (d : D) : Prop where
  no : noR d = true
  sh : (py d).leavesShort 8 = true
  la : (py d).canLay0 = true
  sw : (py d).showable = true
  we : (py d).weight ≤ w
  de : (py d).depth ≤ dp
structure Pqs (w dp : Nat) (d : List D) : Prop where
  no : noRs d = true
  sh : PyData.leavesShortAll 8 (pys d) = true
  la : PyData.canLayAll0 (pys d) = true
  sw : PyData.showableAll (pys d) = true
  we : PyData.weightAll (pys d) ≤ w
  de : PyData.depthAll (pys d) ≤ dp
theorem Pq.mono {w dp w' dp' : Nat} {d : D} (h : Pq w dp d) (h1 : w ≤ w') (h2 : dp ≤ dp') : Pq w' dp' d := ⟨h.no, h.sh, h.la, h.sw, Nat.le_trans h.we h1, Nat.le_trans h.de h2⟩
theorem Pqs.mono {w dp w' dp' : Nat} {d : List D} (h : Pqs w dp d) (h1 : w ≤ w') (h2 : dp ≤ dp') : Pqs w' dp' d := ⟨h.no, h.sh, h.la, h.sw, Nat.le_trans h.we h1, Nat.le_trans h.de h2⟩
theorem Pq.str {s : Str} {n : Nat} (h : (PyData.canLay0 (.str s) && (PyData.str s).leavesShort 8 && decide (s.cps.size ≤ n)) = true) : Pq n 0 (.str s) := by
  simp only [Bool.and_eq_true, decide_eq_true_eq] at h
  exact ⟨rfl, h.1.2, h.1.1, rfl, h.2, Nat.le_refl _⟩
theorem Pqs.nil {dp : Nat} : Pqs 0 dp [] := ⟨rfl, rfl, rfl, rfl, Nat.le_refl _, Nat.zero_le _⟩
theorem Pqs.cons {w1 w2 dp : Nat} {d : D} {ds : List D} (h : Pq w1 dp d) (h2 : Pqs w2 dp ds) : Pqs (w1 + 1 + w2) dp (d :: ds) := by
  refine ⟨?_, ?_, ?_, ?_, ?_, ?_⟩
  · simp only [noRs, h.no, h2.no]; rfl
  · simp only [pys, PyData.leavesShortAll, h.sh, h2.sh]; rfl
  · simp only [pys, PyData.canLayAll0, h.la, h2.la]; rfl
  · simp only [pys, PyData.showableAll, h.sw, h2.sw]; rfl
  · simp only [pys, PyData.weightAll]; have := h.we; have := h2.we; omega
  · simp only [pys, PyData.depthAll]; have := h.de; have := h2.de; omega
theorem Pq.tup {w dp : Nat} {ds : List D} (h : Pqs w dp ds) : Pq w (dp + 1) (.tup ds) := by
  refine ⟨h.no, ?_, ?_, ?_, ?_, ?_⟩
  · simp only [py, PyData.leavesShort]; exact h.sh
  · simp only [py, PyData.canLay0]; exact h.la
  · simp only [py, PyData.showable]; exact h.sw
  · simp only [py, PyData.weight]; exact h.we
  · simp only [py, PyData.depth]; have := h.de; omega
theorem Pq.lst {w dp : Nat} {ds : List D} (h : Pqs w dp ds) : Pq w (dp + 1) (.lst ds) := by
  refine ⟨h.no, ?_, ?_, ?_, ?_, ?_⟩
  · simp only [py, PyData.leavesShort]; exact h.sh
  · simp only [py, PyData.canLay0]; exact h.la
  · simp only [py, PyData.showable]; exact h.sw
  · simp only [py, PyData.weight]; exact h.we
  · simp only [py, PyData.depth]; have := h.de; omega
set_option maxHeartbeats 2000000
theorem cat_get {α : Type} {X : List α} {c : α} : (X ++ [c])[X.length]? = some c := by simp
theorem cat_set {α : Type} {X : List α} {c d : α} : (X ++ [c]).set X.length d = X ++ [d] := by
  rw [List.set_append_right _ _ (Nat.le_refl _), Nat.sub_self]; rfl
theorem at_ite {α : Type} {p : Prop} [Decidable p] {x y : α} : atI [x, y] (if p then 1 else 0) = some (if p then y else x) := by
  by_cases h : p
  · rw [if_pos h, if_pos h]; rfl
  · rw [if_neg h, if_neg h]; rfl
/-- a loop that leaves the state of one kind -/
theorem for_kp {k : Nat} {g : TG'} {b : TS'} {E : Ends'} {gd : Mem → Prop} {ds : List D} (I : DS → Mem → Prop) (fin : ∀ δ M, I δ M → gd M ∧ E.nx δ M)
    (step : ∀ d ∈ ds, ∀ δ M (nx : DS → Mem → Prop), I δ M → (∀ δ' M', I (gcS k δ') (M'.take k) → nx δ' M') → gd M ∧ g d δ M fun δ1 M1 => b ⟨nx, E.rt, E.nx, nx⟩ δ1 M1) {δ : DS} {M : Mem} (h : I δ M) : forL k g b E gd ds δ M :=
  for_ix ds (fun _ => I) (fun δ M h => fin δ M h) (fun _ d δ M nx e hI kk => step d (List.mem_of_getElem? e) δ M nx hI kk) δ M h
local macro_rules
  | `(tactic| simp only [VLY]) => `(tactic| simp only [sSeq, sIf, sSet, sSub, sRet, sRetN, sNil, sDrop, sAsg, sPar, sParT, sAug, cP, bB, bTr, bNt, bAn, bOr, po1, po2, poN, pArgs, poIf, poAn, poOr, poNt, poTup, plLst, plN, pl2, pl1, pFz, pV, pC, eP, eo1, eo2, eoN, aP, aNil, aCons, eAn, eOr, eNt, eIf, eFz, eNw, fP, fN, f2, f1, tTupE, tLstF, tTr, tTb, tAn, tOrr, tNt, tYs, eSeal, eMt, poMt, mPure, eCh, pCh, ok_bind, ok_map, ok_some, ok_none, ok_gd, ok_ite, List.getElem?_cons_zero, List.getElem?_cons_succ, List.set_cons_zero, List.set_cons_succ, Option.join_some, Option.bind_some, Option.map_some, Option.bind_none, Option.map_none, ix_ref, ix_tup, ix_lst, ix_bor, ix_scr, add_int, add_str, add_tup, sub_int, mul_int, fdiv_int, mod_int, pow_int, neg_int, lt_int, le_int, gt_int, ge_int, eq_int, eq_str, eq_bl, ne_int, ne_str, ne_bl, is_bl, isnt_bl, is_non, isnt_non, len_tup, len_lst, len_ref, len_bor, len_scr, int_bl, int_int, abs_int, min_int, max_int, blD_bl, cell_lst, cellA_lst, cellA_dk, st_ref, at_0, at_1, at_2, at_3, at_4, ixN_10, ixN_20, ixN_21, ixN_30, ixN_31, ixN_32, dataS_d, datas_nil, datas_cons, truth_bl, notD, intS, blS, nonB, List.length_cons, List.length_nil, Nat.reduceAdd, endsF_rt, endsF_nx, rvQ_d, rvQ_new, rvQ_newK, rv_d, rv_ref, rv_cl, rv_ck, okRef_d, okRef_ref, List.not_mem_nil, List.nil_append, true_and, and_true, List.take_succ_cons, List.take_zero, Nat.zero_add, decide_eq_true_eq, Bool.false_eq_true, if_false, if_true, callS, handS_n, handS_tr, handS_fr, handS_fd, handS_fb, cellsAt_c, cellsAt_0, Option.getD_some, backS_0, backS_1, eCall, tup_lst, tup_tup, tup_ref, fLc, iRg, rng_1, rng_2, wipeS_c, wipeS_n, iPq, iSq, seq_tup, seq_lst, seq_bor, lst_lst, lst_bor, gdS_d, gdS_b, sFor, gNm, gcS_c, gcS_n, gcO_d, gcO_n, mapp, rcv_0, rcv_1, rcv_l, gcO_r0, gcO_r1, gcO_z, seal_d, eq_self, List.take_nil, List.cons_append, poSl, poI, poNo, slD_t, intO_i, list_t, list_l, in_str2, ofS_inj, String.reduceEq, or_false, false_or, or_true, true_or, or_self, decide_true, decide_false, Bool.not_true, Bool.not_false, at_m1_2, at_m1_3, cut_2, cut_3, all_bls, any_bls, count_bls, lcg_nm, lcg_tp, lst_ref, laid_l, laid_b, laid_r, list_b, list_r, len_refI, lenOf_ref, rcv_2, rcv_3, rcv_b, slF_l, slF_b, slF_r, cat_l, repr_d, plSl, backS_2, List.mem_singleton, one_ne, if_false, callS, seal_r, Nat.le_refl, cat_get, cat_set, List.append_assoc, List.length_append, List.append_nil, at_ite, Nat.zero_le, iTq, tupD])
  | `(tactic| simp only [VLY, $xs,*]) => `(tactic| simp only [sSeq, sIf, sSet, sSub, sRet, sRetN, sNil, sDrop, sAsg, sPar, sParT, sAug, cP, bB, bTr, bNt, bAn, bOr, po1, po2, poN, pArgs, poIf, poAn, poOr, poNt, poTup, plLst, plN, pl2, pl1, pFz, pV, pC, eP, eo1, eo2, eoN, aP, aNil, aCons, eAn, eOr, eNt, eIf, eFz, eNw, fP, fN, f2, f1, tTupE, tLstF, tTr, tTb, tAn, tOrr, tNt, tYs, eSeal, eMt, poMt, mPure, eCh, pCh, ok_bind, ok_map, ok_some, ok_none, ok_gd, ok_ite, List.getElem?_cons_zero, List.getElem?_cons_succ, List.set_cons_zero, List.set_cons_succ, Option.join_some, Option.bind_some, Option.map_some, Option.bind_none, Option.map_none, ix_ref, ix_tup, ix_lst, ix_bor, ix_scr, add_int, add_str, add_tup, sub_int, mul_int, fdiv_int, mod_int, pow_int, neg_int, lt_int, le_int, gt_int, ge_int, eq_int, eq_str, eq_bl, ne_int, ne_str, ne_bl, is_bl, isnt_bl, is_non, isnt_non, len_tup, len_lst, len_ref, len_bor, len_scr, int_bl, int_int, abs_int, min_int, max_int, blD_bl, cell_lst, cellA_lst, cellA_dk, st_ref, at_0, at_1, at_2, at_3, at_4, ixN_10, ixN_20, ixN_21, ixN_30, ixN_31, ixN_32, dataS_d, datas_nil, datas_cons, truth_bl, notD, intS, blS, nonB, List.length_cons, List.length_nil, Nat.reduceAdd, endsF_rt, endsF_nx, rvQ_d, rvQ_new, rvQ_newK, rv_d, rv_ref, rv_cl, rv_ck, okRef_d, okRef_ref, List.not_mem_nil, List.nil_append, true_and, and_true, List.take_succ_cons, List.take_zero, Nat.zero_add, decide_eq_true_eq, Bool.false_eq_true, if_false, if_true, callS, handS_n, handS_tr, handS_fr, handS_fd, handS_fb, cellsAt_c, cellsAt_0, Option.getD_some, backS_0, backS_1, eCall, tup_lst, tup_tup, tup_ref, fLc, iRg, rng_1, rng_2, wipeS_c, wipeS_n, iPq, iSq, seq_tup, seq_lst, seq_bor, lst_lst, lst_bor, gdS_d, gdS_b, sFor, gNm, gcS_c, gcS_n, gcO_d, gcO_n, mapp, rcv_0, rcv_1, rcv_l, gcO_r0, gcO_r1, gcO_z, seal_d, eq_self, List.take_nil, List.cons_append, poSl, poI, poNo, slD_t, intO_i, list_t, list_l, in_str2, ofS_inj, String.reduceEq, or_false, false_or, or_true, true_or, or_self, decide_true, decide_false, Bool.not_true, Bool.not_false, at_m1_2, at_m1_3, cut_2, cut_3, all_bls, any_bls, count_bls, lcg_nm, lcg_tp, lst_ref, laid_l, laid_b, laid_r, list_b, list_r, len_refI, lenOf_ref, rcv_2, rcv_3, rcv_b, slF_l, slF_b, slF_r, cat_l, repr_d, plSl, backS_2, List.mem_singleton, one_ne, if_false, callS, seal_r, Nat.le_refl, cat_get, cat_set, List.append_assoc, List.length_append, List.append_nil, at_ite, Nat.zero_le, iTq, tupD, $xs,*])
theorem call_tape {δ : DS} {M : Mem} {i j : Nat} {ns : List Int} {k : Int} {Q : QD} (h0 : (δ[i]?).join = some (.d (.scr ns))) (h1 : (δ[j]?).join = some (.d (.int k))) (k0 : 0 ≤ k) (k1 : k ≤ 1000) (z : ∀ ds, Tp 0 ds → Q (.ref M.length) (M ++ [.lst ds])) :
    eCall [false, false] sp_tape (aP [pV i, pV j]) δ M Q := by
  show aP [pV i, pV j] δ M _
  unfold aP pArgs pArgs pArgs pV
  rw [h0, h1]
  exact ⟨ns, k, rfl, rfl, k0, k1, fun ds h => z ds h⟩
theorem rg_mem {J : Nat} {d : D} (h : d ∈ rgL 0 J) : ∃ j : Nat, j < J ∧ d = .int (j : Int) := by
  rw [rgL_nats] at h
  obtain ⟨j, hj, rfl⟩ := List.mem_map.mp h
  exact ⟨j, by simpa using hj, rfl⟩
theorem gcO_up {k m : Nat} {o : Option Sv} (h : k ≤ m) : gcO m (gcO k o) = gcO k o := by
  cases o with
  | none => rfl
  | some s =>
    cases s with
    | d x => rfl
    | bor x => rfl
    | ref n =>
      by_cases hn : n < k
      · rw [show gcO k (some (.ref n)) = some (.ref n) from if_pos hn]; exact if_pos (by omega)
      · rw [show gcO k (some (.ref n)) = none from if_neg hn]; rfl
set_option maxHeartbeats 2000000
set_option maxHeartbeats 2000000
theorem mext {R : QD} {M : Mem} {n : Nat} {s : Sv} : mExt (.ref n) [s] M R = ok (cellL M[n]?) fun ds => ok (laidD M s) fun es => ds.length + es.length ≤ sizeLine ∧ R (.d .non) (M.set n (.lst (ds ++ es))) := rfl
set_option maxHeartbeats 2000000
set_option maxHeartbeats 2000000
theorem enum_at {ds : List D} {i : Nat} {d : D} (h : (enumL ds)[i]? = some d) : ∃ x, ds[i]? = some x ∧ d = .tup [.int (i : Nat), x] := enum_get h
set_option maxHeartbeats 2000000
theorem WbOk.big {n m : Nat} {w : Wb} (o : WbOk n w) (h : n ≤ m) : WbOk m w := fun i r e => (o i r e).mono h (Nat.le_refl _)
set_option maxHeartbeats 2000000
theorem afs_snoc : ∀ n, afs (n + 1) = (afs n).flatMap fun f => [f ++ [false], f ++ [true]]
  | 0 => rfl
  | n + 1 => by
    have ih := afs_snoc n
    rw [show afs (n + 1 + 1) = (afs (n + 1)).map (false :: ·) ++ (afs (n + 1)).map (true :: ·) from rfl]
    conv => lhs; rw [ih]
    rw [show afs (n + 1) = (afs n).map (false :: ·) ++ (afs n).map (true :: ·) from rfl, List.flatMap_append, List.map_flatMap, List.map_flatMap, List.flatMap_map, List.flatMap_map]
    rfl
def r_settings  : TS' :=
  (sSeq (sSet 1 (eP (pFz (plLst [(poTup [])]))))
  (sSeq (sFor (iRg false (aP [(pV 0)])) (gNm 2)
  (sSeq (sSet 3 (eNw (fP (plLst []))))
  (sSeq (sFor (iPq (pV 1)) (gNm 4)
  (sDrop (eMt "list" mExt (eP (pV 3)) (aP [(pFz (plLst [(po2 addD (pV 4) (poTup [(pC (.int 0))])), (po2 addD (pV 4) (poTup [(pC (.int 1))]))]))]))))
  (sSet 1 (eSeal 0 (eP (pV 3)))))))
  (sRet (eP (pV 1)))))
theorem pure_settings (as : List Sv) (M : Mem) (Q : Rv → Mem → Prop) (h : sp_afs as M Q) : r_settings (endsF M.length Q) (startD 5 as) M := by
  obtain ⟨n, rfl, rfl, hn, z⟩ := h
  show r_settings (endsF 0 Q) [some (.d (.int n)), none, none, none, none] []
  simp only [r_settings, sSeq]
  simp only [VLY]
  refine ⟨⟨by omega, by omega⟩, fun h => h.elim, ?_⟩
  rw [Int.toNat_natCast]
  refine for_ix _ (fun j δ M => ∃ o2 o3 o4, δ = [some (.d (.int n)), some (.d (.lst ((afs j).map fD))), gcO 0 o2, gcO 0 o3, gcO 0 o4] ∧ M = []) ?_ ?_ _ _ ⟨none, none, none, rfl, rfl⟩
  · rintro δ M ⟨o2, o3, o4, rfl, rfl⟩
    rw [rgL_len]
    refine ⟨trivial, ?_⟩
    simp only [VLY]
    exact z
  · rintro j x δ M nx hx ⟨o2, o3, o4, rfl, rfl⟩ k
    obtain ⟨hj, rfl⟩ := rg_at hx
    have hl : (afs j).length ≤ 4096 := by
      rw [afs_len]
      exact Nat.pow_le_pow_right (n := 2) (by decide) (show j ≤ 12 by omega)
    refine ⟨trivial, ?_⟩
    simp only [gNm]
    simp only [VLY]
    have e4 : gcO 0 o4 = gcO 1 (gcO 0 o4) := (gcO_up (by decide)).symm
    rw [e4]
    refine for_ix _ (fun i δ M => ∃ o4, δ = [some (.d (.int n)), some (.d (.lst ((afs j).map fD))), some (.d (.int (0 + (j : Int)))), some (.ref 0), gcO 1 o4] ∧ M = [.lst ((((afs j).take i).flatMap fun f => [f ++ [false], f ++ [true]]).map fD)]) ?_ ?_ _ _ ⟨_, rfl, rfl⟩
    · rintro δ M ⟨o4, rfl, rfl⟩
      rw [List.length_map, List.take_length, ← afs_snoc]
      refine ⟨trivial, ?_⟩
      simp only [VLY, sealD]
      exact k _ _ ⟨some (.d (.int (0 + (j : Int)))), none, gcO 1 o4, rfl, rfl⟩
    · rintro i x δ M nx2 hx2 ⟨o4, rfl, rfl⟩ k2
      rw [List.getElem?_map, Option.map_eq_some_iff] at hx2
      obtain ⟨f, hf, rfl⟩ := hx2
      have hfl := afs_mem j f (List.mem_of_getElem? hf)
      refine ⟨trivial, ?_⟩
      simp only [gNm]
      have e1 : ∀ (M : Mem) (b : Bool), addD M (.d (fD f)) (.d (.tup [bitD b])) = some (.d (fD (f ++ [b]))) := fun M b => by
        show addD M (.d (.tup (f.map bitD))) (.d (.tup [bitD b])) = _
        rw [add_tup, gd_pos (by rw [List.length_map, sizeLine_eq]; simp; omega)]
        unfold fD
        rw [List.map_append]; rfl
      have e0 : ∀ M : Mem, addD M (.d (fD f)) (.d (.tup [.int 0])) = some (.d (fD (f ++ [false]))) := fun M => e1 M false
      have e11 : ∀ M : Mem, addD M (.d (fD f)) (.d (.tup [.int 1])) = some (.d (fD (f ++ [true]))) := fun M => e1 M true
      have hz : ((((afs j).take i).flatMap fun f => [f ++ [false], f ++ [true]]).map fD).length + 2 ≤ sizeLine := by
        rw [List.length_map, sizeLine_eq]
        have : (((afs j).take i).flatMap fun f => [f ++ [false], f ++ [true]]).length ≤ 2 * ((afs j).take i).length := by
          generalize (afs j).take i = l
          induction l with
          | nil => simp
          | cons a l ih => rw [List.flatMap_cons, List.length_append, List.length_cons]; simp only [List.length_cons, List.length_nil]; omega
        rw [List.length_take] at this
        omega
      simp only [VLY, e0, e11, mext]
      refine ⟨hz, ?_⟩
      refine k2 _ _ ⟨some (.d (fD f)), rfl, ?_⟩
      rw [take_snoc hf, List.flatMap_append, List.map_append (l₁ := ((afs j).take i).flatMap _)]
      rfl
def fbGo (ps : List (Nat × Bool)) (f : List Bool) : List Bool := ps.foldl (fun f p => f.set p.1 p.2) f
/-- the filling in which the names of an order have these bits -/
def fbF (ks : List Nat) (bs : List Bool) : List Bool := fbGo (ks.zip bs) (List.replicate ks.length false)
theorem fbGo_len : ∀ (ps : List (Nat × Bool)) (f : List Bool), (fbGo ps f).length = f.length
  | [], _ => rfl
  | p :: ps, f => by
    unfold fbGo
    rw [List.foldl_cons]
    exact (fbGo_len ps (f.set p.1 p.2)).trans (List.length_set ..)
theorem fbF_len {ks : List Nat} {bs : List Bool} : (fbF ks bs).length = ks.length := by unfold fbF; rw [fbGo_len]; simp
theorem fbGo_snoc {ps : List (Nat × Bool)} {p : Nat × Bool} {f : List Bool} : fbGo (ps ++ [p]) f = (fbGo ps f).set p.1 p.2 := by
  unfold fbGo; rw [List.foldl_append]; rfl
def kbD (p : Nat × Bool) : D := .tup [nD p.1, bitD p.2]
theorem zip_kb : ∀ (ks : List Nat) (bs : List Bool), zipL (ks.map nD) (bs.map bitD) = (ks.zip bs).map kbD
  | [], _ => by simp [zipL]
  | _ :: _, [] => by simp [zipL]
  | k :: ks, b :: bs => by
    have ih := zip_kb ks bs
    unfold zipL at ih ⊢
    rw [List.map_cons, List.map_cons, List.zip_cons_cons, List.map_cons, ih, List.zip_cons_cons, List.map_cons]; rfl
def sp_fby : SpD := fun as M Q => ∃ (s : Sv) (ks : List Nat) (bs : List Bool), as = [s, .d (fD bs)] ∧ LV s (ks.map nD) ∧ M = [] ∧ (∀ k ∈ ks, k < ks.length) ∧ ks.length ≤ 60 ∧ Q (.d (fD (fbF ks bs))) []
def r_fby  : TS' :=
  (sSeq (sSet 2 (eNw (fP (pl2 repF (pFz (plLst [(pC (.int 0))])) (poN lenD [(pV 0)])))))
  (sSeq (sFor (iZm (aP [(pV 0), (pV 1)])) (gTp [3, 4])
  (sSub (eP (pV 4)) (eP (pV 2)) (eP (pV 3))))
  (sRet (eP (po1 tupC (pV 2))))))
theorem rep_bitL {M : Mem} {as : List D} {k : Int} : repF M (.d (.lst as)) (.d (.int k)) = gd (-(2 ^ 63) ≤ k ∧ k < 2 ^ 63 ∧ as.length * k.toNat ≤ sizeLine) (List.replicate k.toNat as).flatten := rfl
theorem rep_bits {M : Mem} {L : Nat} (h : L ≤ 1000) : repF M (.d (.lst [.int 0])) (.d (.int (L : Int))) = some ((List.replicate L false).map bitD) := by
  have h3 : (2 : Int) ^ 63 = 9223372036854775808 := by decide
  have hc : -(2 ^ 63) ≤ (L : Int) ∧ (L : Int) < 2 ^ 63 ∧ [D.int 0].length * (L : Int).toNat ≤ sizeLine := by
    rw [h3, sizeLine_eq, Int.toNat_natCast]
    refine ⟨by omega, by omega, by simp; omega⟩
  rw [rep_bitL, gd_pos hc, Int.toNat_natCast]
  clear hc
  congr 1
  induction L with
  | zero => rfl
  | succ L ih =>
    have ih := ih (by omega)
    rw [List.replicate_succ, List.flatten_cons, ih, List.replicate_succ]; rfl
theorem iZm_lt {s : Sv} {as bs : List D} {δ : DS} {M : Mem} {i j : Nat} {Q : List D → (Mem → Prop) → Mem → Prop} (h1 : (δ[i]?).join = some s) (h2 : (δ[j]?).join = some (.d (.tup bs))) (l : LV s as) (q : Q (zipL as bs) (gdS s as) M) : iZm (aP [pV i, pV j]) δ M Q := by
  have e : pArgs [pV i, pV j] δ M = some [s, .d (.tup bs)] := by
    show ((δ[i]?).join).bind _ = _
    rw [h1]
    show (((δ[j]?).join).bind _).map _ = _
    rw [h2]; rfl
  show ok (pArgs [pV i, pV j] δ M) _
  rw [e]
  show ok (lstD M s) _
  rw [l.lst]
  exact q
theorem fb_set {s : Sv} {x1 : Option Sv} {xs ys : List D} {E : Ends'} {f : Mem → Sv → Sv → Option (List D)} (hs : LV s xs) (hf : f [] (.d (.lst [.int 0])) (.d (.int (xs.length : Int))) = some ys) (fin : E.nx [some s, x1, some (.ref 0), none, none] [.lst ys]) :
    (sSet 2 (eNw (fP (pl2 f (pFz (plLst [(pC (.int 0))])) (poN lenD [(pV 0)]))))) E [some s, x1, none, none, none] [] := by
  simp only [VLY, hs.len, hf]
  exact fin
theorem pure_fby (as : List Sv) (M : Mem) (Q : Rv → Mem → Prop) (h : sp_fby as M Q) : r_fby (endsF M.length Q) (startD 5 as) M := by
  obtain ⟨s, ks, bs, rfl, hs, rfl, hk, hl, z⟩ := h
  show r_fby (endsF 0 Q) [some s, some (.d (fD bs)), none, none, none] []
  have eb : fD bs = .tup (bs.map bitD) := rfl
  rw [eb]
  unfold r_fby
  rw [sSeq_app]
  refine fb_set hs (by rw [List.length_map]; exact rep_bits (by omega)) ?_
  show sSeq _ _ _ _ _
  rw [sSeq_app]
  simp only [VLY]
  refine iZm_lt rfl rfl hs ?_
  rw [zip_kb]
  refine for_ix _ (fun j δ M => ∃ o3 o4, δ = [some s, some (.d (.tup (bs.map bitD))), some (.ref 0), gcO 1 o3, gcO 1 o4] ∧ M = [.lst ((fbGo ((ks.zip bs).take j) (List.replicate ks.length false)).map bitD)]) ?_ ?_ _ _ ⟨none, none, rfl, rfl⟩
  · rintro δ M ⟨o3, o4, rfl, rfl⟩
    rw [List.length_map, List.take_length]
    refine ⟨by rw [hs.gd]; trivial, ?_⟩
    simp only [VLY]
    exact z
  · rintro j x δ M nx hx ⟨o3, o4, rfl, rfl⟩ k
    rw [List.getElem?_map, Option.map_eq_some_iff] at hx
    obtain ⟨p, hp, rfl⟩ := hx
    have hpk : p.1 < ks.length := hk _ (List.of_mem_zip (show (p.1, p.2) ∈ ks.zip bs from List.mem_of_getElem? hp)).1
    have sl : ((fbGo ((ks.zip bs).take j) (List.replicate ks.length false)).map bitD).length = ks.length := by rw [List.length_map, fbGo_len]; simp
    have e8 : ixN ((fbGo ((ks.zip bs).take j) (List.replicate ks.length false)).map bitD).length (p.1 : Int) = some p.1 := by rw [sl]; exact ixN_nat hpk
    refine ⟨by rw [hs.gd]; trivial, ?_⟩
    simp only [VLY, gTp, setAll, kbD, nD, e8]
    refine k _ _ ⟨some (.d (.int (p.1 : Int))), some (.d (bitD p.2)), by simp only [gcS_c, gcS_n, gcO_d, hs.gc]; rfl, ?_⟩
    rw [take_snoc hp, fbGo_snoc, List.map_set]; rfl
theorem Cm.ok_11 {n : Nat} {c : Cm} (h : c.ok n 3) : c.ok n 11 := Cm.ok_up _ _ (Cm.ok_up _ _ (Cm.ok_up _ _ (Cm.ok_up _ _ (Cm.ok_up _ _ (Cm.ok_up _ _ (Cm.ok_up _ _ (Cm.ok_up _ _ h)))))))
/-- what a claim means by an order -/
def mean (c : Cm) (ks : List Nat) : List Bool := (afs ks.length).map fun bs => c.hv (fbF ks bs)
theorem mean_len {c : Cm} {ks : List Nat} : (mean c ks).length = 2 ^ ks.length := by unfold mean; rw [List.length_map, afs_len]
def sp_mean : SpD := fun as M Q => ∃ (s : Sv) (c : Cm) (ks : List Nat), as = [.d (cD c), .d (.int (ks.length : Int)), s] ∧ LV s (ks.map nD) ∧ M = [] ∧ (∀ k ∈ ks, k < ks.length) ∧ ks.length ≤ 12 ∧ c.ok ks.length 11 ∧ Q (.d (fD (mean c ks))) []
def r_mean (sp_all_settings : SpD) (sp_holds : SpD) (sp_filling_by : SpD) : TS' :=
  (sRet (eo1 tupC (eFz (fLc (iSq (eSeal 0 (eCall [false] sp_all_settings (aP [(pV 1)])))) (.nm 3) tYs (eoN intD (aCons (eCall [false, false] sp_holds (aCons (eP (pV 0)) (aCons (eCall [false, false] sp_filling_by (aP [(pV 2), (pV 3)])) (aP [])))) (aP []))) [3]))))
def mnD (c : Cm) (ks : List Nat) : D → D
  | .tup ds => bitD (c.hv (fbF ks (ds.map fun d => match d with | .int i => decide (i = 1) | _ => false)))
  | d => d
theorem unbit (bs : List Bool) : ((bs.map bitD).map fun d => match d with | .int i => decide (i = 1) | _ => false) = bs := by
  rw [List.map_map]
  conv => rhs; rw [← List.map_id bs]
  refine List.map_congr_left fun b _ => ?_
  cases b <;> rfl
theorem mnD_fD {c : Cm} {ks : List Nat} {bs : List Bool} : mnD c ks (fD bs) = bitD (c.hv (fbF ks bs)) := by
  show bitD (c.hv (fbF ks ((bs.map bitD).map _))) = _
  rw [unbit]
theorem int_bitD {b : Bool} : (D.int (if b = true then 1 else 0)) = bitD b := by cases b <;> rfl
theorem mean_D {c : Cm} {ks : List Nat} : ((afs ks.length).map fD).map (mnD c ks) = (mean c ks).map bitD := by
  unfold mean
  rw [List.map_map, List.map_map]
  exact List.map_congr_left fun bs _ => mnD_fD
theorem pure_mean (as : List Sv) (M : Mem) (Q : Rv → Mem → Prop) (h : sp_mean as M Q) : r_mean sp_afs (spB sp_holds 20) sp_fby (endsF M.length Q) (startD 4 as) M := by
  obtain ⟨s, c, ks, rfl, hs, rfl, hk, hl, hc, z⟩ := h
  show r_mean sp_afs (spB sp_holds 20) sp_fby (endsF 0 Q) [some (.d (cD c)), some (.d (.int (ks.length : Int))), some s, none] []
  simp only [r_mean]
  simp only [VLY]
  refine ⟨ks.length, rfl, rfl, hl, ?_⟩
  simp only [VLY, sealD]
  refine lc_map (f := mnD c ks) trivial ?_ ?_
  · intro d hd R hR
    obtain ⟨bs, hb, rfl⟩ := List.mem_map.mp hd
    rw [mnD_fD] at hR
    simp only [VLY, hs.hand]
    refine ⟨s, ks, bs, rfl, hs, rfl, hk, by omega, ?_⟩
    simp only [VLY]
    refine ⟨11, by decide, c, fbF ks bs, rfl, rfl, by rw [fbF_len]; exact hc, ?_⟩
    simp only [VLY, int_bitD]
    exact hR
  · rw [mean_D]
    exact z
set_option maxHeartbeats 2000000
def sp_lmean : SpD := fun as M Q => ∃ (s : Sv) (c : Cm) (ks : List Nat), as = [.d (cD c), s] ∧ LV s (ks.map nD) ∧ M = [] ∧ (∀ k ∈ ks, k < ks.length) ∧ ks.length ≤ 12 ∧ c.ok ks.length 11 ∧ Q (.d (fD (mean c ks))) []
def r_lmean (sp__law_all_fillings : SpD) (sp__law_holds : SpD) (sp__law_by : SpD) : TS' :=
  (sRet (eo1 tupC (eFz (fLc (iSq (eSeal 0 (eCall [false] sp__law_all_fillings (aP [(poN lenD [(pV 1)])])))) (.nm 2) tYs (eoN intD (aCons (eCall [false, false] sp__law_holds (aCons (eP (pV 0)) (aCons (eCall [false, false] sp__law_by (aP [(pV 1), (pV 2)])) (aP [])))) (aP []))) [2]))))
theorem pure_lmean (as : List Sv) (M : Mem) (Q : Rv → Mem → Prop) (h : sp_lmean as M Q) : r_lmean sp_afs (spB sp_holds 20) sp_fby (endsF M.length Q) (startD 3 as) M := by
  obtain ⟨s, c, ks, rfl, hs, rfl, hk, hl, hc, z⟩ := h
  show r_lmean sp_afs (spB sp_holds 20) sp_fby (endsF 0 Q) [some (.d (cD c)), some s, none] []
  simp only [r_lmean]
  simp only [VLY, hs.len, List.length_map]
  refine ⟨ks.length, rfl, rfl, hl, ?_⟩
  simp only [VLY, sealD]
  refine lc_map (f := mnD c ks) trivial ?_ ?_
  · intro d hd R hR
    obtain ⟨bs, hb, rfl⟩ := List.mem_map.mp hd
    rw [mnD_fD] at hR
    simp only [VLY, hs.hand]
    refine ⟨s, ks, bs, rfl, hs, rfl, hk, by omega, ?_⟩
    simp only [VLY]
    refine ⟨11, by decide, c, fbF ks bs, rfl, rfl, by rw [fbF_len]; exact hc, ?_⟩
    simp only [VLY, int_bitD]
    exact hR
  · rw [mean_D]
    exact z
/-- a meaning cut into 2^p pieces of 2^q bits -/
def rsL (p q : Nat) (m : List Bool) : List (List Bool) := (List.range (2 ^ p)).map fun i => (m.drop (i * 2 ^ q)).take (2 ^ q)
theorem rsL_len {p q : Nat} {m : List Bool} : (rsL p q m).length = 2 ^ p := by simp [rsL]
theorem cut_mid {ds : List D} {a b : Nat} : cutD ds (some (a : Int)) (some ((a + b : Nat) : Int)) = (ds.drop a).take b := by
  unfold cutD
  rw [HT.sIx_nat, HT.sIx_nat]
  by_cases h : a ≤ ds.length
  · rw [Nat.min_eq_left h]
    by_cases h2 : a + b ≤ ds.length
    · rw [Nat.min_eq_left h2]; congr 1; omega
    · rw [Nat.min_eq_right (by omega)]
      rw [List.take_of_length_le (by rw [List.length_drop]; omega), List.take_of_length_le (by rw [List.length_drop]; omega)]
  · rw [List.drop_of_length_le (by omega), List.drop_of_length_le (by omega)]; simp
theorem rng_all : ∀ p, p < 13 → ∀ q, q < 13 → ((2 ^ q : Nat) : Int) ≠ 0 ∧ ((2 ^ q : Nat) : Int).natAbs < 1073741824 ∧ Builtin.Range.small 0 ((2 ^ (p + q) : Nat) : Int) ((2 ^ q : Nat) : Int) = true ∧ (Builtin.Range.rangeSize 0 ((2 ^ (p + q) : Nat) : Int) ((2 ^ q : Nat) : Int)).toNat = 2 ^ p := by decide +kernel
theorem rng_up {k : List D → Prop} {p q : Nat} (hp : p < 13) (hq : q < 13) (h : k (rgC 0 ((2 ^ q : Nat) : Int) (2 ^ p))) : rngD [.d (.int 0), .d (.int ((2 ^ (p + q) : Nat) : Int)), .d (.int ((2 ^ q : Nat) : Int))] k := by
  obtain ⟨h1, h2, h3, h4⟩ := rng_all p hp q hq
  refine ⟨⟨h1, h2, h3⟩, ?_⟩
  rw [h4]
  exact h
theorem rgC_nat {C n : Nat} : rgC 0 (C : Int) n = (List.range n).map fun i => nD (i * C) := by
  unfold rgC
  refine List.map_congr_left fun i _ => ?_
  show D.int _ = D.int _
  congr 1
  rw [Int.zero_add, Int.natCast_mul]
def sp_rests : SpD := fun as M Q => ∃ (m : List Bool) (p q : Nat), as = [.d (fD m), .d (.int ((2 ^ q : Nat) : Int))] ∧ M = [] ∧ p < 13 ∧ q < 13 ∧ m.length = 2 ^ (p + q) ∧ p + q ≤ 12 ∧ Q (.new ((rsL p q m).map fD)) []
def r_rests  : TS' :=
  (sRet (eNw (fLc (iRg true (aP [(pC (.int 0)), (poN lenD [(pV 0)]), (pV 1)])) (.nm 2) tYs (eP (poSl (pV 0) (poI (pV 2)) (poI (po2 addD (pV 2) (pV 1))))) [2])))
def rsD (q : Nat) (m : List Bool) : D → D
  | .int i => fD ((m.drop i.toNat).take (2 ^ q))
  | d => d
theorem rsD_map {p q : Nat} {m : List Bool} : ((List.range (2 ^ p)).map fun i => nD (i * 2 ^ q)).map (rsD q m) = (rsL p q m).map fD := by
  unfold rsL
  rw [List.map_map, List.map_map]
  rfl
theorem cut_fD {m : List Bool} {a b : Nat} : cutD (m.map bitD) (some (a : Int)) (some ((a + b : Nat) : Int)) = ((m.drop a).take b).map bitD := by
  rw [cut_mid, List.map_take, List.map_drop]
theorem pure_rests (as : List Sv) (M : Mem) (Q : Rv → Mem → Prop) (h : sp_rests as M Q) : r_rests (endsF M.length Q) (startD 3 as) M := by
  obtain ⟨m, p, q, rfl, rfl, hp, hq, hm, hpq, z⟩ := h
  show r_rests (endsF 0 Q) [some (.d (fD m)), some (.d (.int ((2 ^ q : Nat) : Int))), none] []
  have ef : fD m = .tup (m.map bitD) := rfl
  have hle : 2 ^ p ≤ 4096 := Nat.pow_le_pow_right (n := 2) (by decide) (show p ≤ 12 by omega)
  simp only [r_rests]
  rw [ef]
  simp only [VLY, List.length_map, hm]
  refine rng_up hp hq ?_
  rw [rgC_nat]
  refine ⟨fun _ => by rw [List.length_map, List.length_range, sizeLine_eq]; omega, ?_⟩
  refine lc_map (f := rsD q m) trivial ?_ ?_
  · intro d hd R hR
    obtain ⟨i, _, rfl⟩ := List.mem_map.mp hd
    have e1 : ((i * 2 ^ q : Nat) : Int) + ((2 ^ q : Nat) : Int) = ((i * 2 ^ q + 2 ^ q : Nat) : Int) := by omega
    have e2 : rsD q m (nD (i * 2 ^ q)) = .tup (((m.drop (i * 2 ^ q)).take (2 ^ q)).map bitD) := rfl
    rw [e2] at hR
    simp only [VLY, nD, e1, cut_fD]
    exact hR
  · rw [rsD_map]
    exact z
theorem afs_all : ∀ m : List Bool, m ∈ afs m.length
  | [] => List.mem_singleton.mpr rfl
  | b :: m => by
    rw [List.length_cons, afs, List.mem_append, List.mem_map, List.mem_map]
    cases b
    · exact .inl ⟨m, afs_all m, rfl⟩
    · exact .inr ⟨m, afs_all m, rfl⟩
theorem rsL_each {p q : Nat} {m : List Bool} (h : m.length = 2 ^ (p + q)) : ∀ r ∈ rsL p q m, r.length = 2 ^ q := fun r hr => by
  obtain ⟨i, hi, rfl⟩ := List.mem_map.mp hr
  have hi : i < 2 ^ p := by simpa using hi
  rw [List.length_take, List.length_drop, h, Nat.pow_add]
  have : (i + 1) * 2 ^ q ≤ 2 ^ p * 2 ^ q := Nat.mul_le_mul_right _ hi
  rw [Nat.add_mul, Nat.one_mul] at this
  omega
set_option maxHeartbeats 2000000
set_option maxHeartbeats 2000000
theorem valN_nil {k : NestedKey} : valN [] k = none := rfl
theorem valN_cons {d v : D} {kvs : List (D × D)} {k : NestedKey} : valN ((d, v) :: kvs) k = if nkD d = some k then some v else valN kvs k := by
  unfold valN
  rw [List.find?_cons]
  by_cases h : nkD d = some k
  · simp [h]
  · simp [h]
theorem valN_app : ∀ {kvs l : List (D × D)} {k : NestedKey}, valN (kvs ++ l) k = (valN kvs k).or (valN l k)
  | [], l, k => rfl
  | (d, v) :: kvs, l, k => by
    rw [List.cons_append, valN_cons, valN_cons, valN_app]
    by_cases h : nkD d = some k
    · rw [if_pos h, if_pos h]; rfl
    · rw [if_neg h, if_neg h]
theorem valN_repl {k k2 : NestedKey} {v : D} : ∀ {kvs : List (D × D)}, valN (kvs.map fun p => if nkD p.1 = some k then (p.1, v) else p) k2 = if k2 = k then (if (kvs.any fun p => decide (nkD p.1 = some k)) = true then some v else none) else valN kvs k2
  | [] => by simp [valN]
  | (d, w) :: kvs => by
    rw [List.map_cons]
    by_cases h : nkD d = some k
    · rw [if_pos h, valN_cons, valN_cons, valN_repl, List.any_cons, decide_eq_true h, Bool.true_or]
      by_cases h2 : k2 = k
      · subst h2; simp [h]
      · rw [if_neg h2, if_neg h2]
        have h3 : ¬ (nkD d = some k2) := fun z => h2 (by rw [h] at z; exact (Option.some.inj z).symm)
        rw [if_neg h3, if_neg h3]
    · rw [if_neg h, valN_cons, valN_cons, valN_repl, List.any_cons, decide_eq_false h, Bool.false_or]
      by_cases h2 : k2 = k
      · subst h2; simp [h]
      · rw [if_neg h2, if_neg h2]
theorem valN_put {kvs : List (D × D)} {d v : D} {k k2 : NestedKey} (e : nkD d = some k) : valN (putN kvs d k v) k2 = if k2 = k then some v else valN kvs k2 := by
  unfold putN
  by_cases h : (kvs.any fun p => decide (nkD p.1 = some k)) = true
  · rw [if_pos h, valN_repl, if_pos h]
  · rw [if_neg h, valN_app, valN_cons, e]
    by_cases h2 : k2 = k
    · subst h2
      rw [if_pos rfl, if_pos rfl]
      have : valN kvs k2 = none := by
        unfold valN
        rw [List.find?_eq_none.mpr]; · rfl
        intro p hp z
        exact h (List.any_eq_true.mpr ⟨p, hp, z⟩)
      rw [this]; rfl
    · rw [if_neg h2, if_neg (fun z => h2 (Option.some.inj z).symm), valN_nil, Option.or_none]
theorem putN_len {kvs : List (D × D)} {d v : D} {k : NestedKey} : (putN kvs d k v).length ≤ kvs.length + 1 := by
  unfold putN
  by_cases h : (kvs.any fun p => decide (nkD p.1 = some k)) = true
  · rw [if_pos h, List.length_map]; omega
  · rw [if_neg h, List.length_append]; exact Nat.le_refl _
theorem putN_new {kvs : List (D × D)} {d v : D} {k : NestedKey} (h : valN kvs k = none) : putN kvs d k v = kvs ++ [(d, v)] := by
  unfold putN
  rw [if_neg]
  intro z
  obtain ⟨p, hp, e⟩ := List.any_eq_true.mp z
  unfold valN at h
  have h := Option.map_eq_none_iff.mp h
  exact absurd e (List.find?_eq_none.mp h p hp)
def kB (b : Bool) : NestedKey := .num (if b then 1 else 0)
theorem nk0s_bits : ∀ m : List Bool, nk0s (m.map bitD) = some (m.map kB)
  | [] => rfl
  | b :: m => by
    show (nk0 (bitD b)).bind _ = _
    rw [show nk0 (bitD b) = some (kB b) from rfl, Option.bind_some, nk0s_bits m]; rfl
theorem dep_bits : ∀ m : List Bool, NestedKey.depthAll (m.map kB) = 0
  | [] => by simp [NestedKey.depthAll]
  | b :: m => by rw [List.map_cons, NestedKey.depthAll, dep_bits m, kB]; simp [NestedKey.depth]
theorem kB_inj {a b : List Bool} (h : a.map kB = b.map kB) : a = b := List.map_inj_right (fun x y e => by
  cases x <;> cases y <;> first | rfl | (exact absurd (NestedKey.num.inj e) (by decide))) |>.mp h
def bK (m : List Bool) : NestedKey := .tup (m.map kB)
theorem nk_bits {m : List Bool} : nkD (.tup (m.map bitD)) = some (bK m) := by
  show (nk0s (m.map bitD)).bind _ = _
  rw [nk0s_bits, Option.bind_some, if_pos (by rw [NestedKey.depth, dep_bits]; omega)]; rfl
theorem bK_inj {a b : List Bool} (h : bK a = bK b) : a = b := kB_inj (NestedKey.tup.inj h)
set_option maxHeartbeats 2000000
theorem two_pow {q : Nat} : 2 ^ (q + 1) = 2 ^ q * 2 := Nat.pow_succ ..
theorem rsL_mem {p q : Nat} {m b : List Bool} : b ∈ rsL p q m ↔ ∃ i, i < 2 ^ p ∧ b = (m.drop (i * 2 ^ q)).take (2 ^ q) := by
  unfold rsL
  rw [List.mem_map]
  exact ⟨fun ⟨i, h, e⟩ => ⟨i, List.mem_range.mp h, e.symm⟩, fun ⟨i, h, e⟩ => ⟨i, List.mem_range.mpr h, e.symm⟩⟩
set_option maxHeartbeats 2000000
theorem knew {δ : DS} {M : Mem} {Q : QD} : eKdN δ M Q = Q (.ref M.length) (M ++ [.dn []]) := rfl
theorem subN {te to ti : TE'} {E : Ends'} {δ : DS} {M : Mem} : sSubN te to ti E δ M = te δ M fun s M1 => ok (dataS s) fun d => to δ M1 fun o M2 => ti δ M2 fun i M3 => stN o i d M3 fun M4 => E.nx δ M4 := rfl
set_option maxHeartbeats 2000000
set_option maxHeartbeats 2000000
set_option maxHeartbeats 2000000
theorem gTp_s {δ : DS} {M : Mem} {R : DS → Mem → Prop} {x y : D} {i j : Nat} : gTp [i, j] (.tup [x, y]) δ M R = R ((δ.set i (some (.d x))).set j (some (.d y))) M := rfl
set_option maxHeartbeats 2000000
set_option maxHeartbeats 2000000
theorem stN_k {M : Mem} {j : Nat} {N : List (D × D)} {k d : D} {nk : NestedKey} {R : Mem → Prop} (e : nkD k = some nk) (h : M[j]? = some (.dn N)) (hl : N.length < sizeLine) (q : R (M.set j (.dn (putN N k nk d)))) : stN (.ref j) (.d k) d M R := by
  show ok (cellN M[j]?) fun kvs => ok (nkD k) fun nk => kvs.length < sizeLine ∧ R (M.set j (.dn (putN kvs k nk d)))
  rw [h, e]
  exact ⟨hl, q⟩
theorem val_b {N : List (D × D)} {x y : List Bool} {d : D} : valN (putN N (.tup (x.map bitD)) (bK x) d) (bK y) = if y = x then some d else valN N (bK y) := by
  rw [valN_put nk_bits]
  by_cases h : y = x
  · rw [if_pos h, if_pos (by rw [h])]
  · rw [if_neg h, if_neg fun z => h (bK_inj z)]
theorem few_blocks {p q : Nat} {m : List Bool} {S : List (List Bool)} (hd : S.Nodup) (hs : ∀ b ∈ S, b ∈ rsL p q m) (hm : m.length = 2 ^ (p + q)) (hpq : p + q ≤ 8) : S.length < 64 := by
  by_cases hp : p ≤ 5
  · have h1 := nodup_sub_len hd hs
    rw [rsL_len] at h1
    have : 2 ^ p ≤ 2 ^ 5 := Nat.pow_le_pow_right (by decide) hp
    omega
  · have h1 := nodup_sub_len (b := afs (2 ^ q)) hd fun b hb => by
      have := rsL_each hm b (hs b hb)
      rw [← this]; exact afs_all b
    rw [afs_len] at h1
    have h2 : 2 ^ q ≤ 2 ^ 2 := Nat.pow_le_pow_right (by decide) (by omega)
    have h3 : 2 ^ (2 ^ q) ≤ 2 ^ (2 ^ 2) := Nat.pow_le_pow_right (by decide) h2
    omega
set_option maxHeartbeats 2000000
set_option maxHeartbeats 2000000
def sp_order : SpD := fun as M Q => ∃ (ds : List D) (b n : Nat), as = [.ref 0, .d (.int (n : Int))] ∧ M = [.lst ds] ∧ Tp b ds ∧ b + n + 10 < 1099511627776 ∧ n ≤ 1000 ∧
  ∀ (ks : List Nat) (ds' : List D), ks.Perm (List.range n) → Tp (b + n + 1) ds' → Q (.d (.lst (ks.map nD))) [.lst ds']
def r_order (sp__law_take : SpD) (sp__law_mixed : SpD) : TS' :=
  (sRet (eIf (tTb (eo2 eqD (eCall [true, false] sp__law_take (aP [(pV 0), (pC (.int 3))])) (eP (pC (.int 0))))) (eP (pFz (plN rgLF [(pV 1)]))) (eSeal 1 (eCall [true, false] sp__law_mixed (aP [(pV 0), (pFz (plN rgLF [(pV 1)]))])))))
theorem or_rg {M : Mem} {n : Nat} (h : n ≤ 1000) : rgLF M [.d (.int (n : Int))] = some ((List.range n).map nD) := by
  have e : rgLF M [.d (.int (n : Int))] = gd (-(2 ^ 62) ≤ (n : Int) ∧ (n : Int) ≤ 16777216) (rgL 0 ((n : Int)).toNat) := rfl
  rw [e, gd_pos (by omega), Int.toNat_natCast, rgL_nats]
theorem pure_order (as : List Sv) (M : Mem) (Q : Rv → Mem → Prop) (h : sp_order as M Q) : r_order sp_take sp_mixed (endsF M.length Q) (startD 2 as) M := by
  obtain ⟨ds, b, n, rfl, rfl, t, hb, hn, z⟩ := h
  show r_order sp_take sp_mixed (endsF 1 Q) [some (.ref 0), some (.d (.int (n : Int)))] [.lst ds]
  have er : ∀ M : Mem, rgLF M [.d (.int (n : Int))] = some ((List.range n).map nD) := fun M => or_rg hn
  unfold r_order
  generalize rgLF = RG at er ⊢
  simp only [VLY, er]
  refine take_ok t (by omega) (by decide) (by decide) fun v dt v0 v1 t1 => ?_
  simp only [VLY]
  refine ite_of (fun _ => ?_) fun _ => ?_
  · exact z _ dt (List.Perm.refl _) (t1.mono (by omega))
  · refine ⟨dt, b + 1, _, (List.range n).map nD, rfl, .inl rfl, rfl, t1, by simp; omega, by simp; omega, (fun x hx => ?_), fun ys dt2 hp t2 => ?_⟩
    · obtain ⟨p, _, rfl⟩ := List.mem_map.mp hx
      exact EqOk.int
    · obtain ⟨ks, hks, rfl⟩ := perm_nD hp
      rw [List.length_map, List.length_range] at t2
      simp only [VLY, sealD]
      exact z ks dt2 hks (t2.mono (by omega))
set_option maxHeartbeats 2000000
def prodL (c : Nat → Nat) (ps : List Nat) : Nat := ps.foldr (fun p a => c p * a) 1
def sumL (c : Nat → Nat) (ps : List Nat) : Nat := ps.foldr (fun p a => c p + a) 0
def spr (nm : List (List Int)) (acc : List Nat) (more p : Nat) : Nat := acc.getD p 0 * 2 ^ ((nm.getD acc.length []).length - more - (nm.getD p []).length)
def Rw.cn (nm : List (List Int)) (acc : List Nat) : Rw → Nat
  | .yes => 1
  | .no => 0
  | .has _ _ => 1
  | .all ps => prodL (fun p => acc.getD p 0) ps
  | .any ps => sumL (spr nm acc 0) ps
  | .pick _ lo hi => sumL (spr nm acc 1) [lo, hi]
set_option maxHeartbeats 2000000
theorem p60' {n c : Nat} (hn : n ≤ 60) (h : c ≤ 2 ^ n) : (c : Int).natAbs < 2 ^ 64 := by
  have h1 : 2 ^ n ≤ 2 ^ 60 := Nat.pow_le_pow_right (by decide) hn
  have h2 : (2 : Nat) ^ 60 = 1152921504606846976 := by decide
  have h3 : (2 : Nat) ^ 64 = 18446744073709551616 := by decide
  omega
theorem shl_int {M : Mem} {i j : Int} : shlD M (.d (.int i)) (.d (.int j)) = gd (CPow i j) (.d (.int (i * 2 ^ j.toNat))) := rfl
set_option maxHeartbeats 2000000
theorem shl_nat {M : Mem} {c m j : Nat} (hc : c ≤ 2 ^ 60) (hj : j ≤ m) (hm : m ≤ 1000) : shlD M (.d (.int (c : Int))) (.d (.int ((m : Int) - (j : Int)))) = some (.d (.int ((c * 2 ^ (m - j) : Nat) : Int))) := by
  have e : (m : Int) - (j : Int) = ((m - j : Nat) : Int) := by omega
  rw [e, shl_int, gd_pos ⟨by omega, by omega, p60' (n := 60) (by decide) hc⟩, Int.toNat_natCast, Int.natCast_mul, Int.natCast_pow]; rfl
set_option maxHeartbeats 2000000
theorem shl_one {M : Mem} {n j : Nat} (hj : j ≤ n) (hn : n ≤ 1000) : shlD M (.d (.int 1)) (.d (.int ((n : Int) - (j : Int)))) = some (.d (.int ((2 ^ (n - j) : Nat) : Int))) := by
  have := shl_nat (M := M) (c := 1) (m := n) (j := j) (by decide) hj hn
  rw [Nat.one_mul] at this
  exact this
def sp_lrests : SpD := fun as M Q => ∃ (m : List Bool) (p q : Nat), as = [.d (fD m), .d (.int ((p + q : Nat) : Int)), .d (.int (p : Int))] ∧ M = [] ∧ p < 13 ∧ q < 13 ∧ m.length = 2 ^ (p + q) ∧ p + q ≤ 12 ∧ Q (.new ((rsL p q m).map fD)) []
def r_lrests  : TS' :=
  (sSeq (sSet 3 (eP (po2 shlD (pC (.int 1)) (po2 subD (pV 1) (pV 2)))))
  (sRet (eNw (fLc (iRg true (aP [(pC (.int 0)), (poN lenD [(pV 0)]), (pV 3)])) (.nm 4) tYs (eP (poSl (pV 0) (poI (pV 4)) (poI (po2 addD (pV 4) (pV 3))))) [4]))))
theorem lr_set {f : Mem → Sv → Sv → Option Sv} {E : Ends'} {x0 : Option Sv} {n j L : Int} (hf : f [] (.d (.int 1)) (.d (.int (n - j))) = some (.d (.int L))) (fin : E.nx [x0, some (.d (.int n)), some (.d (.int j)), some (.d (.int L)), none] []) :
    (sSet 3 (eP (po2 f (pC (.int 1)) (po2 subD (pV 1) (pV 2))))) E [x0, some (.d (.int n)), some (.d (.int j)), none, none] [] := by
  simp only [VLY, hf]
  exact fin
theorem pure_lrests (as : List Sv) (M : Mem) (Q : Rv → Mem → Prop) (h : sp_lrests as M Q) : r_lrests (endsF M.length Q) (startD 5 as) M := by
  obtain ⟨m, p, q, rfl, rfl, hp, hq, hm, hpq, z⟩ := h
  show r_lrests (endsF 0 Q) [some (.d (fD m)), some (.d (.int ((p + q : Nat) : Int))), some (.d (.int (p : Int))), none, none] []
  have ef : fD m = .tup (m.map bitD) := rfl
  have hle : 2 ^ p ≤ 4096 := Nat.pow_le_pow_right (n := 2) (by decide) (show p ≤ 12 by omega)
  have hs := shl_one (M := []) (n := p + q) (j := p) (by omega) (by omega)
  rw [Nat.add_sub_cancel_left] at hs
  unfold r_lrests
  rw [sSeq_app]
  refine lr_set hs ?_
  rw [ef]
  simp only [VLY, List.length_map, hm]
  refine rng_up hp hq ?_
  rw [rgC_nat]
  refine ⟨fun _ => by rw [List.length_map, List.length_range, sizeLine_eq]; omega, ?_⟩
  refine lc_map (f := rsD q m) trivial ?_ ?_
  · intro d hd R hR
    obtain ⟨i, _, rfl⟩ := List.mem_map.mp hd
    have e1 : ((i * 2 ^ q : Nat) : Int) + ((2 ^ q : Nat) : Int) = ((i * 2 ^ q + 2 ^ q : Nat) : Int) := by omega
    have e2 : rsD q m (nD (i * 2 ^ q)) = .tup (((m.drop (i * 2 ^ q)).take (2 ^ q)).map bitD) := rfl
    rw [e2] at hR
    simp only [VLY, nD, e1, cut_fD]
    exact hR
  · rw [rsD_map]
    exact z
set_option maxHeartbeats 2000000
set_option maxHeartbeats 2000000
set_option maxHeartbeats 2000000
set_option maxHeartbeats 2000000
/-- all pairs of heads -/
def prsHd (hs : List (List Bool)) (j : Nat) : List (List Bool × List Bool) := (List.range j).flatMap fun i => (hs.drop (i + 1)).map fun b => (hs.getD i [], b)
theorem prsHd_S {hs : List (List Bool)} {j : Nat} : prsHd hs (j + 1) = prsHd hs j ++ (hs.drop (j + 1)).map fun b => (hs.getD j [], b) := by
  unfold prsHd
  rw [List.range_succ, List.flatMap_append, List.flatMap_cons, List.flatMap_nil, List.append_nil]
theorem prsHd_len {hs : List (List Bool)} : ∀ j, (prsHd hs j).length ≤ j * hs.length
  | 0 => Nat.zero_le _
  | j + 1 => by
    have := prsHd_len (hs := hs) j
    rw [prsHd_S, List.length_append, List.length_map, List.length_drop, Nat.add_mul, Nat.one_mul]
    omega
def ppD (x : List Bool × List Bool) : D := .tup [fD x.1, fD x.2]
/-- the first place at which two rests are unlike -/
def funl (a b : List Bool) : Nat := ((a.zip b).map fun p => decide (p.1 = p.2)).idxOf false
theorem zip_bb : ∀ a b : List Bool, zipL (a.map bitD) (b.map bitD) = (a.zip b).map fun p => .tup [bitD p.1, bitD p.2]
  | [], _ => by simp [zipL]
  | _ :: _, [] => by simp [zipL]
  | x :: a, y :: b => by
    have ih := zip_bb a b
    unfold zipL at ih ⊢
    rw [List.map_cons, List.map_cons, List.zip_cons_cons, List.map_cons, ih, List.zip_cons_cons, List.map_cons]
theorem funl_mem : ∀ {a b : List Bool}, a.length = b.length → a ≠ b → false ∈ (a.zip b).map fun p => decide (p.1 = p.2)
  | [], [], _, h => absurd rfl h
  | x :: a, y :: b, hl, h => by
    rw [List.zip_cons_cons, List.map_cons, List.mem_cons]
    by_cases e : x = y
    · refine .inr (funl_mem (by simpa using hl) fun z => h (by rw [e, z]))
    · exact .inl (decide_eq_false e).symm
theorem index_bl {M : Mem} {l : List Bool} (h : false ∈ l) : indexD M (.d (.lst (l.map D.bl))) [.d (.bl false)] = some (.d (.int (l.idxOf false : Nat))) := by
  have e : indexD M (.d (.lst (l.map D.bl))) [.d (.bl false)] = (some (l.map D.bl)).bind fun ds => gd (okE (.bl false) = true ∧ okE (.lst ds) = true ∧ (ds.any fun z => eqvD z (.bl false)) = true) (intS ((ds.findIdx fun z => eqvD z (.bl false) : Nat) : Int)) := rfl
  have e1 : ((l.map D.bl).any fun z => eqvD z (.bl false)) = true := List.any_eq_true.mpr ⟨.bl false, List.mem_map_of_mem h, rfl⟩
  rw [e, Option.bind_some, gd_pos ⟨okE_bl, okE_bls, e1⟩]
  show some (intS _) = _
  congr 3
  rw [List.findIdx_map]
  unfold List.idxOf
  congr 1
def sp_funl : SpD := fun as M Q => ∃ a b : List Bool, as = [.d (.tup (a.map bitD)), .d (.tup (b.map bitD))] ∧ M = [] ∧ a.length = b.length ∧ a ≠ b ∧ a.length ≤ 100000 ∧ Q (.d (.int (funl a b : Int))) []
def r_funl  : TS' :=
  (sRet (eMt "list" (mPure indexD) (eFz (fLc (iZq (aP [(pV 0), (pV 1)])) (.tp [2, 3]) tYs (eP (po2 eqD (pV 2) (pV 3))) [2, 3])) (aP [(pC (.bl false))])))
theorem pure_funl (as : List Sv) (M : Mem) (Q : Rv → Mem → Prop) (h : sp_funl as M Q) : r_funl (endsF M.length Q) (startD 4 as) M := by
  obtain ⟨a, b, rfl, rfl, hl, hne, hla, z⟩ := h
  show r_funl (endsF 0 Q) [some (.d (.tup (a.map bitD))), some (.d (.tup (b.map bitD))), none, none] []
  simp only [r_funl]
  simp only [VLY]
  refine iZq_tt rfl rfl ?_
  rw [zip_bb]
  refine lc_ix _ (fun j acc M => acc = (((a.zip b).take j).map fun p => D.bl (decide (p.1 = p.2))) ∧ M = []) ?_ ?_ _ _ ⟨rfl, rfl⟩
  · rintro acc M ⟨rfl, rfl⟩
    rw [List.length_map, List.take_length]
    refine ⟨trivial, ?_⟩
    have e : ((a.zip b).map fun p => D.bl (decide (p.1 = p.2))) = ((a.zip b).map fun p => decide (p.1 = p.2)).map D.bl := by rw [List.map_map]; rfl
    rw [e, index_bl (funl_mem hl hne)]
    simp only [VLY]
    exact z
  · rintro j x acc M nx hx ⟨rfl, rfl⟩ k
    rw [List.getElem?_map, Option.map_eq_some_iff] at hx
    obtain ⟨p, hp, rfl⟩ := hx
    refine ⟨trivial, ?_⟩
    simp only [gTp_s, tYs, if_true]
    simp only [VLY, eq_bit]
    refine k _ _ ⟨?_, rfl⟩
    rw [take_snoc hp, List.map_append]
    rw [show (p.1 == p.2) = decide (p.1 = p.2) from rfl]
    rfl
def lhT (rs : List (List Bool)) (j : Nat) : List Nat := (List.range j).filter fun i => !(rs.take i).contains (rs.getD i [])
theorem lhT_S {rs : List (List Bool)} {j : Nat} : lhT rs (j + 1) = lhT rs j ++ if (rs.take j).contains (rs.getD j []) then [] else [j] := by
  unfold lhT
  rw [List.range_succ, List.filter_append]
  congr 1
  by_cases h : (rs.take j).contains (rs.getD j []) = true
  · rw [if_pos h, List.filter_cons_of_neg (by rw [h]; decide)]; rfl
  · rw [if_neg h, List.filter_cons_of_pos (by rw [Bool.not_eq_true] at h; rw [h]; rfl)]; rfl
theorem knin_k {M : Mem} {j : Nat} {N : List (D × D)} {k : D} {nk : NestedKey} (e : nkD k = some nk) (h : M[j]? = some (.dn N)) : kninD M (.d k) (.ref j) = some (.d (.bl (!(valN N nk).isSome))) := by
  have e1 : kninD M (.d k) (.ref j) = ((cellN M[j]?).bind fun kvs => (nkD k).map fun k => (valN kvs k).isSome).map fun b => blS (!b) := rfl
  rw [e1, h, e]; rfl
def sp_lheads : SpD := fun as M Q => ∃ rs : List (List Bool), as = [.d (.lst (rs.map fD))] ∧ M = [] ∧ rs.length ≤ 100000 ∧ Q (.new ((lhT rs rs.length).map nD)) []
def r_lheads  : TS' :=
  (sSeq (sSet 1 eKdN)
  (sSeq (sSet 2 (eNw (fP (plLst []))))
  (sSeq (sFor (iEn (eP (pV 0))) (gTp [3, 4])
  (sIf (cP (bB (po2 kninD (pV 4) (pV 1))))
  (sSeq (sSubN (eP (pC (.bl true))) (eP (pV 1)) (eP (pV 4)))
  (sDrop (eMt "list" mApp (eP (pV 2)) (aP [(pV 3)]))))
  sNil))
  (sRet (eP (pV 2))))))
theorem pure_lheads (as : List Sv) (M : Mem) (Q : Rv → Mem → Prop) (h : sp_lheads as M Q) : r_lheads (endsF M.length Q) (startD 5 as) M := by
  obtain ⟨rs, rfl, rfl, hl, z⟩ := h
  show r_lheads (endsF 0 Q) [some (.d (.lst (rs.map fD))), none, none, none, none] []
  unfold r_lheads
  simp only [VLY, knew, iEn]
  refine for_ix _ (fun j δ M => ∃ (o3 o4 : Option Sv) (N : List (D × D)), δ = [some (.d (.lst (rs.map fD))), some (.ref 0), some (.ref 1), gcO 2 o3, gcO 2 o4] ∧ M = [.dn N, .lst ((lhT rs j).map nD)] ∧ N.length ≤ j ∧ ∀ b, (valN N (bK b)).isSome = (rs.take j).contains b) ?_ ?_ _ _ ⟨none, none, [], rfl, rfl, Nat.le_refl _, fun b => rfl⟩
  · rintro δ M ⟨o3, o4, N, rfl, rfl, h1, h2⟩
    rw [enumL_len, List.length_map]
    refine ⟨trivial, ?_⟩
    simp only [VLY]
    exact z
  · rintro j x δ M nx hx ⟨o3, o4, N, rfl, rfl, h1, h2⟩ k
    obtain ⟨b, hb, rfl⟩ := enum_at hx
    rw [List.getElem?_map, Option.map_eq_some_iff] at hb
    obtain ⟨h, hh, rfl⟩ := hb
    have hj := (List.getElem?_eq_some_iff.mp hh).1
    have hg : rs.getD j [] = h := by rw [List.getD_eq_getElem?_getD, hh]; rfl
    have hS := lhT_S (rs := rs) (j := j)
    rw [hg] at hS
    refine ⟨trivial, ?_⟩
    simp only [gTp_s, fD]
    simp only [VLY]
    rw [knin_k (j := 0) nk_bits rfl, h2]
    simp only [VLY]
    have htk := take_snoc hh
    have hle : (lhT rs j).length ≤ j := Nat.le_trans (List.length_filter_le ..) (by rw [List.length_range]; exact Nat.le_refl _)
    by_cases hc : (rs.take j).contains h = true
    · rw [hc]
      rw [if_pos hc, List.append_nil] at hS
      refine k _ _ ⟨some (.d (.int (j : Int))), some (.d (fD h)), N, rfl, by rw [hS]; rfl, by omega, fun b => ?_⟩
      rw [h2, htk, List.contains_eq_mem, List.contains_eq_mem]
      rw [List.contains_eq_mem, decide_eq_true_eq] at hc
      congr 1
      rw [List.mem_append, List.mem_singleton]
      exact propext ⟨.inl, fun z => z.elim id fun z => z ▸ hc⟩
    · rw [if_neg hc] at hS
      rw [Bool.not_eq_true] at hc
      rw [hc]
      simp only [VLY, subN]
      refine stN_k (nk_bits (m := h)) (j := 0) rfl (by rw [sizeLine_eq]; omega) ?_
      simp only [VLY]
      refine ⟨by rw [List.length_map, sizeLine_eq]; omega, ?_⟩
      refine k _ _ ⟨some (.d (.int (j : Int))), some (.d (fD h)), putN N (.tup (h.map bitD)) (bK h) (.bl true), rfl, by rw [hS, List.map_append]; rfl, ?_, fun b => ?_⟩
      · have := putN_len (kvs := N) (d := .tup (h.map bitD)) (v := .bl true) (k := bK h)
        omega
      · rw [val_b, htk, List.contains_eq_mem]
        by_cases e : b = h
        · rw [if_pos e, e]
          symm
          exact decide_eq_true (List.mem_append_right _ List.mem_cons_self)
        · rw [if_neg e, h2, List.contains_eq_mem]
          congr 1
          rw [List.mem_append, List.mem_singleton]
          exact propext ⟨.inl, fun z => z.resolve_right e⟩
def ltB (a b : List Bool) : Bool := HT.lexLt (a.map bI) (b.map bI)
set_option maxHeartbeats 2000000
set_option maxHeartbeats 2000000
theorem bd_bits (m : List Bool) : TS.Bd 2 (m.map bI) := fun x hx => by
  obtain ⟨b, _, rfl⟩ := List.mem_map.mp hx
  cases b <;> decide
theorem ltB_code : ∀ {a b : List Bool}, a.length = b.length → ltB a b = decide (TS.code 2 (a.map bI) < TS.code 2 (b.map bI))
  | [], [], _ => by simp [ltB, HT.lexLt, TS.code]
  | x :: a, y :: b, h => by
    have h : a.length = b.length := by simpa using h
    have hl : (a.map bI).length = (b.map bI).length := by rw [List.length_map, List.length_map, h]
    have ih := ltB_code h
    unfold ltB at ih ⊢
    rw [List.map_cons, List.map_cons, HT.lexLt]
    by_cases e : bI x = bI y
    · rw [if_pos e, e, ih]
      congr 1
      exact propext (TS.code_same (B := 2) hl).symm
    · rw [if_neg e]
      congr 1
      by_cases h2 : bI x < bI y
      · exact propext ⟨fun _ => TS.code_lt hl (bd_bits a) (bd_bits b) h2, fun _ => h2⟩
      · have h3 : bI y < bI x := by omega
        have := TS.code_lt hl.symm (bd_bits b) (bd_bits a) h3
        exact propext ⟨fun z => absurd z h2, fun z => by omega⟩
def cdM (m : List Bool) : Int := TS.code 2 (m.map bI)
set_option maxHeartbeats 2000000
set_option maxHeartbeats 2000000
theorem afs_code : ∀ (j i : Nat) (a : List Bool), (afs j)[i]? = some a → cdM a = (i : Int)
  | 0, i, a, ha => by
    have hi := (List.getElem?_eq_some_iff.mp ha).1
    rw [afs_len] at hi
    have hi : i = 0 := by omega
    subst hi
    cases ha; rfl
  | j + 1, i, a, ha => by
    have hi := (List.getElem?_eq_some_iff.mp ha).1
    rw [afs_len, two_pow] at hi
    rw [afs] at ha
    by_cases h : i < 2 ^ j
    · rw [List.getElem?_append_left (by rw [List.length_map, afs_len]; exact h), List.getElem?_map, Option.map_eq_some_iff] at ha
      obtain ⟨a', ha', rfl⟩ := ha
      have ih := afs_code j i a' ha'
      show bI false * 2 ^ (a'.map bI).length + TS.code 2 (a'.map bI) = _
      have e0 : bI false = 0 := rfl
      rw [e0, Int.zero_mul, Int.zero_add]
      exact ih
    · rw [List.getElem?_append_right (by rw [List.length_map, afs_len]; omega), List.length_map, afs_len, List.getElem?_map, Option.map_eq_some_iff] at ha
      obtain ⟨a', ha', rfl⟩ := ha
      have ih := afs_code j (i - 2 ^ j) a' ha'
      have hl := afs_mem j a' (List.mem_of_getElem? ha')
      show bI true * 2 ^ (a'.map bI).length + TS.code 2 (a'.map bI) = _
      have ih : TS.code 2 (a'.map bI) = ((i - 2 ^ j : Nat) : Int) := ih
      have e1 : bI true = 1 := rfl
      rw [ih, e1, Int.one_mul, List.length_map, hl]
      have e2 : (2 : Int) ^ j = ((2 ^ j : Nat) : Int) := by rw [Int.natCast_pow]; rfl
      rw [e2]
      omega
def prN (H : List Nat) (j : Nat) : List (Nat × Nat) := (List.range j).flatMap fun i => (H.drop (i + 1)).map fun b => (H.getD i 0, b)
theorem prN_S {H : List Nat} {j : Nat} : prN H (j + 1) = prN H j ++ (H.drop (j + 1)).map fun b => (H.getD j 0, b) := by
  unfold prN
  rw [List.range_succ, List.flatMap_append, List.flatMap_cons, List.flatMap_nil, List.append_nil]
theorem prN_map {H : List Nat} {f : Nat → List Bool} : ∀ j, j ≤ H.length → prsHd (H.map f) j = (prN H j).map fun p => (f p.1, f p.2)
  | 0, _ => rfl
  | j + 1, h => by
    rw [prsHd_S, prN_S, List.map_append, prN_map j (by omega)]
    congr 1
    have e : (H.map f).getD j [] = f (H.getD j 0) := by
      rw [List.getD_eq_getElem?_getD, List.getD_eq_getElem?_getD, List.getElem?_map, List.getElem?_eq_getElem (by omega)]; rfl
    rw [e, ← List.map_drop, List.map_map, List.map_map]; rfl
theorem prN_mem {H : List Nat} (hs : H.Pairwise (· < ·)) : ∀ j, j ≤ H.length → ∀ p ∈ prN H j, p.1 ∈ H ∧ p.2 ∈ H ∧ p.1 < p.2
  | 0, _, p, h => nomatch h
  | j + 1, hj, p, h => by
    rw [prN_S] at h
    rcases List.mem_append.mp h with h | h
    · exact prN_mem hs j (by omega) p h
    · obtain ⟨b, hb, rfl⟩ := List.mem_map.mp h
      have hjl : j < H.length := by omega
      have e : H.getD j 0 = H[j] := by rw [List.getD_eq_getElem?_getD, List.getElem?_eq_getElem hjl]; rfl
      have hd : H.drop j = H[j] :: H.drop (j + 1) := List.drop_eq_getElem_cons hjl
      have hs2 := hs.sublist (List.drop_sublist j H)
      rw [hd] at hs2
      refine ⟨?_, List.mem_of_mem_drop hb, ?_⟩
      · show H.getD j 0 ∈ H
        rw [e]; exact List.getElem_mem _
      · show H.getD j 0 < b
        rw [e]; exact (List.pairwise_cons.mp hs2).1 b hb
theorem lhT_lt {rs : List (List Bool)} {j : Nat} : (lhT rs j).Pairwise (· < ·) := by
  unfold lhT
  exact List.pairwise_lt_range.sublist List.filter_sublist
theorem lhT_mem {rs : List (List Bool)} {j i : Nat} : i ∈ lhT rs j ↔ i < j ∧ rs.getD i [] ∉ rs.take i := by
  unfold lhT
  rw [List.mem_filter, List.mem_range, Bool.not_eq_true', List.contains_eq_mem, decide_eq_false_iff_not]
def rstP (c : Cm) (ks : List Nat) (j : Nat) : List (List Bool) := rsL j (ks.length - j) (mean c ks)
def hdsP (c : Cm) (ks : List Nat) (j : Nat) : List Nat := lhT (rstP c ks j) (rstP c ks j).length
def papH (c : Cm) (ks : List Nat) (j : Nat) : List (List Bool) := (hdsP c ks j).map fun i => (afs j).getD i []
def tailP (c : Cm) (ks : List Nat) (j : Nat) (p : Nat × Nat) : List Bool := (afs (ks.length - j)).getD (funl ((rstP c ks j).getD p.1 []) ((rstP c ks j).getD p.2 [])) []
def papT (c : Cm) (ks : List Nat) (j : Nat) : List (List Bool) := (prN (hdsP c ks j) (hdsP c ks j).length).map (tailP c ks j)
set_option maxHeartbeats 2000000
theorem funl_lt {a b : List Bool} (hl : a.length = b.length) (h : a ≠ b) : funl a b < a.length := by
  have := List.idxOf_lt_length_of_mem (funl_mem hl h)
  rw [List.length_map, List.length_zip] at this
  unfold funl
  omega
theorem rstP_get {c : Cm} {ks : List Nat} {j i : Nat} (h : i < 2 ^ j) : (rstP c ks j).getD i [] = ((mean c ks).drop (i * 2 ^ (ks.length - j))).take (2 ^ (ks.length - j)) := by
  unfold rstP rsL
  rw [List.getD_eq_getElem?_getD, List.getElem?_map, List.getElem?_eq_getElem (by rw [List.length_range]; exact h), List.getElem_range]; rfl
theorem rstP_len {c : Cm} {ks : List Nat} {j : Nat} : (rstP c ks j).length = 2 ^ j := rsL_len
theorem mean_len2 {c : Cm} {ks : List Nat} {j : Nat} (hj : j ≤ ks.length) : (mean c ks).length = 2 ^ (j + (ks.length - j)) := by rw [mean_len]; congr 1; omega
theorem rst_each {c : Cm} {ks : List Nat} {j i : Nat} (hj : j ≤ ks.length) (h : i < 2 ^ j) : ((rstP c ks j).getD i []).length = 2 ^ (ks.length - j) := by
  refine rsL_each (p := j) (m := mean c ks) (mean_len2 hj) _ ?_
  rw [rstP_get h]
  exact rsL_mem.mpr ⟨i, h, rfl⟩
theorem hds_mem {c : Cm} {ks : List Nat} {j i : Nat} (h : i ∈ hdsP c ks j) : i < 2 ^ j := by
  have := (lhT_mem.mp h).1
  rwa [rstP_len] at this
theorem hds_unl {c : Cm} {ks : List Nat} {j a b : Nat} (hb : b ∈ hdsP c ks j) (h : a < b) : (rstP c ks j).getD a [] ≠ (rstP c ks j).getD b [] := fun e => by
  obtain ⟨h1, h2⟩ := lhT_mem.mp hb
  refine h2 ?_
  rw [← e]
  have hal : a < (rstP c ks j).length := by omega
  rw [List.getD_eq_getElem?_getD, List.getElem?_eq_getElem hal]
  show (rstP c ks j)[a] ∈ _
  exact List.mem_take_iff_getElem.mpr ⟨a, by omega, rfl⟩
theorem hds_few {c : Cm} {ks : List Nat} {j : Nat} (hj : j ≤ ks.length) (hn : ks.length ≤ 8) : (hdsP c ks j).length < 64 := by
  have hd : ((hdsP c ks j).map fun i => (rstP c ks j).getD i []).Nodup := by
    rw [List.Nodup, List.pairwise_map]
    exact List.Pairwise.imp_of_mem (fun {a b} _ hb h => hds_unl hb h) lhT_lt
  have := few_blocks (p := j) (q := ks.length - j) (m := mean c ks) hd (fun b hb => by
    obtain ⟨i, hi, rfl⟩ := List.mem_map.mp hb
    rw [rstP_get (hds_mem hi)]
    exact rsL_mem.mpr ⟨i, hds_mem hi, rfl⟩) (mean_len2 hj) (by omega)
  rwa [List.length_map] at this
theorem papH_len {c : Cm} {ks : List Nat} {j : Nat} : (papH c ks j).length = (hdsP c ks j).length := List.length_map ..
theorem afs_get {j i : Nat} (h : i < 2 ^ j) : ((afs j).getD i []).length = j := by
  refine afs_mem j _ ?_
  rw [List.getD_eq_getElem?_getD, List.getElem?_eq_getElem (by rw [afs_len]; exact h)]
  exact List.getElem_mem _
theorem tail_ok {c : Cm} {ks : List Nat} {j : Nat} (hj : j ≤ ks.length) {p : Nat × Nat} (hp : p ∈ prN (hdsP c ks j) (hdsP c ks j).length) :
    funl ((rstP c ks j).getD p.1 []) ((rstP c ks j).getD p.2 []) < 2 ^ (ks.length - j) ∧ (rstP c ks j).getD p.1 [] ≠ (rstP c ks j).getD p.2 [] ∧ p.1 < 2 ^ j ∧ p.2 < 2 ^ j := by
  obtain ⟨h1, h2, h3⟩ := prN_mem (lhT_lt (rs := rstP c ks j)) _ (Nat.le_refl _) p hp
  have b1 := hds_mem h1
  have b2 := hds_mem h2
  have hu := hds_unl h2 h3
  have hl := funl_lt ((rst_each hj b1).trans (rst_each hj b2).symm) hu
  rw [rst_each hj b1] at hl
  exact ⟨hl, hu, b1, b2⟩
set_option maxHeartbeats 2000000
theorem at_fD {l : List (List Bool)} {i : Nat} (h : i < l.length) : atI (l.map fD) (i : Int) = some (fD (l.getD i [])) := by
  unfold atI
  rw [ixN_nat (by rw [List.length_map]; exact h), Option.bind_some, List.getElem?_map, List.getD_eq_getElem?_getD, List.getElem?_eq_getElem h]; rfl
def sp_paper : SpD := fun as M Q => ∃ (s : Sv) (c : Cm) (ks : List Nat) (j : Nat), as = [.d (cD c), .d (.int (ks.length : Int)), s, .d (.int (j : Int))] ∧ LV s (ks.map nD) ∧ M = [] ∧ (∀ k ∈ ks, k < ks.length) ∧ ks.length ≤ 8 ∧ j ≤ ks.length ∧ c.ok ks.length 11 ∧
  Q (.d (.tup [.lst ((papH c ks j).map fD), .lst ((papT c ks j).map fD)])) []
def r_paper (sp_rests_at : SpD) (sp_meaning_of : SpD) (sp_least_heads : SpD) (sp_all_settings : SpD) (sp_first_unlike : SpD) : TS' :=
  (sSeq (sSet 4 (eSeal 0 (eCall [false, false] sp_rests_at (aCons (eCall [false, false, false] sp_meaning_of (aP [(pV 0), (pV 1), (pV 2)])) (aP [(po2 shlD (pC (.int 1)) (po2 subD (pV 1) (pV 3)))])))))
  (sSeq (sSet 5 (eSeal 0 (eCall [false] sp_least_heads (aP [(pV 4)]))))
  (sSeq (sParT [7, 8] (aCons (eSeal 0 (eCall [false] sp_all_settings (aP [(pV 3)]))) (aCons (eSeal 0 (eCall [false] sp_all_settings (aP [(po2 subD (pV 1) (pV 3))]))) (aP []))))
  (sSeq (sSet 6 (eNw (fP (plLst []))))
  (sSeq (sFor (iEn (eP (pV 5))) (gTp [9, 10])
  (sDrop (eMt "list" mExt (eP (pV 6)) (aCons (eFz (fLc (iPq (pFz (plSl (pV 5) (poI (po2 addD (pV 9) (pC (.int 1)))) poNo))) (.nm 12) tYs (eo2 ixD (eP (pV 8)) (eCall [false, false] sp_first_unlike (aP [(po2 ixD (pV 4) (pV 10)), (po2 ixD (pV 4) (pV 12))]))) [12])) (aP [])))))
  (sRet (tTupE (aCons (eFz (fLc (iPq (pV 5)) (.nm 11) tYs (eP (po2 ixD (pV 7) (pV 11))) [11])) (aCons (eSeal 0 (eP (pV 6))) (aP []))))))))))
theorem pure_paper (as : List Sv) (M : Mem) (Q : Rv → Mem → Prop) (h : sp_paper as M Q) : r_paper sp_rests sp_mean sp_lheads sp_afs sp_funl (endsF M.length Q) (startD 13 as) M := by
  obtain ⟨s, c, ks, j, rfl, hL, rfl, hk, hn, hj, hc, z⟩ := h
  show r_paper sp_rests sp_mean sp_lheads sp_afs sp_funl (endsF 0 Q) [some (.d (cD c)), some (.d (.int (ks.length : Int))), some s, some (.d (.int (j : Int))), none, none, none, none, none, none, none, none, none] []
  unfold r_paper
  have hsh := fun M : Mem => shl_one (M := M) hj (by omega)
  generalize shlD = sh at hsh ⊢
  rw [sSeq_app]
  simp only [VLY, hL.hand]
  refine ⟨s, c, ks, rfl, hL, rfl, hk, by omega, hc, ?_⟩
  simp only [VLY, hsh]
  have h13 : 2 ^ j ≤ 256 := Nat.le_trans (Nat.pow_le_pow_right (n := 2) (by decide) (show j ≤ 8 by omega)) (by decide)
  refine ⟨mean c ks, j, ks.length - j, rfl, rfl, by omega, by omega, mean_len2 hj, by omega, ?_⟩
  have er : rsL j (ks.length - j) (mean c ks) = rstP c ks j := rfl
  rw [er]
  simp only [VLY, sealD]
  refine ⟨rstP c ks j, rfl, rfl, by rw [rstP_len]; omega, ?_⟩
  have eh : lhT (rstP c ks j) (rstP c ks j).length = hdsP c ks j := rfl
  rw [eh]
  simp only [VLY, sealD]
  refine ⟨j, rfl, rfl, by omega, ?_⟩
  have e1 : (ks.length : Int) - (j : Int) = ((ks.length - j : Nat) : Int) := by omega
  simp only [VLY, sealD, e1]
  refine ⟨ks.length - j, rfl, rfl, by omega, ?_⟩
  simp only [VLY, sealD, iEn, setAllS]
  have hHl := hds_few (c := c) hj hn
  refine for_ix _ (fun i δ M => ∃ o9 o10 o11 o12, δ = [some (.d (cD c)), some (.d (.int (ks.length : Int))), some s, some (.d (.int (j : Int))), some (.d (.lst ((rstP c ks j).map fD))), some (.d (.lst ((hdsP c ks j).map nD))), some (.ref 2), some (.d (.lst ((afs j).map fD))), some (.d (.lst ((afs (ks.length - j)).map fD))), gcO 3 o9, gcO 3 o10, gcO 3 o11, gcO 3 o12] ∧
    M = [.gone, .gone, .lst ((prN (hdsP c ks j) i).map fun p => fD (tailP c ks j p))]) ?_ ?_ _ _ ⟨none, none, none, none, rfl, rfl⟩
  · rintro δ M ⟨o9, o10, o11, o12, rfl, rfl⟩
    rw [enumL_len, List.length_map]
    refine ⟨trivial, ?_⟩
    simp only [VLY]
    refine lc_map (f := fun d => match d with | .int i => fD ((afs j).getD i.toNat []) | d => d) trivial ?_ ?_
    · intro d hd R hR
      obtain ⟨i, hi, rfl⟩ := List.mem_map.mp hd
      have hR : R (.d (fD ((afs j).getD i []))) _ := hR
      simp only [nD]
      simp only [VLY, at_fD (show i < (afs j).length by rw [afs_len]; exact hds_mem hi)]
      exact hR
    · have e2 : ((hdsP c ks j).map nD).map (fun d => match d with | .int i => fD ((afs j).getD i.toNat []) | d => d) = (papH c ks j).map fD := by
        unfold papH
        rw [List.map_map, List.map_map]; rfl
      have e3 : (prN (hdsP c ks j) (hdsP c ks j).length).map (fun p => fD (tailP c ks j p)) = (papT c ks j).map fD := by
        unfold papT
        rw [List.map_map]; rfl
      rw [e2, e3]
      simp only [VLY]
      exact z
  · rintro i x δ M nx hx ⟨o9, o10, o11, o12, rfl, rfl⟩ k
    obtain ⟨b, hb, rfl⟩ := enum_at hx
    rw [List.getElem?_map, Option.map_eq_some_iff] at hb
    obtain ⟨h, hh, rfl⟩ := hb
    have hi := (List.getElem?_eq_some_iff.mp hh).1
    have hg : (hdsP c ks j).getD i 0 = h := by rw [List.getD_eq_getElem?_getD, hh]; rfl
    have hhm : h ∈ hdsP c ks j := List.mem_of_getElem? hh
    refine ⟨trivial, ?_⟩
    simp only [gTp_s, nD]
    have e2 : (i : Int) + 1 = ((i + 1 : Nat) : Int) := by omega
    simp only [VLY, e2, cut_from]
    rw [← List.map_drop]
    refine lc_map (f := fun d => match d with | .int b => fD (tailP c ks j (h, b.toNat)) | d => d) trivial ?_ ?_
    · intro d hd R hR
      obtain ⟨b, hb, rfl⟩ := List.mem_map.mp hd
      have hR : R (.d (fD (tailP c ks j (h, b)))) _ := hR
      have hpm : (h, b) ∈ prN (hdsP c ks j) (hdsP c ks j).length := by
        unfold prN
        exact List.mem_flatMap.mpr ⟨i, List.mem_range.mpr hi, List.mem_map.mpr ⟨b, hb, by rw [hg]⟩⟩
      obtain ⟨h1, h2, h3, h4⟩ := tail_ok hj hpm
      have hbm : b ∈ hdsP c ks j := List.mem_of_mem_drop hb
      simp only [nD]
      simp only [VLY, at_fD (show h < (rstP c ks j).length by rw [rstP_len]; exact h3), at_fD (show b < (rstP c ks j).length by rw [rstP_len]; exact h4)]
      refine ⟨(rstP c ks j).getD h [], (rstP c ks j).getD b [], rfl, rfl, (rst_each hj h3).trans (rst_each hj h4).symm, h2, ?_, ?_⟩
      · rw [rst_each hj h3]
        exact Nat.le_trans (Nat.pow_le_pow_right (n := 2) (by decide) (show ks.length - j ≤ 8 by omega)) (by decide)
      · simp only [VLY, at_fD (show funl ((rstP c ks j).getD h []) ((rstP c ks j).getD b []) < (afs (ks.length - j)).length by rw [afs_len]; exact h1)]
        exact hR
    · have e3 : (((hdsP c ks j).drop (i + 1)).map nD).map (fun d => match d with | .int b => fD (tailP c ks j (h, b.toNat)) | d => d) = ((hdsP c ks j).drop (i + 1)).map fun b => fD (tailP c ks j (h, b)) := by
        rw [List.map_map]; rfl
      rw [e3]
      have hl1 : (prN (hdsP c ks j) i).length ≤ 64 * 64 := by
        have h5 := prsHd_len (hs := papH c ks j) i
        have h6 : prsHd (papH c ks j) i = _ := prN_map i (by omega)
        rw [h6, List.length_map, papH_len] at h5
        exact Nat.le_trans h5 (Nat.mul_le_mul (by omega) (by omega))
      simp only [VLY, mext, laid_l]
      refine ⟨by rw [List.length_map, List.length_map, List.length_drop, sizeLine_eq]; omega, ?_⟩
      refine k _ _ ⟨some (.d (.int (i : Int))), some (.d (.int (h : Int))), gcO 3 o11, gcO 3 o12, by simp only [gcS_c, gcS_n, gcO_d, hL.gc]; rfl, ?_⟩
      rw [prN_S, List.map_append, hg, List.map_map]
      rfl
set_option maxHeartbeats 2000000
theorem lex_lt : ∀ xs ys : List Int, HT.lexLt xs ys = decide (xs < ys)
  | [], [] => by simp [HT.lexLt]
  | [], y :: ys => by simp [HT.lexLt]
  | x :: xs, [] => by simp [HT.lexLt]
  | x :: xs, y :: ys => by
    rw [HT.lexLt, lex_lt xs ys]
    by_cases h : x = y
    · rw [if_pos h]; simp [h, List.cons_lt_cons_iff]
    · rw [if_neg h]; simp [h, List.cons_lt_cons_iff]
theorem pyK_bits : ∀ b : List Bool, pys (b.map bitD) = (b.map bI).map PyData.int
  | [] => rfl
  | x :: b => by rw [List.map_cons, pys, pyK_bits b, List.map_cons]; cases x <;> rfl
theorem alikeK_bs : ∀ a b : List Int, PySem.W.alikeAll (a.map PyData.int) (b.map PyData.int) = true
  | [], _ => by simp [PySem.W.alikeAll]
  | _ :: _, [] => by simp [PySem.W.alikeAll]
  | x :: a, y :: b => by rw [List.map_cons, List.map_cons, PySem.W.alikeAll, alikeK_bs a b]; rfl
theorem alikeK_fD (a b : List Bool) : PySem.W.alike (py (fD a)) (py (fD b)) = true := by
  show PySem.W.alike (.tuple (pys (a.map bitD))) (.tuple (pys (b.map bitD))) = true
  rw [pyK_bits, pyK_bits, PySem.W.alike]
  exact alikeK_bs _ _
theorem dlt_fD {a b : List Bool} (h : a.length = b.length) : PySem.W.dataLt (py (fD a)) (py (fD b)) = decide (cdM a < cdM b) := by
  show PySem.W.dataLt (.tuple (pys (a.map bitD))) (.tuple (pys (b.map bitD))) = _
  rw [pyK_bits, pyK_bits, PySem.W.dataLt_tuple]
  have e := PySem.W.dataLt_ints (a.map bI) (b.map bI)
  have e2 := ltB_code h
  unfold ltB at e2
  rw [lex_lt] at e2
  exact e.trans e2
theorem py_pp (p : List Bool × List Bool) : py (ppD p) = .tuple [py (fD p.1), py (fD p.2)] := rfl
theorem le_pp {p q : List Bool × List Bool} (h1 : cdM p.1 < cdM q.1) (hl : p.1.length = q.1.length) : leDD (ppD p) (ppD q) = true := by
  have e : leDD (ppD p) (ppD q) = !PySem.W.dataLt (py (ppD q)) (py (ppD p)) := by
    show PySem.W.dataLe false py _ _ = _
    rw [PySem.W.dataLe_eq]; rfl
  have h2 : PySem.W.dataLt (py (fD p.1)) (py (fD q.1)) = true := by rw [dlt_fD hl, decide_eq_true h1]
  have h3 : PyData.eqv (py (fD q.1)) (py (fD p.1)) ≠ true := fun z => by
    have h4 := (PySem.W.toks_eqv _ _ (alikeK_fD q.1 p.1)).1 z
    unfold PySem.W.dataLt at h2
    rw [h4, PyProof.Rows.lex_irrefl] at h2
    cases h2
  rw [e, py_pp, py_pp, PySem.W.dataLt_pair (alikeK_fD _ _) (alikeK_fD _ _), if_neg h3, dlt_fD hl.symm, decide_eq_false (by omega)]
  rfl
theorem pp_ok (p : List Bool × List Bool) : EqOk (ppD p) := by
  have hb : ∀ m : List Bool, EqK 1 (fD m) := fun m => EqK.tup fun x hx => by
    obtain ⟨y, _, rfl⟩ := List.mem_map.mp hx
    exact EqK.bit
  exact EqK.ok (EqK.t2 (hb p.1) (hb p.2)) (by decide)
theorem pp_sr (l : List (List Bool × List Bool)) : OkSr (l.map ppD) := by
  refine ⟨?_, ?_, .inl ?_, ?_⟩
  · induction l with
    | nil => rfl
    | cons p l ih => rw [List.map_cons, noRs, ih, (pp_ok p).no]; rfl
  · intro x hx y hy
    obtain ⟨p, _, rfl⟩ := List.mem_map.mp hx
    obtain ⟨q, _, rfl⟩ := List.mem_map.mp hy
    rw [py_pp, py_pp]
    show PySem.W.alikeAll [_, _] [_, _] = true
    rw [PySem.W.alikeAll, PySem.W.alikeAll, alikeK_fD, alikeK_fD, PySem.W.alikeAll]; rfl
  · intro x hx
    obtain ⟨p, _, rfl⟩ := List.mem_map.mp hx
    rfl
  · intro x hx
    obtain ⟨p, _, rfl⟩ := List.mem_map.mp hx
    exact (pp_ok p).de
theorem sort_pp {M : Mem} {j : Nat} {l : List (List Bool × List Bool)} (h : (l.map fun p => cdM p.1).Pairwise (· < ·)) (hl : ∀ p ∈ l, p.1.length = j) : sortGF M [.d (.lst (l.map ppD))] = some (l.map ppD) := by
  rw [sortG_of rfl (pp_sr l)]
  unfold sortGD
  congr 1
  refine List.mergeSort_of_pairwise ?_
  rw [List.pairwise_map] at h ⊢
  refine List.Pairwise.imp_of_mem (fun {a b} ha hb hab => ?_) h
  exact le_pp hab ((hl a ha).trans (hl b hb).symm)
theorem unl_hd : ∀ {l : List (List Bool)} {a b : List Bool}, a.length = l.length → b.length = l.length → a ≠ b → ∃ r, ((l.zip (a.zip b)).filter fun p => !decide (p.2.1 = p.2.2)).map (·.1) = l.getD (funl a b) [] :: r
  | [], [], [], _, _, h => absurd rfl h
  | x :: l, y :: a, z :: b, h1, h2, h => by
    by_cases e : y = z
    · subst e
      obtain ⟨r, hr⟩ := unl_hd (l := l) (a := a) (b := b) (by simpa using h1) (by simpa using h2) (fun q => h (by rw [q]))
      refine ⟨r, ?_⟩
      have e2 : funl (y :: a) (y :: b) = funl a b + 1 := by
        unfold funl
        rw [List.zip_cons_cons, List.map_cons]
        simp [List.idxOf_cons]
      rw [List.zip_cons_cons, List.zip_cons_cons, List.filter_cons_of_neg (by simp), hr, e2]
      rfl
    · have e2 : funl (y :: a) (z :: b) = 0 := by
        unfold funl
        rw [List.zip_cons_cons, List.map_cons]
        simp [List.idxOf_cons, e]
      refine ⟨((l.zip (a.zip b)).filter fun p => !decide (p.2.1 = p.2.2)).map (·.1), ?_⟩
      rw [List.zip_cons_cons, List.zip_cons_cons, List.filter_cons_of_pos (by simpa using e), List.map_cons, e2]
      rfl
theorem lc_gf {α : Type} {g : TG'} {tt : TT'} {te : TE'} {δw : DS} {gd : Mem → Prop} {Q : List D → Mem → Prop} {e f : α → D} {p : α → Bool} {M : Mem} (hg : gd M) : ∀ {l : List α} {acc : List D},
    (∀ x ∈ l, ∀ (R1 : QD) (R2 : Mem → Prop), (p x = true → R1 (.d (f x)) M) → (p x = false → R2 M) → g (e x) δw M fun δ2 M2 => tt δ2 M2 fun b M3 => if b then te δ2 M3 R1 else R2 M3) → Q (acc ++ (l.filter p).map f) M → lcL g tt te δw gd Q (l.map e) acc M
  | [], acc, h, q => ⟨hg, by simpa using q⟩
  | d :: ds, acc, h, q => by
    refine ⟨hg, h d List.mem_cons_self _ _ (fun e => ?_) (fun e => ?_)⟩
    · show ok (some (f d)) _
      rw [ok_some]
      refine lc_gf hg (fun x hx => h x (List.mem_cons_of_mem _ hx)) ?_
      rw [List.filter_cons_of_pos e, List.map_cons] at q
      rw [List.append_assoc]; exact q
    · refine lc_gf hg (fun x hx => h x (List.mem_cons_of_mem _ hx)) ?_
      rw [List.filter_cons_of_neg (by rw [e]; decide)] at q
      exact q
theorem lc_gm {α : Type} {g : TG'} {te : TE'} {δw : DS} {gd : Mem → Prop} {Q : List D → Mem → Prop} {e f : α → D} {M : Mem} (hg : gd M) : ∀ {l : List α} {acc : List D},
    (∀ x ∈ l, ∀ R : QD, R (.d (f x)) M → g (e x) δw M fun δ2 M2 => te δ2 M2 R) → Q (acc ++ l.map f) M → lcL g tYs te δw gd Q (l.map e) acc M
  | [], acc, h, q => ⟨hg, by simpa using q⟩
  | d :: ds, acc, h, q => by
    refine ⟨hg, h d List.mem_cons_self _ ?_⟩
    show ok (some (f d)) _
    rw [ok_some]
    refine lc_gm hg (fun x hx => h x (List.mem_cons_of_mem _ hx)) ?_
    rw [List.map_cons] at q
    rw [List.append_assoc]; exact q
theorem zip3_bb (A : List (List Bool)) (a b : List Bool) : zip3L (A.map fD) (a.map bitD) (b.map bitD) = (A.zip (a.zip b)).map fun p => .tup [fD p.1, bitD p.2.1, bitD p.2.2] := by
  unfold zip3L
  rw [List.zip_map, List.zip_map, List.map_map]
  rfl
theorem frz_k {m0 i n : Nat} {t : TS'} {E : Ends'} {δ : DS} {M : Mem} {N : List (D × D)} (h : (δ[i]?).join = some (.ref n)) (hn : m0 ≤ n) (hM : M[n]? = some (.dn N)) (q : t E (δ.set i (some (.d (.dn (N.map (·.1)) (N.map (·.2)))))) (M.set n .gone)) : sFrz m0 i t E δ M := by
  unfold sFrz
  rw [h]
  show m0 ≤ n ∧ ok (cellN M[n]?) _
  rw [hM]
  exact ⟨hn, q⟩
theorem setd_k {M : Mem} {n : Nat} {N : List (D × D)} {k dz : D} {nk : NestedKey} {Q : QD} (hM : M[n]? = some (.dn N)) (e : nkD k = some nk) (hl : N.length < sizeLine) (q : match valN N nk with | some v => Q (.d v) M | none => Q (.d dz) (M.set n (.dn (putN N k nk dz)))) : ok (dnAt M (.ref n)) fun _ => stSD (.ref n) (.d k) (.d dz) M Q := by
  have e1 : dnAt M (.ref n) = some N := by
    show cellN M[n]? = _
    rw [hM]; rfl
  rw [e1, ok_some]
  show ok (cellN M[n]?) fun kvs => ok (nkD k) fun k' => kvs.length < sizeLine ∧ match valN kvs k' with
    | some v => Q (.d v) M
    | none => Q (.d dz) (M.set n (.dn (putN kvs k k' dz)))
  rw [hM, e]
  exact ⟨hl, q⟩
theorem gTG_k {δ : DS} {M : Mem} {R : DS → Mem → Prop} {x y z : D} (h : R (((δ.set 9 (some (.d x))).set 7 (some (.d y))).set 10 (some (.d z))) M) : gTG 2 (gsC (gNm 9) (gsC (gTG 2 (gsC (gNm 7) (gsC (gNm 10) gsN))) gsN)) (.tup [x, .tup [y, z]]) δ M R :=
  ⟨rfl, ⟨rfl, ⟨rfl, ⟨rfl, h⟩⟩⟩⟩
theorem ne_bitK {M : Mem} {a b : Bool} : neD M (.d (bitD a)) (.d (bitD b)) = some (.d (.bl (!decide (a = b)))) := by cases a <;> cases b <;> rfl
theorem gTp_k3 {i j k : Nat} {x y z : D} {δ : DS} {M : Mem} {Q : DS → Mem → Prop} : gTp [i, j, k] (.tup [x, y, z]) δ M Q = Q (((δ.set i (some (.d x))).set j (some (.d y))).set k (some (.d z))) M := rfl
theorem gcO_m {k : Nat} {o : Option D} : gcO k (o.map Sv.d) = o.map Sv.d := by cases o <;> rfl
end VL
set_option Elab.async false
set_option linter.all false
set_option maxRecDepth 100000
namespace VL
open PySem PySem.Spec L2
theorem q_sSeq (t u : TS') (E : _) (δ : _) (M : _) : sSeq t u E δ M = t { E with nx := fun δ' M' => u E δ' M' } δ M := rfl
theorem q_sIf (c : TT') (t u : TS') (E : _) (δ : _) (M : _) : sIf c t u E δ M = c δ M fun b M' => if b then t E δ M' else u E δ M' := rfl
theorem q_sSet (i : Nat) (t : TE') (E : _) (δ : _) (M : _) : sSet i t E δ M = t δ M fun d M' => E.nx (δ.set i (some d)) M' := rfl
theorem q_sSub (te to ti : TE') (E : _) (δ : _) (M : _) : sSub te to ti E δ M = te δ M fun s M1 => ok (dataS s) fun d => to δ M1 fun o M2 => ti δ M2 fun i M3 => stD o i d M3 fun M4 => E.nx δ M4 := rfl
theorem q_sRet (t : TE') (E : _) (δ : _) (M : _) : sRet t E δ M = t δ M fun d M' => E.rt d M' := rfl
theorem q_sRetN  (E : _) (δ : _) (M : _) : sRetN E δ M = E.rt (.d .non) M := rfl
theorem q_sNil  (E : _) (δ : _) (M : _) : sNil E δ M = E.nx δ M := rfl
theorem q_sDrop (t : TE') (E : _) (δ : _) (M : _) : sDrop t E δ M = t δ M fun _ M' => E.nx δ M' := rfl
theorem q_sAsg (t : TE') (g : TG') (E : _) (δ : _) (M : _) : sAsg t g E δ M = t δ M fun s M' => ok (dataS s) fun d => g d δ M' E.nx := rfl
theorem q_sParT (is : List Nat) (tA : TA') (E : _) (δ : _) (M : _) : sParT is tA E δ M = tA δ M fun xs M1 => ok (setAllS is xs δ) fun δ' => E.nx δ' M1 := rfl
theorem q_sAug (i : Nat) (f : Mem → Sv → Sv → Option Sv) (te : TE') (E : _) (δ : _) (M : _) : sAug i f te E δ M = ok (δ[i]?).join fun x => te δ M fun y M1 => ok (f M1 x y) fun z => E.nx (δ.set i (some z)) M1 := rfl
theorem q_cP (p : PB) (δ : _) (M : _) (Q : _) : cP p δ M Q = ok (p δ M) fun b => Q b M := rfl
theorem q_bB (p : PV) (δ : _) (M : _) : bB p δ M = (p δ M).bind blD := rfl
theorem q_bTr (p : PV) (δ : _) (M : _) : bTr p δ M = (p δ M).bind (truth M) := rfl
theorem q_bNt (p : PB) (δ : _) (M : _) : bNt p δ M = (p δ M).map fun b => !b := rfl
theorem q_bAn (p q : PB) (δ : _) (M : _) : bAn p q δ M = (p δ M).bind fun b => if b then q δ M else some false := rfl
theorem q_bOr (p q : PB) (δ : _) (M : _) : bOr p q δ M = (p δ M).bind fun b => if b then some true else q δ M := rfl
theorem q_po1 (f : Mem → Sv → Option Sv) (a : PV) (δ : _) (M : _) : po1 f a δ M = (a δ M).bind (f M) := rfl
theorem q_po2 (f : Mem → Sv → Sv → Option Sv) (a b : PV) (δ : _) (M : _) : po2 f a b δ M = (a δ M).bind fun x => (b δ M).bind fun y => f M x y := rfl
theorem q_poN (f : Mem → List Sv → Option Sv) (ps : List PV) (δ : _) (M : _) : poN f ps δ M = (pArgs ps δ M).bind (f M) := rfl
theorem q_poIf (t : PB) (a b : PV) (δ : _) (M : _) : poIf t a b δ M = (t δ M).bind fun k => if k then a δ M else b δ M := rfl
theorem q_poAn (a b : PV) (δ : _) (M : _) : poAn a b δ M = (a δ M).bind fun x => (truth M x).bind fun k => if k then b δ M else some x := rfl
theorem q_poOr (a b : PV) (δ : _) (M : _) : poOr a b δ M = (a δ M).bind fun x => (truth M x).bind fun k => if k then some x else b δ M := rfl
theorem q_poNt (a : PV) (δ : _) (M : _) : poNt a δ M = (a δ M).bind fun x => (truth M x).map fun k => blS (!k) := rfl
theorem q_poTup (ps : List PV) (δ : _) (M : _) : poTup ps δ M = ((pArgs ps δ M).bind datas).map fun ds => .d (.tup ds) := rfl
theorem q_plLst (ps : List PV) (δ : _) (M : _) : plLst ps δ M = (pArgs ps δ M).bind datas := rfl
theorem q_plN (f : Mem → List Sv → Option (List D)) (ps : List PV) (δ : _) (M : _) : plN f ps δ M = (pArgs ps δ M).bind (f M) := rfl
theorem q_pl2 (f : Mem → Sv → Sv → Option (List D)) (a b : PV) (δ : _) (M : _) : pl2 f a b δ M = (a δ M).bind fun x => (b δ M).bind fun y => f M x y := rfl
theorem q_pl1 (f : Mem → Sv → Option (List D)) (a : PV) (δ : _) (M : _) : pl1 f a δ M = (a δ M).bind (f M) := rfl
theorem q_pFz (p : PL) (δ : _) (M : _) : pFz p δ M = (p δ M).map fun ds => .d (.lst ds) := rfl
theorem q_pV (i : Nat) (δ : _) (z1 : _) : pV i δ z1 = (δ[i]?).join := rfl
theorem q_pC (d : D) (z1 : _) (z2 : _) : pC d z1 z2 = some (.d d) := rfl
theorem q_eP (p : PV) (δ : _) (M : _) (Q : _) : eP p δ M Q = ok (p δ M) fun d => Q d M := rfl
theorem q_eo1 (f : Mem → Sv → Option Sv) (ta : TE') (δ : _) (M : _) (Q : _) : eo1 f ta δ M Q = ta δ M fun x M1 => ok (f M1 x) fun d => Q d M1 := rfl
theorem q_eo2 (f : Mem → Sv → Sv → Option Sv) (ta tb : TE') (δ : _) (M : _) (Q : _) : eo2 f ta tb δ M Q = ta δ M fun x M1 => tb δ M1 fun y M2 => ok (f M2 x y) fun d => Q d M2 := rfl
theorem q_eoN (f : Mem → List Sv → Option Sv) (t : TA') (δ : _) (M : _) (Q : _) : eoN f t δ M Q = t δ M fun xs M1 => ok (f M1 xs) fun d => Q d M1 := rfl
theorem q_aP (ps : List PV) (δ : _) (M : _) (Q : _) : aP ps δ M Q = ok (pArgs ps δ M) fun ds => Q ds M := rfl
theorem q_aNil  (z1 : _) (M : _) (Q : _) : aNil z1 M Q = Q [] M := rfl
theorem q_aCons (t : TE') (r : TA') (δ : _) (M : _) (Q : _) : aCons t r δ M Q = t δ M fun d M1 => r δ M1 fun ds M2 => Q (d :: ds) M2 := rfl
theorem q_eAn (ta tb : TE') (δ : _) (M : _) (Q : _) : eAn ta tb δ M Q = ta δ M fun x M1 => ok (truth M1 x) fun k => if k then tb δ M1 Q else Q x M1 := rfl
theorem q_eOr (ta tb : TE') (δ : _) (M : _) (Q : _) : eOr ta tb δ M Q = ta δ M fun x M1 => ok (truth M1 x) fun k => if k then Q x M1 else tb δ M1 Q := rfl
theorem q_eNt (ta : TE') (δ : _) (M : _) (Q : _) : eNt ta δ M Q = ta δ M fun x M1 => ok (truth M1 x) fun k => Q (blS (!k)) M1 := rfl
theorem q_eIf (t : TT') (ta tb : TE') (δ : _) (M : _) (Q : _) : eIf t ta tb δ M Q = t δ M fun b M1 => if b then ta δ M1 Q else tb δ M1 Q := rfl
theorem q_eFz (t : TF') (δ : _) (M : _) (Q : _) : eFz t δ M Q = t δ M fun ds M' => Q (.d (.lst ds)) M' := rfl
theorem q_eNw (t : TF') (δ : _) (M : _) (Q : _) : eNw t δ M Q = t δ M fun ds M' => Q (.ref M'.length) (M' ++ [.lst ds]) := rfl
theorem q_fP (p : PL) (δ : _) (M : _) (Q : _) : fP p δ M Q = ok (p δ M) fun ds => Q ds M := rfl
theorem q_fN (f : Mem → List Sv → Option (List D)) (t : TA') (δ : _) (M : _) (Q : _) : fN f t δ M Q = t δ M fun xs M1 => ok (f M1 xs) fun ds => Q ds M1 := rfl
theorem q_f2 (f : Mem → Sv → Sv → Option (List D)) (ta tb : TE') (δ : _) (M : _) (Q : _) : f2 f ta tb δ M Q = ta δ M fun x M1 => tb δ M1 fun y M2 => ok (f M2 x y) fun ds => Q ds M2 := rfl
theorem q_f1 (f : Mem → Sv → Option (List D)) (ta : TE') (δ : _) (M : _) (Q : _) : f1 f ta δ M Q = ta δ M fun x M1 => ok (f M1 x) fun ds => Q ds M1 := rfl
theorem q_tTupE (t : TA') (δ : _) (M : _) (Q : _) : tTupE t δ M Q = t δ M fun xs M1 => ok (datas xs) fun ds => Q (.d (.tup ds)) M1 := rfl
theorem q_tLstF (t : TA') (δ : _) (M : _) (Q : _) : tLstF t δ M Q = t δ M fun xs M1 => ok (datas xs) fun ds => Q ds M1 := rfl
theorem q_tTr (t : TE') (δ : _) (M : _) (Q : _) : tTr t δ M Q = t δ M fun d M' => ok (truth M' d) fun b => Q b M' := rfl
theorem q_tTb (t : TE') (δ : _) (M : _) (Q : _) : tTb t δ M Q = t δ M fun d M' => ok (blD d) fun b => Q b M' := rfl
theorem q_tAn (t u : TT') (δ : _) (M : _) (Q : _) : tAn t u δ M Q = t δ M fun b M' => if b then u δ M' Q else Q false M' := rfl
theorem q_tOrr (t u : TT') (δ : _) (M : _) (Q : _) : tOrr t u δ M Q = t δ M fun b M' => if b then Q true M' else u δ M' Q := rfl
theorem q_tNt (t : TT') (δ : _) (M : _) (Q : _) : tNt t δ M Q = t δ M fun b M' => Q (!b) M' := rfl
theorem q_tYs  (z1 : _) (M : _) (Q : _) : tYs z1 M Q = Q true M := rfl
theorem q_eSeal (m0 : Nat) (t : TE') (δ : _) (M : _) (Q : _) : eSeal m0 t δ M Q = t δ M fun d M1 => ok (sealD m0 M1 d) fun r => Q r.1 r.2 := rfl
theorem q_eMt (T : String) (f : Mt) (to : TE') (tA : TA') (δ : _) (M : _) (Q : _) : eMt T f to tA δ M Q = to δ M fun o M1 => rcv M1 o = some T ∧ tA δ M1 fun xs M2 => f o xs M2 Q := rfl
theorem q_poMt (T : String) (f : Mem → Sv → List Sv → Option Sv) (a : PV) (ps : List PV) (δ : _) (M : _) : poMt T f a ps δ M = (a δ M).bind fun o => (gd (rcv M o = some T) ()).bind fun _ => (pArgs ps δ M).bind fun xs => f M o xs := rfl
theorem q_mPure (f : Mem → Sv → List Sv → Option Sv) (o : _) (xs : _) (M : _) (Q : _) : mPure f o xs M Q = ok (f M o xs) fun d => Q d M := rfl
theorem q_eCh (f g : Mem → Sv → Sv → Option Sv) (ta tb tc : TE') (δ : _) (M : _) (Q : _) : eCh f g ta tb tc δ M Q = ta δ M fun x M1 => tb δ M1 fun y M2 => ok ((f M2 x y).bind blD) fun k => if k then tc δ M2 fun z M3 => ok (g M3 y z) fun d => Q d M3 else Q (.d (.bl false)) M2 := rfl
theorem q_pCh (f g : Mem → Sv → Sv → Option Sv) (a b c : PV) (δ : _) (M : _) : pCh f g a b c δ M = (a δ M).bind fun x => (b δ M).bind fun y => ((f M x y).bind blD).bind fun k => if k then (c δ M).bind fun z => g M y z else some (.d (.bl false)) := rfl
theorem q_eCall (ms : List Bool) (sp : SpD) (tA : TA') (δ : _) (M : _) (Q : _) : eCall ms sp tA δ M Q = tA δ M fun xs M1 => callS ms sp M1 xs (rvQ Q) := rfl
theorem q_fLc (it : TI') (g : LcG) (tt : TT') (te : TE') (vs : List Nat) (δ : _) (M : _) (Q : _) : fLc it g tt te vs δ M Q = it δ M fun ds gd M1 => lcL g.to tt te (wipeS δ vs) gd Q ds [] M1 := rfl
theorem q_iRg (bd : Bool) (t : TA') (δ : _) (M : _) (Q : _) : iRg bd t δ M Q = t δ M fun xs M1 => rngD xs fun ds => (bd = true → ds.length ≤ sizeLine) ∧ Q ds gdT M1 := rfl
theorem q_iPq (p : PV) (δ : _) (M : _) (Q : _) : iPq p δ M Q = ok (p δ M) fun s => ok (seqD M s) fun ds => Q ds (gdS s ds) M := rfl
theorem q_iSq (t : TE') (δ : _) (M : _) (Q : _) : iSq t δ M Q = t δ M fun s M1 => ok (lstD M1 s) fun ds => Q ds (gdS s ds) M1 := rfl
theorem q_sFor (it : TI') (g : TG') (b : TS') (E : _) (δ : _) (M : _) : sFor it g b E δ M = it δ M fun ds gd M' => forL M'.length g b E gd ds δ M' := rfl
theorem q_gNm (i : Nat) (d : _) (δ : _) (M : _) (Q : _) : gNm i d δ M Q = Q (δ.set i (some (.d d))) M := rfl
theorem q_poSl (a : PV) (lo hi : PO') (δ : _) (M : _) : poSl a lo hi δ M = (a δ M).bind fun s => (lo δ M).bind fun l => (hi δ M).bind fun h => slD M s l h := rfl
theorem q_poI (p : PV) (δ : _) (M : _) : poI p δ M = (p δ M).bind intO := rfl
theorem q_poNo  (z1 : _) (z2 : _) : poNo z1 z2 = some none := rfl
theorem q_plSl (a : PV) (lo hi : PO') (δ : _) (M : _) : plSl a lo hi δ M = (a δ M).bind fun s => (lo δ M).bind fun l => (hi δ M).bind fun h => slF M s l h := rfl
theorem q_iTq (t : TE') (δ : _) (M : _) (Q : _) : iTq t δ M Q = t δ M fun s M1 => ok (tupD s) fun ds => Q ds gdT M1 := rfl
end VL
set_option Elab.async false
set_option linter.all false
set_option maxRecDepth 100000
set_option maxHeartbeats 2000000
namespace VL
open PySem PySem.Spec L2
def entK (rs : List (List Bool)) (j : Nat) (t : Nat) : D × D := (fD (rs.getD t []), fD ((afs j).getD t []))
theorem valN_snoc {N : List (D × D)} {x b : List Bool} {v : D} : (valN (N ++ [(fD x, v)]) (bK b)).isSome = ((valN N (bK b)).isSome || decide (b = x)) := by
  rw [valN_app, valN_cons, show nkD (fD x) = some (bK x) from nk_bits, valN_nil]
  by_cases e : b = x
  · rw [if_pos (by rw [e]), decide_eq_true e]
    cases valN N (bK b) <;> rfl
  · rw [if_neg fun z => e (bK_inj (Option.some.inj z)).symm, decide_eq_false e]
    cases valN N (bK b) <;> rfl
def sp_lpaper : SpD := fun as M Q => ∃ (c : Cm) (ks : List Nat) (j : Nat), as = [.d (fD (mean c ks)), .d (.int (ks.length : Int)), .d (.int (j : Int))] ∧ M = [] ∧ ks.length ≤ 8 ∧ j ≤ ks.length ∧
  Q (.d (.tup [.lst ((papH c ks j).map fD), .lst ((papT c ks j).map fD)])) []
def r_lpaper (sp__law_rests : SpD) (sp__law_all_fillings : SpD) : TS' :=
  (sSeq (sSet 3 (eSeal 0 (eCall [false, false, false] sp__law_rests (aP [(pV 0), (pV 1), (pV 2)]))))
  (sSeq (sSet 4 eKdN)
  (sSeq (sFor (iZq (aCons (eSeal 0 (eCall [false] sp__law_all_fillings (aP [(pV 2)]))) (aP [(pV 3)]))) (gTp [7, 8])
  (sDrop (tKsetd (eP (pV 4)) (eP (pV 8)) (eP (pV 7)))))
  (sFrz 0 4 (sSeq (sSet 5 (eFz (fN sortGF (aCons (eFz (fLc (iItN (eP (pV 4))) (.tp [8, 7]) tYs (eP (poTup [(pV 7), (pV 8)])) [8, 7])) (aP [])))))
  (sSeq (sSet 6 (eNw (fP (plLst []))))
  (sSeq (sFor (iEn (eP (pV 5))) (gTG 2 (gsC (gNm 9) (gsC (gTG 2 (gsC (gNm 7) (gsC (gNm 10) gsN))) gsN)))
  (sFor (iPq (pFz (plSl (pV 5) (poI (po2 addD (pV 9) (pC (.int 1)))) poNo))) (gTp [11, 12])
  (sSeq (sSet 13 (eFz (fLc (iZm3 (aCons (eSeal 0 (eCall [false] sp__law_all_fillings (aP [(po2 subD (pV 1) (pV 2))]))) (aP [(pV 10), (pV 12)]))) (.tp [14, 15, 16]) (cP (bB (po2 neD (pV 15) (pV 16)))) (eP (pV 14)) [14, 15, 16])))
  (sDrop (eMt "list" mApp (eP (pV 6)) (aP [(po2 ixD (pV 13) (pC (.int 0)))]))))))
  (sRet (tTupE (aCons (eFz (fLc (iPq (pV 5)) (.tp [7, 8]) tYs (eP (pV 7)) [7, 8])) (aCons (eSeal 0 (eP (pV 6))) (aP []))))))))))))
local macro_rules
  | `(tactic| simp only [VLQ]) => `(tactic| simp -implicitDefEqProofs only [q_sSeq, q_sIf, q_sSet, q_sSub, q_sRet, q_sRetN, q_sNil, q_sDrop, q_sAsg, sPar, q_sParT, q_sAug, q_cP, q_bB, q_bTr, q_bNt, q_bAn, q_bOr, q_po1, q_po2, q_poN, pArgs, q_poIf, q_poAn, q_poOr, q_poNt, q_poTup, q_plLst, q_plN, q_pl2, q_pl1, q_pFz, q_pV, q_pC, q_eP, q_eo1, q_eo2, q_eoN, q_aP, q_aNil, q_aCons, q_eAn, q_eOr, q_eNt, q_eIf, q_eFz, q_eNw, q_fP, q_fN, q_f2, q_f1, q_tTupE, q_tLstF, q_tTr, q_tTb, q_tAn, q_tOrr, q_tNt, q_tYs, q_eSeal, q_eMt, q_poMt, q_mPure, q_eCh, q_pCh, ok_bind, ok_map, ok_some, ok_none, ok_gd, ok_ite, List.getElem?_cons_zero, List.getElem?_cons_succ, List.set_cons_zero, List.set_cons_succ, Option.join_some, Option.bind_some, Option.map_some, Option.bind_none, Option.map_none, ix_ref, ix_tup, ix_lst, ix_bor, ix_scr, add_int, add_str, add_tup, sub_int, mul_int, fdiv_int, mod_int, pow_int, neg_int, lt_int, le_int, gt_int, ge_int, eq_int, eq_str, eq_bl, ne_int, ne_str, ne_bl, is_bl, isnt_bl, is_non, isnt_non, len_tup, len_lst, len_ref, len_bor, len_scr, int_bl, int_int, abs_int, min_int, max_int, blD_bl, cell_lst, cellA_lst, cellA_dk, st_ref, at_0, at_1, at_2, at_3, at_4, ixN_10, ixN_20, ixN_21, ixN_30, ixN_31, ixN_32, dataS_d, datas_nil, datas_cons, truth_bl, notD, intS, blS, nonB, List.length_cons, List.length_nil, Nat.reduceAdd, endsF_rt, endsF_nx, rvQ_d, rvQ_new, rvQ_newK, rv_d, rv_ref, rv_cl, rv_ck, okRef_d, okRef_ref, List.not_mem_nil, List.nil_append, true_and, and_true, List.take_succ_cons, List.take_zero, Nat.zero_add, decide_eq_true_eq, Bool.false_eq_true, if_false, if_true, callS, handS_n, handS_tr, handS_fr, handS_fd, handS_fb, cellsAt_c, cellsAt_0, Option.getD_some, backS_0, backS_1, q_eCall, tup_lst, tup_tup, tup_ref, q_fLc, q_iRg, rng_1, rng_2, wipeS_c, wipeS_n, q_iPq, q_iSq, seq_tup, seq_lst, seq_bor, lst_lst, lst_bor, gdS_d, gdS_b, q_sFor, q_gNm, gcS_c, gcS_n, gcO_d, gcO_n, mapp, rcv_0, rcv_1, rcv_l, gcO_r0, gcO_r1, gcO_z, seal_d, eq_self, List.take_nil, List.cons_append, q_poSl, q_poI, q_poNo, slD_t, intO_i, list_t, list_l, in_str2, ofS_inj, String.reduceEq, or_false, false_or, or_true, true_or, or_self, decide_true, decide_false, Bool.not_true, Bool.not_false, at_m1_2, at_m1_3, cut_2, cut_3, all_bls, any_bls, count_bls, lcg_nm, lcg_tp, lst_ref, laid_l, laid_b, laid_r, list_b, list_r, len_refI, lenOf_ref, rcv_2, rcv_3, rcv_b, slF_l, slF_b, slF_r, cat_l, repr_d, q_plSl, backS_2, List.mem_singleton, one_ne, if_false, callS, seal_r, Nat.le_refl, cat_get, cat_set, List.append_assoc, List.length_append, List.append_nil, at_ite, Nat.zero_le, q_iTq, tupD])
  | `(tactic| simp only [VLQ, $xs,*]) => `(tactic| simp -implicitDefEqProofs only [q_sSeq, q_sIf, q_sSet, q_sSub, q_sRet, q_sRetN, q_sNil, q_sDrop, q_sAsg, sPar, q_sParT, q_sAug, q_cP, q_bB, q_bTr, q_bNt, q_bAn, q_bOr, q_po1, q_po2, q_poN, pArgs, q_poIf, q_poAn, q_poOr, q_poNt, q_poTup, q_plLst, q_plN, q_pl2, q_pl1, q_pFz, q_pV, q_pC, q_eP, q_eo1, q_eo2, q_eoN, q_aP, q_aNil, q_aCons, q_eAn, q_eOr, q_eNt, q_eIf, q_eFz, q_eNw, q_fP, q_fN, q_f2, q_f1, q_tTupE, q_tLstF, q_tTr, q_tTb, q_tAn, q_tOrr, q_tNt, q_tYs, q_eSeal, q_eMt, q_poMt, q_mPure, q_eCh, q_pCh, ok_bind, ok_map, ok_some, ok_none, ok_gd, ok_ite, List.getElem?_cons_zero, List.getElem?_cons_succ, List.set_cons_zero, List.set_cons_succ, Option.join_some, Option.bind_some, Option.map_some, Option.bind_none, Option.map_none, ix_ref, ix_tup, ix_lst, ix_bor, ix_scr, add_int, add_str, add_tup, sub_int, mul_int, fdiv_int, mod_int, pow_int, neg_int, lt_int, le_int, gt_int, ge_int, eq_int, eq_str, eq_bl, ne_int, ne_str, ne_bl, is_bl, isnt_bl, is_non, isnt_non, len_tup, len_lst, len_ref, len_bor, len_scr, int_bl, int_int, abs_int, min_int, max_int, blD_bl, cell_lst, cellA_lst, cellA_dk, st_ref, at_0, at_1, at_2, at_3, at_4, ixN_10, ixN_20, ixN_21, ixN_30, ixN_31, ixN_32, dataS_d, datas_nil, datas_cons, truth_bl, notD, intS, blS, nonB, List.length_cons, List.length_nil, Nat.reduceAdd, endsF_rt, endsF_nx, rvQ_d, rvQ_new, rvQ_newK, rv_d, rv_ref, rv_cl, rv_ck, okRef_d, okRef_ref, List.not_mem_nil, List.nil_append, true_and, and_true, List.take_succ_cons, List.take_zero, Nat.zero_add, decide_eq_true_eq, Bool.false_eq_true, if_false, if_true, callS, handS_n, handS_tr, handS_fr, handS_fd, handS_fb, cellsAt_c, cellsAt_0, Option.getD_some, backS_0, backS_1, q_eCall, tup_lst, tup_tup, tup_ref, q_fLc, q_iRg, rng_1, rng_2, wipeS_c, wipeS_n, q_iPq, q_iSq, seq_tup, seq_lst, seq_bor, lst_lst, lst_bor, gdS_d, gdS_b, q_sFor, q_gNm, gcS_c, gcS_n, gcO_d, gcO_n, mapp, rcv_0, rcv_1, rcv_l, gcO_r0, gcO_r1, gcO_z, seal_d, eq_self, List.take_nil, List.cons_append, q_poSl, q_poI, q_poNo, slD_t, intO_i, list_t, list_l, in_str2, ofS_inj, String.reduceEq, or_false, false_or, or_true, true_or, or_self, decide_true, decide_false, Bool.not_true, Bool.not_false, at_m1_2, at_m1_3, cut_2, cut_3, all_bls, any_bls, count_bls, lcg_nm, lcg_tp, lst_ref, laid_l, laid_b, laid_r, list_b, list_r, len_refI, lenOf_ref, rcv_2, rcv_3, rcv_b, slF_l, slF_b, slF_r, cat_l, repr_d, q_plSl, backS_2, List.mem_singleton, one_ne, if_false, callS, seal_r, Nat.le_refl, cat_get, cat_set, List.append_assoc, List.length_append, List.append_nil, at_ite, Nat.zero_le, q_iTq, tupD, $xs,*])
theorem pure_lpaper (as : List Sv) (M : Mem) (Q : Rv → Mem → Prop) (h : sp_lpaper as M Q) : r_lpaper sp_lrests sp_afs (endsF M.length Q) (startD 17 as) M := by
  obtain ⟨c, ks, j, rfl, rfl, hn, hj, z⟩ := h
  show r_lpaper sp_lrests sp_afs (endsF 0 Q) [some (.d (fD (mean c ks))), some (.d (.int (ks.length : Int))), some (.d (.int (j : Int))), none, none, none, none, none, none, none, none, none, none, none, none, none, none] []
  have h13 : 2 ^ j ≤ 256 := Nat.le_trans (Nat.pow_le_pow_right (n := 2) (by decide) (show j ≤ 8 by omega)) (by decide)
  have hjn : j + (ks.length - j) = ks.length := by omega
  unfold r_lpaper
  rw [sSeq_app]
  simp only [VLQ]
  refine ⟨mean c ks, j, ks.length - j, by rw [hjn], rfl, by omega, by omega, mean_len2 hj, by omega, ?_⟩
  have er : rsL j (ks.length - j) (mean c ks) = rstP c ks j := rfl
  rw [er]
  simp only [VLQ, sealD, knew]
  refine ⟨j, rfl, rfl, by omega, ?_⟩
  simp only [VLQ, sealD, iZq]
  have hrl : (rstP c ks j).length = 2 ^ j := rstP_len
  refine for_ix _ (fun i δ M => ∃ o7 o8 : Option D, δ = [some (.d (fD (mean c ks))), some (.d (.int (ks.length : Int))), some (.d (.int (j : Int))), some (.d (.lst ((rstP c ks j).map fD))), some (.ref 1), none, none, o7.map .d, o8.map .d, none, none, none, none, none, none, none, none] ∧
    M = [.gone, .dn ((lhT (rstP c ks j) i).map (entK (rstP c ks j) j))] ∧ ∀ b, (valN ((lhT (rstP c ks j) i).map (entK (rstP c ks j) j)) (bK b)).isSome = ((rstP c ks j).take i).contains b) ?_ ?_ _ _ ⟨none, none, rfl, rfl, fun b => rfl⟩
  · rintro δ M ⟨o7, o8, rfl, rfl, -⟩
    have hzl : (zipL ((afs j).map fD) ((rstP c ks j).map fD)).length = (rstP c ks j).length := by
      unfold zipL
      rw [List.length_map, List.length_zip, List.length_map, List.length_map, afs_len, hrl, Nat.min_self]
    rw [hzl]
    have eh : lhT (rstP c ks j) (rstP c ks j).length = hdsP c ks j := rfl
    rw [eh]
    refine ⟨trivial, ?_⟩
    dsimp only
    refine frz_k (n := 1) (N := (hdsP c ks j).map (entK (rstP c ks j) j)) rfl (Nat.zero_le _) rfl ?_
    have eL : ((((hdsP c ks j).map (entK (rstP c ks j) j)).map (·.1)).zip (((hdsP c ks j).map (entK (rstP c ks j) j)).map (·.2))).map (fun p => D.tup [p.1, p.2]) = (hdsP c ks j).map fun t => D.tup [fD ((rstP c ks j).getD t []), fD ((afs j).getD t [])] := by
      rw [List.map_map, List.map_map, List.zip_map', List.map_map]; rfl
    have hHl := hds_few (c := c) hj hn
    have hc1 : ∀ t ∈ hdsP c ks j, cdM ((afs j).getD t []) = (t : Int) := fun t ht => by
      have h1 := hds_mem ht
      refine afs_code j t _ ?_
      rw [List.getD_eq_getElem?_getD, List.getElem?_eq_getElem (by rw [afs_len]; exact h1)]; rfl
    have hsp : ∀ M, sortGF M [.d (.lst (((hdsP c ks j).map fun t => ((afs j).getD t [], (rstP c ks j).getD t [])).map ppD))] = some (((hdsP c ks j).map fun t => ((afs j).getD t [], (rstP c ks j).getD t [])).map ppD) := fun M => by
      refine sort_pp (j := j) ?_ ?_
      · rw [List.map_map]
        have e : (hdsP c ks j).map ((fun p : List Bool × List Bool => cdM p.1) ∘ fun t => ((afs j).getD t [], (rstP c ks j).getD t [])) = (hdsP c ks j).map fun t : Nat => (t : Int) := List.map_congr_left fun t ht => hc1 t ht
        rw [e, List.pairwise_map]
        exact lhT_lt.imp fun h => by omega
      · intro p hp
        obtain ⟨t, ht, rfl⟩ := List.mem_map.mp hp
        exact afs_get (hds_mem ht)
    generalize sortGF = SF at hsp ⊢
    simp only [VLQ, iItN, List.length_map]
    refine ⟨by rw [sizeLine_eq]; omega, ?_⟩
    rw [eL]
    refine lc_gm (f := fun t => ppD ((afs j).getD t [], (rstP c ks j).getD t [])) trivial ?_ ?_
    · intro t ht R hR
      simp only [LcG.to, gTp_s]
      simp only [VLQ]
      exact hR
    · have eL2 : ([] : List D) ++ (hdsP c ks j).map (fun t => ppD ((afs j).getD t [], (rstP c ks j).getD t [])) = ((hdsP c ks j).map fun t => ((afs j).getD t [], (rstP c ks j).getD t [])).map ppD := by
        rw [List.map_map]; rfl
      rw [eL2]
      simp only [VLQ, hsp]
      clear hsp eL2 eL
      generalize hHd : (fun t => ((afs j).getD t [], (rstP c ks j).getD t [])) = Hd
      have hHd1 : ∀ t, (Hd t).1 = (afs j).getD t [] := fun t => by rw [← hHd]
      have hHd2 : ∀ t, (Hd t).2 = (rstP c ks j).getD t [] := fun t => by rw [← hHd]
      generalize D.dn _ _ = d4
      simp only [VLQ, iEn]
      refine for_ix _ (fun i δ M => ∃ o7 o8 o9 o10 o11 o12 o13 : Option D, δ = [some (.d (fD (mean c ks))), some (.d (.int (ks.length : Int))), some (.d (.int (j : Int))), some (.d (.lst ((rstP c ks j).map fD))), some (.d d4), some (.d (.lst (((hdsP c ks j).map Hd).map ppD))), some (.ref 2), o7.map .d, o8.map .d, o9.map .d, o10.map .d, o11.map .d, o12.map .d, o13.map .d, none, none, none] ∧
        M = [.gone, .gone, .lst ((prN (hdsP c ks j) i).map fun p => fD (tailP c ks j p))]) ?_ ?_ _ _ ⟨o7, o8, none, none, none, none, none, rfl, rfl⟩
      · rintro δ M ⟨o7, o8, o9, o10, o11, o12, o13, rfl, rfl⟩
        rw [enumL_len, List.length_map, List.length_map]
        refine ⟨trivial, ?_⟩
        simp only [VLQ]
        refine lc_gm (f := fun p => fD p.1) trivial ?_ ?_
        · intro p hp R hR
          simp only [ppD, gTp_s]
          simp only [VLQ]
          exact hR
        · have e3 : (prN (hdsP c ks j) (hdsP c ks j).length).map (fun p => fD (tailP c ks j p)) = (papT c ks j).map fD := by
            unfold papT
            rw [List.map_map]; rfl
          have e4 : ([] : List D) ++ ((hdsP c ks j).map Hd).map (fun p => fD p.1) = (papH c ks j).map fD := by
            unfold papH
            rw [List.nil_append, List.map_map, List.map_map]
            exact List.map_congr_left fun t _ => by show fD (Hd t).1 = _; rw [hHd1]; rfl
          rw [e3, e4]
          simp only [VLQ]
          exact z
      · rintro i x δ M nx hx ⟨o7, o8, o9, o10, o11, o12, o13, rfl, rfl⟩ k
        obtain ⟨y, hy, rfl⟩ := enum_at hx
        rw [List.getElem?_map, List.getElem?_map, Option.map_eq_some_iff] at hy
        obtain ⟨p, hp, rfl⟩ := hy
        obtain ⟨h, hh, rfl⟩ := Option.map_eq_some_iff.mp hp
        have hi := (List.getElem?_eq_some_iff.mp hh).1
        have hg : (hdsP c ks j).getD i 0 = h := by rw [List.getD_eq_getElem?_getD, hh]; rfl
        have hhm : h ∈ hdsP c ks j := List.mem_of_getElem? hh
        refine ⟨trivial, ?_⟩
        refine gTG_k ?_
        have e2 : (i : Int) + 1 = ((i + 1 : Nat) : Int) := by omega
        simp only [VLQ, e2, cut_from]
        rw [← List.map_drop, ← List.map_drop]
        have e3 : (ks.length : Int) - (j : Int) = ((ks.length - j : Nat) : Int) := by omega
        have hl1 : (prN (hdsP c ks j) (i + 1)).length ≤ 64 * 64 := by
          have h5 := prsHd_len (hs := papH c ks j) (i + 1)
          have h6 : prsHd (papH c ks j) (i + 1) = _ := prN_map (i + 1) (by omega)
          rw [h6, List.length_map, papH_len] at h5
          exact Nat.le_trans h5 (Nat.mul_le_mul (by omega) (by omega))
        have hS := prN_S (H := hdsP c ks j) (j := i)
        rw [hg] at hS
        have hl2 : ∀ q, (((prN (hdsP c ks j) i).map fun p => fD (tailP c ks j p)) ++ (((hdsP c ks j).drop (i + 1)).take q).map fun b => fD (tailP c ks j (h, b))).length ≤ 64 * 64 := fun q => by
          rw [hS, List.length_append, List.length_map] at hl1
          rw [List.length_append, List.length_map, List.length_map, List.length_take]
          omega
        refine for_ix _ (fun q δ M => ∃ o11 o12 o13 : Option D, δ = [some (.d (fD (mean c ks))), some (.d (.int (ks.length : Int))), some (.d (.int (j : Int))), some (.d (.lst ((rstP c ks j).map fD))), some (.d d4), some (.d (.lst (((hdsP c ks j).map Hd).map ppD))), some (.ref 2), some (.d (fD (Hd h).1)), o8.map .d, some (.d (.int (i : Int))), some (.d (fD (Hd h).2)), o11.map .d, o12.map .d, o13.map .d, none, none, none] ∧
          M = [.gone, .gone, .lst (((prN (hdsP c ks j) i).map fun p => fD (tailP c ks j p)) ++ (((hdsP c ks j).drop (i + 1)).take q).map fun b => fD (tailP c ks j (h, b)))]) ?_ ?_ _ _ ⟨o11, o12, o13, rfl, by simp⟩
        · rintro δ M ⟨o11, o12, o13, rfl, rfl⟩
          rw [List.length_map, List.length_map, List.take_length]
          refine ⟨trivial, ?_⟩
          dsimp only
          refine k _ _ ⟨some (fD (Hd h).1), o8, some (.int (i : Int)), some (fD (Hd h).2), o11, o12, o13, by simp only [gcS_c, gcS_n, gcO_d, gcO_n, gcO_m]; rfl, ?_⟩
          rw [hS, List.map_append, List.map_map]
          rfl
        · rintro q x δ M nx2 hx ⟨o11, o12, o13, rfl, rfl⟩ k2
          rw [List.getElem?_map, List.getElem?_map, Option.map_eq_some_iff] at hx
          obtain ⟨p, hp2, rfl⟩ := hx
          obtain ⟨b, hb, rfl⟩ := Option.map_eq_some_iff.mp hp2
          have hbd := List.mem_of_getElem? hb
          have hbm : b ∈ hdsP c ks j := List.mem_of_mem_drop hbd
          have hpm : (h, b) ∈ prN (hdsP c ks j) (hdsP c ks j).length := by
            unfold prN
            exact List.mem_flatMap.mpr ⟨i, List.mem_range.mpr hi, List.mem_map.mpr ⟨b, hbd, by rw [hg]⟩⟩
          obtain ⟨t1, t2, t3, t4⟩ := tail_ok hj hpm
          refine ⟨trivial, ?_⟩
          simp only [ppD, gTp_s]
          simp only [VLQ]
          refine ⟨ks.length - j, by rw [← e3], rfl, by omega, ?_⟩
          simp only [VLQ, sealD]
          show lcL (gTp [14, 15, 16]) _ _ _ _ _ (zip3L ((afs (ks.length - j)).map fD) ((Hd h).2.map bitD) ((Hd b).2.map bitD)) [] _
          rw [zip3_bb]
          obtain ⟨r, er⟩ := unl_hd (l := afs (ks.length - j)) (a := (Hd h).2) (b := (Hd b).2) (by rw [hHd2, rst_each hj t3, afs_len]) (by rw [hHd2, rst_each hj t4, afs_len]) (by rw [hHd2, hHd2]; exact t2)
          have ef : ([] : List D) ++ (((afs (ks.length - j)).zip ((Hd h).2.zip (Hd b).2)).filter fun p => !decide (p.2.1 = p.2.2)).map (fun p => fD p.1) = fD (tailP c ks j (h, b)) :: r.map fD := by
            have e7 : (((afs (ks.length - j)).zip ((Hd h).2.zip (Hd b).2)).filter fun p => !decide (p.2.1 = p.2.2)).map (fun p => fD p.1) = ((((afs (ks.length - j)).zip ((Hd h).2.zip (Hd b).2)).filter fun p => !decide (p.2.1 = p.2.2)).map (·.1)).map fD := by
              rw [List.map_map]; rfl
            rw [List.nil_append, e7, er, List.map_cons, hHd2, hHd2]
            rfl
          refine lc_gf (f := fun p => fD p.1) (p := fun p => !decide (p.2.1 = p.2.2)) trivial ?_ ?_
          · intro p hp3 R1 R2 hR1 hR2
            show gTp [14, 15, 16] (.tup [fD p.1, bitD p.2.1, bitD p.2.2]) _ _ _
            rw [gTp_k3]
            simp only [VLQ, ne_bitK]
            by_cases e8 : p.2.1 = p.2.2
            · rw [decide_eq_true e8]
              exact hR2 (by rw [decide_eq_true e8]; rfl)
            · rw [decide_eq_false e8]
              exact hR1 (by rw [decide_eq_false e8]; rfl)
          · rw [ef, at_0, ok_some]
            refine ⟨rfl, ?_⟩
            show _ < sizeLine ∧ _
            refine ⟨by have := hl2 q; rw [sizeLine_eq]; omega, ?_⟩
            refine k2 _ _ ⟨some (fD (Hd b).1), some (fD (Hd b).2), some (.lst (fD (tailP c ks j (h, b)) :: r.map fD)), by simp only [gcS_c, gcS_n, gcO_d, gcO_n, gcO_m]; rfl, ?_⟩
            rw [take_snoc hb, List.map_append, ← List.append_assoc]
            rfl
  · rintro i x δ M nx hx ⟨o7, o8, rfl, rfl, hv⟩ k
    obtain ⟨d1, d2, h1, h2, rfl⟩ := zip_get hx
    rw [List.getElem?_map, Option.map_eq_some_iff] at h1 h2
    obtain ⟨a, ha, rfl⟩ := h1
    obtain ⟨r, hr, rfl⟩ := h2
    have hi := (List.getElem?_eq_some_iff.mp hr).1
    have hle : (lhT (rstP c ks j) i).length ≤ i := Nat.le_trans (List.length_filter_le ..) (by rw [List.length_range]; exact Nat.le_refl _)
    have hg : (rstP c ks j).getD i [] = r := by rw [List.getD_eq_getElem?_getD, hr]; rfl
    have hga : (afs j).getD i [] = a := by rw [List.getD_eq_getElem?_getD, ha]; rfl
    have hS := lhT_S (rs := rstP c ks j) (j := i)
    rw [hg] at hS
    have htk := take_snoc hr
    have hent : entK (rstP c ks j) j i = (fD r, fD a) := by unfold entK; rw [hg, hga]
    refine ⟨trivial, ?_⟩
    simp only [gTp_s]
    simp only [VLQ, tKsetd]
    refine setd_k (N := (lhT (rstP c ks j) i).map (entK (rstP c ks j) j)) rfl (nk_bits (m := r)) (by rw [List.length_map, sizeLine_eq]; omega) ?_
    have hvr := hv r
    by_cases hc : ((rstP c ks j).take i).contains r = true
    · rw [hc] at hvr
      rw [if_pos hc, List.append_nil] at hS
      obtain ⟨v, ev⟩ := Option.isSome_iff_exists.mp hvr
      rw [ev]
      refine k _ _ ⟨some (fD a), some (fD r), rfl, by rw [hS]; rfl, fun b => ?_⟩
      rw [hS, hv b, htk, List.contains_eq_mem, List.contains_eq_mem]
      rw [List.contains_eq_mem, decide_eq_true_eq] at hc
      congr 1
      rw [List.mem_append, List.mem_singleton]
      exact propext ⟨.inl, fun z => z.elim id fun z => z ▸ hc⟩
    · rw [if_neg hc] at hS
      rw [Bool.not_eq_true] at hc
      rw [hc] at hvr
      have ev : valN ((lhT (rstP c ks j) i).map (entK (rstP c ks j) j)) (bK r) = none := by
        cases h : valN ((lhT (rstP c ks j) i).map (entK (rstP c ks j) j)) (bK r) with
        | none => rfl
        | some v => rw [h] at hvr; cases hvr
      rw [ev]
      have eN : putN ((lhT (rstP c ks j) i).map (entK (rstP c ks j) j)) (fD r) (bK r) (fD a) = (lhT (rstP c ks j) (i + 1)).map (entK (rstP c ks j) j) := by
        rw [putN_new ev, hS, List.map_append, List.map_cons, hent]; rfl
      refine k _ _ ⟨some (fD a), some (fD r), rfl, by rw [eN]; rfl, fun b => ?_⟩
      rw [hS, List.map_append, List.map_cons, List.map_nil, hent, valN_snoc, hv b, htk, List.contains_eq_mem, List.contains_eq_mem]
      rw [Bool.eq_iff_iff, Bool.or_eq_true, decide_eq_true_eq, decide_eq_true_eq, decide_eq_true_eq, List.mem_append, List.mem_singleton]
set_option maxHeartbeats 2000000
theorem noLs_map {α : Type} {f : α → D} (h : ∀ a, noL (f a) = true) : ∀ l : List α, noLs (l.map f) = true
  | [] => rfl
  | a :: l => by
    show (noL (f a) && noLs (l.map f)) = true
    rw [h a, noLs_map h l]; rfl
mutual
theorem noL_cD : ∀ c : Cm, noL (cD c) = true
  | .yes => rfl
  | .no => rfl
  | .name k => rfl
  | .neg c => by
    show (true && (noL (cD c) && true)) = true
    rw [noL_cD c]; rfl
  | .same a b => by
    show (true && (noL (cD a) && (noL (cD b) && true))) = true
    rw [noL_cD a, noL_cD b]; rfl
  | .all cs => by
    show (true && (noLs (cDs cs) && true)) = true
    rw [noLs_cDs cs]; rfl
  | .any cs => by
    show (true && (noLs (cDs cs) && true)) = true
    rw [noLs_cDs cs]; rfl
  | .least m cs => by
    show (true && (true && (noLs (cDs cs) && true))) = true
    rw [noLs_cDs cs]; rfl
theorem noLs_cDs : ∀ cs : List Cm, noLs (cDs cs) = true
  | [] => rfl
  | c :: cs => by
    show (noL (cD c) && noLs (cDs cs)) = true
    rw [noL_cD c, noLs_cDs cs]; rfl
end
theorem handF_d {M : Mem} {d : D} {xs as : List Sv} (hd : ∀ ds, d ≠ .lst ds) (h : noL d = true) (e : handF M xs = some as) : handF M (.d d :: xs) = some (.d d :: as) := by
  cases d with
  | lst ds => exact absurd rfl (hd ds)
  | _ =>
    show (if noL _ then (handF M xs).map _ else none) = _
    rw [h, e]; rfl
theorem handF_l {M : Mem} {ds : List D} {xs as : List Sv} (h : noLs ds = true) (e : handF M xs = some as) : handF M (.d (.lst ds) :: xs) = some (.bor ds :: as) := by
  show (if noLs ds then (handF M xs).map _ else none) = _
  rw [h, e]; rfl
theorem cD_nl {c : Cm} : ∀ ds, cD c ≠ .lst ds := fun ds => by cases c <;> exact fun h => by cases h
set_option maxHeartbeats 2000000
def b_k36t (sp_paper_for : SpD) (sp__law_same : SpD) : TS' :=
  (sScrap 10 [10] okTP (eCallF sp_paper_for (aP [(pV 6), (pV 3), (pV 7), (pV 5)])) (sSeq (sIf (tNt (tTr (eCall [false, false] sp__law_same (aP [(pV 10), (pV 8)])))) (sRet (eP (pC (.bl false)))) sNil) sNil))
def b_k36j (sp__law_tape : SpD) (sp__law_many : SpD) (sp__law_any_claim : SpD) (sp__law_order : SpD) (sp__law_meaning : SpD) (sp__law_take : SpD) (sp__law_paper : SpD) (sp_paper_for : SpD) (sp__law_same : SpD) : TS' :=
  (sSeq (sSet 8 (eCall [false, false, false] sp__law_paper (aP [(pV 4), (pV 3), (pV 5)])))
  (sFor (iRg false (aP [(pC (.int 2))])) (gNm 9)
  (sScrap 10 [10] okTP (eCallF sp_paper_for (aP [(pV 6), (pV 3), (pV 7), (pV 5)])) (sSeq (sIf (tNt (tTr (eCall [false, false] sp__law_same (aP [(pV 10), (pV 8)])))) (sRet (eP (pC (.bl false)))) sNil) sNil))))
def r_law36 (sp__law_tape : SpD) (sp__law_many : SpD) (sp__law_any_claim : SpD) (sp__law_order : SpD) (sp__law_meaning : SpD) (sp__law_take : SpD) (sp__law_paper : SpD) (sp_paper_for : SpD) (sp__law_same : SpD) : TS' :=
  (sSeq (sFor (iRg false (aP [(po2 addD (pC (.int 1)) (poN minD [(pC (.int 4)), (poN lenD [(pV 0)])]))])) (gNm 1)
  (sSeq (sSet 2 (eCall [false, false] sp__law_tape (aP [(pV 0), (pV 1)])))
  (sSeq (sSet 3 (eo2 modD (eCall [true] sp__law_many (aP [(pV 2)])) (eP (po2 ixD (pFz (plLst [(pC (.int 9)), (pC (.int 6))])) (poN intD [(po2 gtD (pV 1) (pC (.int 0)))])))))
  (sSeq (sPar 6 7 (aCons (eCall [true, false] sp__law_any_claim (aP [(pV 2), (pV 3)])) (aCons (eSeal 0 (eCall [true, false] sp__law_order (aP [(pV 2), (pV 3)]))) (aP []))))
  (sSeq (sSet 4 (eCall [false, false] sp__law_meaning (aP [(pV 6), (pV 7)])))
  (sFor (iSq (eFz (f1 soSetF (eFz (tLstF (aCons (eP (pC (.int 0))) (aCons (eP (poN minD [(pC (.int 1)), (pV 3)])) (aCons (eP (poN minD [(pC (.int 2)), (pV 3)])) (aCons (eoN minD (aCons (eCall [true, false] sp__law_take (aP [(pV 2), (pC (.int 5))])) (aP [(pV 3)]))) (aP [(pV 3)])))))))))) (gNm 5)
  (b_k36j sp__law_tape sp__law_many sp__law_any_claim sp__law_order sp__law_meaning sp__law_take sp__law_paper sp_paper_for sp__law_same)))))))
  (sRet (eP (pC (.bl true)))))
def papD (c : Cm) (ks : List Nat) (j : Nat) : D := .tup [.lst ((papH c ks j).map fD), .lst ((papT c ks j).map fD)]
theorem papT_le {c : Cm} {ks : List Nat} {j : Nat} (hj : j ≤ ks.length) (hn : ks.length ≤ 8) : (papT c ks j).length ≤ 63 * 63 := by
  have h1 := hds_few (c := c) hj hn
  have hP : prsHd (papH c ks j) (hdsP c ks j).length = _ := prN_map (H := hdsP c ks j) (f := fun i => (afs j).getD i []) _ (Nat.le_refl _)
  have h5 := prsHd_len (hs := papH c ks j) (hdsP c ks j).length
  rw [hP, List.length_map, papH_len] at h5
  unfold papT
  rw [List.length_map]
  exact Nat.le_trans h5 (Nat.mul_le_mul (by omega) (by omega))
theorem fD_sm {b : List Bool} {k : Nat} (h : b.length ≤ 100) : Sm (k + 1) (fD b) := .tup (by rw [List.length_map]; omega) fun d hd => by
  obtain ⟨x, _, rfl⟩ := List.mem_map.mp hd
  exact .int
theorem papD_sm {c : Cm} {ks : List Nat} {j : Nat} (hj : j ≤ ks.length) (hn : ks.length ≤ 8) : Sm 4 (papD c ks j) := by
  have h1 := hds_few (c := c) hj hn
  have h2 := papT_le (c := c) hj hn
  refine .tup (show 2 < 1000000 by decide) fun d hd => ?_
  simp only [List.mem_cons, List.not_mem_nil, or_false] at hd
  rcases hd with rfl | rfl
  · refine .lst (by rw [List.length_map, papH_len]; omega) fun d hd => ?_
    obtain ⟨h, hh, rfl⟩ := List.mem_map.mp hd
    obtain ⟨i, hi, rfl⟩ := List.mem_map.mp hh
    exact fD_sm (by rw [afs_get (hds_mem hi)]; omega)
  · refine .lst (by rw [List.length_map]; omega) fun d hd => ?_
    obtain ⟨h, hh, rfl⟩ := List.mem_map.mp hd
    obtain ⟨p, hp, rfl⟩ := List.mem_map.mp hh
    exact fD_sm (by unfold tailP; rw [afs_get (by have := (tail_ok hj hp).1; exact this)]; omega)
local macro_rules
  | `(tactic| simp only [VLY]) => `(tactic| simp only [sSeq, sIf, sSet, sSub, sRet, sRetN, sNil, sDrop, sAsg, sPar, sParT, sAug, cP, bB, bTr, bNt, bAn, bOr, po1, po2, poN, pArgs, poIf, poAn, poOr, poNt, poTup, plLst, plN, pl2, pl1, pFz, pV, pC, eP, eo1, eo2, eoN, aP, aNil, aCons, eAn, eOr, eNt, eIf, eFz, eNw, fP, fN, f2, f1, tTupE, tLstF, tTr, tTb, tAn, tOrr, tNt, tYs, eSeal, eMt, poMt, mPure, eCh, pCh, ok_bind, ok_map, ok_some, ok_none, ok_gd, ok_ite, List.getElem?_cons_zero, List.getElem?_cons_succ, List.set_cons_zero, List.set_cons_succ, Option.join_some, Option.bind_some, Option.map_some, Option.bind_none, Option.map_none, ix_ref, ix_tup, ix_lst, ix_bor, ix_scr, add_int, add_str, add_tup, sub_int, mul_int, fdiv_int, mod_int, pow_int, neg_int, lt_int, le_int, gt_int, ge_int, eq_int, eq_str, eq_bl, ne_int, ne_str, ne_bl, is_bl, isnt_bl, is_non, isnt_non, len_tup, len_lst, len_ref, len_bor, len_scr, int_bl, int_int, abs_int, min_int, max_int, blD_bl, cell_lst, cellA_lst, cellA_dk, st_ref, at_0, at_1, at_2, at_3, at_4, ixN_10, ixN_20, ixN_21, ixN_30, ixN_31, ixN_32, dataS_d, datas_nil, datas_cons, truth_bl, notD, intS, blS, nonB, List.length_cons, List.length_nil, Nat.reduceAdd, endsF_rt, endsF_nx, rvQ_d, rvQ_new, rvQ_newK, rv_d, rv_ref, rv_cl, rv_ck, okRef_d, okRef_ref, List.not_mem_nil, List.nil_append, true_and, and_true, List.take_succ_cons, List.take_zero, Nat.zero_add, decide_eq_true_eq, Bool.false_eq_true, if_false, if_true, callS, handS_n, handS_tr, handS_fr, handS_fd, handS_fb, cellsAt_c, cellsAt_0, Option.getD_some, backS_0, backS_1, eCall, tup_lst, tup_tup, tup_ref, fLc, iRg, rng_1, rng_2, wipeS_c, wipeS_n, iPq, iSq, seq_tup, seq_lst, seq_bor, lst_lst, lst_bor, gdS_d, gdS_b, sFor, gNm, gcS_c, gcS_n, gcO_d, gcO_n, mapp, rcv_0, rcv_1, rcv_l, gcO_r0, gcO_r1, gcO_z, seal_d, eq_self, List.take_nil, List.cons_append, poSl, poI, poNo, slD_t, intO_i, list_t, list_l, in_str2, ofS_inj, String.reduceEq, or_false, false_or, or_true, true_or, or_self, decide_true, decide_false, Bool.not_true, Bool.not_false, at_m1_2, at_m1_3, cut_2, cut_3, all_bls, any_bls, count_bls, lcg_nm, lcg_tp, lst_ref, laid_l, laid_b, laid_r, list_b, list_r, len_refI, lenOf_ref, rcv_2, rcv_3, rcv_b, slF_l, slF_b, slF_r, cat_l, repr_d, plSl, backS_2, List.mem_singleton, one_ne, if_false, callS, seal_r, Nat.le_refl, cat_get, cat_set, List.append_assoc, List.length_append, List.append_nil, at_ite, Nat.zero_le, iTq, tupD])
  | `(tactic| simp only [VLY, $xs,*]) => `(tactic| simp only [sSeq, sIf, sSet, sSub, sRet, sRetN, sNil, sDrop, sAsg, sPar, sParT, sAug, cP, bB, bTr, bNt, bAn, bOr, po1, po2, poN, pArgs, poIf, poAn, poOr, poNt, poTup, plLst, plN, pl2, pl1, pFz, pV, pC, eP, eo1, eo2, eoN, aP, aNil, aCons, eAn, eOr, eNt, eIf, eFz, eNw, fP, fN, f2, f1, tTupE, tLstF, tTr, tTb, tAn, tOrr, tNt, tYs, eSeal, eMt, poMt, mPure, eCh, pCh, ok_bind, ok_map, ok_some, ok_none, ok_gd, ok_ite, List.getElem?_cons_zero, List.getElem?_cons_succ, List.set_cons_zero, List.set_cons_succ, Option.join_some, Option.bind_some, Option.map_some, Option.bind_none, Option.map_none, ix_ref, ix_tup, ix_lst, ix_bor, ix_scr, add_int, add_str, add_tup, sub_int, mul_int, fdiv_int, mod_int, pow_int, neg_int, lt_int, le_int, gt_int, ge_int, eq_int, eq_str, eq_bl, ne_int, ne_str, ne_bl, is_bl, isnt_bl, is_non, isnt_non, len_tup, len_lst, len_ref, len_bor, len_scr, int_bl, int_int, abs_int, min_int, max_int, blD_bl, cell_lst, cellA_lst, cellA_dk, st_ref, at_0, at_1, at_2, at_3, at_4, ixN_10, ixN_20, ixN_21, ixN_30, ixN_31, ixN_32, dataS_d, datas_nil, datas_cons, truth_bl, notD, intS, blS, nonB, List.length_cons, List.length_nil, Nat.reduceAdd, endsF_rt, endsF_nx, rvQ_d, rvQ_new, rvQ_newK, rv_d, rv_ref, rv_cl, rv_ck, okRef_d, okRef_ref, List.not_mem_nil, List.nil_append, true_and, and_true, List.take_succ_cons, List.take_zero, Nat.zero_add, decide_eq_true_eq, Bool.false_eq_true, if_false, if_true, callS, handS_n, handS_tr, handS_fr, handS_fd, handS_fb, cellsAt_c, cellsAt_0, Option.getD_some, backS_0, backS_1, eCall, tup_lst, tup_tup, tup_ref, fLc, iRg, rng_1, rng_2, wipeS_c, wipeS_n, iPq, iSq, seq_tup, seq_lst, seq_bor, lst_lst, lst_bor, gdS_d, gdS_b, sFor, gNm, gcS_c, gcS_n, gcO_d, gcO_n, mapp, rcv_0, rcv_1, rcv_l, gcO_r0, gcO_r1, gcO_z, seal_d, eq_self, List.take_nil, List.cons_append, poSl, poI, poNo, slD_t, intO_i, list_t, list_l, in_str2, ofS_inj, String.reduceEq, or_false, false_or, or_true, true_or, or_self, decide_true, decide_false, Bool.not_true, Bool.not_false, at_m1_2, at_m1_3, cut_2, cut_3, all_bls, any_bls, count_bls, lcg_nm, lcg_tp, lst_ref, laid_l, laid_b, laid_r, list_b, list_r, len_refI, lenOf_ref, rcv_2, rcv_3, rcv_b, slF_l, slF_b, slF_r, cat_l, repr_d, plSl, backS_2, List.mem_singleton, one_ne, if_false, callS, seal_r, Nat.le_refl, cat_get, cat_set, List.append_assoc, List.length_append, List.append_nil, at_ite, Nat.zero_le, iTq, tupD, $xs,*])
theorem k36_turn {E : Ends'} {c : Cm} {ks : List Nat} {j : Nat} {G : Mem} {x0 x1 x2 x4 x9 o10 : Option Sv} (hk : ∀ k ∈ ks, k < ks.length) (hn : ks.length ≤ 8) (hj : j ≤ ks.length) (hc : c.ok ks.length 11)
    (fin : E.nx [x0, x1, x2, some (.d (.int (ks.length : Int))), x4, some (.d (.int (j : Int))), some (.d (cD c)), some (.d (.lst (ks.map nD))), some (.d (papD c ks j)), x9, none] (clM G)) :
    b_k36t sp_paper (spB sp_same 9) E [x0, x1, x2, some (.d (.int (ks.length : Int))), x4, some (.d (.int (j : Int))), some (.d (cD c)), some (.d (.lst (ks.map nD))), some (.d (papD c ks j)), x9, o10] G := by
  have hh : ∀ M, handF M [.d (cD c), .d (.int (ks.length : Int)), .d (.lst (ks.map nD)), .d (.int (j : Int))] = some [.d (cD c), .d (.int (ks.length : Int)), .bor (ks.map nD), .d (.int (j : Int))] := fun M =>
    handF_d cD_nl (noL_cD c) (handF_d (fun ds h => by cases h) rfl (handF_l (noLs_map (fun _ => rfl) ks) (handF_d (fun ds h => by cases h) rfl rfl)))
  unfold b_k36t sScrap eCallF
  simp only [VLY, hh]
  refine ⟨_, c, ks, j, rfl, .inr rfl, rfl, hk, hn, hj, hc, ?_⟩
  simp only [fQ]
  have hs := papD_sm (c := c) hj hn
  have h1 := hds_few (c := c) hj hn
  have h2 := papT_le (c := c) hj hn
  have hok : okTP (papD c ks j) := ⟨_, _, rfl, by rw [List.length_map, papH_len, sizeLine_eq]; omega, by rw [List.length_map, sizeLine_eq]; omega⟩
  refine ⟨4, by decide, _, _, _, rfl, .inl rfl, .inl rfl, rfl, hs, ?_⟩
  simp only [VLY]
  exact ⟨hok, fun j hj => by omega, fin⟩
theorem k36_j {E : Ends'} {c : Cm} {ks : List Nat} {j : Nat} {M0 : Mem} {x0 x1 x2 x8 x9 x10 : Option Sv} (h0 : ∀ k, gcO k x0 = x0) (hk : ∀ k ∈ ks, k < ks.length) (hn : ks.length ≤ 8) (hj : j ≤ ks.length) (hc : c.ok ks.length 11)
    (fin : ∀ x1 x2 x8 x9 x10 M', E.nx [x0, x1, x2, some (.d (.int (ks.length : Int))), some (.d (fD (mean c ks))), some (.d (.int (j : Int))), some (.d (cD c)), some (.d (.lst (ks.map nD))), x8, x9, x10] M') :
    b_k36j sp_tape sp_many sp_any sp_order sp_lmean sp_take sp_lpaper sp_paper (spB sp_same 9) E [x0, x1, x2, some (.d (.int (ks.length : Int))), some (.d (fD (mean c ks))), some (.d (.int (j : Int))), some (.d (cD c)), some (.d (.lst (ks.map nD))), x8, x9, x10] M0 := by
  unfold b_k36j
  rw [sSeq_app]
  simp only [VLY]
  refine ⟨c, ks, j, rfl, rfl, hn, hj, ?_⟩
  simp only [VLY]
  refine ⟨⟨by decide, by decide⟩, fun h => h.elim, ?_⟩
  refine for_kp (b := b_k36t sp_paper (spB sp_same 9)) (fun δ M => ∃ x1 x2 x9 x10, δ = [x0, x1, x2, some (.d (.int (ks.length : Int))), some (.d (fD (mean c ks))), some (.d (.int (j : Int))), some (.d (cD c)), some (.d (.lst (ks.map nD))), some (.d (papD c ks j)), x9, x10]) ?_ ?_ ⟨x1, x2, x9, x10, rfl⟩
  · rintro δ M ⟨x1, x2, x9, x10, rfl⟩
    exact ⟨trivial, fin _ _ _ _ _ _⟩
  · rintro d hd δ M nx ⟨x1, x2, x9, x10, rfl⟩ k
    refine ⟨trivial, ?_⟩
    simp only [gNm, List.set_cons_succ, List.set_cons_zero]
    refine k36_turn hk hn hj hc ?_
    refine k _ _ ⟨gcO M0.length x1, gcO M0.length x2, gcO M0.length (some (.d d)), gcO M0.length none, ?_⟩
    show List.map (gcO _) _ = _
    simp only [List.map_cons, List.map_nil, h0]
    rfl
theorem pure_law36 (as : List Sv) (M : Mem) (Q : Rv → Mem → Prop) (h : sp_law as M Q) : r_law36 sp_tape sp_many sp_any sp_order sp_lmean sp_take sp_lpaper sp_paper (spB sp_same 9) (endsF M.length Q) (startD 11 as) M := by
  obtain ⟨ns, rfl, rfl, hns, z⟩ := h
  show r_law36 sp_tape sp_many sp_any sp_order sp_lmean sp_take sp_lpaper sp_paper (spB sp_same 9) (endsF 0 Q) [some (.d (.scr ns)), none, none, none, none, none, none, none, none, none, none] []
  unfold r_law36
  rw [sSeq_app]
  simp only [VLY]
  have hJ : 0 ≤ (1 + if (ns.length : Int) < 4 then (ns.length : Int) else 4) ∧ (1 + if (ns.length : Int) < 4 then (ns.length : Int) else 4) ≤ 5 := by split <;> omega
  generalize (1 + if (ns.length : Int) < 4 then (ns.length : Int) else 4) = J at hJ
  refine ⟨⟨by omega, by omega⟩, fun h => h.elim, ?_⟩
  refine for_kp (fun δ M => ∃ o1 o2 o3 o4 o5 o6 o7 o8 o9 o10, δ = [some (.d (.scr ns)), gcO 0 o1, gcO 0 o2, gcO 0 o3, gcO 0 o4, gcO 0 o5, gcO 0 o6, gcO 0 o7, gcO 0 o8, gcO 0 o9, gcO 0 o10] ∧ M = []) ?_ ?_ ⟨none, none, none, none, none, none, none, none, none, none, rfl, rfl⟩
  · rintro δ M ⟨o1, o2, o3, o4, o5, o6, o7, o8, o9, o10, rfl, rfl⟩
    refine ⟨trivial, ?_⟩
    simp only [VLY]
    exact z
  · rintro d hd δ M nx ⟨o1, o2, o3, o4, o5, o6, o7, o8, o9, o10, rfl, rfl⟩ k
    obtain ⟨i, hi, rfl⟩ := rg_mem hd
    refine ⟨trivial, ?_⟩
    simp only [gNm, List.set_cons_succ, List.set_cons_zero]
    have fin : ∀ x1 x2 x3 x4 x5 x6 x7 x8 x9 x10 M', nx [some (.d (.scr ns)), x1, x2, x3, x4, x5, x6, x7, x8, x9, x10] M' := fun x1 x2 x3 x4 x5 x6 x7 x8 x9 x10 M' => k _ _ ⟨x1, x2, x3, x4, x5, x6, x7, x8, x9, x10, rfl, rfl⟩
    generalize hB : b_k36j sp_tape sp_many sp_any sp_order sp_lmean sp_take sp_lpaper sp_paper (spB sp_same 9) = B
    rw [sSeq_app]
    simp only [sSet]
    refine call_tape rfl rfl (by omega) (by omega) fun ds0 t0 => ?_
    simp only [List.set_cons_succ, List.set_cons_zero, List.length_cons, List.length_nil, List.cons_append, List.nil_append, Nat.zero_add, Nat.reduceAdd]
    simp only [VLY]
    refine ⟨ds0, 0, rfl, rfl, t0, by decide, fun v dt v8 t1 => ?_⟩
    have e7 : ∃ m : Int, (m = 9 ∨ m = 6) ∧ (if (0 : Int) < (i : Int) then D.int 6 else D.int 9) = .int m := by
      by_cases h : (0 : Int) < (i : Int)
      · exact ⟨6, .inr rfl, by rw [if_pos h]⟩
      · exact ⟨9, .inl rfl, by rw [if_neg h]⟩
    obtain ⟨m, hm, e7⟩ := e7
    simp only [VLY, e7]
    refine ⟨by omega, ?_⟩
    obtain ⟨n, hn, n8⟩ : ∃ n : Nat, (v : Int) % m = (n : Int) ∧ n ≤ 8 := by
      rcases hm with rfl | rfl
      · exact ⟨v % 9, by omega, by omega⟩
      · exact ⟨v % 6, by omega, by omega⟩
    rw [hn]
    refine ⟨dt, n, _, rfl, rfl, t1, by decide, by omega, fun c dt2 hc1 _ t2 => ?_⟩
    have hc := Cm.ok_11 hc1
    simp only [VLY]
    refine ⟨dt2, _, n, rfl, rfl, t2, by omega, by omega, fun ks dt3 hks t3 => ?_⟩
    have kl : ks.length = n := by have := hks.length_eq; simpa using this
    have hk : ∀ k ∈ ks, k < ks.length := fun k hm => by rw [kl]; exact List.mem_range.mp (hks.mem_iff.mp hm)
    subst kl
    simp only [VLY, sealD]
    refine ⟨_, c, ks, rfl, .inl rfl, rfl, hk, by omega, hc, ?_⟩
    simp only [VLY]
    refine ⟨dt3, 5, _, rfl, rfl, t3, by omega, by omega, by omega, fun w dt4 w0 w1 t4 => ?_⟩
    obtain ⟨w, rfl⟩ := Int.eq_ofNat_of_zero_le w0
    have e1 : (if (ks.length : Int) < 1 then (ks.length : Int) else 1) = ((min ks.length 1 : Nat) : Int) := by split <;> omega
    have e2 : (if (ks.length : Int) < 2 then (ks.length : Int) else 2) = ((min ks.length 2 : Nat) : Int) := by split <;> omega
    have e3 : (if (ks.length : Int) < (w : Int) then (ks.length : Int) else (w : Int)) = ((min ks.length w : Nat) : Int) := by split <;> omega
    have hset : ∀ M, soSetF M (.d (.lst [.int 0, .int ((min ks.length 1 : Nat) : Int), .int ((min ks.length 2 : Nat) : Int), .int ((min ks.length w : Nat) : Int), .int (ks.length : Int)])) = some ((nsort [0, min ks.length 1, min ks.length 2, min ks.length w, ks.length]).map nD) := fun M =>
      soSet_nats (l := [0, min ks.length 1, min ks.length 2, min ks.length w, ks.length]) rfl (by show 5 < 64; decide)
    have hmem : ∀ j ∈ nsort [0, min ks.length 1, min ks.length 2, min ks.length w, ks.length], j ≤ ks.length := fun j hj => by
      have hj := nsort_mem.mp hj
      simp only [List.mem_cons, List.not_mem_nil, or_false] at hj
      rcases hj with h | h | h | h | h <;> omega
    simp only [VLY, e1, e2, e3, hset]
    generalize nsort [0, min ks.length 1, min ks.length 2, min ks.length w, ks.length] = L at hmem
    rw [← hB]
    refine for_kp (b := b_k36j sp_tape sp_many sp_any sp_order sp_lmean sp_take sp_lpaper sp_paper (spB sp_same 9)) (fun δ M => ∃ x1 x2 x5 x8 x9 x10, δ = [some (.d (.scr ns)), x1, x2, some (.d (.int (ks.length : Int))), some (.d (fD (mean c ks))), x5, some (.d (cD c)), some (.d (.lst (ks.map nD))), x8, x9, x10]) ?_ ?_ ⟨_, _, _, _, _, _, rfl⟩
    · rintro δ M ⟨x1, x2, x5, x8, x9, x10, rfl⟩
      exact ⟨trivial, fin _ _ _ _ _ _ _ _ _ _ _⟩
    · rintro d hd δ M nx2 ⟨x1, x2, x5, x8, x9, x10, rfl⟩ k2
      obtain ⟨j, hj, rfl⟩ := List.mem_map.mp hd
      refine ⟨trivial, ?_⟩
      simp only [gNm, List.set_cons_succ, List.set_cons_zero]
      refine k36_j (fun _ => rfl) hk n8 (hmem j hj) hc fun y1 y2 y8 y9 y10 M' => ?_
      refine k2 _ _ ⟨gcO 1 y1, gcO 1 y2, some (.d (nD j)), gcO 1 y8, gcO 1 y9, gcO 1 y10, rfl⟩
end VL
set_option Elab.async false
set_option linter.all false
set_option maxRecDepth 100000
set_option maxHeartbeats 1000000
open PySem PySem.Spec L2 RT RZ VL
namespace Zk36
def dd_inner_claims : He.DefD := ⟨("inner_claims", none), "inner_claims", "inner_claims", defArgs s_inner_claims, defBody s_inner_claims, defScope s_inner_claims, [], []⟩
def dd_holds : He.DefD := ⟨("holds", none), "holds", "holds", defArgs s_holds, defBody s_holds, defScope s_holds, [], []⟩
def dd_all_settings : He.DefD := ⟨("all_settings", none), "all_settings", "all_settings", defArgs s_all_settings, defBody s_all_settings, defScope s_all_settings, [], []⟩
def dd_filling_by : He.DefD := ⟨("filling_by", none), "filling_by", "filling_by", defArgs s_filling_by, defBody s_filling_by, defScope s_filling_by, [], []⟩
def dd_meaning_of : He.DefD := ⟨("meaning_of", none), "meaning_of", "meaning_of", defArgs s_meaning_of, defBody s_meaning_of, defScope s_meaning_of, [], []⟩
def dd_rests_at : He.DefD := ⟨("rests_at", none), "rests_at", "rests_at", defArgs s_rests_at, defBody s_rests_at, defScope s_rests_at, [], []⟩
def dd_least_heads : He.DefD := ⟨("least_heads", none), "least_heads", "least_heads", defArgs s_least_heads, defBody s_least_heads, defScope s_least_heads, [], []⟩
def dd_first_unlike : He.DefD := ⟨("first_unlike", none), "first_unlike", "first_unlike", defArgs s_first_unlike, defBody s_first_unlike, defScope s_first_unlike, [], []⟩
def dd_paper_for : He.DefD := ⟨("paper_for", none), "paper_for", "paper_for", defArgs s_paper_for, defBody s_paper_for, defScope s_paper_for, [], []⟩
def dd__law_cell_at : He.DefD := ⟨("_law_cell_at", none), "_law_cell_at", "_law_cell_at", defArgs s__law_cell_at, defBody s__law_cell_at, defScope s__law_cell_at, [], []⟩
def dd__law_tape : He.DefD := ⟨("_law_tape", none), "_law_tape", "_law_tape", defArgs s__law_tape, defBody s__law_tape, defScope s__law_tape, [], []⟩
def dd__law_take : He.DefD := ⟨("_law_take", none), "_law_take", "_law_take", defArgs s__law_take, defBody s__law_take, defScope s__law_take, [], []⟩
def dd__law_claim : He.DefD := ⟨("_law_claim", none), "_law_claim", "_law_claim", defArgs s__law_claim, defBody s__law_claim, defScope s__law_claim, [], []⟩
def dd__law_any_claim : He.DefD := ⟨("_law_any_claim", none), "_law_any_claim", "_law_any_claim", defArgs s__law_any_claim, defBody s__law_any_claim, defScope s__law_any_claim, [], []⟩
def dd__law_holds : He.DefD := ⟨("_law_holds", none), "_law_holds", "_law_holds", defArgs s__law_holds, defBody s__law_holds, defScope s__law_holds, [], []⟩
def dd__law_all_fillings : He.DefD := ⟨("_law_all_fillings", none), "_law_all_fillings", "_law_all_fillings", defArgs s__law_all_fillings, defBody s__law_all_fillings, defScope s__law_all_fillings, [], []⟩
def dd__law_many : He.DefD := ⟨("_law_many", none), "_law_many", "_law_many", defArgs s__law_many, defBody s__law_many, defScope s__law_many, [], []⟩
def dd__law_mixed : He.DefD := ⟨("_law_mixed", none), "_law_mixed", "_law_mixed", defArgs s__law_mixed, defBody s__law_mixed, defScope s__law_mixed, [], []⟩
def dd__law_order : He.DefD := ⟨("_law_order", none), "_law_order", "_law_order", defArgs s__law_order, defBody s__law_order, defScope s__law_order, [], []⟩
def dd__law_same : He.DefD := ⟨("_law_same", none), "_law_same", "_law_same", defArgs s__law_same, defBody s__law_same, defScope s__law_same, [], []⟩
def dd__law_by : He.DefD := ⟨("_law_by", none), "_law_by", "_law_by", defArgs s__law_by, defBody s__law_by, defScope s__law_by, [], []⟩
def dd__law_meaning : He.DefD := ⟨("_law_meaning", none), "_law_meaning", "_law_meaning", defArgs s__law_meaning, defBody s__law_meaning, defScope s__law_meaning, [], []⟩
def dd__law_rests : He.DefD := ⟨("_law_rests", none), "_law_rests", "_law_rests", defArgs s__law_rests, defBody s__law_rests, defScope s__law_rests, [], []⟩
def dd__law_paper : He.DefD := ⟨("_law_paper", none), "_law_paper", "_law_paper", defArgs s__law_paper, defBody s__law_paper, defScope s__law_paper, [], []⟩
def dd_law : He.DefD := ⟨("law", none), "law", "law", defArgs s_law, defBody s_law, defScope s_law, [], []⟩
def fn : List He.DefD := [dd_inner_claims, dd_holds, dd_all_settings, dd_filling_by, dd_meaning_of, dd_rests_at, dd_least_heads, dd_first_unlike, dd_paper_for, dd__law_cell_at, dd__law_tape, dd__law_take, dd__law_claim, dd__law_any_claim, dd__law_holds, dd__law_all_fillings, dd__law_many, dd__law_mixed, dd__law_order, dd__law_same, dd__law_by, dd__law_meaning, dd__law_rests, dd__law_paper, dd_law]
def fa : List He.Fa := [.glo "inner_claims", .glo "holds", .glo "all_settings", .glo "filling_by", .glo "meaning_of", .glo "rests_at", .glo "least_heads", .glo "first_unlike", .glo "paper_for", .glo "_law_cell_at", .glo "_law_tape", .glo "_law_take", .glo "_law_claim", .glo "_law_any_claim", .glo "_law_holds", .glo "_law_all_fillings", .glo "_law_many", .glo "_law_mixed", .glo "_law_order", .glo "_law_same", .glo "_law_by", .glo "_law_meaning", .glo "_law_rests", .glo "_law_paper", .glo "law", .free "list", .free "all", .free "any", .free "range", .free "len", .free "zip", .free "tuple", .free "int", .free "enumerate", .free "abs", .free "max", .free "isinstance", .free "str", .free "bool", .free "sorted", .free "min", .free "set"]
def cs : List (Str × D) := [("PLAIN", c_PLAIN)]
theorem ok_law {P : Program} {w : World} {K : PySem.W.Frag} {mg : Str → Option Value} {h base : Heap} (X : K.In h) (G : h.Ns mainGlobals mg) (c : SaysV fa fn cs K) {fd : FuncData} (F : FunD K "law" "law" (defArgs s_law) (defBody s_law) (defScope s_law) [] [] (He.fAd K ("law", none)) fd) :
    FnG P w K mg base C8.CX0 25 (He.fAd K ("law", none)) fd ["_law_script"] (lP K 1 sp_law) := by
  have m_list := He.free_ok X G (c.d.fact 25 (f := .free "list") rfl)
  have m_all := He.free_ok X G (c.d.fact 26 (f := .free "all") rfl)
  have m_any := He.free_ok X G (c.d.fact 27 (f := .free "any") rfl)
  have m_range := He.free_ok X G (c.d.fact 28 (f := .free "range") rfl)
  have m_len := He.free_ok X G (c.d.fact 29 (f := .free "len") rfl)
  have m_zip := He.free_ok X G (c.d.fact 30 (f := .free "zip") rfl)
  have m_tuple := He.free_ok X G (c.d.fact 31 (f := .free "tuple") rfl)
  have m_int := He.free_ok X G (c.d.fact 32 (f := .free "int") rfl)
  have m_enumerate := He.free_ok X G (c.d.fact 33 (f := .free "enumerate") rfl)
  have m_abs := He.free_ok X G (c.d.fact 34 (f := .free "abs") rfl)
  have m_max := He.free_ok X G (c.d.fact 35 (f := .free "max") rfl)
  have m_isinstance := He.free_ok X G (c.d.fact 36 (f := .free "isinstance") rfl)
  have m_str := He.free_ok X G (c.d.fact 37 (f := .free "str") rfl)
  have m_bool := He.free_ok X G (c.d.fact 38 (f := .free "bool") rfl)
  have m_sorted := He.free_ok X G (c.d.fact 39 (f := .free "sorted") rfl)
  have m_min := He.free_ok X G (c.d.fact 40 (f := .free "min") rfl)
  have m_set := He.free_ok X G (c.d.fact 41 (f := .free "set") rfl)
  obtain ⟨u_PLAIN, hm_PLAIN, kv_PLAIN⟩ := c.con X G 0 (x := "PLAIN") (d := c_PLAIN) rfl
  obtain ⟨fd_inner_claims, F_inner_claims⟩ := c.d.def_ 0 (d := dd_inner_claims) rfl
  have g_inner_claims : mg "inner_claims" = some (.ref (He.fAd K ("inner_claims", none))) := He.glo_ok X G (c.d.fact 0 (f := .glo "inner_claims") rfl)
  have b_inner_claims : Binds K fd_inner_claims ["claim"] [] := FunD.bindsN F_inner_claims fun _ _ _ _ _ _ us hl => match us, hl with | [_], _ => rfl
  have ca_inner : Ca P w K mg base 1 "inner_claims" 1 sp_inner := ca_of (k := 0) F_inner_claims g_inner_claims b_inner_claims sc_inner_claims (m0 := 0) (by rintro as M Q ⟨_, _,  rfl, _⟩; rfl) (d_inner_claims m_list hm_PLAIN kv_PLAIN) (fun as M Q _ h => pure_inner as M Q h)
  obtain ⟨fd_holds, F_holds⟩ := c.d.def_ 1 (d := dd_holds) rfl
  have g_holds : mg "holds" = some (.ref (He.fAd K ("holds", none))) := He.glo_ok X G (c.d.fact 1 (f := .glo "holds") rfl)
  have b_holds : Binds K fd_holds ["claim", "filling"] [] := FunD.bindsN F_holds fun _ _ _ _ _ _ us hl => match us, hl with | [_, _], _ => rfl
  have ca_holds : ∀ d, Ca P w K mg base (1 + d) "holds" 2 (spB sp_holds d) := fun d => by
    induction d with
    | zero => exact ca_bot F_holds g_holds b_holds 2
    | succ d ih => exact ca_of (k := 1 + d) F_holds g_holds b_holds sc_holds (m0 := 0) (by rintro as M Q ⟨_, _, _, _, _, rfl, _⟩; rfl) (d_holds m_all m_any hm_PLAIN kv_PLAIN ca_inner (by omega) ih (by omega)) (fun as M Q _ h => pure_holds as M Q h)
  obtain ⟨fd_all_settings, F_all_settings⟩ := c.d.def_ 2 (d := dd_all_settings) rfl
  have g_all_settings : mg "all_settings" = some (.ref (He.fAd K ("all_settings", none))) := He.glo_ok X G (c.d.fact 2 (f := .glo "all_settings") rfl)
  have b_all_settings : Binds K fd_all_settings ["many"] [] := FunD.bindsN F_all_settings fun _ _ _ _ _ _ us hl => match us, hl with | [_], _ => rfl
  have ca_settings : Ca P w K mg base 1 "all_settings" 1 sp_afs := ca_of (k := 0) F_all_settings g_all_settings b_all_settings sc_all_settings (m0 := 0) (by rintro as M Q ⟨_, _,  rfl, _⟩; rfl) (d_all_settings m_range) (fun as M Q _ h => pure_settings as M Q h)
  obtain ⟨fd_filling_by, F_filling_by⟩ := c.d.def_ 3 (d := dd_filling_by) rfl
  have g_filling_by : mg "filling_by" = some (.ref (He.fAd K ("filling_by", none))) := He.glo_ok X G (c.d.fact 3 (f := .glo "filling_by") rfl)
  have b_filling_by : Binds K fd_filling_by ["order", "bits"] [] := FunD.bindsN F_filling_by fun _ _ _ _ _ _ us hl => match us, hl with | [_, _], _ => rfl
  have ca_fby : Ca P w K mg base 1 "filling_by" 2 sp_fby := ca_of (k := 0) F_filling_by g_filling_by b_filling_by sc_filling_by (m0 := 0) (by rintro as M Q ⟨_, _, _, _, _,  rfl, _⟩; rfl) (d_filling_by m_len m_zip m_tuple) (fun as M Q _ h => pure_fby as M Q h)
  obtain ⟨fd_meaning_of, F_meaning_of⟩ := c.d.def_ 4 (d := dd_meaning_of) rfl
  have g_meaning_of : mg "meaning_of" = some (.ref (He.fAd K ("meaning_of", none))) := He.glo_ok X G (c.d.fact 4 (f := .glo "meaning_of") rfl)
  have b_meaning_of : Binds K fd_meaning_of ["claim", "many", "order"] [] := FunD.bindsN F_meaning_of fun _ _ _ _ _ _ us hl => match us, hl with | [_, _, _], _ => rfl
  have ca_mean : Ca P w K mg base 22 "meaning_of" 3 sp_mean := ca_of (k := 21) F_meaning_of g_meaning_of b_meaning_of sc_meaning_of (m0 := 0) (by rintro as M Q ⟨_, _, _, _, _,  rfl, _⟩; rfl) (d_meaning_of m_int m_tuple ca_settings (by omega) (ca_holds 20) (by omega) ca_fby (by omega)) (fun as M Q _ h => pure_mean as M Q h)
  obtain ⟨fd_rests_at, F_rests_at⟩ := c.d.def_ 5 (d := dd_rests_at) rfl
  have g_rests_at : mg "rests_at" = some (.ref (He.fAd K ("rests_at", none))) := He.glo_ok X G (c.d.fact 5 (f := .glo "rests_at") rfl)
  have b_rests_at : Binds K fd_rests_at ["meaning", "long"] [] := FunD.bindsN F_rests_at fun _ _ _ _ _ _ us hl => match us, hl with | [_, _], _ => rfl
  have ca_rests : Ca P w K mg base 1 "rests_at" 2 sp_rests := ca_of (k := 0) F_rests_at g_rests_at b_rests_at sc_rests_at (m0 := 0) (by rintro as M Q ⟨_, _, _, _,  rfl, _⟩; rfl) (d_rests_at m_len m_range) (fun as M Q _ h => pure_rests as M Q h)
  obtain ⟨fd_least_heads, F_least_heads⟩ := c.d.def_ 6 (d := dd_least_heads) rfl
  have g_least_heads : mg "least_heads" = some (.ref (He.fAd K ("least_heads", none))) := He.glo_ok X G (c.d.fact 6 (f := .glo "least_heads") rfl)
  have b_least_heads : Binds K fd_least_heads ["rests"] [] := FunD.bindsN F_least_heads fun _ _ _ _ _ _ us hl => match us, hl with | [_], _ => rfl
  have ca_lheads : Ca P w K mg base 1 "least_heads" 1 sp_lheads := ca_of (k := 0) F_least_heads g_least_heads b_least_heads sc_least_heads (m0 := 0) (by rintro as M Q ⟨_, _,  rfl, _⟩; rfl) (d_least_heads m_enumerate) (fun as M Q _ h => pure_lheads as M Q h)
  obtain ⟨fd_first_unlike, F_first_unlike⟩ := c.d.def_ 7 (d := dd_first_unlike) rfl
  have g_first_unlike : mg "first_unlike" = some (.ref (He.fAd K ("first_unlike", none))) := He.glo_ok X G (c.d.fact 7 (f := .glo "first_unlike") rfl)
  have b_first_unlike : Binds K fd_first_unlike ["one", "other"] [] := FunD.bindsN F_first_unlike fun _ _ _ _ _ _ us hl => match us, hl with | [_, _], _ => rfl
  have ca_funl : Ca P w K mg base 1 "first_unlike" 2 sp_funl := ca_of (k := 0) F_first_unlike g_first_unlike b_first_unlike sc_first_unlike (m0 := 0) (by rintro as M Q ⟨_, _, _,  rfl, _⟩; rfl) (d_first_unlike m_zip) (fun as M Q _ h => pure_funl as M Q h)
  obtain ⟨fd_paper_for, F_paper_for⟩ := c.d.def_ 8 (d := dd_paper_for) rfl
  have g_paper_for : mg "paper_for" = some (.ref (He.fAd K ("paper_for", none))) := He.glo_ok X G (c.d.fact 8 (f := .glo "paper_for") rfl)
  have b_paper_for : Binds K fd_paper_for ["claim", "many", "order", "j"] [] := FunD.bindsN F_paper_for fun _ _ _ _ _ _ us hl => match us, hl with | [_, _, _, _], _ => rfl
  have ca_paper : Ca P w K mg base 23 "paper_for" 4 sp_paper := ca_of (k := 22) F_paper_for g_paper_for b_paper_for sc_paper_for (m0 := 0) (by rintro as M Q ⟨_, _, _, _, _, _,  rfl, _⟩; rfl) (d_paper_for m_enumerate ca_rests (by omega) ca_mean (by omega) ca_lheads (by omega) ca_settings (by omega) ca_funl (by omega)) (fun as M Q _ h => pure_paper as M Q h)
  obtain ⟨fd__law_cell_at, F__law_cell_at⟩ := c.d.def_ 9 (d := dd__law_cell_at) rfl
  have g__law_cell_at : mg "_law_cell_at" = some (.ref (He.fAd K ("_law_cell_at", none))) := He.glo_ok X G (c.d.fact 9 (f := .glo "_law_cell_at") rfl)
  have b__law_cell_at : Binds K fd__law_cell_at ["_law_script", "_law_k"] [] := FunD.bindsN F__law_cell_at fun _ _ _ _ _ _ us hl => match us, hl with | [_, _], _ => rfl
  have ca_cell : Ca P w K mg base 1 "_law_cell_at" 2 sp_cell := ca_of (k := 0) F__law_cell_at g__law_cell_at b__law_cell_at sc__law_cell_at (m0 := 0) (by rintro as M Q ⟨_, _, _,  rfl, _⟩; rfl) (d__law_cell_at m_len) (fun as M Q _ h => pure_cell as M Q h)
  obtain ⟨fd__law_tape, F__law_tape⟩ := c.d.def_ 10 (d := dd__law_tape) rfl
  have g__law_tape : mg "_law_tape" = some (.ref (He.fAd K ("_law_tape", none))) := He.glo_ok X G (c.d.fact 10 (f := .glo "_law_tape") rfl)
  have b__law_tape : Binds K fd__law_tape ["_law_script", "_law_k"] [] := FunD.bindsN F__law_tape fun _ _ _ _ _ _ us hl => match us, hl with | [_, _], _ => rfl
  have ca_tape : Ca P w K mg base 2 "_law_tape" 2 sp_tape := ca_of (k := 1) F__law_tape g__law_tape b__law_tape sc__law_tape (m0 := 0) (by rintro as M Q ⟨_, _, _,  rfl, _⟩; rfl) (d__law_tape m_abs m_int ca_cell (by omega)) (fun as M Q _ h => pure_tape as M Q h)
  obtain ⟨fd__law_take, F__law_take⟩ := c.d.def_ 11 (d := dd__law_take) rfl
  have g__law_take : mg "_law_take" = some (.ref (He.fAd K ("_law_take", none))) := He.glo_ok X G (c.d.fact 11 (f := .glo "_law_take") rfl)
  have b__law_take : Binds K fd__law_take ["_law_tape_here", "_law_many_here"] [] := FunD.bindsN F__law_take fun _ _ _ _ _ _ us hl => match us, hl with | [_, _], _ => rfl
  have bot__law_take : Ca P w K mg base 0 "_law_take" 2 (spB (fun _ => fun _ _ _ => False) 0) := ca_bot F__law_take g__law_take b__law_take 2
  have ca_take : Ca P w K mg base 1 "_law_take" 2 sp_take := ca_of (k := 0) F__law_take g__law_take b__law_take sc__law_take (m0 := 1) (by rintro as M Q ⟨_, _, _, _,  rfl, _⟩; rfl) (d__law_take bot__law_take (by omega)) (fun as M Q _ h => pure_take as M Q h)
  obtain ⟨fd__law_claim, F__law_claim⟩ := c.d.def_ 12 (d := dd__law_claim) rfl
  have g__law_claim : mg "_law_claim" = some (.ref (He.fAd K ("_law_claim", none))) := He.glo_ok X G (c.d.fact 12 (f := .glo "_law_claim") rfl)
  have b__law_claim : Binds K fd__law_claim ["_law_tape_here", "_law_many_here", "_law_deep"] [] := FunD.bindsN F__law_claim fun _ _ _ _ _ _ us hl => match us, hl with | [_, _, _], _ => rfl
  have ca_claims : ∀ d, Ca P w K mg base (1 + d) "_law_claim" 3 (spB sp_claim d) := fun d => by
    induction d with
    | zero => exact ca_bot F__law_claim g__law_claim b__law_claim 3
    | succ d ih => exact ca_of (k := 1 + d) F__law_claim g__law_claim b__law_claim sc__law_claim (m0 := 1) (by rintro as M Q ⟨_, _, _, _, _, _, rfl, _⟩; rfl) (d__law_claim m_max m_range m_tuple m_len ca_take (by omega) ih (by omega)) (fun as M Q _ h => pure_claim as M Q h)
  have ca_claim : Ca P w K mg base 5 "_law_claim" 3 (sp_claim 3) := (ca_claims 4).imp fun as M Q h => ⟨3, by decide, h⟩
  obtain ⟨fd__law_any_claim, F__law_any_claim⟩ := c.d.def_ 13 (d := dd__law_any_claim) rfl
  have g__law_any_claim : mg "_law_any_claim" = some (.ref (He.fAd K ("_law_any_claim", none))) := He.glo_ok X G (c.d.fact 13 (f := .glo "_law_any_claim") rfl)
  have b__law_any_claim : Binds K fd__law_any_claim ["_law_tape_here", "_law_many_here"] [] := FunD.bindsN F__law_any_claim fun _ _ _ _ _ _ us hl => match us, hl with | [_, _], _ => rfl
  have ca_any : Ca P w K mg base 6 "_law_any_claim" 2 sp_any := ca_of (k := 5) F__law_any_claim g__law_any_claim b__law_any_claim sc__law_any_claim (m0 := 1) (by rintro as M Q ⟨_, _, _, _,  rfl, _⟩; rfl) (d__law_any_claim m_range m_tuple ca_take (by omega) ca_claim (by omega)) (fun as M Q _ h => pure_any as M Q h)
  obtain ⟨fd__law_holds, F__law_holds⟩ := c.d.def_ 14 (d := dd__law_holds) rfl
  have g__law_holds : mg "_law_holds" = some (.ref (He.fAd K ("_law_holds", none))) := He.glo_ok X G (c.d.fact 14 (f := .glo "_law_holds") rfl)
  have b__law_holds : Binds K fd__law_holds ["_law_claim_here", "_law_filling"] [] := FunD.bindsN F__law_holds fun _ _ _ _ _ _ us hl => match us, hl with | [_, _], _ => rfl
  have ca_lholds : ∀ d, Ca P w K mg base (1 + d) "_law_holds" 2 (spB sp_holds d) := fun d => by
    induction d with
    | zero => exact ca_bot F__law_holds g__law_holds b__law_holds 2
    | succ d ih => exact ca_of (k := 1 + d) F__law_holds g__law_holds b__law_holds sc__law_holds (m0 := 0) (by rintro as M Q ⟨_, _, _, _, _, rfl, _⟩; rfl) (d__law_holds m_all m_any ih (by omega)) (fun as M Q _ h => pure_lholds as M Q h)
  obtain ⟨fd__law_all_fillings, F__law_all_fillings⟩ := c.d.def_ 15 (d := dd__law_all_fillings) rfl
  have g__law_all_fillings : mg "_law_all_fillings" = some (.ref (He.fAd K ("_law_all_fillings", none))) := He.glo_ok X G (c.d.fact 15 (f := .glo "_law_all_fillings") rfl)
  have b__law_all_fillings : Binds K fd__law_all_fillings ["_law_many_here"] [] := FunD.bindsN F__law_all_fillings fun _ _ _ _ _ _ us hl => match us, hl with | [_], _ => rfl
  have ca_lafs : Ca P w K mg base 1 "_law_all_fillings" 1 sp_afs := ca_of (k := 0) F__law_all_fillings g__law_all_fillings b__law_all_fillings sc__law_all_fillings (m0 := 0) (by rintro as M Q ⟨_, _,  rfl, _⟩; rfl) (d__law_all_fillings m_range) (fun as M Q _ h => pure_afs as M Q h)
  obtain ⟨fd__law_many, F__law_many⟩ := c.d.def_ 16 (d := dd__law_many) rfl
  have g__law_many : mg "_law_many" = some (.ref (He.fAd K ("_law_many", none))) := He.glo_ok X G (c.d.fact 16 (f := .glo "_law_many") rfl)
  have b__law_many : Binds K fd__law_many ["_law_tape_here"] [] := FunD.bindsN F__law_many fun _ _ _ _ _ _ us hl => match us, hl with | [_], _ => rfl
  have ca_many : Ca P w K mg base 2 "_law_many" 1 sp_many := ca_of (k := 1) F__law_many g__law_many b__law_many sc__law_many (m0 := 1) (by rintro as M Q ⟨_, _, _,  rfl, _⟩; rfl) (d__law_many ca_take (by omega)) (fun as M Q _ h => pure_many as M Q h)
  obtain ⟨fd__law_mixed, F__law_mixed⟩ := c.d.def_ 17 (d := dd__law_mixed) rfl
  have g__law_mixed : mg "_law_mixed" = some (.ref (He.fAd K ("_law_mixed", none))) := He.glo_ok X G (c.d.fact 17 (f := .glo "_law_mixed") rfl)
  have b__law_mixed : Binds K fd__law_mixed ["_law_tape_here", "_law_some"] [] := FunD.bindsN F__law_mixed fun _ _ _ _ _ _ us hl => match us, hl with | [_, _], _ => rfl
  have ca_mixed : Ca P w K mg base 2 "_law_mixed" 2 sp_mixed := ca_of (k := 1) F__law_mixed g__law_mixed b__law_mixed sc__law_mixed (m0 := 1) (by rintro as M Q ⟨_, _, _, _, _, _,  rfl, _⟩; rfl) (d__law_mixed m_list m_len ca_take (by omega)) (fun as M Q _ h => pure_mixed as M Q h)
  obtain ⟨fd__law_order, F__law_order⟩ := c.d.def_ 18 (d := dd__law_order) rfl
  have g__law_order : mg "_law_order" = some (.ref (He.fAd K ("_law_order", none))) := He.glo_ok X G (c.d.fact 18 (f := .glo "_law_order") rfl)
  have b__law_order : Binds K fd__law_order ["_law_tape_here", "_law_many_here"] [] := FunD.bindsN F__law_order fun _ _ _ _ _ _ us hl => match us, hl with | [_, _], _ => rfl
  have ca_order : Ca P w K mg base 3 "_law_order" 2 sp_order := ca_of (k := 2) F__law_order g__law_order b__law_order sc__law_order (m0 := 1) (by rintro as M Q ⟨_, _, _, _,  rfl, _⟩; rfl) (d__law_order m_list m_range ca_take (by omega) ca_mixed (by omega)) (fun as M Q _ h => pure_order as M Q h)
  obtain ⟨fd__law_same, F__law_same⟩ := c.d.def_ 19 (d := dd__law_same) rfl
  have g__law_same : mg "_law_same" = some (.ref (He.fAd K ("_law_same", none))) := He.glo_ok X G (c.d.fact 19 (f := .glo "_law_same") rfl)
  have b__law_same : Binds K fd__law_same ["_law_found", "_law_due"] [] := FunD.bindsN F__law_same fun _ _ _ _ _ _ us hl => match us, hl with | [_, _], _ => rfl
  have ca_same : ∀ d, Ca P w K mg base (0 + d) "_law_same" 2 (spB sp_same d) := fun d => by
    induction d with
    | zero => exact ca_bot F__law_same g__law_same b__law_same 2
    | succ d ih => exact ca_of (k := 0 + d) F__law_same g__law_same b__law_same sc__law_same (m0 := 0) (by rintro as M Q ⟨_, _, _, _, _, _, _, _, rfl, _⟩; rfl) (d__law_same m_list m_tuple m_isinstance m_len m_zip m_all m_str m_bool m_int ih (by omega)) (fun as M Q _ h => pure_same as M Q h)
  obtain ⟨fd__law_by, F__law_by⟩ := c.d.def_ 20 (d := dd__law_by) rfl
  have g__law_by : mg "_law_by" = some (.ref (He.fAd K ("_law_by", none))) := He.glo_ok X G (c.d.fact 20 (f := .glo "_law_by") rfl)
  have b__law_by : Binds K fd__law_by ["_law_order_here", "_law_bits"] [] := FunD.bindsN F__law_by fun _ _ _ _ _ _ us hl => match us, hl with | [_, _], _ => rfl
  have ca_lby : Ca P w K mg base 1 "_law_by" 2 sp_fby := ca_of (k := 0) F__law_by g__law_by b__law_by sc__law_by (m0 := 0) (by rintro as M Q ⟨_, _, _, _, _,  rfl, _⟩; rfl) (d__law_by m_len m_zip m_tuple) (fun as M Q _ h => pure_fby as M Q h)
  obtain ⟨fd__law_meaning, F__law_meaning⟩ := c.d.def_ 21 (d := dd__law_meaning) rfl
  have g__law_meaning : mg "_law_meaning" = some (.ref (He.fAd K ("_law_meaning", none))) := He.glo_ok X G (c.d.fact 21 (f := .glo "_law_meaning") rfl)
  have b__law_meaning : Binds K fd__law_meaning ["_law_claim_here", "_law_order_here"] [] := FunD.bindsN F__law_meaning fun _ _ _ _ _ _ us hl => match us, hl with | [_, _], _ => rfl
  have ca_lmean : Ca P w K mg base 22 "_law_meaning" 2 sp_lmean := ca_of (k := 21) F__law_meaning g__law_meaning b__law_meaning sc__law_meaning (m0 := 0) (by rintro as M Q ⟨_, _, _, _, _,  rfl, _⟩; rfl) (d__law_meaning m_len m_int m_tuple ca_lafs (by omega) (ca_lholds 20) (by omega) ca_lby (by omega)) (fun as M Q _ h => pure_lmean as M Q h)
  obtain ⟨fd__law_rests, F__law_rests⟩ := c.d.def_ 22 (d := dd__law_rests) rfl
  have g__law_rests : mg "_law_rests" = some (.ref (He.fAd K ("_law_rests", none))) := He.glo_ok X G (c.d.fact 22 (f := .glo "_law_rests") rfl)
  have b__law_rests : Binds K fd__law_rests ["_law_meaning_here", "_law_many_here", "_law_j"] [] := FunD.bindsN F__law_rests fun _ _ _ _ _ _ us hl => match us, hl with | [_, _, _], _ => rfl
  have ca_lrests : Ca P w K mg base 1 "_law_rests" 3 sp_lrests := ca_of (k := 0) F__law_rests g__law_rests b__law_rests sc__law_rests (m0 := 0) (by rintro as M Q ⟨_, _, _, _,  rfl, _⟩; rfl) (d__law_rests m_len m_range) (fun as M Q _ h => pure_lrests as M Q h)
  obtain ⟨fd__law_paper, F__law_paper⟩ := c.d.def_ 23 (d := dd__law_paper) rfl
  have g__law_paper : mg "_law_paper" = some (.ref (He.fAd K ("_law_paper", none))) := He.glo_ok X G (c.d.fact 23 (f := .glo "_law_paper") rfl)
  have b__law_paper : Binds K fd__law_paper ["_law_meaning_here", "_law_many_here", "_law_j"] [] := FunD.bindsN F__law_paper fun _ _ _ _ _ _ us hl => match us, hl with | [_, _, _], _ => rfl
  have ca_lpaper : Ca P w K mg base 2 "_law_paper" 3 sp_lpaper := ca_of (k := 1) F__law_paper g__law_paper b__law_paper sc__law_paper (m0 := 0) (by rintro as M Q ⟨_, _, _, _,  rfl, _⟩; rfl) (d__law_paper m_zip m_sorted m_enumerate ca_lrests (by omega) ca_lafs (by omega)) (fun as M Q _ h => pure_lpaper as M Q h)
  obtain ⟨fd_law, F_law⟩ := c.d.def_ 24 (d := dd_law) rfl
  have g_law : mg "law" = some (.ref (He.fAd K ("law", none))) := He.glo_ok X G (c.d.fact 24 (f := .glo "law") rfl)
  exact fg_of (k := 24) F sc_law (m0 := 0) (by rintro as M Q ⟨_, _,  rfl, _⟩; rfl) (d_law m_len m_min m_range m_int m_sorted m_set ca_tape (by omega) ca_many (by omega) ca_any (by omega) ca_order (by omega) ca_lmean (by omega) ca_take (by omega) ca_lpaper (by omega) ca_paper (by omega) (ca_same 9) (by omega)) (fun as M Q _ h => pure_law36 as M Q h)
abbrev hk : PySem.W.Hook := hookV 4 fa fn cs
def ob (s : PySem.W.SharedT) : AlV := obsVG 4 fa fn cs (HandSHeadRun.getT s)
theorem ob_eq (s : PySem.W.SharedT) : ob s = hk.obs s.abs := obsVG_eq (HandSHeadRun.getT_eq s)
abbrev R : PySem.W.OpenRow := PySem.W.OpenLaw.row PySem.Challenge.rw_countforms_k36_papers_of_rests
theorem run (w : World) : HandSHeadRun.RunEq R (PySem.W.view R.prog [29]) hk ob 20000 ["PLAIN", "inner_claims", "holds", "all_settings", "filling_by", "meaning_of", "rests_at", "least_heads", "first_unlike", "paper_for", "_law_cell_at", "_law_tape", "_law_take", "_law_claim", "_law_any_claim", "_law_holds", "_law_all_fillings", "_law_many", "_law_mixed", "_law_order", "_law_same", "_law_by", "_law_meaning", "_law_rests", "_law_paper"] w := by
  intro os
  kernel_rfl
end Zk36
open PySem PySem.W PySem.Calls PyProof.Rows
theorem PySem.Challenge.cw_countforms_k36_papers_of_rests_holds : PySem.Challenge.rw_countforms_k36_papers_of_rests.Holds := by
  w_on; o_law
  refine HandSHeadRun.head_any (r := OpenLaw.row PySem.Challenge.rw_countforms_k36_papers_of_rests) (q := view (OpenLaw.row PySem.Challenge.rw_countforms_k36_papers_of_rests).prog [29]) (H := Zk36.hk) (ob := Zk36.ob) (M := 20000) (loose := ["PLAIN", "inner_claims", "holds", "all_settings", "filling_by", "meaning_of", "rests_at", "least_heads", "first_unlike", "paper_for", "_law_cell_at", "_law_tape", "_law_take", "_law_claim", "_law_any_claim", "_law_holds", "_law_all_fillings", "_law_many", "_law_mixed", "_law_order", "_law_same", "_law_by", "_law_meaning", "_law_rests", "_law_paper"]) (d := HandSHeadRun.topDef (OpenLaw.row PySem.Challenge.rw_countforms_k36_papers_of_rests).prog 29) (kwd := []) Zk36.ob_eq
    (by kernel_rfl) (fun s => by kernel_rfl) Zk36.run (by kernel_rfl) (by kernel_rfl) (by kernel_rfl) (by rfl) (by first | assumption | decide +kernel) (by decide +kernel) ⟨rfl, rfl, rfl, rfl, rfl, by decide +kernel⟩ ?hw ?hc
  case hw => w_witness2
  case hc =>
    refine VL.walk_g (l := PySem.Challenge.rw_countforms_k36_papers_of_rests) (n := 63) (k := 25) (x := "_law_script") (CX := C8.CX0) rfl (by decide) (by kernel_rfl) ⟨rfl, by decide, by decide⟩ ?F (fun _ _ _ _ z => z)
    intro w mg fa h Y G hmg0
    obtain ⟨K, KX, c⟩ := Y
    have hmg : mg ("law" : PySem.Str) = some (.ref fa) := by
      have e : (HandSHeadRun.topDef (OpenLaw.row PySem.Challenge.rw_countforms_k36_papers_of_rests).prog 29).name = ("law" : PySem.Str) := by kernel_rfl
      rw [← e]
      exact hmg0
    obtain ⟨fd, F⟩ := c.d.def_ 24 (d := Zk36.dd_law) rfl
    have e := hmg.symm.trans (He.glo_ok KX G (c.d.fact 24 (f := .glo "law") rfl))
    cases e
    have b := L2.FunD.bindsA (ps := ["_law_script"]) F fun _ _ _ _ _ _ us hl => match us, hl with | [_], _ => rfl
    exact ⟨K, fd, VL.lP K 1 VL.sp_law, KX, fun s v => b s [v] rfl, fun H a ns hl hO hS => VL.lawSp hl hO hS, fun base _ _ => Zk36.ok_law KX G c F⟩
