import PyProof.Rows.All
import HandS.ForMost
import HandS.Walk
import HandS.IsInst
import HandS.Conv
import HandS.Zip
import HandS.Rev
import HandS.RevRange
import HandS.TupAny
import HandS.TupMul
import HandS.TupLe
import HandS.SortInts
import HandS.Deep
import HandS.Wide
import HandS.WideBits
import HandS.Flow
import HandS.Exc
import HandS.ExcOwn
import HandS.ExcInit
import HandS.Strs
import HandS.More
import HandS.Style
import HandS.Defaults
import HandS.Codes
import HandS.WordsExc
import HandS.Head0
import HandS.Head1
import HandS.Head2
import HandS.HeadEnd
import HandS.HeadHook1
import HandS.HeadHook2
import KE.KDictKeyed
import KE.KeyNested
import HandS.RaiseMore
import HandS.SetFor
import HandS.Small
import KE.KDictPairs
import PyProof.SumAny
import PyProof.FactsAll.subtypes_4
import KE.DataMinMax
import KE.GoesEnum
import HandS.TupSets
import PyProof.Rows.SortShellAny
import KE.KStateDown
import KE.KRevSl
import PyProof.Rows.IntBool
import PyProof.CallStr
import KE.SortData
import KE.GoesZip
import HandS.Dict
import HandS.Iter
import KE.KDictCopyH
import HandS.Keys
import HandS.ExcIs
import HandS.ExcValue
import KE.GoesMore
import KE.KDictZip
import HandS.ListItems
import HandS.Text
import PyProof.ReprRoads
import HandS.HeadHook3
import PyProof.TupleOfSeq
import HandS.DictTup
import HandS.SortOrd
import PySem.Challenge.RW_countforms_k60_claims_written
set_option Elab.async false
set_option linter.all false
set_option maxRecDepth 100000
set_option maxHeartbeats 4000000
namespace VL
open PySem PySem.Spec L2
/-- data; lst: a list that nobody changes any more -/
inductive D where
  | non | bl (b : Bool) | int (i : Int) | str (s : Str) | tup (ds : List D) | lst (ds : List D) | scr (ns : List Int) | fn (a : Addr) | ty (n : String)
  | dn (ks ds : List D) | dk (ks : List Key) (ds : List D) | cls (n : Str) | exc (n : Str) (f : Option (Str × Int))
  deriving Inhabited
/-- a value: data, the n-th changing object, or a list that is lent -/
inductive Sv where
  | d (x : D) | ref (n : Nat) | bor (ds : List D)
  deriving Inhabited
/-- what holds names of changing things: an object of a class with fields -/
inductive Kd where
  | ob (c : Str) (fs : List Str)
  deriving Inhabited, DecidableEq
inductive Cell where
  | gone | lst (ds : List D) | dk (kvs : List (Key × D)) | dn (kvs : List (D × D)) | dw (w : World) (kvs : List (D × D)) | nd (k : Kd) (its : List (D ⊕ Nat))
  deriving Inhabited
/-- what a cell names stands ahead of it -/
def Cell.wf (n : Nat) : Cell → Prop
  | .nd _ its => ∀ j, Sum.inr j ∈ its → j < n
  | _ => True
abbrev Mem := List Cell
abbrev DS := List (Option Sv)
/-- where the changing objects stand (none: one that is no more) -/
abbrev Ix := List (Option Addr)
/-- a tuple of the written part -/
def KT (K : PySem.W.Frag) (a : Addr) (xs : List V) : Prop :=
  ∃ (o : Obj) (its : Array Value) (n : Nat), K.lookup a = some o ∧ o.cls = .type "tuple" ∧ o.data = .seq its n ∧ its.size ≤ sizeLine ∧ Vals xs its.toList
/-- a list of the written part -/
def KL (K : PySem.W.Frag) (a : Addr) (xs : List V) : Prop :=
  ∃ (o : Obj) (its : Array Value) (n : Nat), K.lookup a = some o ∧ o.cls = .type "list" ∧ o.dict = none ∧ o.data = .seq its n ∧ its.size ≤ sizeLine ∧ Vals xs its.toList
mutual
/-- a key's hash: no text within -/
def nhash : NestedKey → Int
  | .none => reduceHash 0xFCA86420
  | .num i => hashInt i
  | .text _ => 0
  | .tup ks => reduceHash (Builtin.Tuple.tupleHashOf (nhashes ks))
def nhashes : List NestedKey → List Int
  | [] => []
  | k :: ks => nhash k :: nhashes ks
end
mutual
def nplain : NestedKey → Bool
  | .none => true
  | .num _ => true
  | .text _ => false
  | .tup ks => nplains ks
def nplains : List NestedKey → Bool
  | [] => true
  | k :: ks => nplain k && nplains ks
end
def nEnt (x : NestedKey × Addr × Value) : DictEntry := ⟨nhash x.1, .ref x.2.1, x.2.2⟩
/-- at a stands a dict of such keys -/
def DnP (a : Addr) (xs : List (NestedKey × Addr × V)) : Heap → Prop := fun h => (a == sysModules) = false ∧ xs.length ≤ sizeLine ∧ ∃ (ys : List (NestedKey × Addr × Value)) (o : Obj) (es : Array DictEntry) (ep : Nat),
  Paired (fun (p : NestedKey × Addr × V) (q : NestedKey × Addr × Value) => p.1 = q.1 ∧ p.2.1 = q.2.1 ∧ RelV p.2.2 q.2.2) xs ys ∧ h.get? a = some o ∧ o.ExactDict ∧ o.data = .dict es ep ∧ es.toList = ys.map nEnt ∧ (ys.map (·.1)).Nodup
def DnO (a : Addr) (xs : List (NestedKey × Addr × V)) : HO := .ext (DnP a xs)
/-- the same with texts in the keys: their hashes are the world's -/
def wEnt (w : World) (x : NestedKey × Addr × Value) : DictEntry := ⟨x.1.hash w, .ref x.2.1, x.2.2⟩
def DwP (w : World) (a : Addr) (xs : List (NestedKey × Addr × V)) : Heap → Prop := fun h => (a == sysModules) = false ∧ xs.length ≤ sizeLine ∧ ∃ (ys : List (NestedKey × Addr × Value)) (o : Obj) (es : Array DictEntry) (ep : Nat),
  Paired (fun (p : NestedKey × Addr × V) (q : NestedKey × Addr × Value) => p.1 = q.1 ∧ p.2.1 = q.2.1 ∧ RelV p.2.2 q.2.2) xs ys ∧ h.get? a = some o ∧ o.ExactDict ∧ o.data = .dict es ep ∧ es.toList = ys.map (wEnt w) ∧ (ys.map (·.1)).Nodup
def DwO (w : World) (a : Addr) (xs : List (NestedKey × Addr × V)) : HO := .ext (DwP w a xs)
mutual
def nk0 : D → Option NestedKey
  | .non => some .none
  | .int i => some (.num i)
  | .bl b => some (.num (if b = true then 1 else 0))
  | .tup ds => (nk0s ds).map .tup
  | _ => none
def nk0s : List D → Option (List NestedKey)
  | [] => some []
  | d :: ds => (nk0 d).bind fun k => (nk0s ds).map fun ks => k :: ks
end
def nkD (d : D) : Option NestedKey := match d with
  | .tup ds => (nk0s ds).bind fun ks => if (NestedKey.tup ks).depth ≤ 8 then some (.tup ks) else none
  | _ => none
mutual
/-- the key that a datum is -/
def tk0 : D → Option NestedKey
  | .non => some .none
  | .int i => some (.num i)
  | .str x => some (.text x)
  | .tup ds => (tk0s ds).map .tup
  | _ => none
def tk0s : List D → Option (List NestedKey)
  | [] => some []
  | d :: ds => (tk0 d).bind fun k => (tk0s ds).map fun ks => k :: ks
end
/-- the tuples among them -/
def tkD (d : D) : Option NestedKey := match d with
  | .tup ds => (tk0s ds).bind fun ks => if (NestedKey.tup ks).depth ≤ 8 then some (.tup ks) else none
  | _ => none
/-- what is told of a caught error's own dict -/
def ExR (H : Hp) (ι : Ix) (f : Option (Str × Int)) (oe : Obj) : Prop := match f with
  | none => oe.dict = none
  | some (x, i) => ∃ dd od, oe.dict = some dd ∧ H dd = some (.frz od (.xd [(x, .int i)])) ∧ some dd ∉ ι
def ExH (a : Addr) (oe : Obj) : HO := .frz oe (.ext fun h => h.get? a = some oe)
mutual
def RD (K : PySem.W.Frag) (N : Bool → Addr → Prop) (H : Hp) (ι : Ix) : D → V → Prop
  | .non, v => v = .non
  | .bl b, v => v = .bl b
  | .int i, v => v = .int i
  | .str s, v => v = .str s
  | .tup ds, v => ∃ a xs, v = .ref a ∧ ((H a = some (.tup xs) ∧ some a ∉ ι) ∨ KT K a xs) ∧ ds.length ≤ sizeLine ∧ RDs K N H ι ds xs
  | .lst ds, v => ∃ a xs, v = .ref a ∧ H a = some (.lst xs) ∧ some a ∉ ι ∧ N true a ∧ ds.length ≤ sizeLine ∧ RDs K N H ι ds xs
  | .scr ns, v => ∃ a, v = .ref a ∧ ((∃ o, H a = some (.frz o (.lst (ns.map V.int))) ∧ some a ∉ ι) ∨ KL K a (ns.map V.int)) ∧ ns.length ≤ sizeLine
  | .fn a, v => v = .ref a
  | .ty n, v => v = .ty n
  | .cls n, v => v = .ref (He.ga K n)
  | .exc n f, v => ∃ a oe vs, v = .ref a ∧ H a = some (ExH a oe) ∧ some a ∉ ι ∧ oe.cls = .ref (He.ga K n) ∧ oe.data = .fields vs ∧ ExR H ι f oe
  | .dn ks ds, v => ∃ a xs o, v = .ref a ∧ H a = some (.frz o (DnO a xs)) ∧ some a ∉ ι ∧ ks.map nkD = xs.map (fun x => some x.1) ∧ RDs K N H ι ks (xs.map fun x => V.ref x.2.1) ∧ RDs K N H ι ds (xs.map fun x => x.2.2)
  | .dk ks ds, v => ∃ a ws o, v = .ref a ∧ H a = some (.frz o (.dK ws)) ∧ some a ∉ ι ∧ ks = ws.map (·.1) ∧ RDs K N H ι ds (ws.map (·.2))
def RDs (K : PySem.W.Frag) (N : Bool → Addr → Prop) (H : Hp) (ι : Ix) : List D → List V → Prop
  | [], xs => xs = []
  | d :: ds, xs => ∃ x r, xs = x :: r ∧ RD K N H ι d x ∧ RDs K N H ι ds r
end
/-- an item that is data, or the n-th changing thing -/
def RI (K : PySem.W.Frag) (N : Bool → Addr → Prop) (H : Hp) (ι : Ix) : D ⊕ Nat → V → Prop
  | .inl d, v => RD K N H ι d v
  | .inr n, v => ∃ a, v = .ref a ∧ (ι[n]? = some (some a) ∨ ι[n]? = some none)
def RIs (K : PySem.W.Frag) (N : Bool → Addr → Prop) (H : Hp) (ι : Ix) : List (D ⊕ Nat) → List V → Prop
  | [], xs => xs = []
  | d :: ds, xs => ∃ x r, xs = x :: r ∧ RI K N H ι d x ∧ RIs K N H ι ds r
def RS (K : PySem.W.Frag) (N : Bool → Addr → Prop) (H : Hp) (ι : Ix) : Sv → V → Prop
  | .d x, v => RD K N H ι x v
  | .ref n, v => ∃ a, v = .ref a ∧ (ι[n]? = some (some a) ∨ ι[n]? = some none)
  | .bor ds, v => ∃ a xs, v = .ref a ∧ H a = some (.lst xs) ∧ some a ∉ ι ∧ N false a ∧ ds.length ≤ sizeLine ∧ RDs K N H ι ds xs
def RSs (K : PySem.W.Frag) (N : Bool → Addr → Prop) (H : Hp) (ι : Ix) : List Sv → List V → Prop
  | [], xs => xs = []
  | d :: ds, xs => ∃ x r, xs = x :: r ∧ RS K N H ι d x ∧ RSs K N H ι ds r
/-- what is not changing stays -/
def Kp (ι : Ix) (H : Hp) (ι' : Ix) (H' : Hp) : Prop := ∀ a o, H a = some o → some a ∉ ι → H' a = some o ∧ some a ∉ ι'
theorem Kp.refl (ι : Ix) (H : Hp) : Kp ι H ι H := fun _ _ h n => ⟨h, n⟩
theorem Kp.trans {ι ι1 ι2 : Ix} {H H1 H2 : Hp} (a : Kp ι H ι1 H1) (b : Kp ι1 H1 ι2 H2) : Kp ι H ι2 H2 := fun c o h n =>
  let ⟨h1, n1⟩ := a c o h n
  b c o h1 n1
/-- names stay, or go -/
def Ex (ι ι' : Ix) : Prop := ∀ (n : Nat) (o : Option Addr), ι[n]? = some o → ι'[n]? = some o ∨ ι'[n]? = some none
theorem Ex.refl (ι : Ix) : Ex ι ι := fun _ _ h => .inl h
theorem Ex.trans {a b c : Ix} (h : Ex a b) (g : Ex b c) : Ex a c := fun n o e => by
  rcases h n o e with h | h
  · exact g n o h
  · rcases g n none h with g | g <;> exact .inr g
theorem Ex.app (ι r : Ix) : Ex ι (ι ++ r) := fun n o e => by
  have hlt := (List.getElem?_eq_some_iff.mp e).1
  rw [List.getElem?_append_left hlt]; exact .inl e
theorem ExR.map {H H' : Hp} {ι ι' : Ix} {f : Option (Str × Int)} {oe : Obj} (k : ∀ a o l, H a = some (.frz o l) → some a ∉ ι → H' a = some (.frz o l) ∧ some a ∉ ι') (h : ExR H ι f oe) : ExR H' ι' f oe := by
  cases f with
  | none => exact h
  | some p =>
    obtain ⟨dd, od, e, q, n⟩ := h
    exact ⟨dd, od, e, (k dd _ _ q n).1, (k dd _ _ q n).2⟩
section
variable {K : PySem.W.Frag} {N N' : Bool → Addr → Prop} {H H' : Hp} {ι ι' : Ix}
mutual
theorem RD.mono (k : Kp ι H ι' H') (hn : ∀ b a o, H a = some o → N b a → N' b a) : ∀ (d : D) (v : V), RD K N H ι d v → RD K N' H' ι' d v
  | .non, _, h => h
  | .bl _, _, h => h
  | .int _, _, h => h
  | .str _, _, h => h
  | .fn _, _, h => h
  | .ty _, _, h => h
  | .cls _, _, h => h
  | .exc _ f, v, h => by
    obtain ⟨a, oe, vs, e, q, n, c, d, x⟩ := h
    exact ⟨a, oe, vs, e, (k a _ q n).1, (k a _ q n).2, c, d, x.map fun b o l q n => k b _ q n⟩
  | .dn ks ds, v, h => by
    obtain ⟨a, xs, o, e, q, n, z, r1, r2⟩ := h
    exact ⟨a, xs, o, e, (k a _ q n).1, (k a _ q n).2, z, RDs.mono k hn ks _ r1, RDs.mono k hn ds _ r2⟩
  | .dk ks ds, v, h => by
    obtain ⟨a, ws, o, e, q, n, z, r⟩ := h
    exact ⟨a, ws, o, e, (k a _ q n).1, (k a _ q n).2, z, RDs.mono k hn ds _ r⟩
  | .scr ns, v, h => by
    obtain ⟨a, e, ⟨o, q, n⟩ | q, l⟩ := h
    · exact ⟨a, e, .inl ⟨o, k a _ q n⟩, l⟩
    · exact ⟨a, e, .inr q, l⟩
  | .tup ds, v, h => by
    obtain ⟨a, xs, e, q, l, r⟩ := h
    refine ⟨a, xs, e, ?_, l, RDs.mono k hn ds xs r⟩
    rcases q with ⟨q, n⟩ | q
    · exact .inl (k a _ q n)
    · exact .inr q
  | .lst ds, v, h => by
    obtain ⟨a, xs, e, q, n, z, l, r⟩ := h
    exact ⟨a, xs, e, (k a _ q n).1, (k a _ q n).2, hn _ a _ q z, l, RDs.mono k hn ds xs r⟩
theorem RDs.mono (k : Kp ι H ι' H') (hn : ∀ b a o, H a = some o → N b a → N' b a) : ∀ (ds : List D) (vs : List V), RDs K N H ι ds vs → RDs K N' H' ι' ds vs
  | [], _, h => h
  | d :: ds, vs, h => by
    obtain ⟨x, r, e, h1, h2⟩ := h
    exact ⟨x, r, e, RD.mono k hn d x h1, RDs.mono k hn ds r h2⟩
end
theorem RI.mono (k : Kp ι H ι' H') (p : Ex ι ι') (hn : ∀ b a o, H a = some o → N b a → N' b a) : ∀ {x : D ⊕ Nat} {v : V}, RI K N H ι x v → RI K N' H' ι' x v
  | .inl d, v, h => RD.mono k hn d v h
  | .inr n, v, h => by
    obtain ⟨a, e, q | q⟩ := h
    · exact ⟨a, e, p n _ q⟩
    · rcases p n _ q with z | z <;> exact ⟨a, e, .inr z⟩
theorem RIs.mono (k : Kp ι H ι' H') (p : Ex ι ι') (hn : ∀ b a o, H a = some o → N b a → N' b a) : ∀ {xs : List (D ⊕ Nat)} {vs : List V}, RIs K N H ι xs vs → RIs K N' H' ι' xs vs
  | [], _, h => h
  | d :: ds, vs, h => by
    obtain ⟨x, r, e, h1, h2⟩ := h
    exact ⟨x, r, e, RI.mono k p hn h1, RIs.mono k p hn h2⟩
theorem RIs.length : ∀ {ds : List (D ⊕ Nat)} {vs : List V}, RIs K N H ι ds vs → ds.length = vs.length
  | [], _, h => by cases (show _ = _ from h); rfl
  | d :: ds, _, h => by
    obtain ⟨x, r, rfl, _, h2⟩ := h
    simp [RIs.length h2]
theorem RIs.get : ∀ {ds : List (D ⊕ Nat)} {vs : List V} {i : Nat} {d : D ⊕ Nat}, RIs K N H ι ds vs → ds[i]? = some d → ∃ v, vs[i]? = some v ∧ RI K N H ι d v
  | [], _, i, _, _, e => by simp at e
  | d :: ds, _, 0, _, h, e => by
    obtain ⟨x, r, rfl, h1, _⟩ := h
    simp at e; subst e; exact ⟨x, rfl, h1⟩
  | d :: ds, _, i + 1, _, h, e => by
    obtain ⟨x, r, rfl, _, h2⟩ := h
    simp at e ⊢
    exact RIs.get h2 e
theorem RS.mono {x : Sv} {v : V} (k : Kp ι H ι' H') (p : Ex ι ι') (hn : ∀ b a o, H a = some o → N b a → N' b a) (h : RS K N H ι x v) : RS K N' H' ι' x v := by
  cases x with
  | d x => exact RD.mono k hn x v h
  | ref n =>
    obtain ⟨a, e, q | q⟩ := h
    · exact ⟨a, e, p n _ q⟩
    · rcases p n _ q with z | z <;> exact ⟨a, e, .inr z⟩
  | bor ds =>
    obtain ⟨a, xs, e, q, n, z, l, r⟩ := h
    exact ⟨a, xs, e, (k a _ q n).1, (k a _ q n).2, hn _ a _ q z, l, RDs.mono k hn ds xs r⟩
theorem RSs.mono (k : Kp ι H ι' H') (p : Ex ι ι') (hn : ∀ b a o, H a = some o → N b a → N' b a) : ∀ {xs : List Sv} {vs : List V}, RSs K N H ι xs vs → RSs K N' H' ι' xs vs
  | [], _, h => h
  | d :: ds, vs, h => by
    obtain ⟨x, r, e, h1, h2⟩ := h
    exact ⟨x, r, e, h1.mono k p hn, RSs.mono k p hn h2⟩
theorem RDs.length : ∀ {ds : List D} {vs : List V}, RDs K N H ι ds vs → ds.length = vs.length
  | [], _, h => by cases (show _ = _ from h); rfl
  | d :: ds, _, h => by
    obtain ⟨x, r, rfl, _, h2⟩ := h
    simp [RDs.length h2]
theorem RDs.get : ∀ {ds : List D} {vs : List V} {i : Nat} {d : D}, RDs K N H ι ds vs → ds[i]? = some d → ∃ v, vs[i]? = some v ∧ RD K N H ι d v
  | [], _, _, _, _, e => by simp at e
  | d :: ds, _, i, d', h, e => by
    obtain ⟨x, r, rfl, h1, h2⟩ := h
    cases i with
    | zero => simp at e; subst e; exact ⟨x, rfl, h1⟩
    | succ i => exact RDs.get (i := i) h2 (by simpa using e)
theorem RDs.append : ∀ {ds es : List D} {vs ws : List V}, RDs K N H ι ds vs → RDs K N H ι es ws → RDs K N H ι (ds ++ es) (vs ++ ws)
  | [], _, _, _, h, g => by cases (show _ = _ from h); exact g
  | d :: ds, _, _, _, h, g => by
    obtain ⟨x, r, rfl, h1, h2⟩ := h
    exact ⟨x, _, rfl, h1, RDs.append h2 g⟩
theorem RDs.set : ∀ {ds : List D} {vs : List V} {d : D} {v : V} (i : Nat), RD K N H ι d v → RDs K N H ι ds vs → RDs K N H ι (ds.set i d) (vs.set i v)
  | [], _, _, _, _, _, h => by cases (show _ = _ from h); rfl
  | e :: ds, _, d, v, i, r, h => by
    obtain ⟨x, t, rfl, h1, h2⟩ := h
    cases i with
    | zero => exact ⟨v, t, rfl, r, h2⟩
    | succ i => exact ⟨x, _, rfl, h1, RDs.set i r h2⟩
theorem RDs.take : ∀ {ds : List D} {vs : List V} (n : Nat), RDs K N H ι ds vs → RDs K N H ι (ds.take n) (vs.take n)
  | [], _, n, h => by cases (show _ = _ from h); cases n <;> rfl
  | e :: ds, _, n, h => by
    obtain ⟨x, t, rfl, h1, h2⟩ := h
    cases n with
    | zero => exact rfl
    | succ n => exact ⟨x, _, rfl, h1, RDs.take n h2⟩
theorem RDs.drop : ∀ {ds : List D} {vs : List V} (n : Nat), RDs K N H ι ds vs → RDs K N H ι (ds.drop n) (vs.drop n)
  | [], _, n, h => by cases (show _ = _ from h); cases n <;> rfl
  | e :: ds, _, n, h => by
    obtain ⟨x, t, rfl, h1, h2⟩ := h
    cases n with
    | zero => exact ⟨x, t, rfl, h1, h2⟩
    | succ n => exact RDs.drop n h2
theorem RDs.ints {ns : List Int} : ∀ {vs : List V}, RDs K N H ι (ns.map D.int) vs → vs = ns.map V.int := by
  induction ns with
  | nil => intro vs h; exact h
  | cons n ns ih =>
    intro vs h
    obtain ⟨x, r, rfl, h1, h2⟩ := h
    rw [ih h2]; cases (show _ = _ from h1); rfl
theorem RDs.of_ints : ∀ (ns : List Int), RDs K N H ι (ns.map D.int) (ns.map V.int)
  | [] => rfl
  | n :: ns => ⟨_, _, rfl, rfl, RDs.of_ints ns⟩
theorem RDs.bls {ns : List Bool} : ∀ {vs : List V}, RDs K N H ι (ns.map D.bl) vs → vs = ns.map V.bl := by
  induction ns with
  | nil => intro vs h; exact h
  | cons n ns ih =>
    intro vs h
    obtain ⟨x, r, rfl, h1, h2⟩ := h
    rw [ih h2]; cases (show _ = _ from h1); rfl
theorem tup_sq {a : Addr} {xs : List V} (h : (H a = some (.tup xs) ∧ some a ∉ ι) ∨ KT K a xs) : SqT K H a xs := by
  rcases h with h | h
  · exact SqT.of h.1
  · exact .inr h
end
def NdH (K : PySem.W.Frag) (H : Hp) (ι : Ix) (a : Addr) (xs : List V) : Kd → Prop
  | .ob c fs => ∃ dx, H a = some (.ins (He.ga K c) dx (fs.zip xs)) ∧ H dx = some (.own a) ∧ some dx ∉ ι ∧ fs.length = xs.length
theorem NdH.has {K : PySem.W.Frag} {H : Hp} {ι : Ix} {a : Addr} {xs : List V} {k : Kd} (h : NdH K H ι a xs k) : ∃ o, H a = some o := by
  cases k with
  | ob c fs => exact ⟨_, h.choose_spec.1⟩
theorem NdH.mono {K : PySem.W.Frag} {H H' : Hp} {ι ι' : Ix} {a : Addr} {xs : List V} {k : Kd} (kp : Kp ι H ι' H') (e : H' a = H a) (h : NdH K H ι a xs k) : NdH K H' ι' a xs k := by
  cases k with
  | ob c fs => obtain ⟨dx, q1, q2, q3, q4⟩ := h; exact ⟨dx, e.trans q1, (kp dx _ q2 q3).1, (kp dx _ q2 q3).2, q4⟩
def RC (K : PySem.W.Frag) (N : Bool → Addr → Prop) (H : Hp) (ι : Ix) : Cell → Addr → Prop
  | .gone, _ => False
  | .lst ds, a => ∃ xs, H a = some (.lst xs) ∧ ds.length ≤ sizeLine ∧ RDs K N H ι ds xs
  | .dk kvs, a => ∃ ws, H a = some (.dK ws) ∧ kvs.map (·.1) = ws.map (·.1) ∧ RDs K N H ι (kvs.map (·.2)) (ws.map (·.2))
  | .dn kvs, a => ∃ xs, H a = some (DnO a xs) ∧ (kvs.map (·.1)).map nkD = xs.map (fun x => some x.1) ∧ RDs K N H ι (kvs.map (·.1)) (xs.map fun x => V.ref x.2.1) ∧ RDs K N H ι (kvs.map (·.2)) (xs.map fun x => x.2.2)
  | .dw w kvs, a => ∃ xs, H a = some (DwO w a xs) ∧ (kvs.map (·.1)).map tkD = xs.map (fun x => some x.1) ∧ RDs K N H ι (kvs.map (·.1)) (xs.map fun x => V.ref x.2.1) ∧ RDs K N H ι (kvs.map (·.2)) (xs.map fun x => x.2.2)
  | .nd k its, a => ∃ xs, NdH K H ι a xs k ∧ its.length ≤ sizeLine ∧ RIs K N H ι its xs
structure RM (K : PySem.W.Frag) (N : Bool → Addr → Prop) (H : Hp) (ι : Ix) (M : Mem) : Prop where
  len : M.length = ι.length
  nod : ∀ (n m : Nat) (a : Addr), ι[n]? = some (some a) → ι[m]? = some (some a) → n = m
  cell : ∀ (n : Nat) (c : Cell) (a : Addr), M[n]? = some c → ι[n]? = some (some a) → RC K N H ι c a
  gone : ∀ (n : Nat), ι[n]? = some none → M[n]? = some .gone
  wf : ∀ (n : Nat) (c : Cell), M[n]? = some c → c.wf n
theorem RC.has {K : PySem.W.Frag} {N : Bool → Addr → Prop} {H : Hp} {ι : Ix} {c : Cell} {a : Addr} (h : RC K N H ι c a) : ∃ o, H a = some o := by
  cases c with
  | gone => exact h.elim
  | lst ds => exact ⟨_, h.choose_spec.1⟩
  | dk kvs => exact ⟨_, h.choose_spec.1⟩
  | dn kvs => exact ⟨_, h.choose_spec.1⟩
  | dw w kvs => exact ⟨_, h.choose_spec.1⟩
  | nd k its => exact h.choose_spec.1.has
theorem RM.fresh {K : PySem.W.Frag} {N : Bool → Addr → Prop} {H : Hp} {ι : Ix} {M : Mem} (r : RM K N H ι M) {p : Addr} (h : H p = none) : some p ∉ ι := fun hp => by
  obtain ⟨n, hn, e⟩ := List.getElem_of_mem hp
  have hM : n < M.length := by rw [r.len]; exact hn
  obtain ⟨o, q⟩ := (r.cell n M[n] p (List.getElem?_eq_getElem hM) (by rw [List.getElem?_eq_getElem hn, e])).has
  rw [h] at q; cases q
/-- a name that is not gone -/
theorem RM.at {K : PySem.W.Frag} {N : Bool → Addr → Prop} {H : Hp} {ι : Ix} {M : Mem} (r : RM K N H ι M) {n : Nat} {c : Cell} {v : V} (h : RS K N H ι (.ref n) v) (e : M[n]? = some c) (hc : c ≠ .gone) : ∃ a, v = .ref a ∧ ι[n]? = some (some a) ∧ RC K N H ι c a := by
  obtain ⟨a, e1, q | q⟩ := h
  · exact ⟨a, e1, q, r.cell n c a e q⟩
  · rw [r.gone n q] at e; cases e; exact absurd rfl hc
theorem RC.mono {K : PySem.W.Frag} {N N' : Bool → Addr → Prop} {H H' : Hp} {ι ι' : Ix} {c : Cell} {a : Addr} (k : Kp ι H ι' H') (p : Ex ι ι') (hn : ∀ b a o, H a = some o → N b a → N' b a) (e : H' a = H a) (h : RC K N H ι c a) : RC K N' H' ι' c a := by
  cases c with
  | gone => exact h.elim
  | lst ds => obtain ⟨xs, q, l, r⟩ := h; exact ⟨xs, e.trans q, l, r.mono k hn⟩
  | dk kvs => obtain ⟨ws, q, z, r⟩ := h; exact ⟨ws, e.trans q, z, r.mono k hn⟩
  | dn kvs => obtain ⟨xs, q, z, r1, r2⟩ := h; exact ⟨xs, e.trans q, z, r1.mono k hn, r2.mono k hn⟩
  | dw w kvs => obtain ⟨xs, q, z, r1, r2⟩ := h; exact ⟨xs, e.trans q, z, r1.mono k hn, r2.mono k hn⟩
  | nd kd its => obtain ⟨xs, q, z, r⟩ := h; exact ⟨xs, q.mono k e, z, r.mono k p hn⟩
/-- names below k stay -/
theorem RIs.taken {K : PySem.W.Frag} {N N' : Bool → Addr → Prop} {H : Hp} {ι : Ix} {k : Nat} (kk : Kp ι H (ι.take k) H) (hn : ∀ b a o, H a = some o → N b a → N' b a) : ∀ {its : List (D ⊕ Nat)} {xs : List V}, (∀ j, Sum.inr j ∈ its → j < k) → RIs K N H ι its xs → RIs K N' H (ι.take k) its xs
  | [], _, _, h => h
  | .inl d :: its, xs, hl, h => by
    obtain ⟨x, r, rfl, h1, h2⟩ := h
    exact ⟨x, r, rfl, RD.mono kk hn d x h1, RIs.taken kk hn (fun j hj => hl j (List.mem_cons_of_mem _ hj)) h2⟩
  | .inr n :: its, xs, hl, h => by
    obtain ⟨x, r, rfl, ⟨a, e, q⟩, h2⟩ := h
    exact ⟨x, r, rfl, ⟨a, e, by rw [List.getElem?_take, if_pos (hl n List.mem_cons_self)]; exact q⟩, RIs.taken kk hn (fun j hj => hl j (List.mem_cons_of_mem _ hj)) h2⟩
theorem RC.taken {K : PySem.W.Frag} {N N' : Bool → Addr → Prop} {H : Hp} {ι : Ix} {k n : Nat} {c : Cell} {a : Addr} (kk : Kp ι H (ι.take k) H) (hn : ∀ b a o, H a = some o → N b a → N' b a) (w : c.wf n) (hk : n < k) (h : RC K N H ι c a) : RC K N' H (ι.take k) c a := by
  cases c with
  | gone => exact h.elim
  | lst ds => obtain ⟨xs, q, l, r⟩ := h; exact ⟨xs, q, l, r.mono kk hn⟩
  | dk kvs => obtain ⟨ws, q, z, r⟩ := h; exact ⟨ws, q, z, r.mono kk hn⟩
  | dn kvs => obtain ⟨xs, q, z, r1, r2⟩ := h; exact ⟨xs, q, z, r1.mono kk hn, r2.mono kk hn⟩
  | dw w kvs => obtain ⟨xs, q, z, r1, r2⟩ := h; exact ⟨xs, q, z, r1.mono kk hn, r2.mono kk hn⟩
  | nd kd its => obtain ⟨xs, q, z, r⟩ := h; exact ⟨xs, q.mono kk rfl, z, RIs.taken kk hn (fun j hj => Nat.lt_trans (w j hj) hk) r⟩
/-- names below n stay, or go -/
def ExB (n : Nat) (ι ι' : Ix) : Prop := ∀ j, j < n → ∀ o, ι[j]? = some o → ι'[j]? = some o ∨ ι'[j]? = some none
theorem Ex.b {n : Nat} {ι ι' : Ix} (p : Ex ι ι') : ExB n ι ι' := fun j _ o e => p j o e
theorem RIs.monoB {K : PySem.W.Frag} {N N' : Bool → Addr → Prop} {H H' : Hp} {ι ι' : Ix} {n : Nat} (k : Kp ι H ι' H') (p : ExB n ι ι') (hn : ∀ b a o, H a = some o → N b a → N' b a) : ∀ {its : List (D ⊕ Nat)} {xs : List V}, (∀ j, Sum.inr j ∈ its → j < n) → RIs K N H ι its xs → RIs K N' H' ι' its xs
  | [], _, _, h => h
  | .inl d :: its, xs, hl, h => by
    obtain ⟨x, r, rfl, h1, h2⟩ := h
    exact ⟨x, r, rfl, RD.mono k hn d x h1, RIs.monoB k p hn (fun j hj => hl j (List.mem_cons_of_mem _ hj)) h2⟩
  | .inr m :: its, xs, hl, h => by
    obtain ⟨x, r, rfl, ⟨a, e, q⟩, h2⟩ := h
    have hm := hl m List.mem_cons_self
    refine ⟨x, r, rfl, ⟨a, e, ?_⟩, RIs.monoB k p hn (fun j hj => hl j (List.mem_cons_of_mem _ hj)) h2⟩
    rcases q with q | q
    · exact p m hm _ q
    · rcases p m hm _ q with z | z <;> exact .inr z
theorem RC.monoB {K : PySem.W.Frag} {N N' : Bool → Addr → Prop} {H H' : Hp} {ι ι' : Ix} {n : Nat} {c : Cell} {a : Addr} (k : Kp ι H ι' H') (p : ExB n ι ι') (hn : ∀ b a o, H a = some o → N b a → N' b a) (w : c.wf n) (e : H' a = H a) (h : RC K N H ι c a) : RC K N' H' ι' c a := by
  cases c with
  | gone => exact h.elim
  | lst ds => obtain ⟨xs, q, l, r⟩ := h; exact ⟨xs, e.trans q, l, r.mono k hn⟩
  | dk kvs => obtain ⟨ws, q, z, r⟩ := h; exact ⟨ws, e.trans q, z, r.mono k hn⟩
  | dn kvs => obtain ⟨xs, q, z, r1, r2⟩ := h; exact ⟨xs, e.trans q, z, r1.mono k hn, r2.mono k hn⟩
  | dw w kvs => obtain ⟨xs, q, z, r1, r2⟩ := h; exact ⟨xs, e.trans q, z, r1.mono k hn, r2.mono k hn⟩
  | nd kd its => obtain ⟨xs, q, z, r⟩ := h; exact ⟨xs, q.mono k e, z, RIs.monoB k p hn w r⟩
/-- the ground of a def: the heap at its entry, its changing arguments, what its callers may change -/
structure Gd where
  He : Hp
  i0 : List Addr
  B : Addr → Prop
  /-- what a comprehension is just making -/
  Hd : Addr → Prop
abbrev Gd.N (G : Gd) : Bool → Addr → Prop := fun b a => ¬ G.Hd a ∧ (b = true → ¬ G.B a)
/-- fields alike: what is a reference stays, an int may be another -/
def SameF : List (Str × V) → List (Str × V) → Prop := Paired fun p q => p.1 = q.1 ∧ (p.2 = q.2 ∨ ∃ i j, p.2 = .int i ∧ q.2 = .int j)
theorem SameF.refl : ∀ fs : List (Str × V), SameF fs fs
  | [] => .nil
  | p :: fs => .cons ⟨rfl, .inl rfl⟩ (SameF.refl fs)
theorem SameF.trans : ∀ {a b c : List (Str × V)}, SameF a b → SameF b c → SameF a c
  | _, _, _, .nil, .nil => .nil
  | _, _, _, .cons ⟨h1, h2⟩ h, .cons ⟨g1, g2⟩ g => .cons ⟨h1.trans g1, by
      rcases h2 with h2 | ⟨i, j, e1, e2⟩
      · rw [h2]; exact g2
      · rcases g2 with g2 | ⟨i', j', e3, e4⟩
        · exact .inr ⟨i, j, e1, g2 ▸ e2⟩
        · exact .inr ⟨i, j', e1, e4⟩⟩ (SameF.trans h g)
/-- the objects among these are still of their classes, with their fields -/
def ObK (l : List Addr) (H H' : Hp) : Prop := ∀ a ∈ l, (∀ C dx fs, H a = some (.ins C dx fs) → ∃ fs', H' a = some (.ins C dx fs') ∧ SameF fs fs') ∧ ∀ C dx fs', H' a = some (.ins C dx fs') → ∃ fs, H a = some (.ins C dx fs)
theorem ObK.refl (l : List Addr) (H : Hp) : ObK l H H := fun _ _ => ⟨fun _ _ fs e => ⟨fs, e, SameF.refl fs⟩, fun _ _ fs e => ⟨fs, e⟩⟩
theorem ObK.trans {l : List Addr} {H H1 H2 : Hp} (p : ObK l H H1) (q : ObK l H1 H2) : ObK l H H2 := fun a ha => ⟨fun C dx fs e => by
    obtain ⟨f1, e1, s1⟩ := (p a ha).1 C dx fs e
    obtain ⟨f2, e2, s2⟩ := (q a ha).1 C dx f1 e1
    exact ⟨f2, e2, s1.trans s2⟩, fun C dx fs e => by
    obtain ⟨f1, e1⟩ := (q a ha).2 C dx fs e
    exact (p a ha).2 C dx f1 e1⟩
/-- a turn that leaves an object an object -/
def ObT (H : Hp) (p : Addr) (o : HO) : Prop := (∀ C dx fs, H p = some (.ins C dx fs) → ∃ fs', o = .ins C dx fs' ∧ SameF fs fs') ∧ ∀ C dx fs', o = .ins C dx fs' → ∃ fs, H p = some (.ins C dx fs)
theorem ObT.of {H : Hp} {p : Addr} {o u : HO} (e : H p = some u) (h : ∀ C dx fs, u ≠ .ins C dx fs) (h2 : ∀ C dx fs, o ≠ .ins C dx fs) : ObT H p o := ⟨fun C dx fs q => by
  rw [e] at q; exact absurd (Option.some.inj q) (h C dx fs), fun C dx fs q => absurd q (h2 C dx fs)⟩
theorem ObK.turn {l : List Addr} {H0 H : Hp} {p : Addr} {o : HO} (k : ObK l H0 H) (t : ObT H p o) : ObK l H0 (upd H p o) := fun a ha => by
  by_cases hp : a = p
  · subst hp
    refine ⟨fun C dx fs e => ?_, fun C dx fs e => ?_⟩
    · obtain ⟨fs', e', s⟩ := (k a ha).1 C dx fs e
      obtain ⟨fs2, rfl, s2⟩ := t.1 C dx fs' e'
      exact ⟨fs2, upd_same, s.trans s2⟩
    · rw [upd_same] at e
      obtain ⟨fs', e'⟩ := t.2 C dx fs (Option.some.inj e)
      exact (k a ha).2 C dx fs' e'
  · rw [upd_ne hp]; exact k a ha
theorem ObK.laid {l : List Addr} {H0 H : Hp} {p : Addr} {o : HO} (k : ObK l H0 H) (t : H p = none) (hl : ∀ a ∈ l, ∃ u, H a = some u) : ObK l H0 (upd H p o) := fun a ha => by
  have hp : a ≠ p := fun e => by
    obtain ⟨u, q⟩ := hl a ha
    rw [e, t] at q; cases q
  rw [upd_ne hp]; exact k a ha
structure Sr (K : PySem.W.Frag) (G : Gd) (δ : DS) (M : Mem) (ι : Ix) (σ : L2.St) (H : Hp) : Prop where
  len : δ.length = σ.length
  slot : ∀ (i : Nat) (d : Sv), δ[i]? = some (some d) → ∃ v, σ[i]? = some (some v) ∧ RS K G.N H ι d v
  mem : RM K G.N H ι M
  pre : ∀ (n : Nat) (a : Addr), G.i0[n]? = some a → ι[n]? = some (some a)
  kp : Kp (G.i0.map some) G.He ι H
  new : ∀ a, some a ∈ ι → a ∉ G.i0 → G.He a = none
  bad : ∀ a, G.B a → ∃ o, G.He a = some o
  hid : ∀ a, G.Hd a → some a ∉ ι ∧ ∃ o, H a = some o
  obk : ObK G.i0 G.He H
theorem RM.there {K : PySem.W.Frag} {N : Bool → Addr → Prop} {H : Hp} {ι : Ix} {M : Mem} (r : RM K N H ι M) {a : Addr} (h : some a ∈ ι) : ∃ o, H a = some o := by
  obtain ⟨n, hn, e⟩ := List.getElem_of_mem h
  have hM : n < M.length := by rw [r.len]; exact hn
  exact (r.cell n M[n] a (List.getElem?_eq_getElem hM) (by rw [List.getElem?_eq_getElem hn, e])).has
theorem Sr.i0there {K : PySem.W.Frag} {G : Gd} {δ : DS} {M : Mem} {ι : Ix} {σ : L2.St} {H : Hp} (S : Sr K G δ M ι σ H) : ∀ a ∈ G.i0, ∃ u, H a = some u := fun a ha => by
  obtain ⟨n, hn⟩ := List.getElem?_of_mem ha
  exact S.mem.there (List.mem_of_getElem? (S.pre n a hn))
/-- H' is H with a new thing, or a turned changing object -/
theorem Kp.laid {ι : Ix} {H : Hp} {p : Addr} {o : HO} (h : H p = none) : Kp ι H ι (upd H p o) := fun a u e n => by
  refine ⟨?_, n⟩
  rw [upd_ne (ne_of_none e h)]; exact e
theorem Kp.named {ι : Ix} {H : Hp} {p : Addr} {o : HO} (h : H p = none) : Kp ι H (ι ++ [some p]) (upd H p o) := fun a u e n => by
  have hne := ne_of_none e h
  refine ⟨?_, ?_⟩
  · rw [upd_ne hne]; exact e
  · simp only [List.mem_append, List.mem_singleton, Option.some.injEq, not_or]; exact ⟨n, hne⟩
theorem Kp.turned {ι : Ix} {H : Hp} {p : Addr} {o : HO} (h : some p ∈ ι) : Kp ι H ι (upd H p o) := fun a u e n => by
  refine ⟨?_, n⟩
  rw [upd_ne (fun z => n (by rw [z]; exact h))]; exact e
theorem Kp.take {ι : Ix} {H : Hp} (k : Nat) : Kp ι H (ι.take k) H := fun a u e n => ⟨e, fun h => n (List.mem_of_mem_take h)⟩
section
variable {K : PySem.W.Frag} {G : Gd} {δ : DS} {M : Mem} {ι : Ix} {σ : L2.St} {H : Hp}
/-- a thing that is not tracked by name is laid -/
theorem Sr.laid {p : Addr} {o : HO} (S : Sr K G δ M ι σ H) (h : H p = none) : Sr K G δ M ι σ (upd H p o) := by
  have k := Kp.laid (ι := ι) (o := o) h
  refine ⟨S.len, fun i d e => ?_, ⟨S.mem.len, S.mem.nod, fun n c a e1 e2 => ?_, S.mem.gone, S.mem.wf⟩, S.pre, S.kp.trans k, S.new, S.bad, fun a ha => ⟨(S.hid a ha).1, ?_⟩, S.obk.laid h S.i0there⟩
  · obtain ⟨v, e1, r⟩ := S.slot i d e
    exact ⟨v, e1, r.mono k (Ex.refl _) (fun _ _ _ _ z => z)⟩
  · refine (S.mem.cell n c a e1 e2).mono k (Ex.refl _) (fun _ _ _ _ z => z) (upd_ne ?_)
    rintro rfl
    exact S.mem.fresh h (List.mem_of_getElem? e2)
  · obtain ⟨u, q⟩ := (S.hid a ha).2
    exact ⟨u, by rw [upd_ne (ne_of_none q h)]; exact q⟩
/-- a new changing object -/
theorem Sr.named {p : Addr} {o : HO} {c : Cell} (S : Sr K G δ M ι σ H) (h : H p = none) (hc : RC K G.N (upd H p o) (ι ++ [some p]) c p) (hw : c.wf M.length := by trivial) : Sr K G δ (M ++ [c]) (ι ++ [some p]) σ (upd H p o) := by
  have k := Kp.named (ι := ι) (o := o) h
  have hp := S.mem.fresh h
  have hpre : Ex ι (ι ++ [some p]) := Ex.app _ _
  refine ⟨S.len, fun i d e => ?_, ⟨by simp [S.mem.len], fun n m a e1 e2 => ?_, fun n c' a e1 e2 => ?_, fun n e => ?_, fun n c' e1 => ?_⟩, fun n a e => ?_, S.kp.trans k, fun a ha hn => ?_, ?_, fun a ha => ?_, S.obk.laid h S.i0there⟩
  · obtain ⟨v, e1, r⟩ := S.slot i d e
    exact ⟨v, e1, r.mono k hpre (fun _ _ _ _ z => z)⟩
  · by_cases hn : n < ι.length
    · rw [List.getElem?_append_left hn] at e1
      by_cases hm : m < ι.length
      · rw [List.getElem?_append_left hm] at e2
        exact S.mem.nod n m a e1 e2
      · rw [List.getElem?_append_right (by omega)] at e2
        have : a = p := by
          cases q : m - ι.length with
          | zero => rw [q] at e2; simpa using e2.symm
          | succ j => rw [q] at e2; simp at e2
        subst this
        exact absurd (List.mem_of_getElem? e1) hp
    · rw [List.getElem?_append_right (by omega)] at e1
      have h1 : n = ι.length ∧ a = p := by
        cases q : n - ι.length with
        | zero => rw [q] at e1; exact ⟨by omega, by simpa using e1.symm⟩
        | succ j => rw [q] at e1; simp at e1
      obtain ⟨h1, rfl⟩ := h1
      by_cases hm : m < ι.length
      · rw [List.getElem?_append_left hm] at e2
        exact absurd (List.mem_of_getElem? e2) hp
      · have h2 := (List.getElem?_eq_some_iff.mp e2).1
        simp at h2; omega
  · by_cases hn : n < M.length
    · rw [List.getElem?_append_left hn] at e1
      rw [List.getElem?_append_left (by rw [← S.mem.len]; exact hn)] at e2
      refine (S.mem.cell n c' a e1 e2).mono k hpre (fun _ _ _ _ z => z) (upd_ne ?_)
      rintro rfl
      exact hp (List.mem_of_getElem? e2)
    · have h1 : n = M.length := by
        have := (List.getElem?_eq_some_iff.mp e1).1
        simp at this; omega
      subst h1
      rw [List.getElem?_append_right (Nat.le_refl _)] at e1
      rw [List.getElem?_append_right (by rw [S.mem.len]; exact Nat.le_refl _)] at e2
      simp [S.mem.len] at e1 e2
      subst e1 e2
      exact hc
  · by_cases hn : n < ι.length
    · rw [List.getElem?_append_left hn] at e
      rw [List.getElem?_append_left (by rw [S.mem.len]; exact hn)]
      exact S.mem.gone n e
    · rw [List.getElem?_append_right (by omega)] at e
      cases q : n - ι.length with
      | zero => rw [q] at e; simp at e
      | succ j => rw [q] at e; simp at e
  · by_cases hn : n < M.length
    · rw [List.getElem?_append_left hn] at e1
      exact S.mem.wf n c' e1
    · have h1 : n = M.length := by
        have := (List.getElem?_eq_some_iff.mp e1).1
        simp at this; omega
      subst h1
      rw [List.getElem?_append_right (Nat.le_refl _)] at e1
      simp at e1
      subst e1
      exact hw
  · have e1 := S.pre n a e
    rw [List.getElem?_append_left (List.getElem?_eq_some_iff.mp e1).1]; exact e1
  · rcases List.mem_append.mp ha with z | z
    · exact S.new a z hn
    · simp only [List.mem_singleton, Option.some.injEq] at z; subst z
      cases q : G.He a with
      | none => rfl
      | some u => rw [(S.kp a u q (by simpa using hn)).1] at h; cases h
  · exact S.bad
  · obtain ⟨n1, u, q⟩ := S.hid a ha
    have hne := ne_of_none q h
    refine ⟨?_, u, by rw [upd_ne hne]; exact q⟩
    simp only [List.mem_append, List.mem_singleton, Option.some.injEq, not_or]; exact ⟨n1, hne⟩
/-- a changing object turns -/
theorem Sr.turned {n : Nat} {p : Addr} {o : HO} {c : Cell} (S : Sr K G δ M ι σ H) (hp : ι[n]? = some (some p)) (hc : RC K G.N (upd H p o) ι c p) (hw : c.wf n := by trivial) (ho : ObT H p o := by refine ObT.of (by assumption) ?_ ?_ <;> (intro C dx fs z; cases z)) : Sr K G δ (M.set n c) ι σ (upd H p o) := by
  have k := Kp.turned (H := H) (o := o) (List.mem_of_getElem? hp)
  refine ⟨S.len, fun i d e => ?_, ⟨by simp [S.mem.len], S.mem.nod, fun m c' a e1 e2 => ?_, fun m e => ?_, fun m c' e1 => ?_⟩, S.pre, S.kp.trans k, S.new, S.bad, fun a ha => ⟨(S.hid a ha).1, ?_⟩, S.obk.turn ho⟩
  · obtain ⟨v, e1, r⟩ := S.slot i d e
    exact ⟨v, e1, r.mono k (Ex.refl _) (fun _ _ _ _ z => z)⟩
  · by_cases hm : n = m
    · subst hm
      have hlt : n < M.length := by
        have := (List.getElem?_eq_some_iff.mp e1).1
        simpa using this
      rw [List.getElem?_set_self hlt] at e1
      cases e1
      rw [hp] at e2; cases e2
      exact hc
    · rw [List.getElem?_set_ne hm] at e1
      refine (S.mem.cell m c' a e1 e2).mono k (Ex.refl _) (fun _ _ _ _ z => z) (upd_ne ?_)
      rintro rfl
      exact hm (S.mem.nod _ _ _ hp e2)
  · by_cases hm : n = m
    · subst hm; rw [hp] at e; cases e
    · rw [List.getElem?_set_ne hm]; exact S.mem.gone m e
  · by_cases hm : n = m
    · subst hm
      have hlt : n < M.length := by
        have := (List.getElem?_eq_some_iff.mp e1).1
        simpa using this
      rw [List.getElem?_set_self hlt] at e1
      cases e1
      exact hw
    · rw [List.getElem?_set_ne hm] at e1
      exact S.mem.wf m c' e1
  · obtain ⟨n1, u, q⟩ := S.hid a ha
    refine ⟨u, ?_⟩
    rw [upd_ne (fun z => n1 (by rw [z]; exact List.mem_of_getElem? hp))]; exact q
theorem Sr.set {i : Nat} {d : Sv} {v : V} (S : Sr K G δ M ι σ H) (r : RS K G.N H ι d v) : Sr K G (δ.set i (some d)) M ι (σ.set i (some v)) H := by
  refine ⟨by simp [S.len], fun j d' e => ?_, S.mem, S.pre, S.kp, S.new, S.bad, S.hid, S.obk⟩
  by_cases hj : i = j
  · subst hj
    have hlt : i < δ.length := by
      have := (List.getElem?_eq_some_iff.mp e).1
      simpa using this
    rw [List.getElem?_set_self hlt] at e
    cases e
    exact ⟨v, by rw [List.getElem?_set_self (by rw [← S.len]; exact hlt)], r⟩
  · rw [List.getElem?_set_ne hj] at e
    obtain ⟨w, e1, r1⟩ := S.slot j d' e
    exact ⟨w, by rw [List.getElem?_set_ne hj]; exact e1, r1⟩
/-- names from k on are forgotten -/
def gcO (k : Nat) : Option Sv → Option Sv
  | some (.d x) => some (.d x)
  | some (.ref n) => if n < k then some (.ref n) else none
  | some (.bor ds) => some (.bor ds)
  | none => none
def gcS (k : Nat) (δ : DS) : DS := δ.map (gcO k)
theorem Sr.gc (S : Sr K G δ M ι σ H) (k : Nat) (hk : G.i0.length ≤ k) : Sr K G (gcS k δ) (M.take k) (ι.take k) σ H := by
  have kk := Kp.take (ι := ι) (H := H) k
  have tk : ∀ (n : Nat) (o : Option Addr), (ι.take k)[n]? = some o → ι[n]? = some o := fun n o e => by
    rw [List.getElem?_take] at e
    split at e
    · exact e
    · cases e
  refine ⟨by simp [gcS, S.len], fun i d e => ?_, ⟨by simp [S.mem.len], fun n m a e1 e2 => S.mem.nod n m a (tk _ _ e1) (tk _ _ e2), fun n c a e1 e2 => ?_, fun n e => ?_, fun n c e1 => ?_⟩, fun n a e => ?_, S.kp.trans kk, fun a ha hn => S.new a (List.mem_of_mem_take ha) hn, S.bad, fun a ha => ⟨fun z => (S.hid a ha).1 (List.mem_of_mem_take z), (S.hid a ha).2⟩, S.obk⟩
  · unfold gcS at e
    rw [List.getElem?_map] at e
    cases q : δ[i]? with
    | none => rw [q] at e; cases e
    | some o =>
      rw [q] at e
      cases o with
      | none => cases e
      | some w =>
        obtain ⟨v, e1, r⟩ := S.slot i w q
        cases w with
        | d x => cases e; exact ⟨v, e1, RD.mono kk (fun _ _ _ _ z => z) x v r⟩
        | bor ds =>
          cases e
          obtain ⟨a, xs, e2, q1, q2, q4, l, q3⟩ := r
          exact ⟨v, e1, a, xs, e2, q1, (kk a _ q1 q2).2, q4, l, q3.mono kk fun _ _ _ _ z => z⟩
        | ref n =>
          simp only [Option.map_some, gcO] at e
          split at e
          · rename_i hn
            cases e
            obtain ⟨a, e2, z⟩ := r
            refine ⟨v, e1, a, e2, ?_⟩
            rw [List.getElem?_take, if_pos hn]; exact z
          · cases e
  · rw [List.getElem?_take] at e1
    split at e1
    · rename_i hnk
      exact (S.mem.cell n c a e1 (tk _ _ e2)).taken kk (fun _ _ _ _ z => z) (S.mem.wf n c e1) hnk
    · cases e1
  · have h1 := (List.getElem?_eq_some_iff.mp e).1
    rw [List.getElem?_take, if_pos (by simp at h1; omega)]
    exact S.mem.gone n (tk _ _ e)
  · rw [List.getElem?_take] at e1
    split at e1
    · exact S.mem.wf n c e1
    · cases e1
  · have h1 := (List.getElem?_eq_some_iff.mp e).1
    rw [List.getElem?_take, if_pos (by omega)]
    exact S.pre n a e
end
abbrev QD := Sv → Mem → Prop
abbrev TE' := DS → Mem → QD → Prop
structure Ends' where
  nx : DS → Mem → Prop
  rt : Sv → Mem → Prop
  bk : DS → Mem → Prop := fun _ _ => False
  ct : DS → Mem → Prop := fun _ _ => False
abbrev TS' := Ends' → DS → Mem → Prop
def lE (K : PySem.W.Frag) (G : Gd) (t : TE') : TE := fun σ H Q => ∃ δ M ι Q0, Sr K G δ M ι σ H ∧ t δ M Q0 ∧
  ∀ d M' ι' H' v, Q0 d M' → Ex ι ι' → Kp ι H ι' H' → Sr K G δ M' ι' σ H' → RS K G.N H' ι' d v → Q v H'
structure EndsR (K : PySem.W.Frag) (G : Gd) (ι : Ix) (H : Hp) (E0 : Ends') (E : Ends) : Prop where
  nx : ∀ δ' M' ι' σ' H', E0.nx δ' M' → Ex ι ι' → Kp ι H ι' H' → Sr K G δ' M' ι' σ' H' → E.nx σ' H'
  rt : ∀ d δ' M' ι' σ' H' v, E0.rt d M' → Sr K G δ' M' ι' σ' H' → RS K G.N H' ι' d v → E.rt v H'
  bk : ∀ δ' M' ι' σ' H', E0.bk δ' M' → Ex ι ι' → Kp ι H ι' H' → Sr K G δ' M' ι' σ' H' → E.bk σ' H'
  ct : ∀ δ' M' ι' σ' H', E0.ct δ' M' → Ex ι ι' → Kp ι H ι' H' → Sr K G δ' M' ι' σ' H' → E.ct σ' H'
theorem EndsR.to {K : PySem.W.Frag} {G : Gd} {ι ι1 : Ix} {H H1 : Hp} {E0 : Ends'} {E : Ends} (z : EndsR K G ι H E0 E) (p : Ex ι ι1) (k : Kp ι H ι1 H1) : EndsR K G ι1 H1 E0 E :=
  ⟨fun δ' M' ι' σ' H' q p' k' S => z.nx δ' M' ι' σ' H' q (p.trans p') (k.trans k') S, z.rt, fun δ' M' ι' σ' H' q p' k' S => z.bk δ' M' ι' σ' H' q (p.trans p') (k.trans k') S,
    fun δ' M' ι' σ' H' q p' k' S => z.ct δ' M' ι' σ' H' q (p.trans p') (k.trans k') S⟩
def lS (K : PySem.W.Frag) (G : Gd) (t : TS') : TS := fun E σ H => ∃ δ M ι E0, Sr K G δ M ι σ H ∧ t E0 δ M ∧ EndsR K G ι H E0 E
abbrev VE (X : Cx) (G : Gd) (e : Expr) (t : TE') : Prop := PE X e (lE X.K G t)
abbrev VS (X : Cx) (G : Gd) (s : Stmt) (t : TS') : Prop := PS X s (lS X.K G t)
abbrev VSs (X : Cx) (G : Gd) (s : List Stmt) (t : TS') : Prop := PSs X s (lS X.K G t)
theorem PE.weak {X : Cx} {e : Expr} {t t' : TE} (h : PE X e t) (w : ∀ σ H Q, t' σ H Q → t σ H Q) : PE X e t' := ⟨fun pins s σ H Q I q => h.run pins s σ H Q I (w _ _ _ q)⟩
theorem PS.weak {X : Cx} {e : Stmt} {t t' : TS} (h : PS X e t) (w : ∀ D σ H, t' D σ H → t D σ H) : PS X e t' := ⟨fun pins s σ H Q I q => h.run pins s σ H Q I (w _ _ _ q)⟩
theorem PSs.weak {X : Cx} {e : List Stmt} {t t' : TS} (h : PSs X e t) (w : ∀ D σ H, t' D σ H → t D σ H) : PSs X e t' := ⟨fun pins s σ H Q I q => h.run pins s σ H Q I (w _ _ _ q)⟩
end VL
set_option Elab.async false
set_option linter.all false
set_option maxRecDepth 100000
set_option maxHeartbeats 4000000
namespace VL
open PySem PySem.Spec L2
abbrev PV := DS → Mem → Option Sv
abbrev TA' := DS → Mem → (List Sv → Mem → Prop) → Prop
def ok {α : Type} (o : Option α) (k : α → Prop) : Prop := match o with | some d => k d | none => False
theorem ok_some {α : Type} {d : α} {k : α → Prop} : ok (some d) k = k d := rfl
theorem ok_none {α : Type} {k : α → Prop} : ok none k = False := rfl
theorem ok_of {α : Type} {o : Option α} {d : α} {k : α → Prop} (e : o = some d) (h : k d) : ok o k := by subst e; exact h
theorem ok_elim {α : Type} {o : Option α} {k : α → Prop} (h : ok o k) : ∃ d, o = some d ∧ k d := by
  cases o with
  | none => exact h.elim
  | some d => exact ⟨d, rfl, h⟩
theorem ok_bind {α β : Type} {o : Option α} {f : α → Option β} {k : β → Prop} : ok (o.bind f) k = ok o fun d => ok (f d) k := by
  cases o <;> rfl
theorem ok_map {α β : Type} {o : Option α} {f : α → β} {k : β → Prop} : ok (o.map f) k = ok o fun d => k (f d) := by
  cases o <;> rfl
def eP (p : PV) : TE' := fun δ M Q => ok (p δ M) fun d => Q d M
def pArgs : List PV → DS → Mem → Option (List Sv)
  | [], _, _ => some []
  | p :: ps, δ, M => (p δ M).bind fun d => (pArgs ps δ M).map fun ds => d :: ds
def aP (ps : List PV) : TA' := fun δ M Q => ok (pArgs ps δ M) fun ds => Q ds M
def aNil : TA' := fun _ M Q => Q [] M
def aCons (t : TE') (r : TA') : TA' := fun δ M Q => t δ M fun d M1 => r δ M1 fun ds M2 => Q (d :: ds) M2
def lA (K : PySem.W.Frag) (G : Gd) (n : Nat) (t : TA') : TA := fun σ H Q => ∃ δ M ι Q0, Sr K G δ M ι σ H ∧ t δ M Q0 ∧
  ∀ ds M' ι' H' vs, ds.length = n → Q0 ds M' → Ex ι ι' → Kp ι H ι' H' → Sr K G δ M' ι' σ H' → RSs K G.N H' ι' ds vs → Q vs H'
abbrev VA (X : Cx) (G : Gd) (es : List Expr) (n : Nat) (t : TA') : Prop := PA X es (lA X.K G n t)
section
variable {X : Cx} {G : Gd} {e a b : Expr} {es : List Expr} {pos : Pos} {ta tb t : TE'} {p q : PV}
theorem VE.weak {t' : TE'} (h : VE X G e t) (w : ∀ δ M Q, t' δ M Q → t δ M Q) : VE X G e t' :=
  PE.weak h fun _ _ _ ⟨δ, M, ι, Q0, S, q, z⟩ => ⟨δ, M, ι, Q0, S, w _ _ _ q, z⟩
theorem VA.weak {n : Nat} {t t' : TA'} (h : VA X G es n t) (w : ∀ δ M Q, t' δ M Q → t δ M Q) : VA X G es n t' :=
  ⟨fun pos pins s σ H Q I ⟨δ, M, ι, Q0, S, q, z⟩ => h.run pos pins s σ H Q I ⟨δ, M, ι, Q0, S, w _ _ _ q, z⟩⟩
def pV (i : Nat) : PV := fun δ _ => (δ[i]?).join
theorem ve_var {i : Nat} {x : Str} (hN : X.N[i]? = some x) (hv : Vis X.env.scope x) (hd : (x == ("__debug__" : Str)) = false := by decide) (hcd : (x == ("__classdict__" : Str)) = false := by decide) : VE X G (.Name x pos) (eP (pV i)) := by
  refine PE.weak (pe_var hN hv hd hcd) fun σ H Q ⟨δ, M, ι, Q0, S, h, z⟩ => ?_
  obtain ⟨d, e1, h⟩ := ok_elim h
  have e2 : δ[i]? = some (some d) := by
    unfold pV at e1
    cases q : δ[i]? with
    | none => rw [q] at e1; cases e1
    | some o =>
      rw [q] at e1
      cases o with
      | none => cases e1
      | some u => cases e1; rfl
  obtain ⟨v, e3, r⟩ := S.slot i d e2
  exact ⟨v, e3, z d M ι H v h (Ex.refl _) (Kp.refl _ _) S r⟩
theorem ve_v (i : Nat) {x : Str} (hN : X.N[i]? = some x := by rfl) (hv : Vis X.env.scope x := by first | exact Or.inl rfl | exact Or.inr (Or.inl rfl) | exact Or.inr (Or.inr rfl)) (hd : (x == ("__debug__" : Str)) = false := by decide)
    (hcd : (x == ("__classdict__" : Str)) = false := by decide) : VE X G (.Name x pos) (eP (pV i)) := ve_var hN hv hd hcd
def pC (d : D) : PV := fun _ _ => some (.d d)
theorem ve_const {v : V} {d : D} (h : PE X e (tC v)) (r : ∀ K N H ι, RD K N H ι d v) : VE X G e (eP (pC d)) :=
  PE.weak h fun σ H Q ⟨δ, M, ι, Q0, S, h, z⟩ => z _ M ι H v h (Ex.refl _) (Kp.refl _ _) S (r _ _ _ _)
theorem ve_int {i j} : VE X G (.Constant (.int i) j pos) (eP (pC (.int i))) := ve_const pe_int fun _ _ _ _ => rfl
theorem ve_bl {i j} : VE X G (.Constant (.bool i) j pos) (eP (pC (.bl i))) := ve_const pe_bl fun _ _ _ _ => rfl
theorem ve_non {j} : VE X G (.Constant .none j pos) (eP (pC .non)) := ve_const pe_non fun _ _ _ _ => rfl
theorem ve_str {i j} : VE X G (.Constant (.str i) j pos) (eP (pC (.str i))) := ve_const pe_str fun _ _ _ _ => rfl
/-- a rule by values, read over data -/
def Rd2 (K : PySem.W.Frag) (r : R2) (f : Mem → Sv → Sv → Option Sv) : Prop := ∀ (G : Gd) (δ : DS) (M : Mem) (ι : Ix) (σ : L2.St) (H : Hp) (x y : Sv) (v u : V) (d : Sv), Sr K G δ M ι σ H → RS K G.N H ι x v → RS K G.N H ι y u → f M x y = some d →
  ∀ Q : VK, (∀ ι' H' w, Ex ι ι' → Kp ι H ι' H' → Sr K G δ M ι' σ H' → RS K G.N H' ι' d w → Q w H') → r v u H Q
def Rd1 (K : PySem.W.Frag) (r : V → Hp → VK → Prop) (f : Mem → Sv → Option Sv) : Prop := ∀ (G : Gd) (δ : DS) (M : Mem) (ι : Ix) (σ : L2.St) (H : Hp) (x : Sv) (v : V) (d : Sv), Sr K G δ M ι σ H → RS K G.N H ι x v → f M x = some d →
  ∀ Q : VK, (∀ ι' H' w, Ex ι ι' → Kp ι H ι' H' → Sr K G δ M ι' σ H' → RS K G.N H' ι' d w → Q w H') → r v H Q
def RdN (K : PySem.W.Frag) (r : List V → Hp → VK → Prop) (f : Mem → List Sv → Option Sv) : Prop := ∀ (G : Gd) (δ : DS) (M : Mem) (ι : Ix) (σ : L2.St) (H : Hp) (xs : List Sv) (vs : List V) (d : Sv), Sr K G δ M ι σ H → RSs K G.N H ι xs vs → f M xs = some d →
  ∀ Q : VK, (∀ ι' H' w, Ex ι ι' → Kp ι H ι' H' → Sr K G δ M ι' σ H' → RS K G.N H' ι' d w → Q w H') → r vs H Q
def eo1 (f : Mem → Sv → Option Sv) (ta : TE') : TE' := fun δ M Q => ta δ M fun x M1 => ok (f M1 x) fun d => Q d M1
def eo2 (f : Mem → Sv → Sv → Option Sv) (ta tb : TE') : TE' := fun δ M Q => ta δ M fun x M1 => tb δ M1 fun y M2 => ok (f M2 x y) fun d => Q d M2
def po1 (f : Mem → Sv → Option Sv) (a : PV) : PV := fun δ M => (a δ M).bind (f M)
def po2 (f : Mem → Sv → Sv → Option Sv) (a b : PV) : PV := fun δ M => (a δ M).bind fun x => (b δ M).bind fun y => f M x y
def eoN (f : Mem → List Sv → Option Sv) (t : TA') : TE' := fun δ M Q => t δ M fun xs M1 => ok (f M1 xs) fun d => Q d M1
def poN (f : Mem → List Sv → Option Sv) (ps : List PV) : PV := fun δ M => (pArgs ps δ M).bind (f M)
theorem VE.pure1 {f : Mem → Sv → Option Sv} (h : VE X G e (eo1 f (eP p))) : VE X G e (eP (po1 f p)) := h.weak fun δ M Q h => by
  unfold eP po1 at h; rw [ok_bind] at h; exact h
theorem VE.pure2 {f : Mem → Sv → Sv → Option Sv} (h : VE X G e (eo2 f (eP p) (eP q))) : VE X G e (eP (po2 f p q)) := h.weak fun δ M Q h => by
  unfold eP po2 at h
  rw [ok_bind] at h
  obtain ⟨d, e1, h⟩ := ok_elim h
  rw [ok_bind] at h
  exact ok_of e1 h
theorem VE.pureN {f : Mem → List Sv → Option Sv} {ps : List PV} (h : VE X G e (eoN f (aP ps))) : VE X G e (eP (poN f ps)) := h.weak fun δ M Q h => by
  unfold eP poN at h; rw [ok_bind] at h; exact h
/-- one value, then more -/
theorem th1 {K : PySem.W.Frag} {σ : L2.St} {H : Hp} {δ : DS} {M : Mem} {ι : Ix} {Q0 : QD} {R : VK} (S : Sr K G δ M ι σ H) (h : ta δ M Q0)
    (k : ∀ d M' ι' H' v, Q0 d M' → Ex ι ι' → Kp ι H ι' H' → Sr K G δ M' ι' σ H' → RS K G.N H' ι' d v → R v H') : lE K G ta σ H R := ⟨δ, M, ι, Q0, S, h, k⟩
theorem thA {K : PySem.W.Frag} {n : Nat} {tA : TA'} {σ : L2.St} {H : Hp} {δ : DS} {M : Mem} {ι : Ix} {Q0 : List Sv → Mem → Prop} {R : List V → Hp → Prop} (S : Sr K G δ M ι σ H) (h : tA δ M Q0)
    (k : ∀ d M' ι' H' v, d.length = n → Q0 d M' → Ex ι ι' → Kp ι H ι' H' → Sr K G δ M' ι' σ H' → RSs K G.N H' ι' d v → R v H') : lA K G n tA σ H R := ⟨δ, M, ι, Q0, S, h, k⟩
theorem fin2 {K : PySem.W.Frag} {r : R2} {f : Mem → Sv → Sv → Option Sv} (hf : Rd2 K r f) {σ : L2.St} {H : Hp} {Q : VK} (h : lE K G (eo2 f ta tb) σ H Q) : tOp r (lE K G ta) (lE K G tb) σ H Q := by
  obtain ⟨δ, M, ι, Q0, S, h, z⟩ := h
  refine th1 S h fun x M1 ι1 H1 v h1 p1 k1 S1 r1 => ?_
  refine th1 S1 h1 fun y M2 ι2 H2 u h2 p2 k2 S2 r2 => ?_
  obtain ⟨d, e, h2⟩ := ok_elim h2
  exact hf G δ M2 ι2 σ H2 x y v u d S2 (r1.mono k2 p2 (fun _ _ _ _ q => q)) r2 e Q fun ι3 H3 w p3 k3 S3 r3 => z d M2 ι3 H3 w h2 ((p1.trans p2).trans p3) ((k1.trans k2).trans k3) S3 r3
theorem fin1 {K : PySem.W.Frag} {r : V → Hp → VK → Prop} {f : Mem → Sv → Option Sv} (hf : Rd1 K r f) {σ : L2.St} {H : Hp} {Q : VK} (h : lE K G (eo1 f ta) σ H Q) : lE K G ta σ H fun v H1 => r v H1 Q := by
  obtain ⟨δ, M, ι, Q0, S, h, z⟩ := h
  refine th1 S h fun x M1 ι1 H1 v h1 p1 k1 S1 r1 => ?_
  obtain ⟨d, e, h1⟩ := ok_elim h1
  exact hf G δ M1 ι1 σ H1 x v d S1 r1 e Q fun ι3 H3 w p3 k3 S3 r3 => z d M1 ι3 H3 w h1 (p1.trans p3) (k1.trans k3) S3 r3
theorem finN {K : PySem.W.Frag} {n : Nat} {tA : TA'} {r : List V → Hp → VK → Prop} {f : Mem → List Sv → Option Sv} (hf : RdN K r f) {σ : L2.St} {H : Hp} {Q : VK} (h : lE K G (eoN f tA) σ H Q)   : lA K G n tA σ H fun v H1 => r v H1 Q := by
  obtain ⟨δ, M, ι, Q0, S, h, z⟩ := h
  refine thA S h fun x M1 ι1 H1 v hn h1 p1 k1 S1 r1 => ?_
  obtain ⟨d, e, h1⟩ := ok_elim h1
  exact hf G δ M1 ι1 σ H1 x v d S1 r1 e Q fun ι3 H3 w p3 k3 S3 r3 => z d M1 ι3 H3 w h1 (p1.trans p3) (k1.trans k3) S3 r3
theorem ve_bin {op : Operator} {r : R2} {f : Mem → Sv → Sv → Option Sv} (ho : OpR X (binaryOp op) r) (hf : Rd2 X.K r f) (ha : VE X G a ta) (hb : VE X G b tb) : VE X G (.BinOp a op b pos) (eo2 f ta tb) :=
  PE.weak (pe_op ho ha hb) fun σ H Q h => fin2 hf h
theorem ve_cmp {op : CmpOp} {r : R2} {f : Mem → Sv → Sv → Option Sv} (ho : OpR X (compareOp op) r) (hf : Rd2 X.K r f) (ha : VE X G a ta) (hb : VE X G b tb) (hm : behindInMarks op b = false) : VE X G (.Compare a [op] [b] pos) (eo2 f ta tb) :=
  PE.weak (pe_cmpR ho ha hb hm) fun σ H Q h => fin2 hf h
theorem ve_un {op : UnaryOp} {r : V → Hp → VK → Prop} {f : Mem → Sv → Option Sv} (ho : UnR X (unaryOp op) r) (hf : Rd1 X.K r f) (ha : VE X G a ta) : VE X G (.UnaryOp op a pos) (eo1 f ta) :=
  PE.weak (pe_un ho ha) fun σ H Q h => fin1 hf h
theorem ve_ix {r : R2} {f : Mem → Sv → Sv → Option Sv} (hr : IxR X r) (hf : Rd2 X.K r f) (ha : VE X G a ta) (hb : VE X G b tb) (hs : PlainIx b) : VE X G (.Subscript a b pos) (eo2 f ta tb) :=
  PE.weak (pe_ix hr ha hb hs) fun σ H Q h => fin2 hf h
theorem va_nil : VA X G [] 0 aNil := ⟨fun pos pins s σ H Q I ⟨δ, M, ι, Q0, S, h, z⟩ => pa_nil.run pos pins s σ H Q I (z [] M ι H [] rfl h (Ex.refl _) (Kp.refl _ _) S rfl)⟩
theorem va_cons {n : Nat} {tA : TA'} (ha : VE X G e ta) (hr : VA X G es n tA) (hs : starEach (e :: es) X.env = (false, eval e X.env) :: starEach es X.env := by rfl) : VA X G (e :: es) (n + 1) (aCons ta tA) := by
  refine ⟨fun pos pins s σ H Q I ⟨δ, M, ι, Q0, S, h, z⟩ => (pa_cons ha hr hs).run pos pins s σ H Q I ?_⟩
  refine th1 S h fun x M1 ι1 H1 v h1 p1 k1 S1 r1 => ?_
  refine thA S1 h1 fun y M2 ι2 H2 u hn h2 p2 k2 S2 r2 => ?_
  exact z _ M2 ι2 H2 _ (by rw [List.length_cons, hn]) h2 (p1.trans p2) (k1.trans k2) S2 ⟨v, u, rfl, r1.mono k2 p2 (fun _ _ _ _ q => q), r2⟩
theorem va_p0 : VA X G [] 0 (aP []) := va_nil.weak fun δ M Q h => h
theorem va_p {n : Nat} {ps : List PV} (ha : VE X G e (eP p)) (hr : VA X G es n (aP ps)) (hs : starEach (e :: es) X.env = (false, eval e X.env) :: starEach es X.env := by rfl) : VA X G (e :: es) (n + 1) (aP (p :: ps)) :=
  (va_cons ha hr hs).weak fun δ M Q h => by
    have h : ok (pArgs (p :: ps) δ M) fun ds => Q ds M := h
    unfold pArgs at h
    rw [ok_bind] at h
    obtain ⟨d, e1, h⟩ := ok_elim h
    rw [ok_map] at h
    exact ok_of e1 h
theorem ve_callB {x : Str} {id : String} {p : Pos} {n : Nat} {tA : TA'} {r : List V → Hp → VK → Prop} {f : Mem → List Sv → Option Sv} (hc : CallR X (.builtin id) r) (hf : RdN X.K r f) (hg : Gl X x) (hm : X.mg x = none) (hv : bootBuiltins x = some (.builtin id)) (ha : VA X G (e :: es) n tA) (hn : x ≠ "__name__" := by decide) (hdb : (x == ("__debug__" : Str)) = false := by decide)
    (he : starEach (e :: es) X.env = (false, eval e X.env) :: starEach es X.env := by rfl) (hpl : (backTo pos (starEach es X.env)).any (·.1) = false := by rfl) : VE X G (.Call (.Name x p) (e :: es) [] pos) (eoN f tA) :=
  PE.weak (pe_callB hc hg hm hv ha hn hdb he hpl) fun σ H Q h => finN hf h
theorem ve_callTy {x : Str} {T : String} {p : Pos} {n : Nat} {tA : TA'} {r : List V → Hp → VK → Prop} {f : Mem → List Sv → Option Sv} (hc : CallR X (.type T) r) (hf : RdN X.K r f) (hg : Gl X x) (hm : X.mg x = none) (hv : bootBuiltins x = some (.type T)) (ha : VA X G (e :: es) n tA) (hn : x ≠ "__name__" := by decide) (hdb : (x == ("__debug__" : Str)) = false := by decide)
    (he : starEach (e :: es) X.env = (false, eval e X.env) :: starEach es X.env := by rfl) (hpl : (backTo pos (starEach es X.env)).any (·.1) = false := by rfl) : VE X G (.Call (.Name x p) (e :: es) [] pos) (eoN f tA) :=
  PE.weak (pe_callTy hc hg hm hv ha hn hdb he hpl) fun σ H Q h => finN hf h
end
end VL
set_option Elab.async false
set_option linter.all false
set_option maxRecDepth 100000
set_option maxHeartbeats 4000000
namespace VL
open PySem PySem.Spec L2
def cellL : Option Cell → Option (List D)
  | some (.lst ds) => some ds
  | _ => none
theorem cellL_some {c : Option Cell} {ds : List D} (h : cellL c = some ds) : c = some (.lst ds) := by
  unfold cellL at h
  split at h
  · cases h; rfl
  · cases h
def seqD (M : Mem) : Sv → Option (List D)
  | .d (.lst ds) => some ds
  | .bor ds => some ds
  | .d (.tup ds) => some ds
  | .d (.scr ns) => some (ns.map D.int)
  | .ref n => cellL M[n]?
  | _ => none
section
variable {K : PySem.W.Frag} {G : Gd} {δ : DS} {M : Mem} {ι : Ix} {σ : L2.St} {H : Hp}
/-- a sequence's value and items -/
theorem seq_of {d : Sv} {v : V} {ds : List D} (S : Sr K G δ M ι σ H) (h : RS K G.N H ι d v) (e : seqD M d = some ds) : ∃ a xs, v = .ref a ∧ (SqL K H a xs ∨ SqT K H a xs) ∧ RDs K G.N H ι ds xs := by
  cases d with
  | ref n =>
    obtain ⟨a, e1, hn, xs, q, _, r⟩ := S.mem.at h (cellL_some (show cellL M[n]? = some ds from e)) (fun z => nomatch z)
    exact ⟨a, xs, e1, .inl (SqL.of q), r⟩
  | bor es =>
    cases e
    obtain ⟨a, xs, e1, q, n, _, _, r⟩ := h
    exact ⟨a, xs, e1, .inl (SqL.of q), r⟩
  | d d =>
    cases d with
    | lst es =>
      cases e
      obtain ⟨a, xs, e1, q, n, z, _, r⟩ := h
      exact ⟨a, xs, e1, .inl (SqL.of q), r⟩
    | tup es =>
      cases e
      obtain ⟨a, xs, e1, q, _, r⟩ := h
      exact ⟨a, xs, e1, .inr (tup_sq q), r⟩
    | scr ns =>
      cases e
      obtain ⟨a, e1, ⟨o, q, n⟩ | q, _⟩ := h
      · exact ⟨a, _, e1, .inl (.inl (.inr ⟨o, q⟩)), RDs.of_ints ns⟩
      · exact ⟨a, _, e1, .inl (.inr q), RDs.of_ints ns⟩
    | _ => cases e
theorem RDs.atI {ds : List D} {vs : List V} {i : Int} {d : D} (h : RDs K G.N H ι ds vs) (e : atI ds i = some d) : ∃ v, atI vs i = some v ∧ RD K G.N H ι d v := by
  unfold L2.atI at e ⊢
  rw [← h.length]
  cases q : ixN ds.length i with
  | none => rw [q] at e; cases e
  | some j => rw [q] at e; exact h.get e
theorem fin_same {d : Sv} {w : V} {Q : VK} (S : Sr K G δ M ι σ H) (z : ∀ ι' H' w, Ex ι ι' → Kp ι H ι' H' → Sr K G δ M ι' σ H' → RS K G.N H' ι' d w → Q w H') (r : RS K G.N H ι d w) : Q w H :=
  z ι H w (Ex.refl _) (Kp.refl _ _) S r
theorem RDs.laid {ds : List D} {xs : List V} {p : Addr} {o : HO} (r : RDs K G.N H ι ds xs) (hp : H p = none) : RDs K G.N (upd H p o) ι ds xs := r.mono (Kp.laid hp) fun _ _ _ _ q => q
theorem fin_tup {ds : List D} {xs : List V} {p : Addr} {Q : VK} (S : Sr K G δ M ι σ H) (z : ∀ ι' H' w, Ex ι ι' → Kp ι H ι' H' → Sr K G δ M ι' σ H' → RS K G.N H' ι' (.d (.tup ds)) w → Q w H') (r : RDs K G.N H ι ds xs) (hl : ds.length ≤ sizeLine) (hp : H p = none) : Q (.ref p) (upd H p (.tup xs)) :=
  z ι _ _ (Ex.refl _) (Kp.laid hp) (S.laid hp) ⟨p, xs, rfl, .inl ⟨upd_same, S.mem.fresh hp⟩, hl, r.laid hp⟩
theorem Sr.newN {p : Addr} {b : Bool} (S : Sr K G δ M ι σ H) (hp : H p = none) : G.N b p := by
  refine ⟨fun hh => ?_, fun _ hb => ?_⟩
  · obtain ⟨_, u, q⟩ := S.hid p hh
    rw [hp] at q; cases q
  · obtain ⟨u, q⟩ := S.bad p hb
    by_cases hi : p ∈ G.i0
    · obtain ⟨n, hn⟩ := List.getElem?_of_mem hi
      exact absurd (List.mem_of_getElem? (S.pre n p hn)) (S.mem.fresh hp)
    · rw [(S.kp p u q (by simpa using hi)).1] at hp; cases hp
theorem fin_lst {ds : List D} {xs : List V} {p : Addr} {Q : VK} (S : Sr K G δ M ι σ H) (z : ∀ ι' H' w, Ex ι ι' → Kp ι H ι' H' → Sr K G δ M ι' σ H' → RS K G.N H' ι' (.d (.lst ds)) w → Q w H') (r : RDs K G.N H ι ds xs) (hl : ds.length ≤ sizeLine) (hp : H p = none) : Q (.ref p) (upd H p (.lst xs)) :=
  z ι _ _ (Ex.refl _) (Kp.laid hp) (S.laid hp) ⟨p, xs, rfl, upd_same, S.mem.fresh hp, S.newN hp, hl, r.laid hp⟩
end
instance {i j : Int} : Decidable (CPow i j) := by unfold CPow; infer_instance
def gd {α : Type} (c : Prop) [Decidable c] (d : α) : Option α := if c then some d else none
theorem gd_pos {α : Type} {c : Prop} [Decidable c] {d : α} (h : c) : gd c d = some d := if_pos h
theorem gd_some {α : Type} {c : Prop} [Decidable c] {d e : α} (h : gd c d = some e) : c ∧ d = e := by
  unfold gd at h
  split at h
  · cases h; exact ⟨by assumption, rfl⟩
  · cases h
def addD (_ : Mem) : Sv → Sv → Option Sv
  | .d (.int i), .d (.int j) => some (.d (.int (i + j)))
  | .d (.str i), .d (.str j) => gd (i.length + j.length ≤ sizeLine) (.d (.str (i ++ j)))
  | .d (.tup a), .d (.tup b) => gd (a.length + b.length ≤ sizeLine) (.d (.tup (a ++ b)))
  | _, _ => none
def subD (_ : Mem) : Sv → Sv → Option Sv
  | .d (.int i), .d (.int j) => some (.d (.int (i - j)))
  | _, _ => none
abbrev MulOk (i j : Int) : Prop := (-(2 ^ 64) < i ∧ i < 2 ^ 64) ∨ (-(2 ^ 64) < j ∧ j < 2 ^ 64) ∨ i.natAbs.log2 + j.natAbs.log2 < 1000000
def mulD (_ : Mem) : Sv → Sv → Option Sv
  | .d (.int i), .d (.int j) => gd (MulOk i j) (.d (.int (i * j)))
  | _, _ => none
def fdivD (_ : Mem) : Sv → Sv → Option Sv
  | .d (.int i), .d (.int j) => gd (0 < j ∧ j.natAbs.log2 < 9000) (.d (.int (i / j)))
  | _, _ => none
def modD (_ : Mem) : Sv → Sv → Option Sv
  | .d (.int i), .d (.int j) => gd (0 < j) (.d (.int (i % j)))
  | _, _ => none
def powD (_ : Mem) : Sv → Sv → Option Sv
  | .d (.int i), .d (.int j) => gd (CPow i j) (.d (.int (i ^ j.toNat)))
  | _, _ => none
def negD (_ : Mem) : Sv → Option Sv
  | .d (.int i) => some (.d (.int (-i)))
  | _ => none
section
variable {K : PySem.W.Frag} {X : Cx} {G : Gd} {e a b : Expr} {pos : Pos} {ta tb : TE'}
theorem rd_add : Rd2 K (fun x y H Q => (fun x y H Q => rI0 (fun i j => .int (i + j)) x y H Q ∨ (fun x y H Q => ∃ i j, x = .str i ∧ y = .str j ∧ i.length + j.length ≤ sizeLine ∧ Q (.str (i ++ j)) H) x y H Q) x y H Q ∨ rCatA K x y H Q) addD := by
  intro G δ M ι σ H x y v u d S rx ry e Q z
  unfold addD at e
  split at e
  · cases e; cases (show _ = _ from rx); cases (show _ = _ from ry)
    exact .inl (.inl ⟨_, _, rfl, rfl, fin_same S z rfl⟩)
  · obtain ⟨hc, rfl⟩ := gd_some e
    cases (show _ = _ from rx); cases (show _ = _ from ry)
    exact .inl (.inr ⟨_, _, rfl, rfl, hc, fin_same S z rfl⟩)
  · obtain ⟨hc, rfl⟩ := gd_some e
    obtain ⟨p, xs, rfl, qa, la, ra⟩ := id rx
    obtain ⟨p', ys, rfl, qb, lb, rb⟩ := id ry
    refine .inr ⟨p, p', xs, ys, rfl, rfl, tup_sq qa, tup_sq qb, by rw [← ra.length, ← rb.length]; exact hc, fun h => ?_, fun _ h => ?_, fun _ _ q hq => ?_⟩
    · subst h
      have hl := ra.length
      have : _ = [] := List.length_eq_zero_iff.mp (by simpa using hl)
      subst this
      exact fin_same S z ⟨p', ys, rfl, qb, by simpa using lb, by simpa using rb⟩
    · subst h
      have hl := rb.length
      have : _ = [] := List.length_eq_zero_iff.mp (by simpa using hl)
      subst this
      exact fin_same S z ⟨p, xs, rfl, qa, by simpa using la, by simpa using ra⟩
    · exact fin_tup S z (ra.append rb) (by rw [List.length_append]; exact hc) hq
  · cases e
theorem ve_add (ha : VE X G a ta) (hb : VE X G b tb) : VE X G (.BinOp a .Add b pos) (eo2 addD ta tb) := ve_bin ((op_add.or op_add_str).or op_catA) rd_add ha hb
theorem rd_int {C : Int → Int → Prop} {g : Int → Int → Int} {f : Mem → Sv → Sv → Option Sv} (hf : ∀ M x y d, f M x y = some d → ∃ i j, x = .d (.int i) ∧ y = .d (.int j) ∧ C i j ∧ d = .d (.int (g i j))) : Rd2 K (rI C fun i j => .int (g i j)) f := by
  intro G δ M ι σ H x y v u d S rx ry e Q z
  obtain ⟨i, j, rfl, rfl, hc, rfl⟩ := hf _ _ _ _ e
  cases (show _ = _ from rx); cases (show _ = _ from ry)
  exact ⟨_, _, rfl, rfl, hc, fin_same S z rfl⟩
theorem ve_sub (ha : VE X G a ta) (hb : VE X G b tb) : VE X G (.BinOp a .Sub b pos) (eo2 subD ta tb) := by
  refine ve_bin op_sub ?_ ha hb
  intro G δ M ι σ H x y v u d S rx ry e Q z
  unfold subD at e
  split at e
  · cases e; cases (show _ = _ from rx); cases (show _ = _ from ry)
    exact ⟨_, _, rfl, rfl, fin_same S z rfl⟩
  · cases e
theorem ve_mul (ha : VE X G a ta) (hb : VE X G b tb) : VE X G (.BinOp a .Mult b pos) (eo2 mulD ta tb) := by
  refine ve_bin (op_mul.or op_mulW) ?_ ha hb
  intro G δ M ι σ H x y v u d S rx ry e Q z
  unfold mulD at e
  split at e
  · obtain ⟨hc, rfl⟩ := gd_some e
    cases (show _ = _ from rx); cases (show _ = _ from ry)
    rcases hc with hc | hc | hc
    · exact .inl ⟨_, _, rfl, rfl, .inl hc, fin_same S z rfl⟩
    · exact .inl ⟨_, _, rfl, rfl, .inr hc, fin_same S z rfl⟩
    · exact .inr ⟨_, _, rfl, rfl, hc, fin_same S z rfl⟩
  · cases e
theorem ve_fdiv (ha : VE X G a ta) (hb : VE X G b tb) : VE X G (.BinOp a .FloorDiv b pos) (eo2 fdivD ta tb) := by
  refine ve_bin op_fdivW (rd_int fun M x y d e => ?_) ha hb
  unfold fdivD at e
  split at e
  · obtain ⟨hc, rfl⟩ := gd_some e; exact ⟨_, _, rfl, rfl, hc, rfl⟩
  · cases e
theorem ve_mod (ha : VE X G a ta) (hb : VE X G b tb) : VE X G (.BinOp a .Mod b pos) (eo2 modD ta tb) := by
  refine ve_bin op_mod (rd_int fun M x y d e => ?_) ha hb
  unfold modD at e
  split at e
  · obtain ⟨hc, rfl⟩ := gd_some e; exact ⟨_, _, rfl, rfl, hc, rfl⟩
  · cases e
theorem ve_pow (ha : VE X G a ta) (hb : VE X G b tb) : VE X G (.BinOp a .Pow b pos) (eo2 powD ta tb) := by
  refine ve_bin op_pow (rd_int fun M x y d e => ?_) ha hb
  unfold powD at e
  split at e
  · obtain ⟨hc, rfl⟩ := gd_some e; exact ⟨_, _, rfl, rfl, hc, rfl⟩
  · cases e
theorem ve_neg (ha : VE X G a ta) : VE X G (.UnaryOp .USub a pos) (eo1 negD ta) := by
  refine ve_un un_neg ?_ ha
  intro G δ M ι σ H x v d S rx e Q z
  unfold negD at e
  split at e
  · cases e; cases (show _ = _ from rx)
    exact ⟨_, rfl, fin_same S z rfl⟩
  · cases e
def ixD (M : Mem) (x y : Sv) : Option Sv := match y with
  | .d (.int i) => (match x with
    | .d (.str s) => (gd (s.length ≤ sizeLine) ()).bind fun _ => (atI s.cps.toList i).map fun c => .d (.str ⟨#[c]⟩)
    | x => (seqD M x).bind fun ds => (atI ds i).map .d)
  | _ => none
theorem rd_ix : Rd2 K (rIx K) ixD := by
  intro G δ M ι σ H x y v u d S rx ry e Q z
  unfold ixD at e
  split at e
  · cases (show _ = _ from ry)
    split at e
    · rename_i s
      cases (show _ = _ from rx)
      cases hq : gd (s.length ≤ sizeLine) () with
      | none => rw [hq] at e; cases e
      | some _ =>
        rw [hq] at e
        obtain ⟨hc, _⟩ := gd_some hq
        cases ha : atI s.cps.toList _ with
        | none => rw [ha] at e; cases e
        | some c =>
          rw [ha] at e; cases e
          exact .inr (.inr ⟨_, _, c, rfl, rfl, hc, ha, fin_same S z rfl⟩)
    · cases hs : seqD M x with
      | none => rw [hs] at e; cases e
      | some ds =>
        rw [hs] at e
        obtain ⟨a, xs, rfl, q, r⟩ := seq_of S rx hs
        obtain ⟨d', ha, rfl⟩ := Option.map_eq_some_iff.mp (show (atI ds _).map Sv.d = some d from e)
        · obtain ⟨w, e3, r3⟩ := r.atI ha
          rcases q with q | q
          · exact .inl ⟨a, xs, _, w, rfl, rfl, q, e3, fin_same (d := .d d') S z r3⟩
          · exact .inr (.inl ⟨a, xs, _, w, rfl, rfl, q, e3, fin_same (d := .d d') S z r3⟩)
  · cases e
theorem ve_idx (ha : VE X G a ta) (hb : VE X G b tb) (hs : PlainIx b := by first | exact fun _ _ => rfl) : VE X G (.Subscript a b pos) (eo2 ixD ta tb) := ve_ix ix_seq rd_ix ha hb hs
end
end VL
set_option Elab.async false
set_option linter.all false
set_option maxRecDepth 100000
set_option maxHeartbeats 4000000
namespace VL
open PySem PySem.Spec L2
mutual
def py : D → PyData
  | .non => .none
  | .bl b => .bool b
  | .int i => .int i
  | .str s => .str s
  | .tup ds => .tuple (pys ds)
  | .lst ds => .list (pys ds)
  | .scr _ => .none
  | .fn _ => .none
  | .dn _ _ => .none
  | .dk _ _ => .none
  | .cls _ => .none
  | .exc _ _ => .none
  | .ty _ => .none
def pys : List D → List PyData
  | [] => []
  | d :: ds => py d :: pys ds
end
mutual
/-- data alone -/
def noR : D → Bool
  | .tup ds => noRs ds
  | .lst ds => noRs ds
  | .scr _ => false
  | .fn _ => false
  | .dn _ _ => false
  | .dk _ _ => false
  | .cls _ => false
  | .exc _ _ => false
  | .ty _ => false
  | .non => true
  | .bl _ => true
  | .int _ => true
  | .str _ => true
def noRs : List D → Bool
  | [] => true
  | d :: ds => noR d && noRs ds
end
mutual
def eqvD : D → D → Bool
  | .non, .non => true
  | .bl a, .bl b => a == b
  | .bl a, .int j => (if a then 1 else 0) == j
  | .int i, .bl b => i == (if b then 1 else 0)
  | .int i, .int j => i == j
  | .str a, .str b => a == b
  | .tup a, .tup b => eqvDs a b
  | .lst a, .lst b => eqvDs a b
  | _, _ => false
def eqvDs : List D → List D → Bool
  | [], [] => true
  | a :: as, b :: bs => eqvD a b && eqvDs as bs
  | _, _ => false
end
mutual
theorem eqv_py : ∀ (x y : D), noR x = true → noR y = true → PyData.eqv (py x) (py y) = eqvD x y
  | .non, y, _, hy => by cases y <;> simp_all [py, eqvD, PyData.eqv, noR]
  | .bl _, y, _, hy => by cases y <;> simp_all [py, eqvD, PyData.eqv, noR]
  | .int _, y, _, hy => by cases y <;> simp_all [py, eqvD, PyData.eqv, noR]
  | .str _, y, _, hy => by cases y <;> simp_all [py, eqvD, PyData.eqv, noR]
  | .scr _, _, hx, _ => by simp [noR] at hx
  | .fn _, _, hx, _ => by simp [noR] at hx
  | .dn _ _, _, hx, _ => by simp [noR] at hx
  | .dk _ _, _, hx, _ => by simp [noR] at hx
  | .cls _, _, hx, _ => by simp [noR] at hx
  | .exc _ _, _, hx, _ => by simp [noR] at hx
  | .ty _, _, hx, _ => by simp [noR] at hx
  | .tup a, y, hx, hy => by
    cases y with
    | tup b =>
      simp only [py, eqvD, PyData.eqv]
      exact eqvs_py a b (by simpa [noR] using hx) (by simpa [noR] using hy)
    | _ => first | (simp [noR] at hy; done) | simp [py, eqvD, PyData.eqv]
  | .lst a, y, hx, hy => by
    cases y with
    | lst b =>
      simp only [py, eqvD, PyData.eqv]
      exact eqvs_py a b (by simpa [noR] using hx) (by simpa [noR] using hy)
    | _ => first | (simp [noR] at hy; done) | simp [py, eqvD, PyData.eqv]
theorem eqvs_py : ∀ (x y : List D), noRs x = true → noRs y = true → PyData.eqvAll (pys x) (pys y) = eqvDs x y
  | [], [], _, _ => by simp [pys, eqvDs, PyData.eqvAll]
  | [], _ :: _, _, _ => by simp [pys, eqvDs, PyData.eqvAll]
  | _ :: _, [], _, _ => by simp [pys, eqvDs, PyData.eqvAll]
  | a :: as, b :: bs, hx, hy => by
    simp only [noRs, Bool.and_eq_true] at hx hy
    simp only [pys, eqvDs, PyData.eqvAll, eqv_py a b hx.1 hy.1, eqvs_py as bs hx.2 hy.2]
end
/-- the top resolved -/
def rsv (M : Mem) : Sv → D
  | .ref n => match cellL M[n]? with
    | some ds => .lst ds
    | none => .ty ""
  | .bor ds => .lst ds
  | .d d => d
/-- data that == may look at -/
def okE (d : D) : Bool := noR d && SeqAt.shaped (py d)
def atomD : D → Bool
  | .non => true | .bl _ => true | .int _ => true | .str _ => true | _ => false
def eqD (M : Mem) : Sv → Sv → Option Sv
  | .d (.int i), .d (.int j) => some (.d (.bl (decide (i = j))))
  | .d (.str i), .d (.str j) => some (.d (.bl (decide (i = j))))
  | .d (.bl i), .d (.bl j) => some (.d (.bl (decide (i = j))))
  | .d .non, .d .non => some (.d (.bl true))
  | .d (.int _), .d (.str _) => some (.d (.bl false))
  | .d (.str _), .d (.int _) => some (.d (.bl false))
  | x, y => gd (okE (rsv M x) = true ∧ okE (rsv M y) = true) (.d (.bl (eqvD (rsv M x) (rsv M y))))
def notD : Sv → Sv
  | .d (.bl b) => .d (.bl (!b))
  | d => d
def neD (M : Mem) (x y : Sv) : Option Sv := (eqD M x y).map notD
section
variable {K : PySem.W.Frag} {G : Gd} {δ : DS} {M : Mem} {ι : Ix} {σ : L2.St} {H : Hp} {N : Bool → Addr → Prop}
mutual
theorem RD.dp : ∀ (d : D) (v : V), RD K N H ι d v → noR d = true → Dp K H v (py d)
  | .non, _, h, _ => by cases (show _ = _ from h); exact .non
  | .bl _, _, h, _ => by cases (show _ = _ from h); exact .bl _
  | .int _, _, h, _ => by cases (show _ = _ from h); exact .int _
  | .str _, _, h, _ => by cases (show _ = _ from h); exact .str _
  | .scr _, _, _, h => by simp [noR] at h
  | .fn _, _, _, h => by simp [noR] at h
  | .dn _ _, _, _, h => by simp [noR] at h
  | .dk _ _, _, _, h => by simp [noR] at h
  | .cls _, _, _, h => by simp [noR] at h
  | .exc _ _, _, _, h => by simp [noR] at h
  | .ty _, _, _, h => by simp [noR] at h
  | .tup ds, _, h, n => by
    obtain ⟨a, xs, rfl, q, _, r⟩ := h
    simp only [py]
    exact .tup (tup_sq q) (RDs.dp ds xs r (by simpa [noR] using n))
  | .lst ds, _, h, n => by
    obtain ⟨a, xs, rfl, q, _, _, _, r⟩ := h
    simp only [py]
    exact .lst (SqL.of q) (RDs.dp ds xs r (by simpa [noR] using n))
theorem RDs.dp : ∀ (ds : List D) (vs : List V), RDs K N H ι ds vs → noRs ds = true → DpAll K H vs (pys ds)
  | [], _, h, _ => by cases (show _ = _ from h); simp only [pys]; exact .nil
  | d :: ds, _, h, n => by
    obtain ⟨x, r, rfl, h1, h2⟩ := h
    simp only [noRs, Bool.and_eq_true] at n
    simp only [pys]
    exact .cons (RD.dp d x h1 n.1) (RDs.dp ds r h2 n.2)
end
theorem rsv_dp {d : Sv} {v : V} (S : Sr K G δ M ι σ H) (h : RS K G.N H ι d v) (n : noR (rsv M d) = true) : Dp K H v (py (rsv M d)) := by
  cases d with
  | ref k =>
    unfold rsv at n ⊢
    cases q : cellL M[k]? with
    | none => simp only [q] at n; simp [noR] at n
    | some ds =>
      simp only [q] at n ⊢
      obtain ⟨a, rfl, hn, xs, hH, _, r⟩ := S.mem.at h (cellL_some q) (fun z => nomatch z)
      simp only [py]
      exact .lst (SqL.of hH) (RDs.dp ds xs r (by simpa [noR] using n))
  | bor ds =>
    obtain ⟨a, xs, rfl, q, _, _, _, r⟩ := h
    simp only [rsv, py]
    exact .lst (SqL.of q) (RDs.dp ds xs r (by simpa [rsv, noR] using n))
  | d d => exact RD.dp _ v h n
theorem okE_and {d : D} (h : okE d = true) : noR d = true ∧ SeqAt.shaped (py d) = true := by
  unfold okE at h; simpa using h
def rEqX (K : PySem.W.Frag) : R2 := fun x y H Q => (rEq x y H Q) ∨ rEqD K x y H Q
theorem rd_eq : Rd2 K (rEqX K) eqD := by
  intro G δ M ι σ H x y v u d S rx ry e Q z
  unfold eqD at e
  split at e
  · cases e; cases (show _ = _ from rx); cases (show _ = _ from ry)
    refine .inl ⟨rfl, fin_same S z ?_⟩
    show _ = _; simp
  · cases e; cases (show _ = _ from rx); cases (show _ = _ from ry)
    refine .inl ⟨rfl, fin_same S z ?_⟩
    show _ = _; simp
  · cases e; cases (show _ = _ from rx); cases (show _ = _ from ry)
    refine .inl ⟨rfl, fin_same S z ?_⟩
    show _ = _; simp
  · cases e; cases (show _ = _ from rx); cases (show _ = _ from ry)
    exact .inl ⟨rfl, fin_same S z rfl⟩
  · cases e; cases (show _ = _ from rx); cases (show _ = _ from ry)
    exact .inl ⟨rfl, fin_same S z rfl⟩
  · cases e; cases (show _ = _ from rx); cases (show _ = _ from ry)
    exact .inl ⟨rfl, fin_same S z rfl⟩
  · obtain ⟨⟨hx, hy⟩, rfl⟩ := gd_some e
    obtain ⟨nx, sx⟩ := okE_and hx
    obtain ⟨ny, sy⟩ := okE_and hy
    exact .inr ⟨_, _, rsv_dp S rx nx, rsv_dp S ry ny, sx, sy, fin_same S z (by rw [eqv_py _ _ nx ny]; rfl)⟩
def rNeX (K : PySem.W.Frag) : R2 := fun x y H Q => (rNe x y H Q) ∨ rNeD K x y H Q
theorem eqD_bl {x y d : Sv} (h : eqD M x y = some d) : ∃ b, d = .d (.bl b) := by
  unfold eqD at h
  split at h
  all_goals first | (cases h; exact ⟨_, rfl⟩) | (obtain ⟨_, rfl⟩ := gd_some h; exact ⟨_, rfl⟩)
theorem rd_ne : Rd2 K (rNeX K) neD := by
  intro G δ M ι σ H x y v u d S rx ry e Q z
  unfold neD at e
  cases q : eqD M x y with
  | none => rw [q] at e; cases e
  | some d' =>
    rw [q] at e
    obtain ⟨b, rfl⟩ := eqD_bl q
    have hd : d = .d (.bl (!b)) := by simpa [notD] using e.symm
    subst hd
    unfold eqD at q
    split at q
    · cases q; cases (show _ = _ from rx); cases (show _ = _ from ry)
      refine .inl ⟨rfl, fin_same S z ?_⟩
      show _ = _; simp
    · cases q; cases (show _ = _ from rx); cases (show _ = _ from ry)
      refine .inl ⟨rfl, fin_same S z ?_⟩
      show _ = _; simp
    · cases q; cases (show _ = _ from rx); cases (show _ = _ from ry)
      refine .inl ⟨rfl, fin_same S z ?_⟩
      show _ = _; simp
    · cases q; cases (show _ = _ from rx); cases (show _ = _ from ry)
      exact .inl ⟨rfl, fin_same S z rfl⟩
    · cases q; cases (show _ = _ from rx); cases (show _ = _ from ry)
      exact .inl ⟨rfl, fin_same S z rfl⟩
    · cases q; cases (show _ = _ from rx); cases (show _ = _ from ry)
      exact .inl ⟨rfl, fin_same S z rfl⟩
    · obtain ⟨⟨hx, hy⟩, hq⟩ := gd_some q
      cases hq
      obtain ⟨nx, sx⟩ := okE_and hx
      obtain ⟨ny, sy⟩ := okE_and hy
      exact .inr ⟨_, _, rsv_dp S rx nx, rsv_dp S ry ny, sx, sy, fin_same S z (by rw [eqv_py _ _ nx ny]; rfl)⟩
end
end VL
set_option Elab.async false
set_option linter.all false
set_option maxRecDepth 100000
set_option maxHeartbeats 4000000
namespace VL
open PySem PySem.Spec L2
def ltD (_ : Mem) : Sv → Sv → Option Sv
  | .d (.int i), .d (.int j) => some (.d (.bl (decide (i < j))))
  | _, _ => none
def leD (_ : Mem) : Sv → Sv → Option Sv
  | .d (.int i), .d (.int j) => some (.d (.bl (decide (i ≤ j))))
  | _, _ => none
def gtD (_ : Mem) : Sv → Sv → Option Sv
  | .d (.int i), .d (.int j) => some (.d (.bl (decide (j < i))))
  | _, _ => none
def geD (_ : Mem) : Sv → Sv → Option Sv
  | .d (.int i), .d (.int j) => some (.d (.bl (decide (j ≤ i))))
  | _, _ => none
def isTupD : Sv → Bool
  | .d (.tup _) => true
  | _ => false
def inL (M : Mem) (x y : Sv) : Option Bool := match x with
  | .d x => (seqD M y).bind fun ds => gd ((atomD x = true ∧ ds.all atomD = true) ∨ (okE x = true ∧ isTupD y = false ∧ okE (.lst ds) = true)) (ds.any fun z => eqvD z x)
  | _ => none
def blS (b : Bool) : Sv := .d (.bl b)
def inD (M : Mem) (x y : Sv) : Option Sv := (inL M x y).map blS
def nonB : Sv → Bool
  | .d .non => true
  | _ => false
def isD (_ : Mem) : Sv → Sv → Option Sv
  | x, .d .non => some (.d (.bl (nonB x)))
  | .d (.bl a), .d (.bl b) => some (.d (.bl (decide (a = b))))
  | _, _ => none
def isntD (_ : Mem) : Sv → Sv → Option Sv
  | x, .d .non => some (.d (.bl (!nonB x)))
  | .d (.bl a), .d (.bl b) => some (.d (.bl (!decide (a = b))))
  | _, _ => none
section
variable {K : PySem.W.Frag} {X : Cx} {G : Gd} {e a b : Expr} {es : List Expr} {pos : Pos} {ta tb : TE'} {N : Bool → Addr → Prop} {H : Hp} {ι : Ix}
theorem rd_cmpI {g : Int → Int → Bool} {f : Mem → Sv → Sv → Option Sv} (hf : ∀ M x y d, f M x y = some d → ∃ i j, x = .d (.int i) ∧ y = .d (.int j) ∧ d = .d (.bl (g i j))) : Rd2 K (rI0 fun i j => .bl (g i j)) f := by
  intro G δ M ι σ H x y v u d S rx ry e Q z
  obtain ⟨i, j, rfl, rfl, rfl⟩ := hf _ _ _ _ e
  cases (show _ = _ from rx); cases (show _ = _ from ry)
  exact ⟨_, _, rfl, rfl, fin_same S z rfl⟩
theorem rd_lt : Rd2 K (rI0 fun i j => .bl (decide (i < j))) ltD := rd_cmpI fun M x y d e => by
  unfold ltD at e
  split at e
  · cases e; exact ⟨_, _, rfl, rfl, rfl⟩
  · cases e
theorem rd_le : Rd2 K (rI0 fun i j => .bl (decide (i ≤ j))) leD := rd_cmpI fun M x y d e => by
  unfold leD at e
  split at e
  · cases e; exact ⟨_, _, rfl, rfl, rfl⟩
  · cases e
theorem rd_gt : Rd2 K (rI0 fun i j => .bl (decide (j < i))) gtD := rd_cmpI fun M x y d e => by
  unfold gtD at e
  split at e
  · cases e; exact ⟨_, _, rfl, rfl, rfl⟩
  · cases e
theorem rd_ge : Rd2 K (rI0 fun i j => .bl (decide (j ≤ i))) geD := rd_cmpI fun M x y d e => by
  unfold geD at e
  split at e
  · cases e; exact ⟨_, _, rfl, rfl, rfl⟩
  · cases e
theorem atom_flat {d : D} {v : V} (h : RD K N H ι d v) (a : atomD d = true) : flatV v = true := by
  cases d with
  | non => cases (show _ = _ from h); rfl
  | bl b => cases (show _ = _ from h); rfl
  | int b => cases (show _ = _ from h); rfl
  | str b => cases (show _ = _ from h); rfl
  | _ => cases (show false = true from a)
theorem atom_eqV {d d' : D} {v v' : V} (h : RD K N H ι d v) (h' : RD K N H ι d' v') (a : atomD d = true) (a' : atomD d' = true) : eqV v v' = eqvD d d' := by
  cases d with
  | non => cases (show _ = _ from h); cases d' <;> first | (cases (show false = true from a')) | (cases (show _ = _ from h'); rfl)
  | bl b => cases (show _ = _ from h); cases d' <;> first | (cases (show false = true from a')) | (cases (show _ = _ from h'); rfl)
  | int b => cases (show _ = _ from h); cases d' <;> first | (cases (show false = true from a')) | (cases (show _ = _ from h'); rfl)
  | str b => cases (show _ = _ from h); cases d' <;> first | (cases (show false = true from a')) | (cases (show _ = _ from h'); rfl)
  | _ => cases (show false = true from a)
theorem atoms_in {x : D} {v : V} (hx : RD K N H ι x v) (ax : atomD x = true) : ∀ {ds : List D} {vs : List V}, RDs K N H ι ds vs → ds.all atomD = true → vs.all flatV = true ∧ inV v vs = ds.any fun z => eqvD z x
  | [], _, h, _ => by cases (show _ = _ from h); exact ⟨rfl, rfl⟩
  | d :: ds, _, h, a => by
    obtain ⟨y, r, rfl, h1, h2⟩ := h
    rw [List.all_cons, Bool.and_eq_true] at a
    obtain ⟨i1, i2⟩ := atoms_in hx ax h2 a.2
    refine ⟨by rw [List.all_cons, atom_flat h1 a.1, i1]; rfl, ?_⟩
    unfold inV at i2 ⊢
    rw [List.any_cons, List.any_cons, i2, atom_eqV h1 hx a.1 ax]
def rInX (K : PySem.W.Frag) (neg : Bool) : R2 := fun x y H Q => rIn K neg x y H Q ∨ (if neg then rNotInD K else rInD K) x y H Q
theorem any_py {x : D} (nx : noR x = true) : ∀ {ds : List D}, noRs ds = true → (pys ds).any (fun z => PyData.eqv z (py x)) = ds.any fun z => eqvD z x
  | [], _ => by simp [pys]
  | d :: ds, h => by
    simp only [noRs, Bool.and_eq_true] at h
    simp only [pys, List.any_cons, any_py nx h.2, eqv_py d x h.1 nx]
theorem inL_rd {neg : Bool} {δ : DS} {M : Mem} {σ : L2.St} {x y : Sv} {v u : V} {c : Bool} {Q : VK} (S : Sr K G δ M ι σ H) (rx : RS K G.N H ι x v) (ry : RS K G.N H ι y u) (e : inL M x y = some c) (q : Q (.bl (if neg then !c else c)) H) : rInX K neg v u H Q := by
  cases x with
  | ref n => cases e
  | bor n => cases e
  | d x =>
  simp only [inL] at e
  cases hs : seqD M y with
  | none => rw [hs] at e; cases e
  | some ds =>
    rw [hs] at e
    obtain ⟨hc, hb⟩ := gd_some (show gd _ _ = some c from e)
    obtain ⟨a, xs, rfl, hq, r⟩ := seq_of S ry hs
    rcases hc with ⟨ax, ads⟩ | ⟨ox, ty, ods⟩
    · obtain ⟨f1, f2⟩ := atoms_in (show RD K G.N H ι x v from rx) ax r ads
      refine .inl ⟨a, xs, rfl, hq, atom_flat (show RD K G.N H ι x v from rx) ax, f1, ?_⟩
      rw [f2, hb]; exact q
    · obtain ⟨nx, sx⟩ := okE_and ox
      obtain ⟨ny, sy⟩ := okE_and ods
      simp only [noR] at ny
      have hl : Dp K H (.ref a) (.list (pys ds)) := by
        cases y with
        | ref n =>
          obtain ⟨a', e1, hn, xs', hH, _, r'⟩ := S.mem.at ry (cellL_some (show cellL M[n]? = some ds from hs)) (fun z => nomatch z)
          cases e1
          exact .lst (SqL.of hH) (RDs.dp ds xs' r' ny)
        | bor es =>
          cases hs
          obtain ⟨a', xs', e1, hH, _, _, _, r'⟩ := ry
          cases e1
          exact .lst (SqL.of hH) (RDs.dp ds xs' r' ny)
        | d y =>
          cases y with
          | tup es => cases (show true = false from ty)
          | lst es => cases hs; exact RD.dp (.lst _) _ ry (by simpa [noR] using ny)
          | scr ns =>
            cases hs
            obtain ⟨a', e1, q', _⟩ := ry
            cases e1
            have hsq : SqL K H a (ns.map V.int) := by
              rcases q' with ⟨o, q', _⟩ | q'
              · exact .inl (.inr ⟨o, q'⟩)
              · exact .inr q'
            exact .lst hsq (RDs.dp (N := G.N) (ι := ι) _ _ (RDs.of_ints ns) ny)
          | _ => cases hs
      have hq' : Q (.bl (if neg then !((pys ds).any fun z => PyData.eqv z (py x)) else (pys ds).any fun z => PyData.eqv z (py x))) H := by
        rw [any_py nx ny, hb]; exact q
      refine .inr ?_
      cases neg with
      | false => exact ⟨_, _, RD.dp x v rx nx, hl, sx, by simpa [py] using sy, hq'⟩
      | true => exact ⟨_, _, RD.dp x v rx nx, hl, sx, by simpa [py] using sy, hq'⟩
theorem rd_in : Rd2 K (rInX K false) inD := by
  intro G δ M ι σ H x y v u d S rx ry e Q z
  unfold inD at e
  cases q : inL M x y with
  | none => rw [q] at e; cases e
  | some c => rw [q] at e; cases e; exact inL_rd S rx ry q (fin_same S z rfl)
theorem op_inX (hu : X.A.units + 65 < cLine) : OpR X (compareOp .In) (rInX X.K false) := op_in_seq.or (op_inD hu)
theorem op_eqX (hu : X.A.units + 64 < cLine) : OpR X (compareOp .Eq) (rEqX X.K) := op_eq.or (op_eqD hu)
theorem op_neX (hu : X.A.units + 64 < cLine) : OpR X (compareOp .NotEq) (rNeX X.K) := op_ne.or (op_neD hu)
theorem nonB_of {d : Sv} {v : V} (h : RS K N H ι d v) : decide (v = .non) = nonB d := by
  cases d with
  | ref n => obtain ⟨a, rfl, _⟩ := h; rfl
  | bor ds => obtain ⟨a, xs, rfl, _⟩ := h; rfl
  | d d =>
  cases d with
  | non => cases (show _ = _ from h); rfl
  | bl b => cases (show _ = _ from h); rfl
  | int b => cases (show _ = _ from h); rfl
  | str b => cases (show _ = _ from h); rfl
  | fn b => cases (show _ = _ from h); rfl
  | dn ks ds => obtain ⟨a, xs, o, rfl, _⟩ := h; rfl
  | dk ks ds => obtain ⟨a, xs, o, rfl, _⟩ := h; rfl
  | cls n => cases (show _ = _ from h); rfl
  | exc n f => obtain ⟨a, oe, vs, rfl, _⟩ := h; rfl
  | ty b => cases (show _ = _ from h); rfl
  | tup ds => obtain ⟨a, xs, rfl, _⟩ := h; rfl
  | lst ds => obtain ⟨a, xs, rfl, _⟩ := h; rfl
  | scr ds => obtain ⟨a, rfl, _⟩ := h; rfl
def rIsX : R2 := fun x y H Q => (y = .non ∧ Q (.bl (decide (x = .non))) H) ∨ rIsB x y H Q
theorem op_isX : OpR X (compareOp .Is) rIsX := op_isN.or op_isBl
theorem rd_is : Rd2 K rIsX isD := by
  intro G δ M ι σ H x y v u d S rx ry e Q z
  unfold isD at e
  split at e
  · cases e; cases (show _ = _ from ry)
    refine .inl ⟨rfl, ?_⟩
    rw [nonB_of rx]; exact fin_same S z rfl
  · cases e; cases (show _ = _ from rx); cases (show _ = _ from ry)
    exact .inr ⟨_, _, rfl, rfl, fin_same S z rfl⟩
  · cases e
end
def tyN (M : Mem) : Sv → Option String
  | .d .non => some "NoneType"
  | .d (.bl _) => some "bool"
  | .d (.int _) => some "int"
  | .d (.str _) => some "str"
  | .d (.tup _) => some "tuple"
  | .d (.lst _) => some "list"
  | .bor _ => some "list"
  | .d (.scr _) => some "list"
  | .ref n => match M[n]? with
    | some (.lst _) => some "list"
    | some (.dk _) => some "dict"
    | _ => none
  | _ => none
/-- whether a thing of the first type is one of the second -/
def subT (a t : String) : Bool := decide (a = t) || (decide (a = "bool") && decide (t = "int"))
def known (t : String) : Bool := decide (t = "int") || decide (t = "bool") || decide (t = "str") || decide (t = "tuple") || decide (t = "list") || decide (t = "dict")
def isiD (M : Mem) : List Sv → Option Sv
  | [x, .d (.ty t)] => (tyN M x).bind fun a => gd (known t = true) (.d (.bl (subT a t)))
  | [x, .d (.tup [.ty t, .ty u])] => (tyN M x).bind fun a => gd (known t = true ∧ known u = true) (.d (.bl (subT a t || subT a u)))
  | _ => none
section
variable {K : PySem.W.Frag} {X : Cx} {G : Gd} {e a b : Expr} {es : List Expr} {pos : Pos} {ta tb : TE'} {N : Bool → Addr → Prop} {H : Hp} {ι : Ix}
theorem kit_all : ∀ a ∈ ["NoneType", "bool", "int", "str", "tuple", "list", "dict"], ∀ t ∈ ["int", "bool", "str", "tuple", "list", "dict"], kitB a t = some (subT a t) := by decide +kernel
theorem known_mem {t : String} (h : known t = true) : t ∈ ["int", "bool", "str", "tuple", "list", "dict"] := by
  unfold known at h
  simp only [Bool.or_eq_true, decide_eq_true_eq] at h
  simp only [List.mem_cons, List.not_mem_nil, or_false]
  rcases h with ((((h | h) | h) | h) | h) | h <;> simp [h]
theorem ty_of {δ : DS} {M : Mem} {σ : L2.St} {d : Sv} {v : V} {t : String} (S : Sr K G δ M ι σ H) (h : RS K G.N H ι d v) (e : tyN M d = some t) : TyX K H v (.type t) ∧ t ∈ ["NoneType", "bool", "int", "str", "tuple", "list", "dict"] := by
  cases d with
  | ref n =>
    simp only [tyN] at e
    split at e
    · rename_i ds hM
      cases e
      obtain ⟨a, rfl, hn, xs, q, _⟩ := S.mem.at h hM (fun z => nomatch z)
      exact ⟨.base (.lst q), by decide⟩
    · rename_i ds hM
      cases e
      obtain ⟨a, rfl, hn, xs, q, _⟩ := S.mem.at h hM (fun z => nomatch z)
      exact ⟨.base (.dK q), by decide⟩
    · cases e
  | bor ds => cases e; obtain ⟨a, xs, rfl, q, _⟩ := h; exact ⟨.base (.lst q), by decide⟩
  | d d =>
  cases d with
  | non => cases e; cases (show _ = _ from h); exact ⟨.base .non, by decide⟩
  | bl b => cases e; cases (show _ = _ from h); exact ⟨.base (.bl _), by decide⟩
  | int b => cases e; cases (show _ = _ from h); exact ⟨.base (.int _), by decide⟩
  | str b => cases e; cases (show _ = _ from h); exact ⟨.base (.str _), by decide⟩
  | tup ds =>
    cases e
    obtain ⟨a, xs, rfl, q, _⟩ := h
    rcases q with ⟨q, _⟩ | ⟨o, its, n, q, hc, _⟩
    · exact ⟨.base (.tup q), by decide⟩
    · exact ⟨.kTuple q hc, by decide⟩
  | lst ds => cases e; obtain ⟨a, xs, rfl, q, _⟩ := h; exact ⟨.base (.lst q), by decide⟩
  | scr ns =>
    cases e
    obtain ⟨a, rfl, ⟨o, q, _⟩ | ⟨o, its, n, q, hc, _⟩, _⟩ := h
    · exact ⟨.base (.frz q), by decide⟩
    · exact ⟨.kList q hc, by decide⟩
  | fn b => cases e
  | dn ks ds => cases e
  | dk ks ds => cases e
  | cls n => cases e
  | exc n f => cases e
  | ty b => cases e
theorem rd_isi : RdN K (fun xs H Q => (fun xs H Q => rIsi K xs H Q ∨ rIsiT K xs H Q) xs H Q ∨ rIsiK K xs H Q) isiD := by
  intro G δ M ι σ H xs vs d S rx e Q z
  unfold isiD at e
  split at e
  · rename_i x t
    obtain ⟨v, r, rfl, h1, h2⟩ := rx
    obtain ⟨u, r', rfl, h3, h4⟩ := h2
    cases (show _ = _ from h3); cases (show _ = _ from h4)
    cases q : tyN M x with
    | none => rw [q] at e; cases e
    | some a =>
      rw [q] at e
      obtain ⟨hc, rfl⟩ := gd_some (show gd _ _ = some d from e)
      obtain ⟨h5, h6⟩ := ty_of S h1 q
      exact .inl (.inl ⟨v, .ty t, _, _, _, rfl, .ty t, h5, kit_ty (kit_all a h6 t (known_mem hc)), fin_same S z rfl⟩)
  · rename_i x t u
    obtain ⟨v, r, rfl, h1, h2⟩ := rx
    obtain ⟨w, r', rfl, h3, h4⟩ := h2
    cases (show _ = _ from h4)
    obtain ⟨tp, cs, rfl, hq, _, h7⟩ := h3
    obtain ⟨c1, r1, rfl, h8, h9⟩ := h7
    obtain ⟨c2, r2, rfl, h10, h11⟩ := h9
    cases (show _ = _ from h11); cases (show _ = _ from h8); cases (show _ = _ from h10)
    cases q : tyN M x with
    | none => rw [q] at e; cases e
    | some a =>
      rw [q] at e
      obtain ⟨⟨hc, hc2⟩, rfl⟩ := gd_some (show gd _ _ = some d from e)
      obtain ⟨h5, h6⟩ := ty_of S h1 q
      have hk : PySem.W.kitAny K (.type a) [.type t, .type u] = some (subT a t || subT a u) := by
        refine kitAny_cons (kit_ty (kit_all a h6 t (known_mem hc))) (fun h => ?_) fun h => by rw [h]; rfl
        refine kitAny_cons (kit_ty (kit_all a h6 u (known_mem hc2))) (fun h' => ?_) fun h' => by rw [h, h']; rfl
        rw [h, h']; exact kitAny_nil
      rcases hq with ⟨hq, _⟩ | ⟨o, its, n, hq, hcl, hda, hsz, hv⟩
      · exact .inl (.inr ⟨v, tp, _, _, _, _, rfl, hq, .cons (.ty t) (.cons (.ty u) .nil), h5, hk, fin_same S z rfl⟩)
      · obtain ⟨oc, od, dt, sl⟩ := o
        simp only at hcl hda
        subst hcl hda
        obtain ⟨u1, u2, e3, r1, r2⟩ := vals2 hv
        cases (show _ = _ from r1); cases (show _ = _ from r2)
        exact .inr ⟨v, tp, od, [.type t, .type u], n, sl, _, _, rfl, by rw [← e3]; exact hq, h5, hk, fin_same S z rfl⟩
  · cases e
end
end VL
set_option Elab.async false
set_option linter.all false
set_option maxRecDepth 100000
set_option maxHeartbeats 4000000
namespace VL
open PySem PySem.Spec L2
def lenOf (M : Mem) (d : Sv) : Option Int := match d with
  | .d (.str s) => gd (s.length ≤ sizeLine) (s.length : Int)
  | .ref n => (match M[n]? with
    | some (.lst ds) => some (ds.length : Int)
    | some (.dk kvs) => some (kvs.length : Int)
    | _ => none)
  | d => (seqD M d).map fun ds => (ds.length : Int)
def intS (i : Int) : Sv := .d (.int i)
def lenD (M : Mem) : List Sv → Option Sv
  | [d] => (lenOf M d).map intS
  | _ => none
def absD (_ : Mem) : List Sv → Option Sv
  | [.d (.int i)] => some (.d (.int (if i < 0 then -i else i)))
  | _ => none
def intsOf : List D → Option (List Int)
  | [] => some []
  | .int i :: ds => (intsOf ds).map (i :: ·)
  | _ => none
def blsOf : List D → Option (List Bool)
  | [] => some []
  | .bl i :: ds => (blsOf ds).map (i :: ·)
  | _ => none
/-- the items of a list (no tuple) -/
def lstD (M : Mem) : Sv → Option (List D)
  | .d (.lst ds) => some ds
  | .bor ds => some ds
  | .d (.scr ns) => some (ns.map D.int)
  | .ref n => cellL M[n]?
  | _ => none
def minI : List Int → Int
  | [] => 0
  | [x] => x
  | x :: xs => let m := minI xs; if m < x then m else x
def maxI : List Int → Int
  | [] => 0
  | [x] => x
  | x :: xs => let m := maxI xs; if x < m then m else x
def minD (M : Mem) : List Sv → Option Sv
  | [.d (.int i), .d (.int j)] => some (.d (.int (if j < i then j else i)))
  | [d] => (lstD M d).bind fun ds => (intsOf ds).bind fun ns => gd (ns ≠ []) (intS (minI ns))
  | _ => none
def maxD (M : Mem) : List Sv → Option Sv
  | [.d (.int i), .d (.int j)] => some (.d (.int (if j > i then j else i)))
  | [d] => (lstD M d).bind fun ds => (intsOf ds).bind fun ns => gd (ns ≠ []) (intS (maxI ns))
  | _ => none
def intD (_ : Mem) : List Sv → Option Sv
  | [.d (.int i)] => some (.d (.int i))
  | [.d (.bl k)] => some (.d (.int (if k then 1 else 0)))
  | _ => none
def allD (M : Mem) : List Sv → Option Sv
  | [d] => (lstD M d).bind fun ds => (blsOf ds).map fun bs => blS (bs.all id)
  | _ => none
def anyD (M : Mem) : List Sv → Option Sv
  | [d] => (lstD M d).bind fun ds => (blsOf ds).map fun bs => blS (bs.any id)
  | _ => none
section
variable {K : PySem.W.Frag} {X : Cx} {G : Gd} {e a b : Expr} {es : List Expr} {pos : Pos} {ta tb : TE'} {N : Bool → Addr → Prop} {H : Hp} {ι : Ix}
theorem intsOf_some : ∀ {ds : List D} {ns : List Int}, intsOf ds = some ns → ds = ns.map .int
  | [], _, h => by cases h; rfl
  | .int i :: ds, ns, h => by
    simp only [intsOf] at h
    cases q : intsOf ds with
    | none => rw [q] at h; cases h
    | some ms => rw [q] at h; cases h; rw [intsOf_some q]; rfl
  | .non :: _, _, h => by cases h
  | .bl _ :: _, _, h => by cases h
  | .str _ :: _, _, h => by cases h
  | .tup _ :: _, _, h => by cases h
  | .lst _ :: _, _, h => by cases h
  | .scr _ :: _, _, h => by cases h
  | .fn _ :: _, _, h => by cases h
  | .dn _ _ :: _, _, h => by cases h
  | .dk _ _ :: _, _, h => by cases h
  | .cls _ :: _, _, h => by cases h
  | .exc _ _ :: _, _, h => by cases h
  | .ty _ :: _, _, h => by cases h
theorem blsOf_some : ∀ {ds : List D} {ns : List Bool}, blsOf ds = some ns → ds = ns.map .bl
  | [], _, h => by cases h; rfl
  | .bl i :: ds, ns, h => by
    simp only [blsOf] at h
    cases q : blsOf ds with
    | none => rw [q] at h; cases h
    | some ms => rw [q] at h; cases h; rw [blsOf_some q]; rfl
  | .non :: _, _, h => by cases h
  | .int _ :: _, _, h => by cases h
  | .str _ :: _, _, h => by cases h
  | .tup _ :: _, _, h => by cases h
  | .lst _ :: _, _, h => by cases h
  | .scr _ :: _, _, h => by cases h
  | .fn _ :: _, _, h => by cases h
  | .dn _ _ :: _, _, h => by cases h
  | .dk _ _ :: _, _, h => by cases h
  | .cls _ :: _, _, h => by cases h
  | .exc _ _ :: _, _, h => by cases h
  | .ty _ :: _, _, h => by cases h
theorem blsOf_map (ns : List Bool) : blsOf (ns.map .bl) = some ns := by
  induction ns with
  | nil => rfl
  | cons n ns ih => simp [blsOf, ih]
/-- a list's value and items -/
theorem lst_of {δ : DS} {M : Mem} {σ : L2.St} {d : Sv} {v : V} {ds : List D} (S : Sr K G δ M ι σ H) (h : RS K G.N H ι d v) (e : lstD M d = some ds) : ∃ a xs, v = .ref a ∧ SqL K H a xs ∧ RDs K G.N H ι ds xs := by
  cases d with
  | ref n =>
    obtain ⟨a, e1, hn, xs, q, _, r⟩ := S.mem.at h (cellL_some (show cellL M[n]? = some ds from e)) (fun z => nomatch z)
    exact ⟨a, xs, e1, SqL.of q, r⟩
  | bor es => cases e; obtain ⟨a, xs, e1, q, n, _, _, r⟩ := h; exact ⟨a, xs, e1, SqL.of q, r⟩
  | d d =>
    cases d with
    | lst es => cases e; obtain ⟨a, xs, e1, q, n, z, _, r⟩ := h; exact ⟨a, xs, e1, SqL.of q, r⟩
    | scr ns =>
      cases e
      obtain ⟨a, e1, ⟨o, q, n⟩ | q, _⟩ := h
      · exact ⟨a, _, e1, .inl (.inr ⟨o, q⟩), RDs.of_ints ns⟩
      · exact ⟨a, _, e1, .inr q, RDs.of_ints ns⟩
    | _ => cases e
theorem one_of {x : Sv} {vs : List V} (h : RSs K N H ι [x] vs) : ∃ v, vs = [v] ∧ RS K N H ι x v := by
  obtain ⟨v, r, rfl, h1, h2⟩ := h
  cases (show _ = _ from h2)
  exact ⟨v, rfl, h1⟩
theorem two_of {x y : Sv} {vs : List V} (h : RSs K N H ι [x, y] vs) : ∃ v u, vs = [v, u] ∧ RS K N H ι x v ∧ RS K N H ι y u := by
  obtain ⟨v, r, rfl, h1, h2⟩ := h
  obtain ⟨u, rfl, h3⟩ := one_of h2
  exact ⟨v, u, rfl, h1, h3⟩
def rLenX (K : PySem.W.Frag) : List V → Hp → VK → Prop := fun xs H Q => (∃ x n, xs = [x] ∧ LenV K x H n ∧ Q (.int n) H) ∨ (∃ a kvs, xs = [V.ref a] ∧ H a = some (.dK kvs) ∧ Q (.int kvs.length) H)
theorem call_lenX : CallR X (.builtin "len") (rLenX X.K) := call_len.or call_lenD
theorem rd_len : RdN K (rLenX K) lenD := by
  intro G δ M ι σ H xs vs d S rx e Q z
  unfold lenD at e
  split at e
  · rename_i x
    obtain ⟨v, rfl, r⟩ := one_of rx
    cases q : lenOf M x with
    | none => rw [q] at e; cases e
    | some n =>
      rw [q] at e; cases e
      unfold lenOf at q
      split at q
      · obtain ⟨hc, rfl⟩ := gd_some q
        cases (show _ = _ from r)
        exact .inl ⟨_, _, rfl, ⟨hc, rfl⟩, fin_same S z rfl⟩
      · split at q
        · rename_i ds hM
          cases q
          obtain ⟨a, rfl, hn, ys, hH, _, ry⟩ := S.mem.at r hM (fun z => nomatch z)
          refine .inl ⟨_, ys.length, rfl, .inl ⟨ys, SqL.of hH, rfl⟩, ?_⟩
          rw [← ry.length]; exact fin_same S z rfl
        · rename_i kvs hM
          cases q
          obtain ⟨a, rfl, hn, ws, hH, e1, ry⟩ := S.mem.at r hM (fun z => nomatch z)
          refine .inr ⟨a, ws, rfl, hH, ?_⟩
          have hl : kvs.length = ws.length := by simpa using congrArg List.length e1
          rw [← hl]; exact fin_same S z rfl
        · cases q
      · cases hs : seqD M x with
        | none => rw [hs] at q; cases q
        | some ds =>
          rw [hs] at q; cases q
          obtain ⟨a, ys, rfl, hq, ry⟩ := seq_of S r hs
          refine .inl ⟨_, ys.length, rfl, ?_, ?_⟩
          · rcases hq with hq | hq
            · exact .inl ⟨ys, hq, rfl⟩
            · exact .inr ⟨ys, hq, rfl⟩
          · rw [← ry.length]; exact fin_same S z rfl
  · cases e
theorem rd_abs : RdN K (fun xs H Q => ∃ i, xs = [V.int i] ∧ Q (.int (if i < 0 then -i else i)) H) absD := by
  intro G δ M ι σ H xs vs d S rx e Q z
  unfold absD at e
  split at e
  · cases e
    obtain ⟨v, rfl, r⟩ := one_of rx
    cases (show _ = _ from r)
    exact ⟨_, rfl, fin_same S z rfl⟩
  · cases e
theorem minI_cons {x y : Int} {ns : List Int} : minI (x :: y :: ns) = if minI (y :: ns) < x then minI (y :: ns) else x := rfl
theorem maxI_cons {x y : Int} {ns : List Int} : maxI (x :: y :: ns) = if x < maxI (y :: ns) then maxI (y :: ns) else x := rfl
theorem minI_mem : ∀ {ns : List Int}, ns ≠ [] → minI ns ∈ ns ∧ ∀ y ∈ ns, minI ns ≤ y
  | [], h => (h rfl).elim
  | [x], _ => ⟨by simp [minI], by simp [minI]⟩
  | x :: y :: ns, _ => by
    obtain ⟨h1, h2⟩ := minI_mem (ns := y :: ns) (by simp)
    rw [minI_cons]
    by_cases hc : (minI (y :: ns)) < x
    · rw [if_pos hc]
      refine ⟨List.mem_cons_of_mem _ h1, fun z hz => ?_⟩
      rcases List.mem_cons.mp hz with rfl | hz
      · omega
      · exact h2 z hz
    · rw [if_neg hc]
      refine ⟨List.mem_cons_self, fun z hz => ?_⟩
      rcases List.mem_cons.mp hz with rfl | hz
      · omega
      · have := h2 z hz; omega
theorem maxI_mem : ∀ {ns : List Int}, ns ≠ [] → maxI ns ∈ ns ∧ ∀ y ∈ ns, y ≤ maxI ns
  | [], h => (h rfl).elim
  | [x], _ => ⟨by simp [maxI], by simp [maxI]⟩
  | x :: y :: ns, _ => by
    obtain ⟨h1, h2⟩ := maxI_mem (ns := y :: ns) (by simp)
    rw [maxI_cons]
    by_cases hc : x < (maxI (y :: ns))
    · rw [if_pos hc]
      refine ⟨List.mem_cons_of_mem _ h1, fun z hz => ?_⟩
      rcases List.mem_cons.mp hz with rfl | hz
      · omega
      · exact h2 z hz
    · rw [if_neg hc]
      refine ⟨List.mem_cons_self, fun z hz => ?_⟩
      rcases List.mem_cons.mp hz with rfl | hz
      · omega
      · have := h2 z hz; omega
def rMinX (K : PySem.W.Frag) : List V → Hp → VK → Prop := fun xs H Q => (∃ i j, xs = [V.int i, .int j] ∧ Q (.int (if j < i then j else i)) H) ∨ rMin K xs H Q
def rMaxX (K : PySem.W.Frag) : List V → Hp → VK → Prop := fun xs H Q => (∃ i j, xs = [V.int i, .int j] ∧ Q (.int (if j > i then j else i)) H) ∨ rMax K xs H Q
theorem call_minX (hc : X.calm = true) : CallR X (.builtin "min") (rMinX X.K) := (call_min2 hc).or (cr_min hc)
theorem call_maxX (hc : X.calm = true) : CallR X (.builtin "max") (rMaxX X.K) := (call_max2 hc).or (cr_max hc)
theorem lints_of {δ : DS} {M : Mem} {σ : L2.St} {x d : Sv} {v : V} {f : List Int → Option Sv} (S : Sr K G δ M ι σ H) (r : RS K G.N H ι x v) (e : ((lstD M x).bind fun ds => (intsOf ds).bind f) = some d) :
    ∃ a ns, v = .ref a ∧ SqL K H a (ns.map V.int) ∧ f ns = some d := by
  cases q : lstD M x with
  | none => rw [q] at e; cases e
  | some ds =>
    rw [q] at e
    obtain ⟨a, xs, rfl, hs, ry⟩ := lst_of S r q
    cases qi : intsOf ds with
    | none => simp only [Option.bind_some, qi] at e; cases e
    | some ns =>
      simp only [Option.bind_some, qi] at e
      rw [intsOf_some qi] at ry
      rw [ry.ints] at hs
      exact ⟨a, ns, rfl, hs, e⟩
theorem lbls_of {δ : DS} {M : Mem} {σ : L2.St} {x d : Sv} {v : V} {f : List Bool → Option Sv} (S : Sr K G δ M ι σ H) (r : RS K G.N H ι x v) (e : ((lstD M x).bind fun ds => (blsOf ds).bind f) = some d) :
    ∃ a ns, v = .ref a ∧ SqL K H a (ns.map V.bl) ∧ f ns = some d := by
  cases q : lstD M x with
  | none => rw [q] at e; cases e
  | some ds =>
    rw [q] at e
    obtain ⟨a, xs, rfl, hs, ry⟩ := lst_of S r q
    cases qi : blsOf ds with
    | none => simp only [Option.bind_some, qi] at e; cases e
    | some ns =>
      simp only [Option.bind_some, qi] at e
      rw [blsOf_some qi] at ry
      rw [ry.bls] at hs
      exact ⟨a, ns, rfl, hs, e⟩
theorem rd_min : RdN K (rMinX K) minD := by
  intro G δ M ι σ H xs vs d S rx e Q z
  unfold minD at e
  split at e
  · cases e
    obtain ⟨v, u, rfl, r1, r2⟩ := two_of rx
    cases (show _ = _ from r1); cases (show _ = _ from r2)
    exact .inl ⟨_, _, rfl, fin_same S z rfl⟩
  · obtain ⟨v, rfl, r⟩ := one_of rx
    obtain ⟨a, ns, rfl, hs, e⟩ := lints_of S r e
    obtain ⟨hc, rfl⟩ := gd_some e
    refine .inr ⟨a, ns, rfl, hs, List.length_pos_iff.mpr hc, fun m hm hl => ?_⟩
    obtain ⟨h1, h2⟩ := minI_mem hc
    have : m = minI ns := by have := h2 m hm; have := hl _ h1; omega
    subst this
    exact fin_same S z rfl
  · cases e
theorem rd_max : RdN K (rMaxX K) maxD := by
  intro G δ M ι σ H xs vs d S rx e Q z
  unfold maxD at e
  split at e
  · cases e
    obtain ⟨v, u, rfl, r1, r2⟩ := two_of rx
    cases (show _ = _ from r1); cases (show _ = _ from r2)
    exact .inl ⟨_, _, rfl, fin_same S z rfl⟩
  · obtain ⟨v, rfl, r⟩ := one_of rx
    obtain ⟨a, ns, rfl, hs, e⟩ := lints_of S r e
    obtain ⟨hc, rfl⟩ := gd_some e
    refine .inr ⟨a, ns, rfl, hs, List.length_pos_iff.mpr hc, fun m hm hl => ?_⟩
    obtain ⟨h1, h2⟩ := maxI_mem hc
    have : m = maxI ns := by have := h2 m hm; have := hl _ h1; omega
    subst this
    exact fin_same S z rfl
  · cases e
theorem rd_intC : RdN K (fun xs H Q => (∃ i, xs = [V.int i] ∧ Q (.int i) H) ∨ ∃ k, xs = [V.bl k] ∧ Q (.int (if k then 1 else 0)) H) intD := by
  intro G δ M ι σ H xs vs d S rx e Q z
  unfold intD at e
  split at e
  · cases e
    obtain ⟨v, rfl, r⟩ := one_of rx
    cases (show _ = _ from r)
    exact .inl ⟨_, rfl, fin_same S z rfl⟩
  · cases e
    obtain ⟨v, rfl, r⟩ := one_of rx
    cases (show _ = _ from r)
    exact .inr ⟨_, rfl, fin_same S z rfl⟩
  · cases e
theorem rd_all : RdN K (rAll K) allD := by
  intro G δ M ι σ H xs vs d S rx e Q z
  unfold allD at e
  split at e
  · obtain ⟨v, rfl, r⟩ := one_of rx
    obtain ⟨a, ns, rfl, hs, e⟩ := lbls_of (f := fun ns => some (blS (ns.all id))) S r (by simpa only [Option.map_eq_bind, Function.comp_def] using e)
    cases e
    exact ⟨a, ns, rfl, hs, fin_same S z rfl⟩
  · cases e
end
def truth (M : Mem) : Sv → Option Bool
  | .d .non => some false
  | .d (.bl b) => some b
  | .d (.int i) => some (i != 0)
  | .d (.str s) => gd (s.length ≤ sizeLine) ((s.length : Int) != 0)
  | .ref n => match M[n]? with
    | some (.lst ds) => some !ds.isEmpty
    | some (.dk kvs) => some !kvs.isEmpty
    | _ => none
  | d => (seqD M d).map fun ds => !ds.isEmpty
abbrev TT' := DS → Mem → (Bool → Mem → Prop) → Prop
def lT (K : PySem.W.Frag) (G : Gd) (t : TT') : TT := fun σ H Q => ∃ δ M ι Q0, Sr K G δ M ι σ H ∧ t δ M Q0 ∧
  ∀ b M' ι' H', Q0 b M' → Ex ι ι' → Kp ι H ι' H' → Sr K G δ M' ι' σ H' → Q b H'
abbrev VT (X : Cx) (G : Gd) (e : Expr) (t : TT') : Prop := PT X e (lT X.K G t)
abbrev VW (X : Cx) (G : Gd) (e : Expr) (t : TT') : Prop := PW X e (lT X.K G t)
abbrev PB := DS → Mem → Option Bool
def cP (p : PB) : TT' := fun δ M Q => ok (p δ M) fun b => Q b M
def tTr (t : TE') : TT' := fun δ M Q => t δ M fun d M' => ok (truth M' d) fun b => Q b M'
def bTr (p : PV) : PB := fun δ M => (p δ M).bind (truth M)
def blD : Sv → Option Bool
  | .d (.bl b) => some b
  | _ => none
def tTb (t : TE') : TT' := fun δ M Q => t δ M fun d M' => ok (blD d) fun b => Q b M'
def bB (p : PV) : PB := fun δ M => (p δ M).bind blD
def tAn (t u : TT') : TT' := fun δ M Q => t δ M fun b M' => if b then u δ M' Q else Q false M'
def tOrr (t u : TT') : TT' := fun δ M Q => t δ M fun b M' => if b then Q true M' else u δ M' Q
def tNt (t : TT') : TT' := fun δ M Q => t δ M fun b M' => Q (!b) M'
def bAn (p q : PB) : PB := fun δ M => (p δ M).bind fun b => if b then q δ M else some false
def bOr (p q : PB) : PB := fun δ M => (p δ M).bind fun b => if b then some true else q δ M
def bNt (p : PB) : PB := fun δ M => (p δ M).map fun b => !b
section
variable {K : PySem.W.Frag} {X : Cx} {G : Gd} {e a b c : Expr} {es rest : List Expr} {pos : Pos} {ta tb : TE'} {t u : TT'} {p q : PB}
theorem VT.weak {t' : TT'} (h : VT X G e t) (w : ∀ δ M Q, t' δ M Q → t δ M Q) : VT X G e t' :=
  ⟨fun pins s σ H Q I ⟨δ, M, ι, Q0, S, q, z⟩ => h.run pins s σ H Q I ⟨δ, M, ι, Q0, S, w _ _ _ q, z⟩⟩
theorem VW.weak {t' : TT'} (h : VW X G e t) (w : ∀ δ M Q, t' δ M Q → t δ M Q) : VW X G e t' :=
  ⟨fun wh pins s σ H Q I ⟨δ, M, ι, Q0, S, q, z⟩ => h.run wh pins s σ H Q I ⟨δ, M, ι, Q0, S, w _ _ _ q, z⟩⟩
theorem truth_of {δ : DS} {M : Mem} {ι : Ix} {σ : L2.St} {H : Hp} {d : Sv} {v : V} {k : Bool} (S : Sr K G δ M ι σ H) (h : RS K G.N H ι d v) (e : truth M d = some k) : TruV K v H k := by
  cases d with
  | ref n =>
    simp only [truth] at e
    split at e
    · rename_i ds hM
      cases e
      obtain ⟨a, rfl, hn, xs, q, _, r⟩ := S.mem.at h hM (fun z => nomatch z)
      refine .inl ⟨xs, SqL.of q, ?_⟩
      have := r.length
      cases ds <;> cases xs <;> simp_all
    · rename_i kvs hM
      cases e
      obtain ⟨a, rfl, hn, ws, q, e1, r⟩ := S.mem.at h hM (fun z => nomatch z)
      refine .inr (.inr ⟨ws, q, ?_⟩)
      have hl : kvs.length = ws.length := by simpa using congrArg List.length e1
      cases kvs <;> cases ws <;> simp_all
    · cases e
  | bor ds =>
    cases e
    obtain ⟨a, xs, rfl, q, _, _, _, r⟩ := h
    refine .inl ⟨xs, SqL.of q, ?_⟩
    have := r.length
    cases ds <;> cases xs <;> simp_all
  | d d =>
  cases d with
  | non => cases e; cases (show _ = _ from h); rfl
  | bl b => cases e; cases (show _ = _ from h); rfl
  | int i => cases e; cases (show _ = _ from h); rfl
  | str s => obtain ⟨hc, rfl⟩ := gd_some (show gd _ _ = some k from e); cases (show _ = _ from h); exact ⟨hc, rfl⟩
  | fn b => cases e
  | dn ks ds => cases e
  | dk ks ds => cases e
  | cls n => cases e
  | exc n f => cases e
  | ty b => cases e
  | tup ds =>
    cases e
    obtain ⟨a, xs, rfl, q, _, r⟩ := h
    refine .inr (.inl ⟨xs, tup_sq q, ?_⟩)
    have := r.length
    cases ds <;> cases xs <;> simp_all
  | lst ds =>
    cases e
    obtain ⟨a, xs, rfl, q, _, _, _, r⟩ := h
    refine .inl ⟨xs, SqL.of q, ?_⟩
    have := r.length
    cases ds <;> cases xs <;> simp_all
  | scr ns =>
    cases e
    obtain ⟨a, rfl, q, _⟩ := h
    have hsq : SqL K H a (ns.map V.int) := by
      rcases q with ⟨o, q', _⟩ | q'
      · exact .inl (.inr ⟨o, q'⟩)
      · exact .inr q'
    refine .inl ⟨_, hsq, ?_⟩
    cases ns <;> rfl
theorem fin_tr {σ : L2.St} {H : Hp} {Q : Bool → Hp → Prop} (h : lT K G (tTr ta) σ H Q) : lE K G ta σ H fun x H' => ∃ k, TruV K x H' k ∧ Q k H' := by
  obtain ⟨δ, M, ι, Q0, S, h, z⟩ := h
  refine th1 S h fun x M1 ι1 H1 v h1 p1 k1 S1 r1 => ?_
  obtain ⟨k, e, h1⟩ := ok_elim h1
  exact ⟨k, truth_of S1 r1 e, z k M1 ι1 H1 h1 p1 k1 S1⟩
/-- the test of a value's truth -/
theorem vt_val (ha : VE X G a ta) (he : ∀ whole, isTrue a X.env whole = (do let v ← whole; standAt a.pos; holding [v] (truthy v)) := by exact fun _ => rfl) : VT X G a (tTr ta) := by
  have h := pt_truth ha he
  exact ⟨fun pins s σ H Q I q => h.run pins s σ H Q I (fin_tr q)⟩
theorem VT.pure (h : VT X G a (tTr (eP v))) : VT X G a (cP (bTr v)) := h.weak fun δ M Q h => by
  unfold cP bTr at h; rw [ok_bind] at h; exact h
theorem fin_tb {σ : L2.St} {H : Hp} {Q : Bool → Hp → Prop} (h : lT K G (tTb ta) σ H Q) : lE K G ta σ H fun x H' => ∃ k, x = .bl k ∧ Q k H' := by
  obtain ⟨δ, M, ι, Q0, S, h, z⟩ := h
  refine th1 S h fun x M1 ι1 H1 v h1 p1 k1 S1 r1 => ?_
  obtain ⟨k, e, h1⟩ := ok_elim h1
  unfold blD at e
  split at e
  · cases e; cases (show _ = _ from r1); exact ⟨_, rfl, z _ M1 ι1 H1 h1 p1 k1 S1⟩
  · cases e
theorem vt_cmp {op : CmpOp} {r : R2} {f : Mem → Sv → Sv → Option Sv} (ho : OpR X (compareOp op) r) (hf : Rd2 X.K r f) (ha : VE X G a ta) (hb : VE X G b tb) (hm : behindInMarks op b = false) : VT X G (.Compare a [op] [b] pos) (tTb (eo2 f ta tb)) := by
  have h := pt_cmpR (pos := pos) ho ha hb hm
  exact ⟨fun pins s σ H Q I q => h.run pins s σ H Q I (fin2 hf (fin_tb q))⟩
theorem VT.pureB2 {f : Mem → Sv → Sv → Option Sv} {v w : PV} (h : VT X G a (tTb (eo2 f (eP v) (eP w)))) : VT X G a (cP (bB (po2 f v w))) := h.weak fun δ M Q h => by
  unfold cP bB po2 at h
  rw [ok_bind, ok_bind] at h
  obtain ⟨d, q1, h⟩ := ok_elim h
  rw [ok_bind] at h
  exact ok_of q1 h
theorem vt_not (h : VT X G a t) : VT X G (.UnaryOp .Not a pos) (tNt t) := by
  have hn := pt_not (pos := pos) h
  exact ⟨fun pins s σ H Q I ⟨δ, M, ι, Q0, S, q, z⟩ => hn.run pins s σ H Q I ⟨δ, M, ι, _, S, q, fun b M' ι' H' q1 p1 k1 S1 => z (!b) M' ι' H' q1 p1 k1 S1⟩⟩
theorem vw_and1 (h : VT X G a t) : VW X G (.BoolOp .And [a] pos) t := pw_and1 h
theorem vw_or1 (h : VT X G a t) : VW X G (.BoolOp .Or [a] pos) t := pw_or1 h
theorem vw_and (h : VT X G a t) (h2 : VW X G (.BoolOp .And (b :: rest) pos) u) : VW X G (.BoolOp .And (a :: b :: rest) pos) (tAn t u) := by
  have hn := pw_and h h2
  refine ⟨fun wh pins s σ H Q I ⟨δ, M, ι, Q0, S, q, z⟩ => hn.run wh pins s σ H Q I ⟨δ, M, ι, _, S, q, fun b M' ι' H' q1 p1 k1 S1 => ?_⟩⟩
  cases b with
  | false => exact z false M' ι' H' q1 p1 k1 S1
  | true => exact ⟨δ, M', ι', Q0, S1, q1, fun b M2 ι2 H2 q2 p2 k2 S2 => z b M2 ι2 H2 q2 (p1.trans p2) (k1.trans k2) S2⟩
theorem vw_or (h : VT X G a t) (h2 : VW X G (.BoolOp .Or (b :: rest) pos) u) : VW X G (.BoolOp .Or (a :: b :: rest) pos) (tOrr t u) := by
  have hn := pw_or h h2
  refine ⟨fun wh pins s σ H Q I ⟨δ, M, ι, Q0, S, q, z⟩ => hn.run wh pins s σ H Q I ⟨δ, M, ι, _, S, q, fun b M' ι' H' q1 p1 k1 S1 => ?_⟩⟩
  cases b with
  | true => exact z true M' ι' H' q1 p1 k1 S1
  | false => exact ⟨δ, M', ι', Q0, S1, q1, fun b M2 ι2 H2 q2 p2 k2 S2 => z b M2 ι2 H2 q2 (p1.trans p2) (k1.trans k2) S2⟩
theorem VW.vt (h : VW X G a t) : VT X G a t := PW.pt h
theorem VT.pNot (h : VT X G a (tNt (cP p))) : VT X G a (cP (bNt p)) := h.weak fun δ M Q h => by
  unfold cP bNt at h; rw [ok_map] at h; exact h
theorem VW.pAn (h : VW X G a (tAn (cP p) (cP q))) : VW X G a (cP (bAn p q)) := h.weak fun δ M Q h => by
  unfold cP bAn at h
  rw [ok_bind] at h
  obtain ⟨d, q1, h⟩ := ok_elim h
  refine ok_of q1 ?_
  cases d <;> exact h
theorem VW.pOr (h : VW X G a (tOrr (cP p) (cP q))) : VW X G a (cP (bOr p q)) := h.weak fun δ M Q h => by
  unfold cP bOr at h
  rw [ok_bind] at h
  obtain ⟨d, q1, h⟩ := ok_elim h
  refine ok_of q1 ?_
  cases d <;> exact h
def eAn (ta tb : TE') : TE' := fun δ M Q => ta δ M fun x M1 => ok (truth M1 x) fun k => if k then tb δ M1 Q else Q x M1
def eOr (ta tb : TE') : TE' := fun δ M Q => ta δ M fun x M1 => ok (truth M1 x) fun k => if k then Q x M1 else tb δ M1 Q
def eNt (ta : TE') : TE' := fun δ M Q => ta δ M fun x M1 => ok (truth M1 x) fun k => Q (blS (!k)) M1
def eIf (t : TT') (ta tb : TE') : TE' := fun δ M Q => t δ M fun b M1 => if b then ta δ M1 Q else tb δ M1 Q
def poAn (a b : PV) : PV := fun δ M => (a δ M).bind fun x => (truth M x).bind fun k => if k then b δ M else some x
def poOr (a b : PV) : PV := fun δ M => (a δ M).bind fun x => (truth M x).bind fun k => if k then some x else b δ M
def poNt (a : PV) : PV := fun δ M => (a δ M).bind fun x => (truth M x).map fun k => blS (!k)
def poIf (t : PB) (a b : PV) : PV := fun δ M => (t δ M).bind fun k => if k then a δ M else b δ M
theorem ve_one {op} (h : VE X G a ta) : VE X G (.BoolOp op [a] pos) ta := pe_one h
theorem ve_and (ha : VE X G a ta) (hb : VE X G (.BoolOp .And (b :: rest) pos) tb) : VE X G (.BoolOp .And (a :: b :: rest) pos) (eAn ta tb) := by
  refine PE.weak (pe_andT ha hb) fun σ H Q ⟨δ, M, ι, Q0, S, h, z⟩ => ?_
  refine th1 S h fun x M1 ι1 H1 v h1 p1 k1 S1 r1 => ?_
  obtain ⟨k, e, h1⟩ := ok_elim h1
  refine ⟨k, truth_of S1 r1 e, ?_⟩
  cases k with
  | false => exact z x M1 ι1 H1 v h1 p1 k1 S1 r1
  | true => exact th1 S1 h1 fun y M2 ι2 H2 w h2 p2 k2 S2 r2 => z y M2 ι2 H2 w h2 (p1.trans p2) (k1.trans k2) S2 r2
theorem ve_or (ha : VE X G a ta) (hb : VE X G (.BoolOp .Or (b :: rest) pos) tb) : VE X G (.BoolOp .Or (a :: b :: rest) pos) (eOr ta tb) := by
  refine PE.weak (pe_orT ha hb) fun σ H Q ⟨δ, M, ι, Q0, S, h, z⟩ => ?_
  refine th1 S h fun x M1 ι1 H1 v h1 p1 k1 S1 r1 => ?_
  obtain ⟨k, e, h1⟩ := ok_elim h1
  refine ⟨k, truth_of S1 r1 e, ?_⟩
  cases k with
  | true => exact z x M1 ι1 H1 v h1 p1 k1 S1 r1
  | false => exact th1 S1 h1 fun y M2 ι2 H2 w h2 p2 k2 S2 r2 => z y M2 ι2 H2 w h2 (p1.trans p2) (k1.trans k2) S2 r2
theorem ve_not (ha : VE X G a ta) : VE X G (.UnaryOp .Not a pos) (eNt ta) := by
  refine PE.weak (pe_notT ha) fun σ H Q ⟨δ, M, ι, Q0, S, h, z⟩ => ?_
  refine th1 S h fun x M1 ι1 H1 v h1 p1 k1 S1 r1 => ?_
  obtain ⟨k, e, h1⟩ := ok_elim h1
  exact ⟨k, truth_of S1 r1 e, z _ M1 ι1 H1 _ h1 p1 k1 S1 rfl⟩
theorem ve_if (hc : VT X G c t) (ha : VE X G a ta) (hb : VE X G b tb) : VE X G (.IfExp c a b pos) (eIf t ta tb) := by
  refine PE.weak (pe_ifExp hc ha hb) fun σ H Q ⟨δ, M, ι, Q0, S, h, z⟩ => ⟨δ, M, ι, _, S, h, fun k M1 ι1 H1 h1 p1 k1 S1 => ?_⟩
  cases k with
  | true => exact th1 S1 h1 fun y M2 ι2 H2 w h2 p2 k2 S2 r2 => z y M2 ι2 H2 w h2 (p1.trans p2) (k1.trans k2) S2 r2
  | false => exact th1 S1 h1 fun y M2 ι2 H2 w h2 p2 k2 S2 r2 => z y M2 ι2 H2 w h2 (p1.trans p2) (k1.trans k2) S2 r2
theorem VE.pAn {v w : PV} (h : VE X G a (eAn (eP v) (eP w))) : VE X G a (eP (poAn v w)) := h.weak fun δ M Q h => by
  unfold eP poAn at h
  rw [ok_bind] at h
  obtain ⟨d, q1, h⟩ := ok_elim h
  rw [ok_bind] at h
  obtain ⟨k, q2, h⟩ := ok_elim h
  refine ok_of q1 (ok_of q2 ?_)
  cases k <;> exact h
theorem VE.pNt {v : PV} (h : VE X G a (eNt (eP v))) : VE X G a (eP (poNt v)) := h.weak fun δ M Q h => by
  unfold eP poNt at h
  rw [ok_bind] at h
  obtain ⟨d, q1, h⟩ := ok_elim h
  rw [ok_map] at h
  exact ok_of q1 h
theorem VE.pIf {v w : PV} (h : VE X G a (eIf (cP p) (eP v) (eP w))) : VE X G a (eP (poIf p v w)) := h.weak fun δ M Q h => by
  unfold eP poIf at h
  rw [ok_bind] at h
  obtain ⟨d, q1, h⟩ := ok_elim h
  refine ok_of q1 ?_
  cases d <;> exact h
end
end VL
set_option Elab.async false
set_option linter.all false
set_option maxRecDepth 100000
set_option maxHeartbeats 4000000
namespace VL
open PySem PySem.Spec L2
def dataS : Sv → Option D
  | .d x => some x
  | _ => none
def datas : List Sv → Option (List D)
  | [] => some []
  | x :: xs => (dataS x).bind fun d => (datas xs).map fun ds => d :: ds
/-- a new list of these -/
abbrev TF' := DS → Mem → (List D → Mem → Prop) → Prop
def lF (K : PySem.W.Frag) (G : Gd) (t : TF') : TE := fun σ H Q => ∃ δ M ι Q0, Sr K G δ M ι σ H ∧ t δ M Q0 ∧
  ∀ ds M' ι' H' xs p, Q0 ds M' → Ex ι ι' → Kp ι H ι' H' → Sr K G δ M' ι' σ H' → RDs K G.N H' ι' ds xs → ds.length ≤ sizeLine → H' p = none → Q (.ref p) (upd H' p (.lst xs))
abbrev VF (X : Cx) (G : Gd) (e : Expr) (t : TF') : Prop := PE X e (lF X.K G t)
def tTupE (t : TA') : TE' := fun δ M Q => t δ M fun xs M1 => ok (datas xs) fun ds => Q (.d (.tup ds)) M1
def tLstF (t : TA') : TF' := fun δ M Q => t δ M fun xs M1 => ok (datas xs) fun ds => Q ds M1
def eFz (t : TF') : TE' := fun δ M Q => t δ M fun ds M' => Q (.d (.lst ds)) M'
def eNw (t : TF') : TE' := fun δ M Q => t δ M fun ds M' => Q (.ref M'.length) (M' ++ [.lst ds])
abbrev PL := DS → Mem → Option (List D)
def fP (p : PL) : TF' := fun δ M Q => ok (p δ M) fun ds => Q ds M
def pFz (p : PL) : PV := fun δ M => (p δ M).map fun ds => .d (.lst ds)
def poTup (ps : List PV) : PV := fun δ M => ((pArgs ps δ M).bind datas).map fun ds => .d (.tup ds)
def plLst (ps : List PV) : PL := fun δ M => (pArgs ps δ M).bind datas
section
variable {K : PySem.W.Frag} {X : Cx} {G : Gd} {e a b : Expr} {es : List Expr} {pos : Pos} {ta tb t : TE'} {N : Bool → Addr → Prop} {H : Hp} {ι : Ix} {tf : TF'}
theorem VF.weak {t' : TF'} (h : VF X G e tf) (w : ∀ δ M Q, t' δ M Q → tf δ M Q) : VF X G e t' :=
  PE.weak h fun _ _ _ ⟨δ, M, ι, Q0, S, q, z⟩ => ⟨δ, M, ι, Q0, S, w _ _ _ q, z⟩
theorem datas_of : ∀ {xs : List Sv} {ds : List D} {vs : List V}, datas xs = some ds → RSs K N H ι xs vs → RDs K N H ι ds vs ∧ ds.length = xs.length
  | [], ds, vs, e, h => by cases e; exact ⟨h, rfl⟩
  | x :: xs, ds, vs, e, h => by
    obtain ⟨v, r, rfl, h1, h2⟩ := h
    cases x with
    | d d =>
      obtain ⟨ds', e2, rfl⟩ := Option.map_eq_some_iff.mp (show (datas xs).map (fun ds => d :: ds) = some ds from e)
      obtain ⟨h3, h4⟩ := datas_of e2 h2
      exact ⟨⟨v, r, rfl, h1, h3⟩, by simp [h4]⟩
    | ref n => cases e
    | bor n => cases e
theorem ve_tup {n k : Nat} {tA : TA'} (h : VA X G es n tA) (hn : n ≤ sizeLine := by decide) : VE X G (.Tuple es k pos) (tTupE tA) := by
  refine PE.weak (pe_tup h) fun σ H Q ⟨δ, M, ι, Q0, S, q, z⟩ => ?_
  refine thA S q fun xs M1 ι1 H1 vs hl h1 p1 k1 S1 r1 => ?_
  obtain ⟨ds, e, h1⟩ := ok_elim h1
  obtain ⟨r2, l2⟩ := datas_of e r1
  refine ⟨by rw [← r2.length, l2, hl]; exact hn, fun p hp => ?_⟩
  exact fin_tup S1 (fun ι' H' w e2 k2 S2 r3 => z _ M1 ι' H' w h1 (p1.trans e2) (k1.trans k2) S2 r3) r2 (by rw [l2, hl]; exact hn) hp
theorem vf_lst {n : Nat} {tA : TA'} (h : VA X G es n tA) (hn : n ≤ sizeLine := by decide) : VF X G (.List es pos) (tLstF tA) := by
  refine PE.weak (pe_lst h) fun σ H Q ⟨δ, M, ι, Q0, S, q, z⟩ => ?_
  refine thA S q fun xs M1 ι1 H1 vs hl h1 p1 k1 S1 r1 => ?_
  obtain ⟨ds, e, h1⟩ := ok_elim h1
  obtain ⟨r2, l2⟩ := datas_of e r1
  exact ⟨by rw [← r2.length, l2, hl]; exact hn, fun p hp => z ds M1 ι1 H1 vs p h1 p1 k1 S1 r2 (by rw [l2, hl]; exact hn) hp⟩
theorem VF.fz (h : VF X G e tf) : VE X G e (eFz tf) :=
  PE.weak h fun σ H Q ⟨δ, M, ι, Q0, S, q, z⟩ => ⟨δ, M, ι, _, S, q, fun ds M' ι' H' xs p h1 p1 k1 S1 r1 hl hp =>
    fin_lst S1 (fun ι2 H2 w e2 k2 S2 r3 => z _ M' ι2 H2 w h1 (p1.trans e2) (k1.trans k2) S2 r3) r1 hl hp⟩
theorem VF.nw (h : VF X G e tf) : VE X G e (eNw tf) :=
  PE.weak h fun σ H Q ⟨δ, M, ι, Q0, S, q, z⟩ => ⟨δ, M, ι, _, S, q, fun ds M' ι' H' xs p h1 p1 k1 S1 r1 hl hp => by
    have S2 := S1.named (o := .lst xs) (c := .lst ds) hp ⟨xs, upd_same, hl, r1.mono (Kp.named hp) fun _ _ _ _ q => q⟩
    refine z _ _ _ _ _ h1 (p1.trans (Ex.app _ _)) (k1.trans (Kp.named hp)) S2 ⟨p, rfl, .inl ?_⟩
    rw [S1.mem.len]; simp⟩
theorem VF.pure {p : PL} (h : VF X G e (fP p)) : VE X G e (eP (pFz p)) := h.fz.weak fun δ M Q h => by
  unfold eP pFz at h; rw [ok_map] at h; exact h
theorem VE.pTup {ps : List PV} (h : VE X G e (tTupE (aP ps))) : VE X G e (eP (poTup ps)) := h.weak fun δ M Q h => by
  unfold eP poTup at h
  rw [ok_map, ok_bind] at h
  exact h
theorem VF.pLst {ps : List PV} (h : VF X G e (tLstF (aP ps))) : VF X G e (fP (plLst ps)) := h.weak fun δ M Q h => by
  unfold fP plLst at h
  rw [ok_bind] at h
  exact h
end
def sSeq (t u : TS') : TS' := fun E δ M => t { E with nx := fun δ' M' => u E δ' M' } δ M
def sNil : TS' := fun E δ M => E.nx δ M
def sRet (t : TE') : TS' := fun E δ M => t δ M fun d M' => E.rt d M'
def sRetN : TS' := fun E δ M => E.rt (.d .non) M
def sDrop (t : TE') : TS' := fun E δ M => t δ M fun _ M' => E.nx δ M'
def sSet (i : Nat) (t : TE') : TS' := fun E δ M => t δ M fun d M' => E.nx (δ.set i (some d)) M'
def sIf (c : TT') (t u : TS') : TS' := fun E δ M => c δ M fun b M' => if b then t E δ M' else u E δ M'
section
variable {K : PySem.W.Frag} {X : Cx} {G : Gd} {e a b c : Expr} {st : Stmt} {ss ss' : List Stmt} {es : List Expr} {pos : Pos} {ta tb t : TE'} {tc : TT'} {s u : TS'}
theorem VS.weak {u' : TS'} (h : VS X G st u) (w : ∀ E δ M, u' E δ M → u E δ M) : VS X G st u' :=
  PS.weak h fun _ _ _ ⟨δ, M, ι, E0, S, q, z⟩ => ⟨δ, M, ι, E0, S, w _ _ _ q, z⟩
theorem VSs.weak {u' : TS'} (h : VSs X G ss u) (w : ∀ E δ M, u' E δ M → u E δ M) : VSs X G ss u' :=
  PSs.weak h fun _ _ _ ⟨δ, M, ι, E0, S, q, z⟩ => ⟨δ, M, ι, E0, S, w _ _ _ q, z⟩
theorem vss_nil : VSs X G [] sNil := PSs.weak pss_nil fun E σ H ⟨δ, M, ι, E0, S, q, z⟩ => z.nx δ M ι σ H q (Ex.refl _) (Kp.refl _ _) S
theorem vss_one (h : VS X G st s) : VSs X G [st] s := pss_one h
theorem vss_cons (h : VS X G st s) (h2 : VSs X G ss u) : VSs X G (st :: ss) (sSeq s u) :=
  PSs.weak (pss_cons h h2) fun E σ H ⟨δ, M, ι, E0, S, q, z⟩ => ⟨δ, M, ι, _, S, q, ⟨fun δ' M' ι' σ' H' q' p' k' S' => ⟨δ', M', ι', E0, S', q', z.to p' k'⟩, z.rt, z.bk, z.ct⟩⟩
theorem vs_ret (h : VE X G e t) : VS X G (.Return (some e) pos) (sRet t) :=
  PS.weak (ps_ret h) fun E σ H ⟨δ, M, ι, E0, S, q, z⟩ => ⟨δ, M, ι, _, S, q, fun d M' ι' H' v q' p' k' S' r' => z.rt d δ M' ι' σ H' v q' S' r'⟩
theorem vs_expr (h : VE X G e t) (hs : swapsWith e none pos.line X.env = pure false := by rfl) : VS X G (.Expr e pos) (sDrop t) :=
  PS.weak (ps_expr h hs) fun E σ H ⟨δ, M, ι, E0, S, q, z⟩ => ⟨δ, M, ι, _, S, q, fun d M' ι' H' v q' p' k' S' r' => z.nx δ M' ι' σ H' q' p' k' S'⟩
theorem vs_set {i : Nat} {x : Str} {pos' : Pos} (hN : X.N.Nodup) (hi : X.N[i]? = some x) (hx : Loc X.env.scope x) (he : VE X G e t) (hs : swapsWith e (some (.Name x pos')) pos.line X.env = pure false := by rfl) (hf : X.fn x = true ∨ X.env.scope.names.lookup x = some .local := by first | exact .inl rfl | exact .inr rfl | assumption) :
    VS X G (.Assign [.Name x pos'] e pos) (sSet i t) :=
  PS.weak (ps_set hN hi hx he hs hf) fun E σ H ⟨δ, M, ι, E0, S, q, z⟩ => ⟨δ, M, ι, _, S, q, fun d M' ι' H' v q' p' k' S' r' => z.nx _ M' ι' _ H' q' p' k' (S'.set r')⟩
theorem vs_if (hc : VT X G c tc) (ha : VSs X G ss s) (hb : VSs X G ss' u) : VS X G (.If c ss ss' pos) (sIf tc s u) :=
  PS.weak (ps_if hc ha hb) fun E σ H ⟨δ, M, ι, E0, S, q, z⟩ => ⟨δ, M, ι, _, S, q, fun b M' ι' H' q' p' k' S' => by
    cases b with
    | true => exact ⟨δ, M', ι', E0, S', q', z.to p' k'⟩
    | false => exact ⟨δ, M', ι', E0, S', q', z.to p' k'⟩⟩
end
abbrev TG' := D → DS → Mem → (DS → Mem → Prop) → Prop
def lG (K : PySem.W.Frag) (G : Gd) (t : TG') : TG := fun v σ H Q => ∃ d δ M ι Q0, Sr K G δ M ι σ H ∧ RD K G.N H ι d v ∧ t d δ M Q0 ∧
  ∀ δ' M' ι' σ' H', Q0 δ' M' → Ex ι ι' → Kp ι H ι' H' → Sr K G δ' M' ι' σ' H' → Q σ' H'
abbrev VG (X : Cx) (G : Gd) (e : Expr) (t : TG') : Prop := PG X e (lG X.K G t)
def gNm (i : Nat) : TG' := fun d δ M Q => Q (δ.set i (some (.d d))) M
/-- names for a tuple's items -/
def setAll : List Nat → List D → DS → Option DS
  | [], [], δ => some δ
  | i :: is, d :: ds, δ => setAll is ds (δ.set i (some (.d d)))
  | _, _, _ => none
def gTp (is : List Nat) : TG' := fun d δ M Q => match d with
  | .tup ds => ok (setAll is ds δ) fun δ' => Q δ' M
  | _ => False
section
variable {K : PySem.W.Frag} {X : Cx} {G : Gd} {e a b c : Expr} {es : List Expr} {pos : Pos}
theorem vg_name {i : Nat} {x : Str} (hN : X.N.Nodup) (hi : X.N[i]? = some x) (hx : Loc X.env.scope x) (hf : X.fn x = true ∨ X.env.scope.names.lookup x = some .local := by first | exact .inl rfl | exact .inr rfl | assumption) : VG X G (.Name x pos) (gNm i) := by
  have h := pg_name (pos := pos) hN hi hx hf
  refine ⟨fun pins s σ H v u Q I r ⟨d, δ, M, ι, Q0, S, rd, q, z⟩ => h.run pins s σ H v u Q I r ?_⟩
  exact z _ M ι _ H q (Ex.refl _) (Kp.refl _ _) (S.set (d := .d d) rd)
theorem setAll_len : ∀ {is : List Nat} {ds : List D} {δ δ' : DS}, setAll is ds δ = some δ' → ds.length = is.length
  | [], [], _, _, _ => rfl
  | [], _ :: _, _, _, h => by cases h
  | _ :: _, [], _, _, h => by cases h
  | i :: is, d :: ds, δ, δ', h => by simp [setAll_len (is := is) h]
/-- target = value -/
def sAsg (t : TE') (g : TG') : TS' := fun E δ M => t δ M fun s M' => ok (dataS s) fun d => g d δ M' E.nx
end
end VL
set_option Elab.async false
set_option linter.all false
set_option maxRecDepth 100000
set_option maxHeartbeats 4000000
namespace VL
open PySem PySem.Spec L2
abbrev TI' := DS → Mem → (List D → (Mem → Prop) → Mem → Prop) → Prop
/-- at each turn, while gd stands, the iterator J gives the next of ds -/
def IterD (K : PySem.W.Frag) (G : Gd) (ι : Ix) (H : Hp) (J : It) (ds : List D) (gd : Mem → Prop) : Prop :=
  ∀ (G2 : Gd) (δ2 : DS) (M2 : Mem) (ι2 : Ix) (σ2 : L2.St) (H2 : Hp), (∀ b a o, H a = some o → G.N b a → G2.N b a) → Sr K G2 δ2 M2 ι2 σ2 H2 → Ex ι ι2 → Kp ι H ι2 H2 → gd M2 →
    J.stop ds.length H2 ∧ ∀ i d, ds[i]? = some d → J.go i H2 ∧ ∀ x H3, J.yld i H2 x H3 → (H3 = H2 ∨ ∃ p o, H2 p = none ∧ H3 = upd H2 p o) ∧ Sr K G2 δ2 M2 ι2 σ2 H3 ∧ Kp ι2 H2 ι2 H3 ∧ RD K G2.N H3 ι2 d x
def lI (K : PySem.W.Frag) (G : Gd) (bd : Bool) (it : TI') : TI := fun σ H R => ∃ δ M ι Q0, Sr K G δ M ι σ H ∧ it δ M Q0 ∧
  ∀ ds gd M' ι' H' J, (bd = true → ds.length ≤ sizeLine) → Q0 ds gd M' → Ex ι ι' → Kp ι H ι' H' → Sr K G δ M' ι' σ H' → IterD K G ι' H' J ds gd → R J H'
abbrev VI (X : Cx) (G : Gd) (bd : Bool) (tg e : Expr) (it : TI') : Prop := PI X tg e (lI X.K G bd it)
/-- the turns of a for; k: how many changing objects there were -/
def forL (k : Nat) (g : TG') (b : TS') (E : Ends') (gd : Mem → Prop) : List D → DS → Mem → Prop
  | [], δ, M => gd M ∧ E.nx δ M
  | d :: ds, δ, M => gd M ∧ g d δ M fun δ1 M1 => b ⟨fun δ' M' => forL k g b E gd ds (gcS k δ') (M'.take k), E.rt, E.nx, fun δ' M' => forL k g b E gd ds (gcS k δ') (M'.take k)⟩ δ1 M1
def sFor (it : TI') (g : TG') (b : TS') : TS' := fun E δ M => it δ M fun ds gd M' => forL M'.length g b E gd ds δ M'
section
variable {K : PySem.W.Frag} {X : Cx} {G : Gd} {e a b c tg iter elt : Expr} {st : Stmt} {body : List Stmt} {es : List Expr} {pos : Pos} {ta tb t : TE'} {tc : TT'} {s u : TS'} {it : TI'} {g : TG'}
theorem Sr.i0len {δ : DS} {M : Mem} {ι : Ix} {σ : L2.St} {H : Hp} (S : Sr K G δ M ι σ H) : G.i0.length ≤ M.length := by
  rw [S.mem.len]
  cases q : G.i0.length with
  | zero => exact Nat.zero_le _
  | succ n =>
    have h : n < G.i0.length := by omega
    exact (List.getElem?_eq_some_iff.mp (S.pre n _ (List.getElem?_eq_getElem h))).1
theorem ex_take {a b : Ix} (h : Ex a b) : Ex a (b.take a.length) := fun n o e => by
  have hlt := (List.getElem?_eq_some_iff.mp e).1
  rw [List.getElem?_take, if_pos hlt]; exact h n o e
theorem vs_for {bd : Bool} (hp : PassesOwn (model X.prog X.w) X.A X.env X.xe) (hc : X.calm = true) (hi : VI X G bd tg iter it) (hg : VG X G tg g) (hb : VSs X G body s)
    (hs : ∀ x, foldedSetIterable iter X.env x = pure x := by intro _; rfl) : VS X G (.For tg iter body [] pos) (sFor it g s) := by
  refine PS.weak (ps_for hp hc hi hg hb hs) fun E σ H ⟨δ, M, ι, E0, S, q, z⟩ => ?_
  refine ⟨δ, M, ι, _, S, q, fun ds gd M' ι' H' J _ q1 p1 k1 S1 hJ => ?_⟩
  have hk : G.i0.length ≤ M'.length := S1.i0len
  have hlen : M'.length = ι'.length := S1.mem.len
  refine ⟨fun i m σ2 H2 => m = ds.length - i ∧ i ≤ ds.length ∧ ∃ δ2 M2 ι2, Sr X.K G δ2 M2 ι2 σ2 H2 ∧ Ex ι' ι2 ∧ Kp ι' H' ι2 H2 ∧ forL M'.length g s E0 gd (ds.drop i) δ2 M2,
    ⟨ds.length, by simp, Nat.zero_le _, δ, M', ι', S1, Ex.refl _, Kp.refl _ _, by simpa using q1⟩, ?_⟩
  rintro i m σ2 H2 ⟨rfl, hi, δ2, M2, ι2, S2, e2, k2, q2⟩
  by_cases hlt : i < ds.length
  · have hd : ds.drop i = ds[i] :: ds.drop (i + 1) := List.drop_eq_getElem_cons hlt
    rw [hd] at q2
    obtain ⟨hgd, q2⟩ := q2
    obtain ⟨_, hgo⟩ := hJ G δ2 M2 ι2 σ2 H2 (fun _ _ _ _ z => z) S2 e2 k2 hgd
    obtain ⟨go, hy⟩ := hgo i ds[i] (List.getElem?_eq_getElem hlt)
    refine .inr ⟨go, fun σ3 H3 => ∃ δ3 M3 ι3, Sr X.K G δ3 M3 ι3 σ3 H3 ∧ Ex ι' ι3 ∧ Kp ι' H' ι3 H3 ∧ forL M'.length g s E0 gd (ds.drop (i + 1)) δ3 M3, fun σ3 H3 h3 => ⟨ds.length - (i + 1), by omega, rfl, hlt, h3⟩, fun x H3 y3 => ?_⟩
    obtain ⟨_, S3, k3, r3⟩ := hy x H3 y3
    refine ⟨_, δ2, M2, ι2, _, S3, r3, q2, fun δ4 M4 ι4 σ4 H4 q4 e4 k4 S4 => ?_⟩
    -- the state at the body's start: names since the loop's start
    have fin : ∀ δ5 M5 ι5 σ5 H5, Sr X.K G δ5 M5 ι5 σ5 H5 → Ex ι' ι5 → Kp ι' H' ι5 H5 → forL M'.length g s E0 gd (ds.drop (i + 1)) (gcS M'.length δ5) (M5.take M'.length) →
        ∃ δ3 M3 ι3, Sr X.K G δ3 M3 ι3 σ5 H5 ∧ Ex ι' ι3 ∧ Kp ι' H' ι3 H5 ∧ forL M'.length g s E0 gd (ds.drop (i + 1)) δ3 M3 := fun δ5 M5 ι5 σ5 H5 S5 e5 k5 q5 => by
      refine ⟨_, _, _, S5.gc M'.length hk, ?_, k5.trans (Kp.take _), q5⟩
      rw [hlen]; exact ex_take e5
    have Z := z
    refine ⟨δ4, M4, ι4, _, S4, q4, ⟨fun δ5 M5 ι5 σ5 H5 q5 e5 k5 S5 => ?_, fun d5 δ5 M5 ι5 σ5 H5 v5 q5 S5 r5 => ?_, fun δ5 M5 ι5 σ5 H5 q5 e5 k5 S5 => ?_, fun δ5 M5 ι5 σ5 H5 q5 e5 k5 S5 => ?_⟩⟩
    · exact fin δ5 M5 ι5 σ5 H5 S5 ((e2.trans e4).trans e5) (((k2.trans k3).trans k4).trans k5) q5
    · exact z.rt d5 δ5 M5 ι5 σ5 H5 v5 q5 S5 r5
    · exact z.nx δ5 M5 ι5 σ5 H5 q5 (p1.trans ((e2.trans e4).trans e5)) (k1.trans (((k2.trans k3).trans k4).trans k5)) S5
    · exact fin δ5 M5 ι5 σ5 H5 S5 ((e2.trans e4).trans e5) (((k2.trans k3).trans k4).trans k5) q5
  · have hd : ds.drop i = [] := List.drop_eq_nil_of_le (by omega)
    rw [hd] at q2
    obtain ⟨hgd, q2⟩ := q2
    obtain ⟨hst, _⟩ := hJ G δ2 M2 ι2 σ2 H2 (fun _ _ _ _ z => z) S2 e2 k2 hgd
    have e : i = ds.length := by omega
    subst e
    exact .inl ⟨hst, z.nx δ2 M2 ι2 σ2 H2 q2 (p1.trans e2) (k1.trans k2) S2⟩
end
end VL
set_option Elab.async false
set_option linter.all false
set_option maxRecDepth 100000
set_option maxHeartbeats 4000000
namespace VL
open PySem PySem.Spec L2 RT RZ
def gdS (s : Sv) (ds : List D) : Mem → Prop := match s with
  | .ref n => fun M => cellL M[n]? = some ds
  | _ => fun _ => True
def gdT : Mem → Prop := fun _ => True
/-- over a sequence -/
def iSq (t : TE') : TI' := fun δ M Q => t δ M fun s M1 => ok (lstD M1 s) fun ds => Q ds (gdS s ds) M1
def iPq (p : PV) : TI' := fun δ M Q => ok (p δ M) fun s => ok (seqD M s) fun ds => Q ds (gdS s ds) M
def rgL (lo : Int) (n : Nat) : List D := (List.range n).map fun i => .int (lo + (i : Nat))
def rgC (lo c : Int) (n : Nat) : List D := (List.range n).map fun i => .int (lo + (i : Nat) * c)
abbrev I62 (i : Int) : Prop := -(2 ^ 62) ≤ i ∧ i < 2 ^ 62
def rngD : List Sv → (List D → Prop) → Prop
  | [.d (.int j)], k => I62 j ∧ k (rgL 0 j.toNat)
  | [.d (.int i), .d (.int j)], k => (I62 i ∧ I62 j) ∧ k (rgL i (j - i).toNat)
  | [.d (.int i), .d (.int j), .d (.int c)], k => (c ≠ 0 ∧ c.natAbs < 1073741824 ∧ Builtin.Range.small i j c = true) ∧ k (rgC i c (Builtin.Range.rangeSize i j c).toNat)
  | _, _ => False
def iRg (bd : Bool) (t : TA') : TI' := fun δ M Q => t δ M fun xs M1 => rngD xs fun ds => (bd = true → ds.length ≤ sizeLine) ∧ Q ds gdT M1
def zipL (as bs : List D) : List D := (as.zip bs).map fun p => .tup [p.1, p.2]
def tupD : Sv → Option (List D)
  | .d (.tup ds) => some ds
  | _ => none
section
variable {K : PySem.W.Frag} {X : Cx} {G : Gd} {e e2 a b c tg iter elt : Expr} {es : List Expr} {pos p : Pos} {ta tb t : TE'} {it : TI'}
theorem VI.weak {bd : Bool} {it' : TI'} (h : VI X G bd tg e it) (w : ∀ δ M Q, it' δ M Q → it δ M Q) : VI X G bd tg e it' :=
  ⟨fun pins s σ H R I ⟨δ, M, ι, Q0, S, q, z⟩ => h.run pins s σ H R I ⟨δ, M, ι, Q0, S, w _ _ _ q, z⟩⟩
/-- a list stays to be read -/
theorem list_stays {ι : Ix} {H : Hp} {δ : DS} {M : Mem} {σ : L2.St} {s : Sv} {v : V} {ds : List D} (S : Sr K G δ M ι σ H) (r : RS K G.N H ι s v) (e : lstD M s = some ds) :
    ∃ a, v = .ref a ∧ (∃ xs, SqL K H a xs ∧ RDs K G.N H ι ds xs) ∧ ds.length ≤ sizeLine ∧ ∀ (G2 : Gd) (δ2 : DS) (M2 : Mem) (ι2 : Ix) (σ2 : L2.St) (H2 : Hp), (∀ b a o, H a = some o → G.N b a → G2.N b a) → Sr K G2 δ2 M2 ι2 σ2 H2 → Ex ι ι2 → Kp ι H ι2 H2 → gdS s ds M2 → ∃ xs, SqL K H2 a xs ∧ RDs K G2.N H2 ι2 ds xs := by
  cases s with
  | ref n =>
    obtain ⟨a, rfl, hn, xs, q, hl, r⟩ := S.mem.at r (cellL_some (show cellL M[n]? = some ds from e)) (fun z => nomatch z)
    refine ⟨a, rfl, ⟨xs, SqL.of q, r⟩, hl, fun G2 δ2 M2 ι2 σ2 H2 hn2 S2 e2 k2 hg => ?_⟩
    have hM := cellL_some (show cellL M2[n]? = some ds from hg)
    rcases e2 n _ hn with h | h
    · obtain ⟨xs2, q2, _, r2⟩ := S2.mem.cell n _ a hM h
      exact ⟨xs2, SqL.of q2, r2⟩
    · rw [S2.mem.gone n h] at hM; cases hM
  | bor es =>
    cases e
    obtain ⟨a, xs, rfl, q, n, _, hl, r⟩ := r
    exact ⟨a, rfl, ⟨xs, SqL.of q, r⟩, hl, fun G2 δ2 M2 ι2 σ2 H2 hn2 S2 e2 k2 hg => ⟨xs, SqL.of (k2 a _ q n).1, r.mono k2 hn2⟩⟩
  | d d =>
    cases d with
    | lst es =>
      cases e
      obtain ⟨a, xs, rfl, q, n, _, hl, r⟩ := r
      exact ⟨a, rfl, ⟨xs, SqL.of q, r⟩, hl, fun G2 δ2 M2 ι2 σ2 H2 hn2 S2 e2 k2 hg => ⟨xs, SqL.of (k2 a _ q n).1, r.mono k2 hn2⟩⟩
    | scr ns =>
      cases e
      obtain ⟨a, rfl, ⟨o, q, n⟩ | q, hl⟩ := r
      · exact ⟨a, rfl, ⟨_, .inl (.inr ⟨o, q⟩), RDs.of_ints ns⟩, by simpa using hl, fun G2 δ2 M2 ι2 σ2 H2 hn2 S2 e2 k2 hg => ⟨_, .inl (.inr ⟨o, (k2 a _ q n).1⟩), RDs.of_ints ns⟩⟩
      · exact ⟨a, rfl, ⟨_, .inr q, RDs.of_ints ns⟩, by simpa using hl, fun G2 δ2 M2 ι2 σ2 H2 hn2 S2 e2 k2 hg => ⟨_, .inr q, RDs.of_ints ns⟩⟩
    | _ => cases e
theorem tup_stays {ι : Ix} {H : Hp} {v : V} {ds : List D} (r : RD K G.N H ι (.tup ds) v) :
    ∃ a, v = .ref a ∧ (∃ xs, SqT K H a xs) ∧ ds.length ≤ sizeLine ∧ ∀ (G2 : Gd) (ι2 : Ix) (H2 : Hp), (∀ b a o, H a = some o → G.N b a → G2.N b a) → Kp ι H ι2 H2 → ∃ xs, SqT K H2 a xs ∧ RDs K G2.N H2 ι2 ds xs := by
  obtain ⟨a, xs, rfl, q, hl, r⟩ := r
  refine ⟨a, rfl, ⟨xs, tup_sq q⟩, hl, fun G2 ι2 H2 hn2 k2 => ⟨xs, ?_, r.mono k2 hn2⟩⟩
  rcases q with ⟨q, n⟩ | q
  · exact SqT.of (k2 a _ q n).1
  · exact .inr q
theorem iter_l {ι : Ix} {H : Hp} {a : Addr} {ds : List D} {gd : Mem → Prop}
    (h : ∀ (G2 : Gd) (δ2 : DS) (M2 : Mem) (ι2 : Ix) (σ2 : L2.St) (H2 : Hp), (∀ b a o, H a = some o → G.N b a → G2.N b a) → Sr K G2 δ2 M2 ι2 σ2 H2 → Ex ι ι2 → Kp ι H ι2 H2 → gd M2 → ∃ xs, SqL K H2 a xs ∧ RDs K G2.N H2 ι2 ds xs) : IterD K G ι H (Itl K a) ds gd := by
  intro G2 δ2 M2 ι2 σ2 H2 hn2 S2 e2 k2 hg
  obtain ⟨xs, q, r⟩ := h G2 δ2 M2 ι2 σ2 H2 hn2 S2 e2 k2 hg
  refine ⟨⟨xs, q, by rw [r.length]; exact Nat.le_refl _⟩, fun i d hd => ?_⟩
  obtain ⟨v, hv, rv⟩ := r.get hd
  refine ⟨⟨xs, v, q, hv⟩, fun x H3 y => ?_⟩
  obtain ⟨rfl, y⟩ := y
  have : x = v := Option.some.inj ((y xs q).symm.trans hv)
  subst this
  exact ⟨.inl rfl, S2, Kp.refl _ _, rv⟩
theorem iter_t {ι : Ix} {H : Hp} {a : Addr} {ds : List D} {gd : Mem → Prop}
    (h : ∀ (G2 : Gd) (ι2 : Ix) (H2 : Hp), (∀ b a o, H a = some o → G.N b a → G2.N b a) → Kp ι H ι2 H2 → ∃ xs, SqT K H2 a xs ∧ RDs K G2.N H2 ι2 ds xs) : IterD K G ι H (Itt K a) ds gd := by
  intro G2 δ2 M2 ι2 σ2 H2 hn2 S2 e2 k2 hg
  obtain ⟨xs, q, r⟩ := h G2 ι2 H2 hn2 k2
  refine ⟨⟨xs, q, by rw [r.length]; exact Nat.le_refl _⟩, fun i d hd => ?_⟩
  obtain ⟨v, hv, rv⟩ := r.get hd
  refine ⟨⟨xs, v, q, hv⟩, fun x H3 y => ?_⟩
  obtain ⟨rfl, y⟩ := y
  have : x = v := Option.some.inj ((y xs q).symm.trans hv)
  subst this
  exact ⟨.inl rfl, S2, Kp.refl _ _, rv⟩
/-- a list -/
theorem vi_sq {bd : Bool} (h : VE X G e t) : VI X G bd tg e (iSq t) := by
  have hi := pi_list (tg := tg) h
  refine ⟨fun pins s σ H R I ⟨δ, M, ι, Q0, S, q, z⟩ => hi.run pins s σ H R I ?_⟩
  refine th1 S q fun x M1 ι1 H1 v q1 p1 k1 S1 r1 => ?_
  obtain ⟨ds, e1, q1⟩ := ok_elim q1
  obtain ⟨a, rfl, ⟨xs, hq, _⟩, hl, st⟩ := list_stays S1 r1 e1
  exact ⟨a, rfl, ⟨xs, hq⟩, z ds _ M1 ι1 H1 _ (fun _ => hl) q1 p1 k1 S1 (iter_l st)⟩
/-- a list or a tuple, known ahead -/
theorem vi_pq {bd : Bool} {pv : PV} (h : VE X G e (eP pv)) : VI X G bd tg e (iPq pv) := by
  have hi := pi_list (tg := tg) h
  have ht := pi_tup (tg := tg) h
  refine ⟨fun pins s σ H R I ⟨δ, M, ι, Q0, S, q, z⟩ => ?_⟩
  obtain ⟨x, e1, q⟩ := ok_elim q
  obtain ⟨ds, e2, q⟩ := ok_elim q
  by_cases hx : ∃ es, x = .d (.tup es)
  · obtain ⟨es, rfl⟩ := hx
    cases e2
    refine ht.run pins s σ H R I ?_
    refine th1 (Q0 := fun d M' => d = .d (.tup ds) ∧ M' = M) S (ok_of e1 ⟨rfl, rfl⟩) fun x M1 ι1 H1 v q1 p1 k1 S1 r1 => ?_
    obtain ⟨rfl, rfl⟩ := q1
    obtain ⟨a, rfl, hq, hl, st⟩ := tup_stays (K := X.K) (G := G) r1
    exact ⟨a, rfl, hq, z ds _ M1 ι1 H1 _ (fun _ => hl) q p1 k1 S1 (iter_t st)⟩
  · have e3 : lstD M x = some ds := by
      cases x with
      | d x =>
        cases x with
        | tup es => exact absurd ⟨es, rfl⟩ hx
        | lst es => exact e2
        | scr es => exact e2
        | _ => cases e2
      | ref n => exact e2
      | bor n => exact e2
    refine hi.run pins s σ H R I ?_
    refine th1 (Q0 := fun d M' => d = x ∧ M' = M) S (ok_of e1 ⟨rfl, rfl⟩) fun x M1 ι1 H1 v q1 p1 k1 S1 r1 => ?_
    obtain ⟨rfl, rfl⟩ := q1
    obtain ⟨a, rfl, ⟨xs, hq, _⟩, hl, st⟩ := list_stays S1 r1 e3
    exact ⟨a, rfl, ⟨xs, hq⟩, z ds _ M1 ι1 H1 _ (fun _ => hl) q p1 k1 S1 (iter_l st)⟩
theorem rg_get {lo : Int} {n i : Nat} {d : D} (h : (rgL lo n)[i]? = some d) : i < n ∧ d = .int (lo + (i : Nat)) := by
  unfold rgL at h
  rw [List.getElem?_map] at h
  obtain ⟨j, h1, rfl⟩ := Option.map_eq_some_iff.mp h
  obtain ⟨h2, h3⟩ := List.getElem?_eq_some_iff.mp h1
  simp at h2 h3
  subst h3
  exact ⟨h2, rfl⟩
theorem rgL_len (lo : Int) (n : Nat) : (rgL lo n).length = n := by simp [rgL]
theorem iter_r {ι : Ix} {H : Hp} {lo : Int} {n : Nat} {gd : Mem → Prop} : IterD K G ι H (Itr lo n) (rgL lo n) gd := by
  intro G2 δ2 M2 ι2 σ2 H2 hn2 S2 e2 k2 hg
  refine ⟨by rw [rgL_len]; exact Nat.le_refl _, fun i d hd => ?_⟩
  obtain ⟨h1, rfl⟩ := rg_get hd
  refine ⟨h1, fun x H3 y => ?_⟩
  obtain ⟨rfl, rfl⟩ := y
  exact ⟨.inl rfl, S2, Kp.refl _ _, rfl⟩
theorem len2 {α : Type} {xs : List α} (h : xs.length = 2) : ∃ x y, xs = [x, y] := by
  match xs, h with
  | [x, y], _ => exact ⟨x, y, rfl⟩
theorem vi_range1 {bd : Bool} {tA : TA'} (hg : Gl X "range") (hm : X.mg "range" = none) (ha : VA X G [a] 1 tA) (hs : starEach [a] X.env = [(false, eval a X.env)] := by rfl) : VI X G bd tg (.Call (.Name "range" p) [a] [] pos) (iRg bd tA) := by
  have hi := pi_range1 (tg := tg) (p := p) (pos := pos) hg hm ha hs
  refine ⟨fun pins s σ H R I ⟨δ, M, ι, Q0, S, q, z⟩ => hi.run pins s σ H R I ?_⟩
  refine thA S q fun xs M1 ι1 H1 vs hl q1 p1 k1 S1 r1 => ?_
  obtain ⟨x, rfl⟩ : ∃ x, xs = [x] := List.length_eq_one_iff.mp hl
  obtain ⟨v, rfl, rv⟩ := one_of r1
  unfold rngD at q1
  split at q1
  · rename_i j hj
    cases hj
    cases (show _ = _ from rv)
    exact ⟨_, rfl, q1.1.1, q1.1.2, z _ _ M1 ι1 H1 _ q1.2.1 q1.2.2 p1 k1 S1 iter_r⟩
  · rename_i hj; cases hj
  · rename_i hj; cases hj
  · exact q1.elim
theorem fin_pair {δ : DS} {M : Mem} {ι : Ix} {σ : L2.St} {H : Hp} {d1 d2 : D} {x y : V} {p : Addr} (S : Sr K G δ M ι σ H) (hp : H p = none) (r1 : RD K G.N H ι d1 x) (r2 : RD K G.N H ι d2 y) :
    Sr K G δ M ι σ (upd H p (.tup [x, y])) ∧ Kp ι H ι (upd H p (.tup [x, y])) ∧ RD K G.N (upd H p (.tup [x, y])) ι (.tup [d1, d2]) (.ref p) := by
  refine ⟨S.laid hp, Kp.laid hp, p, [x, y], rfl, .inl ⟨upd_same, S.mem.fresh hp⟩, by show 2 ≤ sizeLine; decide, x, [y], rfl, RD.mono (Kp.laid hp) (fun _ _ _ _ z => z) _ _ r1, y, [], rfl, RD.mono (Kp.laid hp) (fun _ _ _ _ z => z) _ _ r2, rfl⟩
theorem zip_get {as bs : List D} {i : Nat} {d : D} (h : (zipL as bs)[i]? = some d) : ∃ d1 d2, as[i]? = some d1 ∧ bs[i]? = some d2 ∧ d = .tup [d1, d2] := by
  unfold zipL at h
  rw [List.getElem?_map] at h
  obtain ⟨⟨d1, d2⟩, h1, rfl⟩ := Option.map_eq_some_iff.mp h
  rw [List.getElem?_zip_eq_some] at h1
  exact ⟨d1, d2, h1.1, h1.2, rfl⟩
end
end VL
set_option Elab.async false
set_option linter.all false
set_option maxRecDepth 100000
set_option maxHeartbeats 4000000
namespace VL
open PySem PySem.Spec L2 RT RZ
def wipeS (δ : DS) : List Nat → DS
  | [] => δ
  | v :: vs => (wipeS δ vs).set v none
/-- a target in a comprehension -/
inductive LcG where
  | nm (i : Nat) | tp (is : List Nat)
def LcG.names : LcG → List Nat
  | .nm i => [i]
  | .tp is => is
def LcG.to : LcG → TG'
  | .nm i => gNm i
  | .tp is => gTp is
def lcL (g : TG') (tt : TT') (te : TE') (δw : DS) (gd : Mem → Prop) (Q : List D → Mem → Prop) : List D → List D → Mem → Prop
  | [], acc, M => gd M ∧ Q acc M
  | d :: ds, acc, M => gd M ∧ g d δw M fun δ2 M2 => tt δ2 M2 fun b M3 =>
      if b then te δ2 M3 fun s M4 => ok (dataS s) fun y => lcL g tt te δw gd Q ds (acc ++ [y]) M4 else lcL g tt te δw gd Q ds acc M3
def fLc (it : TI') (g : LcG) (tt : TT') (te : TE') (vs : List Nat) : TF' := fun δ M Q => it δ M fun ds gd M1 => lcL g.to tt te (wipeS δ vs) gd Q ds [] M1
def tYs : TT' := fun _ M Q => Q true M
section
variable {K : PySem.W.Frag} {X : Cx} {G : Gd} {δ : DS} {M : Mem} {ι : Ix} {σ : L2.St} {H H' : Hp}
theorem wipe_get (σ : L2.St) (j : Nat) : ∀ vs : List Nat, (wipe σ vs)[j]? = if j ∈ vs then (σ[j]?).map (fun _ => none) else σ[j]?
  | [] => by simp [wipe]
  | v :: vs => by
    unfold wipe
    have ih := wipe_get σ j vs
    by_cases h : v = j
    · subst h
      rw [if_pos List.mem_cons_self, List.getElem?_set_self']
      rw [ih]
      split <;> cases σ[v]? <;> rfl
    · rw [List.getElem?_set_ne h, ih]
      have : (j ∈ v :: vs) ↔ j ∈ vs := by simp [Ne.symm h]
      simp only [this]
theorem wipeS_get (σ : DS) (j : Nat) : ∀ vs : List Nat, (wipeS σ vs)[j]? = if j ∈ vs then (σ[j]?).map (fun _ => none) else σ[j]?
  | [] => by simp [wipeS]
  | v :: vs => by
    unfold wipeS
    have ih := wipeS_get σ j vs
    by_cases h : v = j
    · subst h
      rw [if_pos List.mem_cons_self, List.getElem?_set_self']
      rw [ih]
      split <;> cases σ[v]? <;> rfl
    · rw [List.getElem?_set_ne h, ih]
      have : (j ∈ v :: vs) ↔ j ∈ vs := by simp [Ne.symm h]
      simp only [this]
theorem wipe_set (σ : L2.St) (vs : List Nat) {i : Nat} (x : Option V) (hi : i ∈ vs) : wipe (σ.set i x) vs = wipe σ vs := by
  apply List.ext_getElem?
  intro j
  rw [wipe_get, wipe_get]
  by_cases h : i = j
  · subst h
    rw [if_pos hi, if_pos hi, List.getElem?_set_self']
    cases σ[i]? <;> rfl
  · rw [List.getElem?_set_ne h]
theorem Sr.wiped (S : Sr K G δ M ι σ H) (vs : List Nat) : Sr K G (wipeS δ vs) M ι (wipe σ vs) H := by
  refine ⟨?_, fun i d e => ?_, S.mem, S.pre, S.kp, S.new, S.bad, S.hid, S.obk⟩
  · have h2 : (wipeS δ vs).length = δ.length := by
      induction vs with
      | nil => rfl
      | cons v vs ih => unfold wipeS; rw [List.length_set, ih]
    rw [wipe_length, h2]; exact S.len
  · rw [wipeS_get] at e
    split at e
    · cases q : δ[i]? with
      | none => rw [q] at e; cases e
      | some o => rw [q] at e; cases e
    · rename_i hn
      obtain ⟨v, e1, r⟩ := S.slot i d e
      exact ⟨v, by rw [wipe_get, if_neg hn]; exact e1, r⟩
/-- behind the block: the slots of the def again -/
theorem Sr.back {δ' : DS} {M' : Mem} {ι' : Ix} {σ' : L2.St} (S : Sr K G δ M ι σ H) (S' : Sr K G δ' M' ι' σ' H') (p : Ex ι ι') (k : Kp ι H ι' H') : Sr K G δ M' ι' σ H' :=
  ⟨S.len, fun i d e => by
    obtain ⟨v, e1, r⟩ := S.slot i d e
    exact ⟨v, e1, r.mono k p fun _ _ _ _ z => z⟩, S'.mem, S'.pre, S'.kp, S'.new, S'.bad, S'.hid, S'.obk⟩
/-- the ground while a list at p is just being made -/
def Gd.hide (G : Gd) (p : Addr) : Gd := { G with Hd := fun a => G.Hd a ∨ a = p }
mutual
theorem RD.hide {N N' : Bool → Addr → Prop} {H' : Hp} (hk : ∀ a o, H a = some o → (∀ xs, o = .lst xs → (∃ b, N b a)) → H' a = some o) (hn : ∀ b a o, H a = some o → N b a → N' b a) : ∀ (d : D) (v : V), RD K N H ι d v → RD K N' H' ι d v
  | .non, _, h => h
  | .bl _, _, h => h
  | .int _, _, h => h
  | .str _, _, h => h
  | .fn _, _, h => h
  | .ty _, _, h => h
  | .cls _, _, h => h
  | .exc _ f, v, h => by
    obtain ⟨a, oe, vs, e, q, n, c, d, x⟩ := h
    exact ⟨a, oe, vs, e, hk a _ q (fun xs z => nomatch z), n, c, d, x.map fun b o l q n => ⟨hk b _ q (fun xs z => nomatch z), n⟩⟩
  | .dn ks ds, v, h => by
    obtain ⟨a, xs, o, e, q, n, z, r1, r2⟩ := h
    exact ⟨a, xs, o, e, hk a _ q (fun xs z => nomatch z), n, z, RDs.hide hk hn ks _ r1, RDs.hide hk hn ds _ r2⟩
  | .dk ks ds, v, h => by
    obtain ⟨a, ws, o, e, q, n, z, r⟩ := h
    exact ⟨a, ws, o, e, hk a _ q (fun xs z => nomatch z), n, z, RDs.hide hk hn ds _ r⟩
  | .scr ns, v, h => by
    obtain ⟨a, e, ⟨o, q, n⟩ | q, l⟩ := h
    · exact ⟨a, e, .inl ⟨o, hk a _ q (fun xs z => nomatch z), n⟩, l⟩
    · exact ⟨a, e, .inr q, l⟩
  | .tup ds, v, h => by
    obtain ⟨a, xs, e, q, l, r⟩ := h
    refine ⟨a, xs, e, ?_, l, RDs.hide hk hn ds xs r⟩
    rcases q with ⟨q, n⟩ | q
    · exact .inl ⟨hk a _ q (fun xs z => nomatch z), n⟩
    · exact .inr q
  | .lst ds, v, h => by
    obtain ⟨a, xs, e, q, n, z, l, r⟩ := h
    exact ⟨a, xs, e, hk a _ q (fun _ _ => ⟨_, z⟩), n, hn _ a _ q z, l, RDs.hide hk hn ds xs r⟩
theorem RDs.hide {N N' : Bool → Addr → Prop} {H' : Hp} (hk : ∀ a o, H a = some o → (∀ xs, o = .lst xs → (∃ b, N b a)) → H' a = some o) (hn : ∀ b a o, H a = some o → N b a → N' b a) : ∀ (ds : List D) (vs : List V), RDs K N H ι ds vs → RDs K N' H' ι ds vs
  | [], _, h => h
  | d :: ds, vs, h => by
    obtain ⟨x, r, e, h1, h2⟩ := h
    exact ⟨x, r, e, RD.hide hk hn d x h1, RDs.hide hk hn ds r h2⟩
end
theorem RIs.hide {N N' : Bool → Addr → Prop} {H' : Hp} (hk : ∀ a o, H a = some o → (∀ xs, o = .lst xs → (∃ b, N b a)) → H' a = some o) (hn : ∀ b a o, H a = some o → N b a → N' b a) : ∀ {its : List (D ⊕ Nat)} {vs : List V}, RIs K N H ι its vs → RIs K N' H' ι its vs
  | [], _, h => h
  | .inl d :: its, vs, h => by
    obtain ⟨x, r, e, h1, h2⟩ := h
    exact ⟨x, r, e, RD.hide hk hn d x h1, RIs.hide hk hn h2⟩
  | .inr n :: its, vs, h => by
    obtain ⟨x, r, e, h1, h2⟩ := h
    exact ⟨x, r, e, h1, RIs.hide hk hn h2⟩
/-- the state seen otherwise: all things of it stay, the ground changes in what is hidden -/
theorem Sr.hideG {G' : Gd} {H' : Hp} (S : Sr K G δ M ι σ H) (g1 : G'.He = G.He) (g2 : G'.i0 = G.i0) (g3 : G'.B = G.B) (hk : ∀ a o, H a = some o → (∀ xs, o = .lst xs → (∃ b, G.N b a) ∨ some a ∈ ι) → H' a = some o) (hn : ∀ b a o, H a = some o → G.N b a → G'.N b a)
    (kp : Kp (G.i0.map some) G.He ι H') (hid : ∀ a, G'.Hd a → some a ∉ ι ∧ ∃ o, H' a = some o) : Sr K G' δ M ι σ H' := by
  have hk' : ∀ a o, H a = some o → (∀ xs, o = .lst xs → (∃ b, G.N b a)) → H' a = some o := fun a o e z => hk a o e fun xs h => .inl (z xs h)
  refine ⟨S.len, fun i d e => ?_, ⟨S.mem.len, S.mem.nod, fun n c a e1 e2 => ?_, S.mem.gone, S.mem.wf⟩, by rw [g2]; exact S.pre, by rw [g1, g2]; exact kp, by rw [g1, g2]; exact S.new, by rw [g1, g3]; exact S.bad, hid, by
    rw [g1, g2]
    refine S.obk.trans fun a ha => ?_
    obtain ⟨n, hn⟩ := List.getElem?_of_mem ha
    have hi := List.mem_of_getElem? (S.pre n a hn)
    obtain ⟨u, hu⟩ := S.i0there a ha
    have e9 := hk a u hu (fun xs _ => .inr hi)
    rw [show H' a = H a from e9.trans hu.symm]
    exact ⟨fun C dx fs e => ⟨fs, e, SameF.refl fs⟩, fun C dx fs e => ⟨fs, e⟩⟩⟩
  · obtain ⟨v, e1, r⟩ := S.slot i d e
    refine ⟨v, e1, ?_⟩
    cases d with
    | d x => exact RD.hide hk' hn x v r
    | ref n => exact r
    | bor ds =>
      obtain ⟨a, xs, e2, q, n, z, l, r⟩ := r
      exact ⟨a, xs, e2, hk' a _ q (fun _ _ => ⟨_, z⟩), n, hn _ a _ q z, l, RDs.hide hk' hn ds xs r⟩
  · have h := S.mem.cell n c a e1 e2
    cases c with
    | gone => exact h
    | lst ds => obtain ⟨xs, q, l, r⟩ := h; exact ⟨xs, hk a _ q (fun _ _ => .inr (List.mem_of_getElem? e2)), l, RDs.hide hk' hn ds xs r⟩
    | dk kvs => obtain ⟨ws, q, z, r⟩ := h; exact ⟨ws, hk a _ q (fun xs z => nomatch z), z, RDs.hide hk' hn _ _ r⟩
    | dn kvs => obtain ⟨xs, q, z, r1, r2⟩ := h; exact ⟨xs, hk a _ q (fun xs z => nomatch z), z, RDs.hide hk' hn _ _ r1, RDs.hide hk' hn _ _ r2⟩
    | dw w kvs => obtain ⟨xs, q, z, r1, r2⟩ := h; exact ⟨xs, hk a _ q (fun xs z => nomatch z), z, RDs.hide hk' hn _ _ r1, RDs.hide hk' hn _ _ r2⟩
    | nd k its =>
      obtain ⟨xs, q, l, r⟩ := h
      refine ⟨xs, ?_, l, RIs.hide hk' hn r⟩
      cases k with
      | ob c fs => obtain ⟨dx, q1, q2, q3, q4⟩ := q; exact ⟨dx, hk a _ q1 (fun xs z => nomatch z), hk dx _ q2 (fun xs z => nomatch z), q3, q4⟩
end
end VL
set_option Elab.async false
set_option linter.all false
set_option maxRecDepth 100000
set_option maxHeartbeats 4000000
namespace VL
open PySem PySem.Spec L2 RT RZ
/-- a comprehension's target, as the layer below reads it -/
def LcG.raw (K : PySem.W.Frag) : LcG → TG
  | .nm i => gName i
  | .tp is => gTup K is.length (is.foldr (fun i r => gCons (gName i) r) gNil)
section
variable {K : PySem.W.Frag} {X : Cx} {G : Gd} {δ : DS} {M : Mem} {ι : Ix} {σ : L2.St} {H H' : Hp}
theorem raw_names {vs : List Nat} {σ0 : L2.St} : ∀ {is : List Nat} {ds : List D} {xs : List V} {δ : DS} {σ : L2.St} {Q : L2.St → Hp → Prop}, Sr K G δ M ι σ H → RDs K G.N H ι ds xs → (∀ i ∈ is, i ∈ vs) → wipe σ vs = wipe σ0 vs →
    ∀ δ', setAll is ds δ = some δ' → (∀ σ', Sr K G δ' M ι σ' H → wipe σ' vs = wipe σ0 vs → Q σ' H) → is.foldr (fun i r => gCons (gName i) r) gNil xs σ H Q
  | [], ds, xs, δ, σ, Q, S, r, hv, hw, δ', e, z => by
    cases ds with
    | nil => cases e; cases (show _ = _ from r); exact ⟨rfl, z σ S hw⟩
    | cons d ds => cases e
  | i :: is, ds, xs, δ, σ, Q, S, r, hv, hw, δ', e, z => by
    cases ds with
    | nil => cases e
    | cons d ds =>
      obtain ⟨v, vr, rfl, r1, r2⟩ := r
      refine ⟨v, vr, rfl, ?_⟩
      exact raw_names (σ := σ.set i (some v)) (S.set (d := .d d) r1) r2 (fun j hj => hv j (List.mem_cons_of_mem _ hj)) ((wipe_set σ vs (some v) (hv i List.mem_cons_self)).trans hw) δ' e z
theorem raw_of {g : LcG} {vs : List Nat} {σ0 : L2.St} {d : D} {v : V} {Q0 : DS → Mem → Prop} {Q : L2.St → Hp → Prop} (S : Sr K G δ M ι σ H) (r : RD K G.N H ι d v) (hv : ∀ i ∈ g.names, i ∈ vs) (hw : wipe σ vs = wipe σ0 vs) (h : g.to d δ M Q0)
    (z : ∀ δ' σ', Q0 δ' M → Sr K G δ' M ι σ' H → wipe σ' vs = wipe σ0 vs → Q σ' H) : g.raw K v σ H Q := by
  cases g with
  | nm i => exact z _ _ h (S.set (d := .d d) r) ((wipe_set σ vs (some v) (hv i List.mem_cons_self)).trans hw)
  | tp is =>
    simp only [LcG.to, gTp] at h
    split at h
    · rename_i ds
      obtain ⟨δ', e, h⟩ := ok_elim h
      obtain ⟨a, xs, rfl, q, _, r⟩ := r
      exact ⟨a, xs, rfl, tup_sq q, by rw [← r.length, setAll_len e], raw_names S r hv hw δ' e fun σ' S' hw' => z δ' σ' h S' hw'⟩
    · exact h.elim
theorem wipe_wipe (σ : L2.St) (vs : List Nat) : wipe (wipe σ vs) vs = wipe σ vs := by
  apply List.ext_getElem?
  intro j
  rw [wipe_get, wipe_get]
  split
  · cases σ[j]? <;> rfl
  · rfl
abbrev VTs (X : Cx) (G : Gd) (es : List Expr) (t : TT') : Prop := PTs X es (lT X.K G t)
theorem vts_nil : VTs X G [] tYs := ⟨fun pins s σ H Q I ⟨δ, M, ι, Q0, S, q, z⟩ => pts_nil.run pins s σ H Q I (z true M ι H q (Ex.refl _) (Kp.refl _ _) S)⟩
theorem vts_one {c : Expr} {t : TT'} (h : VT X G c t) : VTs X G [c] t := pts_one h
/-- a comprehension's reading, in the layer below (the ground of the elements is not known ahead: tests and elements under any ground) -/
theorem lc_low {it : TI'} {g : LcG} {tt : TT'} {te : TE'} {vs : List Nat} (hv : ∀ i ∈ g.names, i ∈ vs) {σ : L2.St} {H : Hp} {Q : VK} (h : lF X.K G (fLc it g tt te vs) σ H Q) :
    tLc (lI X.K G true it) (g.raw X.K) (fun σ H Q => ∃ G', G'.i0 = G.i0 ∧ lT X.K G' tt σ H Q) (fun σ H Q => ∃ G', G'.i0 = G.i0 ∧ lE X.K G' te σ H Q) vs σ H Q := by
  obtain ⟨δ, M, ι, Q0, S, q, z⟩ := h
  refine ⟨δ, M, ι, _, S, q, fun ds gd M1 ι1 H1 J hb q1 p1 k1 S1 hJ => fun Dd hD => ?_⟩
  have hb := hb rfl
  have hDi : some Dd ∉ ι1 := S1.mem.fresh hD
  have kst : Kp ι1 H1 ι1 (upd H1 Dd (.lst [])) := Kp.laid hD
  have S2 : Sr X.K (G.hide Dd) (wipeS δ vs) M1 ι1 (wipe σ vs) (upd H1 Dd (.lst [])) := by
    have hne : ∀ a o, H1 a = some o → a ≠ Dd := fun a o e => ne_of_none e hD
    refine (S1.wiped vs).hideG rfl rfl rfl (fun a o e _ => by rw [upd_ne (hne a o e)]; exact e) (fun b a o e n => ⟨fun hh => ?_, n.2⟩) (S1.kp.trans kst) (fun a ha => ?_)
    · rcases hh with hh | rfl
      · exact n.1 hh
      · exact hne _ o e rfl
    · rcases ha with ha | rfl
      · obtain ⟨h1, o, h2⟩ := S1.hid a ha
        exact ⟨h1, o, (kst a o h2 h1).1⟩
      · exact ⟨hDi, _, upd_same⟩
  have hne : ∀ a o, H1 a = some o → a ≠ Dd := fun a o e => ne_of_none e hD
  have hN0 : ∀ b a o, H1 a = some o → G.N b a → (G.hide Dd).N b a := by
    intro b a o e n
    refine ⟨fun hh => ?_, n.2⟩
    rcases hh with hh | hh
    · exact n.1 hh
    · exact hne a o e hh
  have hHe : ∀ a o, G.He a = some o → some a ∉ G.i0.map some → a ≠ Dd := fun a o e n => hne a o (S1.kp a o e n).1
  -- what is hidden is neither named nor data
  have off : ∀ {ιc : Ix} {Hc : Hp} {δc Mc σc} (Sc : Sr X.K (G.hide Dd) δc Mc ιc σc Hc) {accV : List V} (hDc : Hc Dd = some (.lst accV)) (a : Addr) (o : HO), Hc a = some o → (∀ xs, o = .lst xs → (∃ b, (G.hide Dd).N b a) ∨ some a ∈ ιc) → a ≠ Dd := by
    intro ιc Hc δc Mc σc Sc accV hDc a o e hx hz
    subst hz
    rw [hDc] at e
    rcases hx accV (Option.some.inj e).symm with ⟨b, n⟩ | n
    · exact n.1 (.inr rfl)
    · exact (Sc.hid a (.inr rfl)).1 n
  -- the turns
  refine ⟨fun i m Hc => m = ds.length - i ∧ i ≤ ds.length ∧ ∃ acc accV Mc ιc, Sr X.K (G.hide Dd) (wipeS δ vs) Mc ιc (wipe σ vs) Hc ∧ Ex ι1 ιc ∧ Kp ι1 H1 ιc Hc ∧ Hc Dd = some (.lst accV) ∧ RDs X.K (G.hide Dd).N Hc ιc acc accV ∧ acc.length ≤ i ∧ lcL g.to tt te (wipeS δ vs) gd Q0 (ds.drop i) acc Mc,
    ⟨ds.length, by simp, Nat.zero_le _, [], [], M1, ι1, S2, Ex.refl _, kst, upd_same, rfl, Nat.zero_le _, by simpa using q1⟩, ?_⟩
  rintro i m Hc ⟨rfl, hi', acc, accV, Mc, ιc, Sc, ec, kc, hDc, rc, lc, qc⟩
  by_cases hlt : i < ds.length
  · have hd : ds.drop i = ds[i] :: ds.drop (i + 1) := List.drop_eq_getElem_cons hlt
    rw [hd] at qc
    obtain ⟨hgd, qc⟩ := qc
    obtain ⟨_, hgo⟩ := hJ (G.hide Dd) _ Mc ιc _ Hc hN0 Sc ec kc hgd
    obtain ⟨go, hy⟩ := hgo i ds[i] (List.getElem?_eq_getElem hlt)
    refine .inr ⟨go, fun H' => ∃ acc accV Mc ιc, Sr X.K (G.hide Dd) (wipeS δ vs) Mc ιc (wipe σ vs) H' ∧ Ex ι1 ιc ∧ Kp ι1 H1 ιc H' ∧ H' Dd = some (.lst accV) ∧ RDs X.K (G.hide Dd).N H' ιc acc accV ∧ acc.length ≤ i + 1 ∧ lcL g.to tt te (wipeS δ vs) gd Q0 (ds.drop (i + 1)) acc Mc,
      fun H' h' => ⟨ds.length - (i + 1), by omega, rfl, hlt, h'⟩, fun x H3 y3 => ?_⟩
    obtain ⟨hH3, S3, k3, r3⟩ := hy x H3 y3
    have hidc := (Sc.hid Dd (.inr rfl)).1
    refine raw_of (σ0 := σ) S3 r3 hv (wipe_wipe σ vs) qc fun δ4 σ4 q4 S4 hw4 => ⟨hw4, G.hide Dd, rfl, δ4, Mc, ιc, _, S4, q4, fun b M5 ι5 H5 q5 e5 k5 S5 => ?_⟩
    have S5' := Sc.back S5 e5 (k3.trans k5)
    have hD5 := ((k3.trans k5) Dd _ hDc hidc).1
    have r5 := rc.mono (N' := (G.hide Dd).N) (k3.trans k5) (fun _ _ _ _ z => z)
    cases b with
    | false =>
      simp only [Bool.false_eq_true, if_false] at q5 ⊢
      exact ⟨acc, accV, M5, ι5, S5', ec.trans e5, kc.trans (k3.trans k5), hD5, r5, by omega, q5⟩
    | true =>
      simp only [if_true] at q5 ⊢
      refine ⟨G.hide Dd, rfl, δ4, M5, ι5, _, S5, q5, fun s M6 ι6 H6 v q6 e6 k6 S6 r6 => ?_⟩
      obtain ⟨y, ey, q6⟩ := ok_elim q6
      have hs6 : s = .d y := by
        cases s with
        | d x => cases ey; rfl
        | ref n => cases ey
        | bor n => cases ey
      subst hs6
      have hid5 := (S5.hid Dd (.inr rfl)).1
      have hD6 := (k6 Dd _ hD5 hid5).1
      have S6' := S5'.back S6 e6 k6
      have hid6 := (S6.hid Dd (.inr rfl)).1
      have r6a := r5.mono (N' := (G.hide Dd).N) k6 (fun _ _ _ _ z => z)
      have hlenV : accV.length = acc.length := rc.length.symm
      have o6 := off S6 hD6
      refine ⟨accV, hD6, by omega, acc ++ [y], accV ++ [v], M6, ι6, ?_, (ec.trans e5).trans e6, ?_, upd_same, ?_, by simp; omega, q6⟩
      · refine S6'.hideG rfl rfl rfl (fun a o e hx => by rw [upd_ne (o6 a o e hx)]; exact e) (fun _ _ _ _ z => z) ?_ (fun a ha => ?_)
        · intro a o e n
          obtain ⟨h1, h2⟩ := S6'.kp a o e n
          exact ⟨by rw [upd_ne (hHe a o e n)]; exact h1, h2⟩
        · obtain ⟨h1, o, h2⟩ := S6'.hid a ha
          refine ⟨h1, ?_⟩
          by_cases hz : a = Dd
          · subst hz; exact ⟨_, upd_same⟩
          · exact ⟨o, by rw [upd_ne hz]; exact h2⟩
      · intro a o e n
        obtain ⟨h1, h2⟩ := (kc.trans ((k3.trans k5).trans k6)) a o e n
        exact ⟨by rw [upd_ne (hne a o e)]; exact h1, h2⟩
      · refine RDs.append ?_ ⟨v, [], rfl, ?_, rfl⟩
        · exact RDs.hide (fun a o e hx => by rw [upd_ne (o6 a o e fun xs z => .inl (hx xs z))]; exact e) (fun _ _ _ _ z => z) _ _ r6a
        · exact RD.hide (fun a o e hx => by rw [upd_ne (o6 a o e fun xs z => .inl (hx xs z))]; exact e) (fun _ _ _ _ z => z) _ _ r6
  · have hd : ds.drop i = [] := List.drop_eq_nil_of_le (by omega)
    rw [hd] at qc
    obtain ⟨hgd, qc⟩ := qc
    obtain ⟨hst, _⟩ := hJ (G.hide Dd) _ Mc ιc _ Hc hN0 Sc ec kc hgd
    have e : i = ds.length := by omega
    subst e
    refine .inl ⟨hst, ?_⟩
    have oc := off Sc hDc
    generalize hH' : (fun b => if b = Dd then none else Hc b : Hp) = H'
    have hne' : ∀ a, a ≠ Dd → H' a = Hc a := fun a n => by rw [← hH']; exact if_neg n
    have hDn : H' Dd = none := by rw [← hH']; exact if_pos rfl
    have hback : upd H' Dd (.lst accV) = Hc := by
      funext b
      by_cases hz : b = Dd
      · subst hz; rw [upd_same, hDc]
      · rw [upd_ne hz, hne' b hz]
    rw [← hback]
    have kc' : Kp ι1 H1 ιc H' := fun a o e n => by
      obtain ⟨h1, h2⟩ := kc a o e n
      exact ⟨by rw [hne' a (hne a o e)]; exact h1, h2⟩
    have Sg : Sr X.K G (wipeS δ vs) Mc ιc (wipe σ vs) H' := by
      refine Sc.hideG rfl rfl rfl (fun a o e hx => by rw [hne' a (oc a o e hx)]; exact e) (fun b a o e n => ⟨fun z => n.1 (.inl z), n.2⟩) ?_ (fun a ha => ?_)
      · intro a o e n
        obtain ⟨h1, h2⟩ := Sc.kp a o e n
        exact ⟨by rw [hne' a (hHe a o e n)]; exact h1, h2⟩
      · obtain ⟨h1, o, h2⟩ := Sc.hid a (.inl ha)
        obtain ⟨_, o', h3⟩ := S1.hid a ha
        exact ⟨h1, o, by rw [hne' a (hne a o' h3)]; exact h2⟩
    refine z acc Mc ιc H' accV Dd qc (p1.trans ec) (k1.trans kc') (S1.back Sg ec kc') ?_ (by omega) hDn
    exact RDs.hide (fun a o e hx => by rw [hne' a (oc a o e fun xs z => .inl (hx xs z))]; exact e) (fun b a o e n => ⟨fun z => n.1 (.inl z), n.2⟩) _ _ rc
theorem vf_lc {elt tg iter : Expr} {ifs : List Expr} {scope : Scope} {own : List (Str × Nat)} {pos : Pos} {it : TI'} {g : LcG} {tt : TT'} {te : TE'} (hc : X.calm = true) (hN : X.N.Nodup) (hi : VI X G true tg iter it) (ok' : BlkOk X.N X.env.scope scope own)
    (hg : ∀ (s : Shared) (H : Hp) (C : Addr) (cl : List (Str × Addr)) (fp : List Addr), PG (X.blk s H scope (compEnvC scope cl C X.env) fp) tg (g.raw X.K)) (ht : ∀ (s : Shared) (H : Hp) (C : Addr) (cl : List (Str × Addr)) (fp : List Addr) (G' : Gd), G'.i0 = G.i0 → VTs (X.blk s H scope (compEnvC scope cl C X.env) fp) G' ifs tt)
    (he : ∀ (s : Shared) (H : Hp) (C : Addr) (cl : List (Str × Addr)) (fp : List Addr) (G' : Gd), G'.i0 = G.i0 → VE (X.blk s H scope (compEnvC scope cl C X.env) fp) G' elt te) (hv : ∀ i ∈ g.names, i ∈ own.map (·.2)) (hs : ∀ x, foldedSetIterable iter X.env x = pure x := by intro _; rfl) :
    VF X G (.ListComp elt [⟨tg, iter, ifs, 0⟩] scope pos) (fLc it g tt te (own.map (·.2))) := by
  have h := pe_lc (pos := pos) (te := fun σ H Q => ∃ G', G'.i0 = G.i0 ∧ lE X.K G' te σ H Q) (tt := fun σ H Q => ∃ G', G'.i0 = G.i0 ∧ lT X.K G' tt σ H Q) hc hN hi ok' hg
    (fun s H C cl fp => ⟨fun pins s' σ H' Q I ⟨G', hg', q⟩ => (ht s H C cl fp G' hg').run pins s' σ H' Q I q⟩) (fun s H C cl fp => ⟨fun pins s' σ H' Q I ⟨G', hg', q⟩ => (he s H C cl fp G' hg').run pins s' σ H' Q I q⟩) hs
  exact PE.weak h fun σ H Q q => lc_low hv q
theorem fz_low {K : PySem.W.Frag} {tf : TF'} {σ : L2.St} {H : Hp} {Q : VK} (h : lE K G (eFz tf) σ H Q) : lF K G tf σ H Q := by
  obtain ⟨δ, M, ι, Q0, S, q, z⟩ := h
  exact ⟨δ, M, ι, _, S, q, fun ds M' ι' H' xs p h1 p1 k1 S1 r1 hl hp => fin_lst S1 (fun ι2 H2 w e2 k2 S2 r3 => z _ M' ι2 H2 w h1 (p1.trans e2) (k1.trans k2) S2 r3) r1 hl hp⟩
theorem nw_low {K : PySem.W.Frag} {tf : TF'} {σ : L2.St} {H : Hp} {Q : VK} (h : lE K G (eNw tf) σ H Q) : lF K G tf σ H Q := by
  obtain ⟨δ, M, ι, Q0, S, q, z⟩ := h
  refine ⟨δ, M, ι, _, S, q, fun ds M' ι' H' xs p h1 p1 k1 S1 r1 hl hp => ?_⟩
  have S2 := S1.named (o := .lst xs) (c := .lst ds) hp ⟨xs, upd_same, hl, r1.mono (Kp.named hp) fun _ _ _ _ q => q⟩
  refine z _ _ _ _ _ h1 (p1.trans (Ex.app _ _)) (k1.trans (Kp.named hp)) S2 ⟨p, rfl, .inl ?_⟩
  rw [S1.mem.len]; simp
/-- name = [..] on one line, the name a local -/
theorem vs_setLc {i : Nat} {y : Str} {py : Pos} {elt tg iter : Expr} {ifs : List Expr} {scope : Scope} {own : List (Str × Nat)} {pos spos : Pos} {it : TI'} {g : LcG} {tt : TT'} {te : TE'} (hc : X.calm = true) (hN : X.N.Nodup) (hy : X.N[i]? = some y) (hyl : X.env.scope.names.lookup y = some .local)
    (hsw : swapsWith (.ListComp elt [⟨tg, iter, ifs, 0⟩] scope pos) (some (.Name y py)) spos.line X.env = pure true) (hi : VI X G true tg iter it) (ok' : BlkOk X.N X.env.scope scope own)
    (hg : ∀ (s : Shared) (H : Hp) (C : Addr) (cl : List (Str × Addr)) (fp : List Addr), PG (X.blk s H scope (compEnvC scope cl C X.env) fp) tg (g.raw X.K)) (ht : ∀ (s : Shared) (H : Hp) (C : Addr) (cl : List (Str × Addr)) (fp : List Addr) (G' : Gd), G'.i0 = G.i0 → VTs (X.blk s H scope (compEnvC scope cl C X.env) fp) G' ifs tt)
    (he : ∀ (s : Shared) (H : Hp) (C : Addr) (cl : List (Str × Addr)) (fp : List Addr) (G' : Gd), G'.i0 = G.i0 → VE (X.blk s H scope (compEnvC scope cl C X.env) fp) G' elt te) (hv : ∀ i ∈ g.names, i ∈ own.map (·.2)) {nw : Bool} (hs : ∀ x, foldedSetIterable iter X.env x = pure x := by intro _; rfl) :
    VS X G (.Assign [.Name y py] (.ListComp elt [⟨tg, iter, ifs, 0⟩] scope pos) spos) (sSet i ((if nw then eNw else eFz) (fLc it g tt te (own.map (·.2))))) := by
  have h := ps_setLc (te := fun σ H Q => ∃ G', G'.i0 = G.i0 ∧ lE X.K G' te σ H Q) (tt := fun σ H Q => ∃ G', G'.i0 = G.i0 ∧ lT X.K G' tt σ H Q) hc hN hy hyl hsw hi ok' hg
    (fun s H C cl fp => ⟨fun pins s' σ H' Q I ⟨G', hg', q⟩ => (ht s H C cl fp G' hg').run pins s' σ H' Q I q⟩) (fun s H C cl fp => ⟨fun pins s' σ H' Q I ⟨G', hg', q⟩ => (he s H C cl fp G' hg').run pins s' σ H' Q I q⟩) hs
  refine PS.weak h fun E σ H ⟨δ, M, ι, E0, S, q, z⟩ => ?_
  refine lc_low hv ?_
  have hh : lE X.K G ((if nw then eNw else eFz) (fLc it g tt te (own.map (·.2)))) σ H (fun x H1 => gName i x σ H1 E.nx) :=
    ⟨δ, M, ι, _, S, q, fun d M' ι' H' v q' p' k' S' r' => z.nx _ M' ι' _ H' q' p' k' (S'.set r')⟩
  cases nw with
  | true => exact nw_low hh
  | false => exact fz_low hh
end
end VL
set_option Elab.async false
set_option linter.all false
set_option maxRecDepth 100000
set_option maxHeartbeats 4000000
namespace VL
open PySem PySem.Spec L2 RT RZ
def RdF (K : PySem.W.Frag) (r : List V → Hp → VK → Prop) (f : Mem → List Sv → Option (List D)) : Prop := ∀ (G : Gd) (δ : DS) (M : Mem) (ι : Ix) (σ : L2.St) (H : Hp) (xs : List Sv) (vs : List V) (ds : List D), Sr K G δ M ι σ H → RSs K G.N H ι xs vs → f M xs = some ds →
  ∀ Q : VK, (∀ ys p, RDs K G.N H ι ds ys → ds.length ≤ sizeLine → H p = none → Q (.ref p) (upd H p (.lst ys))) → r vs H Q
def fN (f : Mem → List Sv → Option (List D)) (t : TA') : TF' := fun δ M Q => t δ M fun xs M1 => ok (f M1 xs) fun ds => Q ds M1
def plN (f : Mem → List Sv → Option (List D)) (ps : List PV) : PL := fun δ M => (pArgs ps δ M).bind (f M)
def f2 (f : Mem → Sv → Sv → Option (List D)) (ta tb : TE') : TF' := fun δ M Q => ta δ M fun x M1 => tb δ M1 fun y M2 => ok (f M2 x y) fun ds => Q ds M2
def pl2 (f : Mem → Sv → Sv → Option (List D)) (a b : PV) : PL := fun δ M => (a δ M).bind fun x => (b δ M).bind fun y => f M x y
def RdF2 (K : PySem.W.Frag) (r : R2) (f : Mem → Sv → Sv → Option (List D)) : Prop := ∀ (G : Gd) (δ : DS) (M : Mem) (ι : Ix) (σ : L2.St) (H : Hp) (x y : Sv) (v u : V) (ds : List D), Sr K G δ M ι σ H → RS K G.N H ι x v → RS K G.N H ι y u → f M x y = some ds →
  ∀ Q : VK, (∀ ys p, RDs K G.N H ι ds ys → ds.length ≤ sizeLine → H p = none → Q (.ref p) (upd H p (.lst ys))) → r v u H Q
section
variable {K : PySem.W.Frag} {X : Cx} {G : Gd} {e a b : Expr} {es : List Expr} {pos : Pos} {ta tb t : TE'} {N : Bool → Addr → Prop} {H : Hp} {ι : Ix} {tf : TF'}
theorem vf_callTy {x : Str} {T : String} {p : Pos} {n : Nat} {tA : TA'} {r : List V → Hp → VK → Prop} {f : Mem → List Sv → Option (List D)} (hc : CallR X (.type T) r) (hf : RdF X.K r f) (hg : Gl X x) (hm : X.mg x = none) (hv : bootBuiltins x = some (.type T)) (ha : VA X G (e :: es) n tA) (hn : x ≠ "__name__" := by decide) (hdb : (x == ("__debug__" : Str)) = false := by decide)
    (he : starEach (e :: es) X.env = (false, eval e X.env) :: starEach es X.env := by rfl) (hpl : (backTo pos (starEach es X.env)).any (·.1) = false := by rfl) : VF X G (.Call (.Name x p) (e :: es) [] pos) (fN f tA) :=
  PE.weak (pe_callTy hc hg hm hv ha hn hdb he hpl) fun σ H Q ⟨δ, M, ι, Q0, S, q, z⟩ => thA S q fun xs M1 ι1 H1 vs hl q1 p1 k1 S1 r1 => by
    obtain ⟨ds, e, q1⟩ := ok_elim q1
    exact hf G δ M1 ι1 σ H1 xs vs ds S1 r1 e Q fun ys p ry hl hp => z ds M1 ι1 H1 ys p q1 p1 k1 S1 ry hl hp
theorem vf_bin {op : Operator} {r : R2} {f : Mem → Sv → Sv → Option (List D)} (ho : OpR X (binaryOp op) r) (hf : RdF2 X.K r f) (ha : VE X G a ta) (hb : VE X G b tb) : VF X G (.BinOp a op b pos) (f2 f ta tb) :=
  PE.weak (pe_op ho ha hb) fun σ H Q ⟨δ, M, ι, Q0, S, q, z⟩ => th1 S q fun x M1 ι1 H1 v q1 p1 k1 S1 r1 => th1 S1 q1 fun y M2 ι2 H2 u q2 p2 k2 S2 r2 => by
    obtain ⟨ds, e, q2⟩ := ok_elim q2
    exact hf G δ M2 ι2 σ H2 x y v u ds S2 (r1.mono k2 p2 fun _ _ _ _ q => q) r2 e Q fun ys p ry hl hp => z ds M2 ι2 H2 ys p q2 (p1.trans p2) (k1.trans k2) S2 ry hl hp
theorem VF.pN {f : Mem → List Sv → Option (List D)} {ps : List PV} (h : VF X G e (fN f (aP ps))) : VF X G e (fP (plN f ps)) := h.weak fun δ M Q h => by
  unfold fP plN at h; rw [ok_bind] at h; exact h
theorem VF.p2 {f : Mem → Sv → Sv → Option (List D)} {p q : PV} (h : VF X G e (f2 f (eP p) (eP q))) : VF X G e (fP (pl2 f p q)) := h.weak fun δ M Q h => by
  unfold fP pl2 at h
  rw [ok_bind] at h
  obtain ⟨d, e1, h⟩ := ok_elim h
  rw [ok_bind] at h
  exact ok_of e1 h
theorem seq_len {δ : DS} {M : Mem} {σ : L2.St} {d : Sv} {v : V} {ds : List D} (S : Sr K G δ M ι σ H) (h : RS K G.N H ι d v) (e : seqD M d = some ds) : ds.length ≤ sizeLine := by
  cases d with
  | ref n =>
    obtain ⟨a, e1, hn, xs, q, l, r⟩ := S.mem.at h (cellL_some (show cellL M[n]? = some ds from e)) (fun z => nomatch z)
    exact l
  | bor es => cases e; obtain ⟨a, xs, e1, q, n, _, l, r⟩ := h; exact l
  | d d =>
    cases d with
    | lst es => cases e; obtain ⟨a, xs, e1, q, n, z, l, r⟩ := h; exact l
    | tup es => cases e; obtain ⟨a, xs, e1, q, l, r⟩ := h; exact l
    | scr ns => cases e; obtain ⟨a, e1, q, l⟩ := h; simpa using l
    | _ => cases e
theorem lst_seq {M : Mem} {d : Sv} {ds : List D} (e : lstD M d = some ds) : seqD M d = some ds := by
  cases d with
  | ref n => exact e
  | bor n => exact e
  | d d => cases d <;> first | exact e | cases e
def listF (M : Mem) : List Sv → Option (List D)
  | [s] => seqD M s
  | _ => none
theorem rd_list : RdF K (fun xs H Q => ∃ p ys, xs = [V.ref p] ∧ (SqL K H p ys ∨ SqT K H p ys) ∧ ∀ l, H l = none → Q (.ref l) (upd H l (.lst ys))) listF := by
  intro G δ M ι σ H xs vs ds S rx e Q z
  unfold listF at e
  split at e
  · obtain ⟨v, rfl, r⟩ := one_of rx
    obtain ⟨a, ys, rfl, hq, ry⟩ := seq_of S r e
    exact ⟨a, ys, rfl, hq, fun l hl => z ys l ry (by have := seq_len S r e; exact this) hl⟩
  · cases e
/-- the items of a list that is laid (not the script) -/
def laidD (M : Mem) : Sv → Option (List D)
  | .d (.lst ds) => some ds
  | .bor ds => some ds
  | .ref n => cellL M[n]?
  | _ => none
theorem laid_of {δ : DS} {M : Mem} {σ : L2.St} {d : Sv} {v : V} {ds : List D} (S : Sr K G δ M ι σ H) (h : RS K G.N H ι d v) (e : laidD M d = some ds) : ∃ a xs, v = .ref a ∧ H a = some (.lst xs) ∧ RDs K G.N H ι ds xs ∧ ds.length ≤ sizeLine := by
  cases d with
  | ref n =>
    obtain ⟨a, e1, hn, xs, q, l, r⟩ := S.mem.at h (cellL_some (show cellL M[n]? = some ds from e)) (fun z => nomatch z)
    exact ⟨a, xs, e1, q, r, l⟩
  | bor es => cases e; obtain ⟨a, xs, e1, q, n, _, l, r⟩ := h; exact ⟨a, xs, e1, q, r, l⟩
  | d d =>
    cases d with
    | lst es => cases e; obtain ⟨a, xs, e1, q, n, z, l, r⟩ := h; exact ⟨a, xs, e1, q, r, l⟩
    | _ => cases e
def catF (M : Mem) (x y : Sv) : Option (List D) := (laidD M x).bind fun as => (laidD M y).bind fun bs => gd (as.length + bs.length ≤ sizeLine) (as ++ bs)
theorem rd_cat : RdF2 K rCat catF := by
  intro G δ M ι σ H x y v u ds S rx ry e Q z
  unfold catF at e
  cases qa : laidD M x with
  | none => rw [qa] at e; cases e
  | some as =>
    cases qb : laidD M y with
    | none => rw [qa, qb] at e; cases e
    | some bs =>
      rw [qa, qb] at e
      obtain ⟨hc, rfl⟩ := gd_some (show gd _ _ = some ds from e)
      obtain ⟨a, xs, rfl, h1, r1, l1⟩ := laid_of S rx qa
      obtain ⟨b, ys, rfl, h2, r2, l2⟩ := laid_of S ry qb
      exact ⟨a, b, xs, ys, rfl, rfl, h1, h2, by rw [← r1.length, ← r2.length]; exact hc, fun p hp => z _ p (r1.append r2) (by rw [List.length_append]; exact hc) hp⟩
def repF (M : Mem) (x y : Sv) : Option (List D) := match y with
  | .d (.int k) => (laidD M x).bind fun as => gd (-(2 ^ 63) ≤ k ∧ k < 2 ^ 63 ∧ as.length * k.toNat ≤ sizeLine) (List.replicate k.toNat as).flatten
  | _ => none
theorem RDs.rep {ds : List D} {xs : List V} (r : RDs K N H ι ds xs) : ∀ k : Nat, RDs K N H ι (List.replicate k ds).flatten (List.replicate k xs).flatten
  | 0 => rfl
  | k + 1 => by rw [List.replicate_succ, List.replicate_succ, List.flatten_cons, List.flatten_cons]; exact r.append (RDs.rep r k)
theorem rep_len {α : Type} (ds : List α) : ∀ k : Nat, (List.replicate k ds).flatten.length = ds.length * k
  | 0 => by simp
  | k + 1 => by rw [List.replicate_succ, List.flatten_cons, List.length_append, rep_len ds k, Nat.mul_succ, Nat.add_comm]
theorem rd_rep : RdF2 K rRep repF := by
  intro G δ M ι σ H x y v u ds S rx ry e Q z
  unfold repF at e
  split at e
  · rename_i k
    cases qa : laidD M x with
    | none => rw [qa] at e; cases e
    | some as =>
      rw [qa] at e
      obtain ⟨⟨h1, h2, h3⟩, rfl⟩ := gd_some (show gd _ _ = some ds from e)
      obtain ⟨a, xs, rfl, h4, r1, l1⟩ := laid_of S rx qa
      cases (show _ = _ from ry)
      exact ⟨a, k, xs, rfl, rfl, h4, h1, h2, by rw [← r1.length]; exact h3, fun p hp => z _ p (r1.rep _) (by rw [rep_len]; exact h3) hp⟩
  · cases e
theorem vf_cat (ha : VE X G a ta) (hb : VE X G b tb) : VF X G (.BinOp a .Add b pos) (f2 catF ta tb) := vf_bin op_cat rd_cat ha hb
theorem vf_rep (ha : VE X G a ta) (hb : VE X G b tb) : VF X G (.BinOp a .Mult b pos) (f2 repF ta tb) := vf_bin op_rep rd_rep ha hb
def f1 (f : Mem → Sv → Option (List D)) (ta : TE') : TF' := fun δ M Q => ta δ M fun x M1 => ok (f M1 x) fun ds => Q ds M1
def pl1 (f : Mem → Sv → Option (List D)) (a : PV) : PL := fun δ M => (a δ M).bind (f M)
theorem VF.p1 {f : Mem → Sv → Option (List D)} {p : PV} (h : VF X G e (f1 f (eP p))) : VF X G e (fP (pl1 f p)) := h.weak fun δ M Q h => by
  unfold fP pl1 at h; rw [ok_bind] at h; exact h
def tupC (M : Mem) (x : Sv) : Option Sv := (seqD M x).map fun ds => .d (.tup ds)
theorem ve_tupleOf {p : Pos} (hg : Gl X "tuple") (hm : X.mg "tuple" = none) (ha : VE X G a ta) (na : starEach [a] X.env = (false, eval a X.env) :: starEach [] X.env := by rfl) : VE X G (.Call (.Name "tuple" p) [a] [] pos) (eo1 tupC ta) :=
  PE.weak (pe_tupleOf hg hm ha na) fun σ H Q h => by
    refine fin1 (r := fun x H Q => kTup X.K x H Q) (fun G δ M ι σ H x v d S rx e Q z => ?_) h
    obtain ⟨ds, e9, rfl⟩ := Option.map_eq_some_iff.mp e
    have hl := seq_len S rx e9
    by_cases hx : ∃ es, x = .d (.tup es)
    · obtain ⟨es, rfl⟩ := hx
      cases e9
      have rx' := rx
      obtain ⟨b, xs, rfl, q, l, r⟩ := rx
      exact .inr ⟨b, xs, rfl, tup_sq q, fin_same S z rx'⟩
    · have e3 : lstD M x = some ds := by
        cases x with
        | d x =>
          cases x with
          | tup es => exact absurd ⟨es, rfl⟩ hx
          | lst es => exact e9
          | scr es => exact e9
          | _ => cases e9
        | ref n => exact e9
        | bor n => exact e9
      obtain ⟨b, xs, rfl, hq, r⟩ := lst_of S rx e3
      exact .inl ⟨b, xs, rfl, hq, fun q hq => fin_tup S z r hl hq⟩
end
abbrev TO' := DS → Mem → (Option Int → Mem → Prop) → Prop
def lO (K : PySem.W.Frag) (G : Gd) (t : TO') : TO := fun σ H Q => ∃ δ M ι Q0, Sr K G δ M ι σ H ∧ t δ M Q0 ∧
  ∀ b M' ι' H', Q0 b M' → Ex ι ι' → Kp ι H ι' H' → Sr K G δ M' ι' σ H' → Q b H'
abbrev VO (X : Cx) (G : Gd) (e : Option Expr) (t : TO') : Prop := PO X e (lO X.K G t)
abbrev PO' := DS → Mem → Option (Option Int)
def oP (p : PO') : TO' := fun δ M Q => ok (p δ M) fun o => Q o M
def poNo : PO' := fun _ _ => some none
def intO : Sv → Option (Option Int)
  | .d (.int i) => some (some i)
  | _ => none
def poI (p : PV) : PO' := fun δ M => (p δ M).bind intO
def cutD (ds : List D) (lo hi : Option Int) : List D := (ds.drop (HT.sIx ds.length 0 lo)).take (HT.sIx ds.length ds.length hi - HT.sIx ds.length 0 lo)
def slD (_ : Mem) : Sv → Option Int → Option Int → Option Sv
  | .d (.tup ds), lo, hi => some (.d (.tup (cutD ds lo hi)))
  | .d (.str z), lo, hi => gd (z.length ≤ sizeLine) (.d (.str (cutS z lo hi)))
  | _, _, _ => none
def slF (M : Mem) (s : Sv) (lo hi : Option Int) : Option (List D) := (lstD M s).map fun ds => cutD ds lo hi
def poSl (a : PV) (lo hi : PO') : PV := fun δ M => (a δ M).bind fun s => (lo δ M).bind fun l => (hi δ M).bind fun h => slD M s l h
def plSl (a : PV) (lo hi : PO') : PL := fun δ M => (a δ M).bind fun s => (lo δ M).bind fun l => (hi δ M).bind fun h => slF M s l h
section
variable {K : PySem.W.Frag} {X : Cx} {G : Gd} {e a b : Expr} {es : List Expr} {pos p2 : Pos} {ta tb t : TE'} {N : Bool → Addr → Prop} {H : Hp} {ι : Ix} {lo hi : Option Expr} {pa : PV} {pl ph : PO'}
theorem vo_none : VO X G none (oP poNo) := ⟨fun pins s σ H Q I ⟨δ, M, ι, Q0, S, q, z⟩ => po_none.run pins s σ H Q I (z none M ι H q (Ex.refl _) (Kp.refl _ _) S)⟩
theorem vo_some (h : VE X G e (eP pa)) : VO X G (some e) (oP (poI pa)) := by
  refine ⟨fun pins s σ H Q I ⟨δ, M, ι, Q0, S, q, z⟩ => (po_some h).run pins s σ H Q I ?_⟩
  unfold oP poI at q
  rw [ok_bind] at q
  refine th1 (Q0 := fun s M' => M' = M ∧ ok (intO s) fun o => Q0 o M) S (by obtain ⟨d, e, q⟩ := ok_elim q; exact ok_of e ⟨rfl, q⟩) fun x M1 ι1 H1 v q1 p1 k1 S1 r1 => ?_
  obtain ⟨rfl, q1⟩ := q1
  obtain ⟨o, e, q1⟩ := ok_elim q1
  unfold intO at e
  split at e
  · cases e; cases (show _ = _ from r1); exact ⟨_, rfl, z _ M1 ι1 H1 q1 p1 k1 S1⟩
  · cases e
theorem cutD_len (ds : List D) (lo hi : Option Int) : (cutD ds lo hi).length ≤ ds.length := by
  unfold cutD; rw [List.length_take, List.length_drop]; omega
theorem RDs.cut {ds : List D} {xs : List V} (r : RDs K N H ι ds xs) (lo hi : Option Int) : RDs K N H ι (cutD ds lo hi) (cutV xs lo hi) := by
  unfold cutD cutV
  rw [← r.length]
  exact (r.drop _).take _
theorem cut_whole {xs : List V} {lo hi : Option Int} (h : HT.sIx xs.length 0 lo = 0 ∧ HT.sIx xs.length xs.length hi = xs.length) : cutV xs lo hi = xs := by
  unfold cutV; rw [h.1, h.2]; simp
theorem ve_slice (he : VE X G a (eP pa)) (hl : VO X G lo (oP pl)) (hu : VO X G hi (oP ph)) : VE X G (.Subscript a (.Slice lo hi none p2) pos) (eP (poSl pa pl ph)) := by
  refine PE.weak (pe_slice ((sl_tupA (X := X)).or sl_str) he hl hu) fun σ H Q ⟨δ, M, ι, Q0, S, q, z⟩ => ?_
  unfold eP poSl at q
  rw [ok_bind] at q
  obtain ⟨s, e1, q⟩ := ok_elim q
  rw [ok_bind] at q
  obtain ⟨l, e2, q⟩ := ok_elim q
  rw [ok_bind] at q
  obtain ⟨h, e3, q⟩ := ok_elim q
  obtain ⟨d, e4, q9⟩ := ok_elim q
  refine th1 (Q0 := fun x M' => x = s ∧ M' = M) S (ok_of e1 ⟨rfl, rfl⟩) fun x M1 ι1 H1 v q1 p1 k1 S1 r1 => ?_
  obtain ⟨rfl, rfl⟩ := q1
  refine ⟨δ, M1, ι1, fun o M' => o = l ∧ M' = M1, S1, ok_of e2 ⟨rfl, rfl⟩, fun o M2 ι2 H2 q2 p2 k2 S2 => ?_⟩
  obtain ⟨rfl, rfl⟩ := q2
  refine ⟨δ, M2, ι2, fun o M' => o = h ∧ M' = M2, S2, ok_of e3 ⟨rfl, rfl⟩, fun o' M3 ι3 H3 q3 p3 k3 S3 => ?_⟩
  obtain ⟨rfl, rfl⟩ := q3
  have r3 := r1.mono (k2.trans k3) (p2.trans p3) (fun _ _ _ _ z => z)
  have z3 : ∀ ι' H' w, Ex ι3 ι' → Kp ι3 H3 ι' H' → Sr X.K G δ M3 ι' σ H' → RS X.K G.N H' ι' d w → Q w H' := fun ι' H' w p4 k4 S4 r4 => z d M3 ι' H' w q9 (((p1.trans p2).trans p3).trans p4) (((k1.trans k2).trans k3).trans k4) S4 r4
  unfold slD at e4
  split at e4
  · cases e4
    obtain ⟨b, xs, rfl, hq, hl, r⟩ := r3
    refine .inl ⟨b, xs, rfl, tup_sq hq, fun hw => ?_, fun hw p hp => ?_⟩
    · refine fin_same S3 z3 ⟨b, xs, rfl, hq, Nat.le_trans (cutD_len _ _ _) hl, ?_⟩
      have := r.cut o o'
      rw [cut_whole hw] at this
      exact this
    · exact fin_tup S3 z3 (r.cut _ _) (Nat.le_trans (cutD_len _ _ _) hl) hp
  · obtain ⟨hc, rfl⟩ := gd_some e4
    cases (show _ = _ from r3)
    exact .inr ⟨_, rfl, hc, fin_same S3 z3 rfl⟩
  · cases e4
theorem vf_slice (he : VE X G a (eP pa)) (hl : VO X G lo (oP pl)) (hu : VO X G hi (oP ph)) : VF X G (.Subscript a (.Slice lo hi none p2) pos) (fP (plSl pa pl ph)) := by
  refine PE.weak (pe_slice sl_list he hl hu) fun σ H Q ⟨δ, M, ι, Q0, S, q, z⟩ => ?_
  unfold fP plSl at q
  rw [ok_bind] at q
  obtain ⟨s, e1, q⟩ := ok_elim q
  rw [ok_bind] at q
  obtain ⟨l, e2, q⟩ := ok_elim q
  rw [ok_bind] at q
  obtain ⟨h, e3, q⟩ := ok_elim q
  obtain ⟨d, e4, q9⟩ := ok_elim q
  obtain ⟨es, e5, rfl⟩ := Option.map_eq_some_iff.mp e4
  refine th1 (Q0 := fun x M' => x = s ∧ M' = M) S (ok_of e1 ⟨rfl, rfl⟩) fun x M1 ι1 H1 v q1 p1 k1 S1 r1 => ?_
  obtain ⟨rfl, rfl⟩ := q1
  refine ⟨δ, M1, ι1, fun o M' => o = l ∧ M' = M1, S1, ok_of e2 ⟨rfl, rfl⟩, fun o M2 ι2 H2 q2 p2 k2 S2 => ?_⟩
  obtain ⟨rfl, rfl⟩ := q2
  refine ⟨δ, M2, ι2, fun o M' => o = h ∧ M' = M2, S2, ok_of e3 ⟨rfl, rfl⟩, fun o' M3 ι3 H3 q3 p3 k3 S3 => ?_⟩
  obtain ⟨rfl, rfl⟩ := q3
  have r3 := r1.mono (k2.trans k3) (p2.trans p3) (fun _ _ _ _ z => z)
  obtain ⟨b, xs, rfl, hq, rx⟩ := lst_of S3 r3 e5
  have hl := seq_len S3 r3 (lst_seq e5)
  exact ⟨b, xs, rfl, hq, fun p hp => z _ M3 ι3 H3 _ p q9 ((p1.trans p2).trans p3) ((k1.trans k2).trans k3) S3 (rx.cut _ _) (Nat.le_trans (cutD_len _ _ _) hl) hp⟩
end
end VL
set_option Elab.async false
set_option linter.all false
set_option maxRecDepth 100000
set_option maxHeartbeats 4000000
namespace VL
open PySem PySem.Spec L2 RT RZ
def rcv (M : Mem) : Sv → Option String
  | .ref n => match M[n]? with
    | some (.lst _) => some "list"
    | some (.dk _) => some "dict"
    | _ => none
  | .d (.lst _) => some "list"
  | .bor _ => some "list"
  | .d (.str _) => some "str"
  | _ => none
abbrev Mt := Sv → List Sv → Mem → QD → Prop
def eMt (T : String) (f : Mt) (to : TE') (tA : TA') : TE' := fun δ M Q => to δ M fun o M1 => rcv M1 o = some T ∧ tA δ M1 fun xs M2 => f o xs M2 Q
def RdMt (K : PySem.W.Frag) (r : V → List V → Hp → VK → Prop) (f : Mt) : Prop := ∀ (G : Gd) (δ : DS) (M : Mem) (ι : Ix) (σ : L2.St) (H : Hp) (o : Sv) (xs : List Sv) (v : V) (vs : List V) (Q0 : QD), Sr K G δ M ι σ H → RS K G.N H ι o v → RSs K G.N H ι xs vs → f o xs M Q0 →
  ∀ Q : VK, (∀ d M' ι' H' w, Q0 d M' → Ex ι ι' → Kp ι H ι' H' → Sr K G δ M' ι' σ H' → RS K G.N H' ι' d w → Q w H') → r v vs H Q
section
variable {K : PySem.W.Frag} {X : Cx} {G : Gd} {e a b o : Expr} {es : List Expr} {pos cpos apos : Pos} {ta tb t to : TE'} {N : Bool → Addr → Prop} {H : Hp} {ι : Ix} {tA : TA'}
theorem rcv_ty {δ : DS} {M : Mem} {σ : L2.St} {s : Sv} {v : V} {T : String} (S : Sr K G δ M ι σ H) (r : RS K G.N H ι s v) (e : rcv M s = some T) : tyV K T v H := by
  cases s with
  | ref n =>
    simp only [rcv] at e
    split at e
    · rename_i ds hM
      cases e
      obtain ⟨a, rfl, hn, xs, q, _, _⟩ := S.mem.at r hM (fun z => nomatch z)
      exact .inl ⟨rfl, xs, SqL.of q⟩
    · rename_i ds hM
      cases e
      obtain ⟨a, rfl, hn, xs, q, _, _⟩ := S.mem.at r hM (fun z => nomatch z)
      exact .inr (.inr (.inl ⟨rfl, .inl ⟨xs, q⟩⟩))
    · cases e
  | bor ds => cases e; obtain ⟨a, xs, rfl, q, _⟩ := r; exact .inl ⟨rfl, xs, SqL.of q⟩
  | d d =>
    cases d with
    | lst ds => cases e; obtain ⟨a, xs, rfl, q, _⟩ := r; exact .inl ⟨rfl, xs, SqL.of q⟩
    | str z => cases e; cases (show _ = _ from r); rfl
    | _ => cases e
theorem ve_mt {n : Nat} {T id : String} {name : Str} {r : V → List V → Hp → VK → Prop} {f : Mt} (pa : PlainAttrs T) (slot : Slot T name id) (hty : typeOf (.builtin id) = pure (.type "method_descriptor")) (hm : MtR X id r) (hf : RdMt X.K r f) (ho : VE X G o to) (ha : VA X G (e :: es) n tA)
    (hbase : attributeBase o name X.env (eval o X.env) = eval o X.env := by rfl)
    (hfew : ((backTo cpos (starEach (e :: es) X.env)).all (fun x => !x.1) && (backToKw cpos (keywordEach [] X.env)).all (fun x => x.1.isSome)
      && decide ((e :: es).length + ([] : List Keyword).length + (if ([] : List Keyword).isEmpty then 0 else 1) < 30)) = true := by rfl)
    (hline : (apos.endLine == cpos.line) = true := by rfl) (hs : starEach (e :: es) X.env = (false, eval e X.env) :: starEach es X.env := by rfl) (hplain : (backTo cpos (starEach es X.env)).any (·.1) = false := by rfl) :
    VE X G (.Call (.Attribute o name apos) (e :: es) [] cpos) (eMt T f to tA) :=
  PE.weak (pe_bm pa slot hty hm ho ha hbase hfew hline hs hplain) fun σ H Q ⟨δ, M, ι, Q0, S, q, z⟩ => th1 S q fun s M1 ι1 H1 v q1 p1 k1 S1 r1 =>
    ⟨rcv_ty S1 r1 q1.1, thA S1 q1.2 fun xs M2 ι2 H2 vs hl q2 p2 k2 S2 r2 =>
      hf G δ M2 ι2 σ H2 s xs v vs Q0 S2 (r1.mono k2 p2 fun _ _ _ _ q => q) r2 q2 Q fun d M3 ι3 H3 w q3 p3 k3 S3 r3 => z d M3 ι3 H3 w q3 ((p1.trans p2).trans p3) ((k1.trans k2).trans k3) S3 r3⟩
def mApp : Mt := fun o xs M Q => match o, xs with
  | .ref n, [.d x] => ok (cellL M[n]?) fun ds => ds.length < sizeLine ∧ Q (.d .non) (M.set n (.lst (ds ++ [x])))
  | _, _ => False
def mExt : Mt := fun o xs M Q => match o, xs with
  | .ref n, [s] => ok (cellL M[n]?) fun ds => ok (laidD M s) fun es => ds.length + es.length ≤ sizeLine ∧ Q (.d .non) (M.set n (.lst (ds ++ es)))
  | _, _ => False
/-- the end of a method that turns a list -/
theorem fin_turn {δ : DS} {M : Mem} {σ : L2.St} {n : Nat} {a : Addr} {ds' : List D} {xs' : List V} {s : Sv} {w : V} {Q0 : QD} {Q : VK} (S : Sr K G δ M ι σ H) (hn : ι[n]? = some (some a)) (r : RDs K G.N H ι ds' xs') (hl : ds'.length ≤ sizeLine) (rs : RS K G.N H ι s w) (q : Q0 s (M.set n (.lst ds')))
    (z : ∀ d M' ι' H' w, Q0 d M' → Ex ι ι' → Kp ι H ι' H' → Sr K G δ M' ι' σ H' → RS K G.N H' ι' d w → Q w H') (ho : ObT H a (.lst xs') := by refine ObT.of (by assumption) ?_ ?_ <;> (intro C dx fs z; cases z)) : Q w (upd H a (.lst xs')) := by
  have hm := List.mem_of_getElem? hn
  have k : Kp ι H ι (upd H a (.lst xs')) := Kp.turned hm
  exact z s _ ι _ w q (Ex.refl _) k (S.turned hn ⟨xs', upd_same, hl, r.mono k fun _ _ _ _ z => z⟩ trivial ho) (rs.mono k (Ex.refl _) fun _ _ _ _ z => z)
theorem rd_app : RdMt K rAppend mApp := by
  intro G δ M ι σ H o xs v vs Q0 S ro rx h Q z
  unfold mApp at h
  split at h
  · rename_i n x
    obtain ⟨ds, e, hl, q⟩ := ok_elim h
    obtain ⟨a, rfl, hn, ys, hH, _, r⟩ := S.mem.at ro (cellL_some e) (fun z => nomatch z)
    obtain ⟨y, rfl, ry⟩ := one_of rx
    exact ⟨a, ys, y, rfl, rfl, hH, by rw [← r.length]; exact hl, fin_turn (s := .d .non) S hn (r.append (es := [x]) ⟨y, [], rfl, ry, rfl⟩) (by simp; omega) rfl q z⟩
  · exact h.elim
theorem rd_ext : RdMt K rExtend mExt := by
  intro G δ M ι σ H o xs v vs Q0 S ro rx h Q z
  unfold mExt at h
  split at h
  · rename_i n s
    obtain ⟨ds, e, h⟩ := ok_elim h
    obtain ⟨es, e2, hl, q⟩ := ok_elim h
    obtain ⟨a, rfl, hn, ys, hH, _, r⟩ := S.mem.at ro (cellL_some e) (fun z => nomatch z)
    obtain ⟨y, rfl, ry⟩ := one_of rx
    obtain ⟨b, zs, rfl, hb, r2, _⟩ := laid_of S ry e2
    exact ⟨a, b, ys, zs, rfl, rfl, hH, hb, by rw [← r.length, ← r2.length]; exact hl, fin_turn (s := .d .non) S hn (r.append r2) (by simpa using hl) rfl q z⟩
  · exact h.elim
def mPure (f : Mem → Sv → List Sv → Option Sv) : Mt := fun o xs M Q => ok (f M o xs) fun d => Q d M
def countD (M : Mem) (o : Sv) : List Sv → Option Sv
  | [.d x] => (lstD M o).bind fun ds => gd (okE x = true ∧ okE (.lst ds) = true) (intS ((ds.countP fun z => eqvD z x : Nat) : Int))
  | _ => none
def poMt (T : String) (f : Mem → Sv → List Sv → Option Sv) (a : PV) (ps : List PV) : PV := fun δ M => (a δ M).bind fun o => (gd (rcv M o = some T) ()).bind fun _ => (pArgs ps δ M).bind fun xs => f M o xs
theorem VE.pMt {T : String} {f : Mem → Sv → List Sv → Option Sv} {pv : PV} {ps : List PV} (h : VE X G e (eMt T (mPure f) (eP pv) (aP ps))) : VE X G e (eP (poMt T f pv ps)) := h.weak fun δ M Q h => by
  unfold eP poMt at h
  rw [ok_bind] at h
  obtain ⟨d, q1, h⟩ := ok_elim h
  rw [ok_bind] at h
  obtain ⟨u, q2, h⟩ := ok_elim h
  rw [ok_bind] at h
  obtain ⟨xs, q3, h⟩ := ok_elim h
  exact ok_of q1 ⟨(gd_some q2).1, ok_of q3 h⟩
end
end VL
set_option Elab.async false
set_option linter.all false
set_option maxRecDepth 100000
set_option maxHeartbeats 4000000
namespace VL
open PySem PySem.Spec L2 RT RZ
def stD (o i : Sv) (d : D) (M : Mem) (Q : Mem → Prop) : Prop := match o, i with
  | .ref n, .d (.int k) => ok (cellL M[n]?) fun ds => ok (ixN ds.length k) fun j => Q (M.set n (.lst (ds.set j d)))
  | _, _ => False
def sSub (te to ti : TE') : TS' := fun E δ M => te δ M fun s M1 => ok (dataS s) fun d => to δ M1 fun o M2 => ti δ M2 fun i M3 => stD o i d M3 fun M4 => E.nx δ M4
/-- name op= e -/
def sAug (i : Nat) (f : Mem → Sv → Sv → Option Sv) (te : TE') : TS' := fun E δ M => ok (δ[i]?).join fun x => te δ M fun y M1 => ok (f M1 x y) fun z => E.nx (δ.set i (some z)) M1
/-- a, b = x, y -/
def sPar (i j : Nat) (tA : TA') : TS' := fun E δ M => tA δ M fun xs M1 => match xs with
  | [x, y] => E.nx ((δ.set i (some x)).set j (some y)) M1
  | _ => False
/-- the same by a tuple, any names -/
def setAllS : List Nat → List Sv → DS → Option DS
  | [], [], δ => some δ
  | i :: is, d :: ds, δ => setAllS is ds (δ.set i (some d))
  | _, _, _ => none
def sParT (is : List Nat) (tA : TA') : TS' := fun E δ M => tA δ M fun xs M1 => ok (setAllS is xs δ) fun δ' => E.nx δ' M1
section
variable {K : PySem.W.Frag} {X : Cx} {G : Gd} {e a b o i c : Expr} {es : List Expr} {body : List Stmt} {pos cpos apos p1' p2' : Pos} {ta tb t to ti te : TE'} {N : Bool → Addr → Prop} {H : Hp} {ι : Ix} {tA : TA'} {tc : TT'} {s : TS'}
theorem vs_sub (he : VE X G e te) (ho : VE X G o to) (hi : VE X G i ti) (hs : swapsWithSole [.Subscript o i p1'] e pos.line X.env = pure false := by rfl) (hw : swappedStores [.Subscript o i p1'] e X.env = pure none := by rfl)
    (h1 : (assignEach [.Subscript o i p1'] X.env).map (·.2) = [assign (.Subscript o i p1') X.env] := by rfl)
    (ha : ∀ v, assign (.Subscript o i p1') X.env v = (do
      let ov ← holding [v] (eval o X.env)
      let iv ← holding [v, ov] (eval i X.env)
      standAt p1'
      holding [v, ov, iv] (setItem ov iv v)
      release [v, ov, iv] []) := by intro _; rfl) : VS X G (.Assign [.Subscript o i p1'] e pos) (sSub te to ti) :=
  PS.weak (ps_asg he (pg_sub ho hi set_list ha) hs hw h1) fun E σ H ⟨δ, M, ι, E0, S, q, z⟩ => th1 S q fun s M1 ι1 H1 v q1 p1 k1 S1 r1 => by
    obtain ⟨d, e9, q1⟩ := ok_elim q1
    refine th1 S1 q1 fun x M2 ι2 H2 u q2 p2 k2 S2 r2 => th1 S2 q2 fun y M3 ι3 H3 w q3 p3 k3 S3 r3 => ?_
    have r1' := r1.mono (k2.trans k3) (p2.trans p3) (fun _ _ _ _ z => z)
    have r2' := r2.mono k3 p3 (fun _ _ _ _ z => z)
    unfold stD at q3
    split at q3
    · obtain ⟨ds, e1, q3⟩ := ok_elim q3
      obtain ⟨j, e2, q3⟩ := ok_elim q3
      obtain ⟨a, rfl, hn, ys, hH, hl, r⟩ := S3.mem.at r2' (cellL_some e1) (fun z => nomatch z)
      cases (show _ = _ from r3)
      cases s with
      | d x =>
        cases e9
        have hm := List.mem_of_getElem? hn
        have k : Kp ι3 H3 ι3 (upd H3 a (.lst (ys.set j v))) := Kp.turned hm
        refine ⟨a, ys, _, j, rfl, rfl, hH, by rw [← r.length]; exact e2, ?_⟩
        exact z.nx _ _ _ _ _ q3 ((p1.trans p2).trans p3) (((k1.trans k2).trans k3).trans k) (S3.turned hn ⟨_, upd_same, by simpa using hl, (RDs.set j (show RD _ _ _ _ _ _ from r1') r).mono k fun _ _ _ _ z => z⟩)
      | ref n => cases e9
      | bor n => cases e9
    · exact q3.elim
theorem vs_par {i j : Nat} {x y : Str} {px py pt pt2 : Pos} {kt k2 : Nat} (hc : X.calm = true) (hN : X.N.Nodup) (hi : X.N[i]? = some x) (hj : X.N[j]? = some y) (hij : i ≠ j)
    (hx : X.env.scope.names.lookup x = some .local) (hy : X.env.scope.names.lookup y = some .local) (ha : VA X G [a, b] 2 tA)
    (hw : swappedStores [.Tuple [.Name x px, .Name y py] kt pt] (.Tuple [a, b] k2 pt2) X.env = pure (some [x, y]))
    (hs : swapsWithSole [.Tuple [.Name x px, .Name y py] kt pt] (.Tuple [a, b] k2 pt2) pos.line X.env = pure false := by rfl) :
    VS X G (.Assign [.Tuple [.Name x px, .Name y py] kt pt] (.Tuple [a, b] k2 pt2) pos) (sPar i j tA) :=
  PS.weak (ps_par hc hN hi hj hij hx hy ha hw hs) fun E σ H ⟨δ, M, ι, E0, S, q, z⟩ => thA S q fun xs M1 ι1 H1 vs hl q1 p1 k1 S1 r1 => by
    obtain ⟨u, w, rfl⟩ : ∃ u w, xs = [u, w] := by
      match xs, hl with
      | [u, w], _ => exact ⟨u, w, rfl⟩
    obtain ⟨v1, v2, rfl, h1, h2⟩ := two_of r1
    exact ⟨v1, v2, rfl, z.nx _ M1 ι1 _ H1 q1 p1 k1 ((S1.set h1).set h2)⟩
theorem RSs.length : ∀ {ds : List Sv} {vs : List V}, RSs K N H ι ds vs → ds.length = vs.length
  | [], _, h => by cases (show _ = _ from h); rfl
  | d :: ds, _, h => by
    obtain ⟨x, r, rfl, _, h2⟩ := h
    simp [RSs.length h2]
end
end VL
set_option Elab.async false
set_option linter.all false
set_option maxRecDepth 100000
set_option maxHeartbeats 400000
namespace VL
open PySem PySem.Spec PyProof.Rows L2
structure RoomG (k : Nat) (A : Around) : Prop where
  rm : Room k A
  gs : A.guards = some []
theorem RoomG.mono {j k : Nat} {A : Around} (r : RoomG k A) (h : j ≤ k) : RoomG j A := ⟨r.rm.mono h, r.gs⟩
theorem RoomG.deeper {k : Nat} {A : Around} (r : RoomG (k + 1) A) (env : Env) : RoomG k (A.deeper env) := ⟨r.rm.deeper env, r.gs⟩
structure FnG (P : Program) (w : World) (K : PySem.W.Frag) (mg : Str → Option Value) (base : Heap) (CX : CXT) (k : Nat) (f : Addr) (fd : FuncData) (ps : List Str) (sp : Sp) : Prop where
  len : ∀ vs H Q E, sp vs H Q E → vs.length = ps.length
  run : ∀ (A : Around) (outer : List Env) (s : Shared) (H : Hp) (args : Args) (us : List Value) (vs : List V) (Q : VK) (E : XK), RoomG k A → Env0 P w K mg base A outer s H → BindsTo s fd args (ps.zip us) → Vals vs us → sp vs H Q E →
    codeAny (model P w) A (.call (.ref f) args) (CR CX outer P w H s Q E) s
theorem FnG.mono {P : Program} {w : World} {K : PySem.W.Frag} {mg : Str → Option Value} {base : Heap} {CX : CXT} {j k : Nat} {f : Addr} {fd : FuncData} {ps : List Str} {sp : Sp} (F : FnG P w K mg base CX j f fd ps sp) (h : j ≤ k) :
    FnG P w K mg base CX k f fd ps sp := ⟨F.len, fun A outer s H args us vs Q E hr => F.run A outer s H args us vs Q E (hr.mono h)⟩
section
variable {X : Cx} {CX : CXT} {k : Nat} {f C : Addr} {fd : FuncData} {ps : List Str} {sp : Sp} {dvs : List V} {ds : List Value} {E : XK} {x m : Str} {p pos apos : Pos} {e o : Expr} {es : List Expr} {ta : TE} {t : TA}
theorem run_g {pins : List (Addr × Obj)} {σ : L2.St} {H : Hp} {s : Shared} {Q : VK} {us : List Value} {vs : List V} (F : FnG X.prog X.w X.K X.mg X.base CX k f fd ps sp) (hr : RoomG k X.A) (hb : Binds X.K fd ps ds) (hd : Vals dvs ds) (hx : Passes CX X E)
    (I : Inv X pins σ H s) (r : Vals vs us) (h : sp (vs ++ dvs) H Q E) : wpAny (model X.prog X.w) X.A (call (.ref f) us) (EP X pins σ Q) X.xe s := by
  have r2 : Vals (vs ++ dvs) (us ++ ds) := r.append hd
  have hl : (us ++ ds).length = ps.length := by rw [← r2.length]; exact F.len _ _ _ _ h
  refine wpAny_call (codeAny_mono (F.run X.A X.stack s H ⟨us, []⟩ (us ++ ds) (vs ++ dvs) Q E hr I.env0 (hb s us I.kIn hl) r2 h) fun r s' hq => ?_)
  cases r with
  | error e => exact hx pins σ H s e s' I hq
  | ok fl =>
    cases fl with
    | ret u => exact I.after hq
    | next => exact False.elim hq
    | brk => exact False.elim hq
    | cont => exact False.elim hq
theorem pe_callg (F : FnG X.prog X.w X.K X.mg X.base CX k f fd ps sp) (hr : RoomG k X.A) (hg : Gl X x) (hm : X.mg x = some (.ref f)) (hk : PySem.W.keepIn X.K (.ref f) = true) (hb : Binds X.K fd ps ds) (hd : Vals dvs ds) (hx : Passes CX X E)
    (ha : PA X (e :: es) t) (hdb : (x == ("__debug__" : Str)) = false := by decide) (he : starEach (e :: es) X.env = (false, eval e X.env) :: starEach es X.env := by rfl) (hpl : (backTo pos (starEach es X.env)).any (·.1) = false := by rfl) :
    PE X (.Call (.Name x p) (e :: es) [] pos) (tCall sp dvs E t) :=
  ⟨fun pins s σ H Q I h => wpAny_Call_Name_kw (ld_glob I hg hm (PySem.W.callWith_K (h₀ := X.base) I.ok.mod.kin hk (thn (ha.run pos pins s σ H _ I h) fun us s1 ⟨vs, H1, I1, r, q⟩ => ⟨I1.kIn, run_g F hr hb hd hx I1 r q⟩) he hpl) hdb)⟩
end
/-- a def by its body -/
theorem fn_g {CX : CXT} {P : Program} {w : World} {K : PySem.W.Frag} {mg : Str → Option Value} {base : Heap} {k : Nat} {f : Addr} {x qual : Str} {params : Arguments} {body : List Stmt} {scope : Scope} {dvs : List V} {kws : List (Str × V)} {fd : FuncData}
    {N ps : List Str} {sp : Sp} (F : FunD K x qual params body scope dvs kws f fd) (S : FnScope N ps scope)
    (len : ∀ vs H Q E, sp vs H Q E → vs.length = ps.length)
    (hbody : ∀ (cdv : Value) (A : Around) (outer : List Env) (s : Shared) (H : Hp) (vs : List V) (Q : VK) (E : XK), RoomG k (A.deeper (envOfC qual scope s.heap.objs.size f cdv)) → sp vs H Q E →
      ∃ t, PSs (cxOf CX P w K mg base N qual scope f cdv A outer s H E) body t ∧ t { nx := fun _ H' => Q .non H', rt := Q } (L2.start N vs) H) :
    FnG P w K mg base CX (k + 1) f fd ps sp := by
  obtain ⟨oc, od, dV, kV, doc, pm, an, cdv, ct, osl, rfl, lk, hcd, _, _⟩ := F.ex
  refine ⟨len, fun A outer s H args us vs Q E hr e0 hb r hsp => ?_⟩
  have hl := len _ _ _ _ hsp
  have KX : K.In s.heap := e0.mod.kin.keeps fun b o e => (e0.bs b o e).1
  have lim : s.heap.NoLimit := e0.mod.nolimit.keeps fun b o e => (e0.bs b o e).1
  have hkind : ∀ y ∈ ps.zip us, scope.names.lookup y.1 = some .local ∨ (scope.names.lookup y.1 = some .cell ∧ ((cellsFrom (s.heap.objs.size + 1) scope.names []).lookup y.1).isSome = true) := fun y hy => by
    have hy1 : y.1 ∈ ps := (List.of_mem_zip (show (y.1, y.2) ∈ ps.zip us from hy)).1
    exact (S.par y.1 hy1).imp id fun q => ⟨q, PySem.W.cellsFrom_some _ _ _ (.inl q)⟩
  refine codeAny_call_function hr.rm.depth (KX _ _ lk) rfl S.co S.gen rfl (PySem.W.codeRec_of KX hcd) (hb _ _ _ _ ?_)
  refine wpAny_newFunctionEnv_cells S.kind hkind fun env he s1 x => ?_
  subst he
  refine ⟨lim.keeps x.toInCall.keep, codeAny_func ?_⟩
  obtain ⟨t, ht, hq⟩ := hbody cdv A outer s H vs Q E (hr.deeper _) hsp
  have I : Inv (cxOf CX P w K mg base N qual scope f cdv A outer s H E) [] (L2.start N vs) H s1 := inv_start S hr.rm.hd e0 hl r x
  refine wpAny_mono (ht.run [] s1 (L2.start N vs) H _ I hq) (fun fl s' hs => ?_) fun e s' hs => hs
  have fin : ∀ {σ' : L2.St} {H' : Hp} {v : V} {u : Value}, Inv (cxOf CX P w K mg base N qual scope f cdv A outer s H E) [] σ' H' s' → RelV v u → Q v H' → CE outer P w H s Q u s' :=
    fun {σ' H' v u} J rv q => ⟨v, H', J.os, J.bare, J.base, J.hok, rv, q⟩
  cases fl with
  | ret u =>
    obtain ⟨v, σ', H', J, rv, q⟩ := hs
    exact fin J rv q
  | next =>
    obtain ⟨σ', H', J, q⟩ := hs
    exact fin (v := V.non) (u := Value.none) J rfl q
  | brk =>
    obtain ⟨_, _, _, q⟩ := hs
    exact False.elim q
  | cont =>
    obtain ⟨_, _, _, q⟩ := hs
    exact False.elim q
theorem law_g {P : Program} {w : World} {K : PySem.W.Frag} {mg mb : Str → Option Value} {CX : CXT} {k : Nat} {fa a : Addr} {fd : FuncData} {x : Str} {sp : Sp} {s₁ : Shared} {vs : List Value} {ns : List Int}
    (KX : K.In s₁.heap) (hns : s₁.heap.Ns mainGlobals mg) (hb : s₁.heap.Ns builtinsNs mb) (hbb : ∀ x : Str, x ≠ "__name__" → mb x = bootBuiltins x) (hlim : s₁.heap.NoLimit) (hg : s₁.gens = #[])
    (ha : s₁.heap.get? a = some { cls := .type "list", data := .seq vs.toArray }) (hi : IntsAre vs ns) (hl : ns.length ≤ sizeLine) (hr : Room k callerA)
    (F : ∀ base : Heap, K.In base → base.Ns mainGlobals mg → FnG P w K mg base CX k fa fd [x] sp) (hbind : ∀ (s : Shared) (u : Value), BindsTo s fd ⟨[u], []⟩ [(x, u)])
    (hsp : ∀ H : Hp, Only H → SqL K H a (ns.map V.int) → sp [.ref a] H (fun v _ => v = .bl true) fun _ _ _ => False)
    (hCX : ∀ H e s', CX [] H s₁ (fun _ _ _ => False) e s' → False) :
    codeAny (model P w) callerA (.call (.ref fa) ⟨[.ref a], []⟩) (fun r s' => r = .ok (.ret (.bool true)) ∧ OldK s₁.heap s'.heap ∧ s'.os = s₁.os ∧ AllBare s'.gens) s₁ := by
  have rv := vals_ints hi
  have lenV := hi.length
  have core : ∀ H : Hp, Only H → SqL K H a (ns.map V.int) → HOk P w H s₁.heap → (∀ b, H b ≠ none → b = a) → (H a ≠ none → K.lookup a = none) →
      codeAny (model P w) callerA (.call (.ref fa) ⟨[.ref a], []⟩) (fun r s' => r = .ok (.ret (.bool true)) ∧ OldK s₁.heap s'.heap ∧ s'.os = s₁.os ∧ AllBare s'.gens) s₁ := by
    intro H hO hS hok hA hK
    have noA : ∀ {b : Addr} {o : Obj} {es : Array DictEntry} {ep : Nat}, s₁.heap.get? b = some o → o.data = .dict es ep → H b = none := fun {b o es ep} e d => by
      refine Classical.byContradiction fun z => ?_
      have e' : b = a := hA b z
      subst e'
      rw [ha] at e; cases e
      have d' : Data.seq vs.toArray _ = Data.dict es ep := d
      cases d'
    have nsK : ∀ {b : Addr} {m : Str → Option Value}, s₁.heap.Ns b m → (hidT s₁.heap H).Ns b m := fun {b m} ⟨o, es, ep, e, d, r⟩ => ⟨o, es, ep, hidT_get e (noA e d), d, r⟩
    have hKb : K.In (hidT s₁.heap H) := fun b o e => hidT_get (KX b o e) (Classical.byContradiction fun z => by
      have e' : b = a := hA b z
      subst e'
      rw [hK z] at e; cases e)
    have hM : Mod K mg (hidT s₁.heap H) := ⟨hKb, nsK hns, ⟨mb, nsK hb, hbb⟩, let ⟨mc, h1, h2⟩ := hlim; ⟨mc, nsK h1, h2⟩⟩
    have e0 : Env0 P w K mg (hidT s₁.heap H) callerA [] s₁ H := ⟨rfl, hM, fun b o e => of_hidT e, Nat.le_of_eq (hidT_size _ _), trivial, fun b hb => absurd (show b ∈ ([] : List Addr) from hb) (by simp), hok, .of_eq hg⟩
    refine codeAny_mono ((F _ hKb (nsK hns)).run callerA [] s₁ H ⟨[.ref a], []⟩ [.ref a] [.ref a] _ _ ⟨hr, rfl⟩ e0 (hbind s₁ (.ref a)) (.cons rfl .nil) (hsp H hO hS)) fun r s' h => ?_
    cases r with
    | error e => exact (hCX H e s' h).elim
    | ok fl =>
     cases fl with
     | next => exact False.elim h
     | brk => exact False.elim h
     | cont => exact False.elim h
     | ret u =>
      obtain ⟨v, H', os, bare, un, hok', r', q⟩ := h
      have q' : v = .bl true := q
      subst q'
      obtain rfl : u = Value.bool true := r'
      refine ⟨rfl, OldK.of_keep fun b o e => ?_, os, bare⟩
      cases q : H b with
      | none => exact un.keep b o e q (by intro z; exact absurd (show b ∈ ([] : List Addr) from z) (by simp)) (by simp)
      | some u =>
        rcases hO b with z | ⟨ob, xs, z⟩
        · rw [q] at z; cases z
        · obtain ⟨e1, _⟩ := hok b _ z
          obtain ⟨e2, _⟩ := hok' b _ (un.frzs b ob _ z)
          rw [e] at e1; cases e1
          exact e2
  cases hk : K.lookup a with
  | some o =>
    have e := KX a o hk
    rw [ha] at e
    cases e
    exact core (fun _ => none) (fun _ => .inl rfl) (.inr ⟨_, vs.toArray, _, hk, rfl, rfl, rfl, by rw [List.size_toArray, lenV]; exact hl, by simpa using rv⟩) (fun b u z => by have z' : (none : Option HO) = some u := z; cases z') (fun b z => absurd rfl z) fun z => absurd rfl z
  | none =>
    have at_ : ∀ b u, (if b = a then some (HO.frz { cls := .type "list", data := .seq vs.toArray } (.lst (ns.map V.int))) else none) = some u → b = a ∧ u = HO.frz { cls := .type "list", data := .seq vs.toArray } (.lst (ns.map V.int)) := fun b u z => by
      by_cases hb : b = a
      · rw [if_pos hb] at z; cases z; exact ⟨hb, rfl⟩
      · rw [if_neg hb] at z; cases z
    refine core (fun b => if b = a then some (.frz { cls := .type "list", data := .seq vs.toArray } (.lst (ns.map V.int))) else none) (fun b => ?_) (.inl (.inr ⟨{ cls := .type "list", data := .seq vs.toArray }, if_pos rfl⟩)) (fun b u z => ?_) (fun b z => ?_) fun _ => hk
    · by_cases hb : b = a
      · exact .inr ⟨_, _, if_pos hb⟩
      · exact .inl (if_neg hb)
    · obtain ⟨rfl, rfl⟩ := at_ b u z
      exact ⟨ha, by rw [List.length_map]; exact hl, vs, _, rv, ha⟩
    · exact Classical.byContradiction fun hb => z (if_neg hb)
theorem walk_g {l : PySem.W.OpenLaw} {n k : Nat} {q : Program} {loose : List Str} {XP : (Str → Option Value) → Heap → Prop} {YP : World → Heap → Prop} {d : DefRec} {CX : CXT} {x : Str}
    (hn : l.most = some n) (hn2 : n ≤ sizeLine) (hdf : d.params.defaults = []) (hr : Room k callerA)
    (F : ∀ (w : World) (mg : Str → Option Value) (fa : Addr) (h : Heap), YP w h → h.Ns mainGlobals mg → mg d.name = some (.ref fa) →
      ∃ (K : PySem.W.Frag) (fd : FuncData) (sp : Sp), K.In h ∧ (∀ (s : Shared) (u : Value), BindsTo s fd ⟨[u], []⟩ [(x, u)]) ∧
        (∀ (H : Hp) (a : Addr) (ns : List Int), ns.length ≤ n → Only H → SqL K H a (ns.map V.int) → sp [.ref a] H (fun v _ => v = .bl true) fun _ _ _ => False) ∧
        ∀ base : Heap, K.In base → base.Ns mainGlobals mg → FnG l.prog w K mg base CX k fa fd [x] sp)
    (hCX : ∀ (H : Hp) (s : Shared) (e : Value) (s' : Shared), CX [] H s (fun _ _ _ => False) e s' → False) :
    PySem.W.WalkO q loose XP YP l.row.toRowW d [] (fun f vs => PySem.call f vs) := by
  refine Att.attach_call hn hdf fun w s₀ s₁ mg mb fa o pm cd doc a vs ns G Y ho hd hcd hmg hobj hints hlen hg => ?_
  obtain ⟨K, fd, sp, KX, hb, hsp, hF⟩ := F w mg fa _ Y G.T.g hmg
  exact law_g KX G.T.g G.T.b G.T.builtins G.T.nolimit hg hobj hints (Nat.le_trans hlen hn2) hr hF hb (fun H hO hS => hsp H a ns hlen hO hS) fun H e s' => hCX H s₁ e s'
end VL
set_option Elab.async false
set_option linter.all false
set_option maxRecDepth 100000
set_option maxHeartbeats 4000000
namespace VL
open PySem PySem.Spec L2 RT RZ
/-- a result: data, or a new list -/
inductive Rv where
  | d (x : D) | new (ds : List D) | newK (kvs : List (Key × D))
def Rv.cell : Rv → Option Cell
  | .d _ => none
  | .new ds => some (.lst ds)
  | .newK kvs => some (.dk kvs)
abbrev SpD := List Sv → Mem → (Rv → Mem → Prop) → Prop
def NB (B : Addr → Prop) : Bool → Addr → Prop := fun b a => ¬ False ∧ (b = true → ¬ B a)
/-- objects stay objects -/
def ObI (ι : Ix) (H0 H : Hp) : Prop := ∀ l : List Addr, l.map some = ι → ObK l H0 H
theorem ObI.of {l : List Addr} {H0 H : Hp} (h : ObK l H0 H) : ObI (l.map some) H0 H := fun m e => by
  have : m = l := List.map_inj_right (fun a b z => Option.some.inj z) |>.mp e
  rw [this]; exact h
/-- how a result lies: ι the callee's changing arguments -/
def RR (K : PySem.W.Frag) (N : Bool → Addr → Prop) (H0 H : Hp) (ι : Ix) (M : Mem) : Rv → V → Prop
  | .d x, v => RD K N H ι x v ∧ RM K N H ι M ∧ Kp ι H0 ι H ∧ ObI ι H0 H
  | .new ds, v => ∃ a, v = .ref a ∧ H0 a = none ∧ RM K N H (ι ++ [some a]) (M ++ [.lst ds]) ∧ Kp ι H0 (ι ++ [some a]) H ∧ ObI ι H0 H
  | .newK kvs, v => ∃ a, v = .ref a ∧ H0 a = none ∧ RM K N H (ι ++ [some a]) (M ++ [.dk kvs]) ∧ Kp ι H0 (ι ++ [some a]) H ∧ ObI ι H0 H
theorem RR.of {K : PySem.W.Frag} {N : Bool → Addr → Prop} {H0 H : Hp} {ι : Ix} {M : Mem} {v : V} {c : Cell} : ∀ {r : Rv}, r.cell = some c → ((∃ a, v = .ref a ∧ H0 a = none ∧ RM K N H (ι ++ [some a]) (M ++ [c]) ∧ Kp ι H0 (ι ++ [some a]) H ∧ ObI ι H0 H) ↔ RR K N H0 H ι M r v)
  | .d _, e => by cases e
  | .new ds, e => by cases e; exact Iff.rfl
  | .newK kvs, e => by cases e; exact Iff.rfl
def resC : Option Cell → Option Rv
  | some (.lst ds) => some (.new ds)
  | some (.dk kvs) => some (.newK kvs)
  | _ => none
theorem resC_some {o : Option Cell} {r : Rv} (h : resC o = some r) : ∃ c, o = some c ∧ r.cell = some c ∧ c ≠ .gone ∧ ∀ k its, c ≠ .nd k its := by
  unfold resC at h
  split at h
  · cases h; exact ⟨_, rfl, rfl, (fun z => nomatch z), fun _ _ z => nomatch z⟩
  · cases h; exact ⟨_, rfl, rfl, (fun z => nomatch z), fun _ _ z => nomatch z⟩
  · cases h
def lP (K : PySem.W.Frag) (n : Nat) (sp : SpD) : Sp := fun vs H Q _ => ∃ (as : List Sv) (M : Mem) (i0 : List Addr) (B : Addr → Prop) (Q0 : Rv → Mem → Prop),
  as.length = n ∧ (∀ a, B a → ∃ o, H a = some o) ∧ RSs K (NB B) H (i0.map some) as vs ∧ RM K (NB B) H (i0.map some) M ∧ sp as M Q0 ∧
  ∀ r M' v H', Q0 r M' → RR K (NB B) H H' (i0.map some) M' r v → Q v H'
/-- the ends of a body: m cells were handed in -/
def resD (M : Mem) : Sv → Option Rv
  | .d x => some (.d x)
  | .ref n => resC M[n]?
  | .bor _ => none
def okRef (m : Nat) : Sv → Prop
  | .ref n => m ≤ n
  | _ => True
def endsF (m : Nat) (Q0 : Rv → Mem → Prop) : Ends' where
  nx := fun _ M => Q0 (.d .non) (M.take m)
  rt := fun s M => okRef m s ∧ ok (resD M s) fun r => Q0 r (M.take m)
def startD (n : Nat) (as : List Sv) : DS := as.map some ++ List.replicate (n - as.length) none
section
variable {K : PySem.W.Frag} {X : Cx} {N : Bool → Addr → Prop} {H : Hp} {ι : Ix}
theorem RSs.get : ∀ {as : List Sv} {vs : List V} {i : Nat} {d : Sv}, RSs K N H ι as vs → as[i]? = some d → ∃ v, vs[i]? = some v ∧ RS K N H ι d v
  | [], _, _, _, _, e => by simp at e
  | a :: as, _, i, d, h, e => by
    obtain ⟨x, r, rfl, h1, h2⟩ := h
    cases i with
    | zero => simp at e; subst e; exact ⟨x, rfl, h1⟩
    | succ i => exact RSs.get (i := i) h2 (by simpa using e)
theorem startD_at {n : Nat} {as : List Sv} {i : Nat} {d : Sv} (h : (startD n as)[i]? = some (some d)) : as[i]? = some d := by
  unfold startD at h
  by_cases hi : i < as.length
  · rw [List.getElem?_append_left (by simpa using hi), List.getElem?_map] at h
    cases q : as[i]? with
    | none => rw [q] at h; cases h
    | some u => rw [q] at h; cases h; rfl
  · rw [List.getElem?_append_right (by simpa using hi), List.getElem?_replicate] at h
    split at h <;> cases h
/-- the ground of a callee -/
abbrev gnd (H : Hp) (i0 : List Addr) (B : Addr → Prop) : Gd := ⟨H, i0, B, fun _ => False⟩
theorem start_sr {Ns : List Str} {as : List Sv} {vs : List V} {M : Mem} {i0 : List Addr} {B : Addr → Prop} (hB : ∀ a, B a → ∃ o, H a = some o) (r : RSs K (NB B) H (i0.map some) as vs) (m : RM K (NB B) H (i0.map some) M) :
    Sr K (gnd H i0 B) (startD Ns.length as) M (i0.map some) (L2.start Ns vs) H := by
  have hl := r.length
  refine ⟨by unfold startD L2.start; simp [hl], fun i d e => ?_, m, fun n a e => ?_, Kp.refl _ _, fun a ha hn => ?_, hB, fun a ha => ha.elim, ObK.refl _ _⟩
  · have e1 := startD_at e
    obtain ⟨v, e2, r2⟩ := r.get e1
    refine ⟨v, ?_, r2⟩
    unfold L2.start
    rw [List.getElem?_append_left (by simpa using (List.getElem?_eq_some_iff.mp e2).1), List.getElem?_map, e2]; rfl
  · rw [List.getElem?_map, e]; rfl
  · exact absurd (by simpa using ha) hn
theorem pre_take {G : Gd} {δ : DS} {M : Mem} {σ : L2.St} (S : Sr K G δ M ι σ H) : ι.take G.i0.length = G.i0.map some := by
  apply List.ext_getElem?
  intro n
  rw [List.getElem?_take, List.getElem?_map]
  split
  · rename_i h
    rw [List.getElem?_eq_getElem h]
    exact S.pre n _ (List.getElem?_eq_getElem h)
  · rename_i h
    rw [List.getElem?_eq_none (by omega)]; rfl
/-- a body keeps the promise -/
theorem body_at {Ns : List Str} {body : List Stmt} {t : TS'} {vs : List V} {Q : VK} {as : List Sv} {M : Mem} {i0 : List Addr} {B : Addr → Prop} {Q0 : Rv → Mem → Prop}
    (hb : VSs X (gnd H i0 B) body t) (hB : ∀ a, B a → ∃ o, H a = some o) (ra : RSs X.K (NB B) H (i0.map some) as vs) (rm : RM X.K (NB B) H (i0.map some) M) (hp : t (endsF M.length Q0) (startD Ns.length as) M)
    (z : ∀ r M' v H', Q0 r M' → RR X.K (NB B) H H' (i0.map some) M' r v → Q v H') :
    ∃ t', PSs X body t' ∧ t' { nx := fun _ H' => Q .non H', rt := Q } (L2.start Ns vs) H := by
  have hlen : M.length = i0.length := by rw [rm.len]; simp
  have fin : ∀ {δ' : DS} {M' : Mem} {ι' : Ix} {σ' : L2.St} {H' : Hp}, Sr X.K (gnd H i0 B) δ' M' ι' σ' H' → RM X.K (NB B) H' (i0.map some) (M'.take M.length) ∧ Kp (i0.map some) H (i0.map some) H' ∧ Kp ι' H' (i0.map some) H' := fun S' => by
    have e := pre_take S'
    have S2 := S'.gc i0.length (Nat.le_refl _)
    rw [show (gnd H i0 B).i0.length = i0.length from rfl] at e
    rw [e] at S2
    refine ⟨by rw [hlen]; exact S2.mem, S2.kp, ?_⟩
    rw [← show (gnd H i0 B).i0 = i0 from rfl, ← e]; exact Kp.take _
  refine ⟨_, hb, startD Ns.length as, M, i0.map some, endsF M.length Q0, start_sr hB ra rm, hp, ?_⟩
  refine ⟨fun δ' M' ι' σ' H' q e k S' => ?_, fun d δ' M' ι' σ' H' v q S' r => ?_, fun δ' M' ι' σ' H' q e k S' => q.elim, fun δ' M' ι' σ' H' q e k S' => q.elim⟩
  · obtain ⟨f1, f2, f3⟩ := fin S'
    exact z _ _ .non H' q ⟨rfl, f1, f2, ObI.of S'.obk⟩
  · obtain ⟨f1, f2, f3⟩ := fin S'
    obtain ⟨hr, q9⟩ := q
    obtain ⟨rv, e, q⟩ := ok_elim q9
    clear q9
    cases d with
    | d x => cases e; exact z _ _ v H' q ⟨RD.mono f3 (fun _ _ _ _ z => z) x v r, f1, f2, ObI.of S'.obk⟩
    | bor ds => cases e
    | ref k =>
      obtain ⟨cc, e1, hcc, hng, hnn⟩ := resC_some (show resC M'[k]? = some rv from e)
      obtain ⟨a, rfl, hk, rc⟩ := S'.mem.at r e1 hng
      have hm : M.length ≤ k := hr
      have hno : a ∉ i0 := fun ha => by
        obtain ⟨j, hj⟩ := List.getElem?_of_mem ha
        have := S'.pre j a hj
        have e3 := S'.mem.nod _ _ _ this hk
        have := (List.getElem?_eq_some_iff.mp hj).1
        omega
      have f4 : Kp ι' H' (i0.map some ++ [some a]) H' := fun b o e n => by
        refine ⟨e, fun hb => ?_⟩
        rcases List.mem_append.mp hb with hb | hb
        · exact (f3 b o e n).2 hb
        · simp only [List.mem_singleton, Option.some.injEq] at hb; subst hb; exact n (List.mem_of_getElem? hk)
      have hsz : (M'.take M.length).length = (i0.map some).length := f1.len
      refine z _ _ _ H' q ((RR.of hcc).mp ⟨a, rfl, S'.new a (List.mem_of_getElem? hk) hno, ⟨by simp [hsz], fun n m b e1 e2 => ?_, fun n c b e1 e2 => ?_, fun n e1 => ?_, fun n c e1 => ?_⟩, fun b o e n => ?_, ObI.of S'.obk⟩)
      · rw [List.getElem?_append] at e1 e2
        split at e1 <;> split at e2
        · exact f1.nod n m b e1 e2
        · rename_i h1 h2
          have : b = a := by
            cases w : m - (i0.map some).length with
            | zero => rw [w] at e2; simpa using e2.symm
            | succ j => rw [w] at e2; simp at e2
          subst this
          exact absurd (by simpa using List.mem_of_getElem? e1) hno
        · rename_i h1 h2
          have : b = a := by
            cases w : n - (i0.map some).length with
            | zero => rw [w] at e1; simpa using e1.symm
            | succ j => rw [w] at e1; simp at e1
          subst this
          exact absurd (by simpa using List.mem_of_getElem? e2) hno
        · rename_i h1 h2
          cases w : n - (i0.map some).length with
          | zero =>
            cases w2 : m - (i0.map some).length with
            | zero => omega
            | succ j => rw [w2] at e2; simp at e2
          | succ j => rw [w] at e1; simp at e1
      · rw [List.getElem?_append] at e1 e2
        rw [hsz] at e1
        split at e1
        · rename_i h1
          rw [if_pos h1] at e2
          have e3 : M'[n]? = some c := by
            rw [List.getElem?_take] at e1
            split at e1
            · exact e1
            · cases e1
          have e4 : ι'[n]? = some (some b) := by
            rw [List.getElem?_map] at e2
            cases w : i0[n]? with
            | none => rw [w] at e2; cases e2
            | some b' => rw [w] at e2; cases e2; exact S'.pre n b w
          refine (S'.mem.cell n c b e3 e4).monoB (n := n) f4 (fun j hj o q => ?_) (fun _ _ _ _ z => z) (S'.mem.wf n c e3) rfl
          have hji : j < (i0.map some).length := Nat.lt_trans hj h1
          rw [List.getElem?_append_left hji, List.getElem?_map]
          have hj0 : j < i0.length := by simpa using hji
          have := S'.pre j _ (List.getElem?_eq_getElem hj0)
          rw [this] at q
          cases q
          left
          rw [List.getElem?_eq_getElem hj0]; rfl
        · rename_i h1
          rw [if_neg h1] at e2
          cases w : n - (i0.map some).length with
          | zero =>
            rw [w] at e1 e2
            simp at e1 e2
            subst e1 e2
            revert hcc hnn rc
            cases cc with
            | gone => exact fun _ _ z => z.elim
            | lst ds => exact fun _ _ ⟨xs, q1, l, rd⟩ => ⟨xs, q1, l, rd.mono f4 fun _ _ _ _ z => z⟩
            | dk kvs => exact fun _ _ ⟨xs, q1, l, rd⟩ => ⟨xs, q1, l, rd.mono f4 fun _ _ _ _ z => z⟩
            | dn kvs => exact fun _ _ ⟨xs, q1, l, r1, r2⟩ => ⟨xs, q1, l, r1.mono f4 fun _ _ _ _ z => z, r2.mono f4 fun _ _ _ _ z => z⟩
            | dw w kvs => exact fun _ _ ⟨xs, q1, l, r1, r2⟩ => ⟨xs, q1, l, r1.mono f4 fun _ _ _ _ z => z, r2.mono f4 fun _ _ _ _ z => z⟩
            | nd k its => exact fun _ h => absurd rfl (h k its)
          | succ j => rw [w] at e1; simp at e1
      · rw [List.getElem?_append] at e1
        split at e1
        · rw [List.getElem?_map] at e1
          cases w : i0[n]? with
          | none => rw [w] at e1; cases e1
          | some b' => rw [w] at e1; cases e1
        · cases w : n - (i0.map some).length with
          | zero => rw [w] at e1; simp at e1
          | succ j => rw [w] at e1; simp at e1
      · rw [List.getElem?_append] at e1
        split at e1
        · exact f1.wf n c e1
        · have := List.mem_of_getElem? e1
          rw [List.mem_singleton.mp this]
          cases cc with
          | nd k its => exact absurd rfl (hnn k its)
          | _ => trivial
      · obtain ⟨h1, h2⟩ := f2 b o e n
        refine ⟨h1, fun hb => ?_⟩
        rcases List.mem_append.mp hb with hb | hb
        · exact h2 hb
        · simp only [List.mem_singleton, Option.some.injEq] at hb; subst hb
          rw [show H b = none from S'.new b (List.mem_of_getElem? hk) hno] at e; cases e
theorem body_ok {Ns : List Str} {n : Nat} {sp : SpD} {body : List Stmt} {t : TS'} {vs : List V} {Q : VK} {E : XK}
    (m0 : Nat) (hX : X.K = K) (hb : ∀ G, G.i0.length = m0 → VSs X G body t) (hm0 : ∀ as M Q0, sp as M Q0 → M.length = m0) (hp : ∀ as M Q0, as.length = n → sp as M Q0 → t (endsF M.length Q0) (startD Ns.length as) M) (h : lP K n sp vs H Q E) :
    ∃ t', PSs X body t' ∧ t' { nx := fun _ H' => Q .non H', rt := Q } (L2.start Ns vs) H := by
  subst hX
  obtain ⟨as, M, i0, B, Q0, hn, hB, ra, rm, hs, z⟩ := h
  have hlen : M.length = i0.length := by rw [rm.len]; simp
  exact body_at (hb (gnd H i0 B) (hlen.symm.trans (hm0 _ _ _ hs))) hB ra rm (hp as M Q0 hn hs) z
/-- a changing thing that is not gone -/
def cellA : Option Cell → Option Unit
  | some (.lst _) => some ()
  | some (.dk _) => some ()
  | some (.dn _) => some ()
  | some (.dw _ _) => some ()
  | _ => none
theorem cellA_some {c : Option Cell} {u : Unit} (h : cellA c = some u) : ∃ x, c = some x ∧ x ≠ .gone := by
  cases c with
  | none => cases h
  | some x => cases x with
    | gone => cases h
    | lst ds => exact ⟨_, rfl, fun z => nomatch z⟩
    | dk kvs => exact ⟨_, rfl, fun z => nomatch z⟩
    | dn kvs => exact ⟨_, rfl, fun z => nomatch z⟩
    | dw w kvs => exact ⟨_, rfl, fun z => nomatch z⟩
    | nd k its => cases h
/-- how the arguments are handed over: tt, a changing list of the caller's that the callee may change; ns: the caller's numbers of these -/
def handS (M : Mem) : List Bool → List Sv → List Nat → Option (List Sv × List Nat)
  | [], [], ns => some ([], ns)
  | true :: ms, .ref n :: xs, ns => if n ∈ ns then none else (cellA M[n]?).bind fun _ => (handS M ms xs (ns ++ [n])).map fun r => (.ref ns.length :: r.1, r.2)
  | false :: ms, .ref n :: xs, ns => (cellL M[n]?).bind fun ds => (handS M ms xs ns).bind fun r => if n ∈ r.2 then none else some (.bor ds :: r.1, r.2)
  | false :: ms, x :: xs, ns => (handS M ms xs ns).map fun r => (x :: r.1, r.2)
  | _, _, _ => none
def cellsAt (M : Mem) (ns : List Nat) : Mem := ns.map fun n => M[n]?.getD .gone
/-- the callee's cells written back -/
def backS : List Nat → Mem → Mem → Mem
  | n :: ns, c :: cs, M => backS ns cs (M.set n c)
  | _, _, M => M
def callS (ms : List Bool) (sp : SpD) (M : Mem) (xs : List Sv) (Q : Rv → Mem → Prop) : Prop :=
  ok (handS M ms xs []) fun r => sp r.1 (cellsAt M r.2) fun v Mc => Q v (backS r.2 Mc M)
def rvQ (Q : QD) : Rv → Mem → Prop
  | .d x, M => Q (.d x) M
  | .new ds, M => Q (.ref M.length) (M ++ [.lst ds])
  | .newK kvs, M => Q (.ref M.length) (M ++ [.dk kvs])
theorem rvQ_cell {Q : QD} {c : Cell} {M : Mem} : ∀ {r : Rv}, r.cell = some c → rvQ Q r M → Q (.ref M.length) (M ++ [c])
  | .d _, e, _ => by cases e
  | .new ds, e, h => by cases e; exact h
  | .newK kvs, e, h => by cases e; exact h
def eCall (ms : List Bool) (sp : SpD) (tA : TA') : TE' := fun δ M Q => tA δ M fun xs M1 => callS ms sp M1 xs (rvQ Q)
/-- what the callee's callers may change -/
def Bc (G : Gd) (ι : Ix) (i0 : List Addr) : Addr → Prop := fun a => G.B a ∨ G.Hd a ∨ (some a ∈ ι ∧ a ∉ i0)
mutual
theorem RD.go {N N' : Bool → Addr → Prop} {H H' : Hp} {ι ι' : Ix} (h1 : ∀ a xs, H a = some (.tup xs) → some a ∉ ι → H' a = some (.tup xs) ∧ some a ∉ ι') (h2 : ∀ a o l, H a = some (.frz o l) → some a ∉ ι → H' a = some (.frz o l) ∧ some a ∉ ι')
    (h3 : ∀ a xs, H a = some (.lst xs) → some a ∉ ι → N true a → H' a = some (.lst xs) ∧ some a ∉ ι' ∧ N' true a) : ∀ (d : D) (v : V), RD K N H ι d v → RD K N' H' ι' d v
  | .non, _, h => h
  | .bl _, _, h => h
  | .int _, _, h => h
  | .str _, _, h => h
  | .fn _, _, h => h
  | .ty _, _, h => h
  | .cls _, _, h => h
  | .exc _ f, v, h => by
    obtain ⟨a, oe, vs, e, q, n, c, d, x⟩ := h
    exact ⟨a, oe, vs, e, (h2 a _ _ q n).1, (h2 a _ _ q n).2, c, d, x.map h2⟩
  | .dn ks ds, v, h => by
    obtain ⟨a, xs, o, e, q, n, z, r1, r2⟩ := h
    exact ⟨a, xs, o, e, (h2 a _ _ q n).1, (h2 a _ _ q n).2, z, RDs.go h1 h2 h3 ks _ r1, RDs.go h1 h2 h3 ds _ r2⟩
  | .dk ks ds, v, h => by
    obtain ⟨a, ws, o, e, q, n, z, r⟩ := h
    exact ⟨a, ws, o, e, (h2 a _ _ q n).1, (h2 a _ _ q n).2, z, RDs.go h1 h2 h3 ds _ r⟩
  | .scr ns, v, h => by
    obtain ⟨a, e, ⟨o, q, n⟩ | q, l⟩ := h
    · exact ⟨a, e, .inl ⟨o, h2 a _ _ q n⟩, l⟩
    · exact ⟨a, e, .inr q, l⟩
  | .tup ds, v, h => by
    obtain ⟨a, xs, e, q, l, r⟩ := h
    refine ⟨a, xs, e, ?_, l, RDs.go h1 h2 h3 ds xs r⟩
    rcases q with ⟨q, n⟩ | q
    · exact .inl (h1 a _ q n)
    · exact .inr q
  | .lst ds, v, h => by
    obtain ⟨a, xs, e, q, n, z, l, r⟩ := h
    obtain ⟨q1, q2, q3⟩ := h3 a xs q n z
    exact ⟨a, xs, e, q1, q2, q3, l, RDs.go h1 h2 h3 ds xs r⟩
theorem RDs.go {N N' : Bool → Addr → Prop} {H H' : Hp} {ι ι' : Ix} (h1 : ∀ a xs, H a = some (.tup xs) → some a ∉ ι → H' a = some (.tup xs) ∧ some a ∉ ι') (h2 : ∀ a o l, H a = some (.frz o l) → some a ∉ ι → H' a = some (.frz o l) ∧ some a ∉ ι')
    (h3 : ∀ a xs, H a = some (.lst xs) → some a ∉ ι → N true a → H' a = some (.lst xs) ∧ some a ∉ ι' ∧ N' true a) : ∀ (ds : List D) (vs : List V), RDs K N H ι ds vs → RDs K N' H' ι' ds vs
  | [], _, h => h
  | d :: ds, vs, h => by
    obtain ⟨x, r, e, g1, g2⟩ := h
    exact ⟨x, r, e, RD.go h1 h2 h3 d x g1, RDs.go h1 h2 h3 ds r g2⟩
end
section
variable {G : Gd} {δ : DS} {M : Mem} {σ : L2.St} {i0 : List Addr}
theorem RD.dn {d : D} {v : V} (hi : ∀ a ∈ i0, some a ∈ ι) (h : RD K G.N H ι d v) : RD K (NB (Bc G ι i0)) H (i0.map some) d v := by
  have hn : ∀ a, some a ∉ ι → some a ∉ i0.map some := fun a hn h => hn (hi a (by simpa using h))
  exact RD.go (fun a xs q n => ⟨q, hn a n⟩) (fun a o l q n => ⟨q, hn a n⟩) (fun a xs q n z => ⟨q, hn a n, fun z => z, fun _ => by
    rintro (h | h | h)
    · exact z.2 rfl h
    · exact z.1 h
    · exact n h.1⟩) d v h
theorem RDs.dn {d : List D} {v : List V} (hi : ∀ a ∈ i0, some a ∈ ι) (h : RDs K G.N H ι d v) : RDs K (NB (Bc G ι i0)) H (i0.map some) d v := by
  have hn : ∀ a, some a ∉ ι → some a ∉ i0.map some := fun a hn h => hn (hi a (by simpa using h))
  exact RDs.go (fun a xs q n => ⟨q, hn a n⟩) (fun a o l q n => ⟨q, hn a n⟩) (fun a xs q n z => ⟨q, hn a n, fun z => z, fun _ => by
    rintro (h | h | h)
    · exact z.2 rfl h
    · exact z.1 h
    · exact n h.1⟩) d v h
/-- a cell's kind -/
theorem Sr.kind (S : Sr K G δ M ι σ H) {a : Addr} (h : some a ∈ ι) : (∃ xs, H a = some (.lst xs)) ∨ (∃ ws, H a = some (.dK ws)) ∨ (∃ ws, H a = some (.ext ws)) ∨ ∃ C dx fs, H a = some (.ins C dx fs) := by
  obtain ⟨n, hn⟩ := List.getElem?_of_mem h
  have hM : n < M.length := by rw [S.mem.len]; exact (List.getElem?_eq_some_iff.mp hn).1
  have q := S.mem.cell n M[n] a (List.getElem?_eq_getElem hM) hn
  cases e : M[n] with
  | gone => rw [e] at q; exact q.elim
  | lst ds => rw [e] at q; exact .inl ⟨_, q.choose_spec.1⟩
  | dk kvs => rw [e] at q; exact .inr (.inl ⟨_, q.choose_spec.1⟩)
  | dn kvs => rw [e] at q; exact .inr (.inr (.inl ⟨_, q.choose_spec.1⟩))
  | dw w kvs => rw [e] at q; exact .inr (.inr (.inl ⟨_, q.choose_spec.1⟩))
  | nd k its =>
    rw [e] at q
    obtain ⟨xs, q1, _⟩ := q
    cases k with
    | ob c fs => obtain ⟨dx, q1, _⟩ := q1; exact .inr (.inr (.inr ⟨_, _, _, q1⟩))
theorem up3 {H' : Hp} {r : Ix} (S : Sr K G δ M ι σ H) (k : Kp (i0.map some) H (i0.map some ++ r) H') :
    (∀ a xs, H' a = some (.tup xs) → some a ∉ i0.map some ++ r → H' a = some (.tup xs) ∧ some a ∉ ι ++ r) ∧ (∀ a o l, H' a = some (.frz o l) → some a ∉ i0.map some ++ r → H' a = some (.frz o l) ∧ some a ∉ ι ++ r) ∧
    (∀ a xs, H' a = some (.lst xs) → some a ∉ i0.map some ++ r → NB (Bc G ι i0) true a → H' a = some (.lst xs) ∧ some a ∉ ι ++ r ∧ G.N true a) := by
  refine ⟨fun a xs q n => ⟨q, fun h => ?_⟩, fun a o l q n => ⟨q, fun h => ?_⟩, fun a xs q n z => ⟨q, fun h => ?_, fun h => z.2 rfl (.inr (.inl h)), fun _ h => z.2 rfl (.inl h)⟩⟩
  all_goals
    have n1 : some a ∉ i0.map some := fun h => n (List.mem_append_left _ h)
    have n2 : some a ∉ r := fun h => n (List.mem_append_right _ h)
    have h : some a ∈ ι := (List.mem_append.mp h).resolve_right n2
  · rcases S.kind h with ⟨ys, e⟩ | ⟨ys, e⟩ | ⟨ys, e⟩ | ⟨C, dx, fs, e⟩
    · rw [(k a _ e n1).1] at q; cases q
    · rw [(k a _ e n1).1] at q; cases q
    · rw [(k a _ e n1).1] at q; cases q
    · rw [(k a _ e n1).1] at q; cases q
  · rcases S.kind h with ⟨ys, e⟩ | ⟨ys, e⟩ | ⟨ys, e⟩ | ⟨C, dx, fs, e⟩
    · rw [(k a _ e n1).1] at q; cases q
    · rw [(k a _ e n1).1] at q; cases q
    · rw [(k a _ e n1).1] at q; cases q
    · rw [(k a _ e n1).1] at q; cases q
  · exact z.2 rfl (.inr (.inr ⟨h, by simpa using n1⟩))
theorem RDs.up {H' : Hp} {r : Ix} {d : List D} {v : List V} (S : Sr K G δ M ι σ H) (k : Kp (i0.map some) H (i0.map some ++ r) H') (h : RDs K (NB (Bc G ι i0)) H' (i0.map some ++ r) d v) : RDs K G.N H' (ι ++ r) d v :=
  let ⟨h1, h2, h3⟩ := up3 S k
  RDs.go h1 h2 h3 d v h
theorem RD.up {H' : Hp} {r : Ix} {d : D} {v : V} (S : Sr K G δ M ι σ H) (k : Kp (i0.map some) H (i0.map some ++ r) H') (h : RD K (NB (Bc G ι i0)) H' (i0.map some ++ r) d v) : RD K G.N H' (ι ++ r) d v :=
  let ⟨h1, h2, h3⟩ := up3 S k
  RD.go h1 h2 h3 d v h
/-- what is handed over, as the callee sees it -/
theorem hand_of (S : Sr K G δ M ι σ H) : ∀ (ms : List Bool) (xs : List Sv) (vs : List V) (ns : List Nat) (as : List Sv) (ns' : List Nat), handS M ms xs ns = some (as, ns') → RSs K G.N H ι xs vs → ns.Nodup → (∀ n ∈ ns, ∃ ds, cellA M[n]? = some ds ∧ ∃ a, ι[n]? = some (some a)) →
    ns'.Nodup ∧ (∀ n ∈ ns', ∃ ds, cellA M[n]? = some ds ∧ ∃ a, ι[n]? = some (some a)) ∧ (∃ r, ns' = ns ++ r) ∧ (∀ i0, i0.map some = ns'.map (fun n => (ι[n]?).join) → RSs K (NB (Bc G ι i0)) H (i0.map some) as vs) ∧ as.length = xs.length
  | [], [], vs, ns, as, ns', e, r, nd, hc => by
    cases e
    exact ⟨nd, hc, ⟨[], by simp⟩, fun i0 _ => r, rfl⟩
  | true :: ms, .ref n :: xs, vs, ns, as, ns', e, r, nd, hc => by
    unfold handS at e
    split at e
    · cases e
    rename_i hn
    obtain ⟨ds, e1, e⟩ := Option.bind_eq_some_iff.mp e
    obtain ⟨⟨as1, ns1⟩, e2, e⟩ := Option.map_eq_some_iff.mp e
    cases e
    obtain ⟨v, r', rfl, r1, r2⟩ := r
    obtain ⟨cx, hx1, hx2⟩ := cellA_some e1
    obtain ⟨a, rfl, ha, _⟩ := S.mem.at r1 hx1 hx2
    obtain ⟨h1, h2, ⟨q, h3⟩, h4, h5⟩ := hand_of S ms xs r' (ns ++ [n]) as1 ns1 e2 r2 (by
      rw [List.nodup_append]; refine ⟨nd, by simp, fun x hx y hy => ?_⟩
      simp only [List.mem_singleton] at hy; subst hy; rintro rfl; exact hn hx) (fun m hm => by
      rcases List.mem_append.mp hm with hm | hm
      · exact hc m hm
      · simp only [List.mem_singleton] at hm; subst hm; exact ⟨ds, e1, a, ha⟩)
    refine ⟨h1, h2, ⟨n :: q, by rw [h3]; simp⟩, fun i0 hi => ⟨_, _, rfl, ⟨a, rfl, .inl ?_⟩, h4 i0 hi⟩, by simp [h5]⟩
    rw [hi, h3, List.getElem?_map, List.append_assoc, List.getElem?_append_right (Nat.le_refl _)]
    simp [ha]
  | false :: ms, .ref n :: xs, vs, ns, as, ns', e, r, nd, hc => by
    unfold handS at e
    obtain ⟨ds, e1, e⟩ := Option.bind_eq_some_iff.mp e
    obtain ⟨⟨as1, ns1⟩, e2, e⟩ := Option.bind_eq_some_iff.mp e
    split at e
    · cases e
    rename_i hn
    cases e
    obtain ⟨v, r', rfl, r1, r2⟩ := r
    obtain ⟨a, rfl, ha, ys, q1, l1, rd⟩ := S.mem.at r1 (cellL_some e1) (fun z => nomatch z)
    obtain ⟨h1, h2, h3, h4, h5⟩ := hand_of S ms xs r' ns as1 ns1 e2 r2 nd hc
    refine ⟨h1, h2, h3, fun i0 hi => ⟨_, _, rfl, ⟨a, ys, rfl, q1, ?_, ⟨fun z => z, fun z => nomatch z⟩, l1, ?_⟩, h4 i0 hi⟩, by simp [h5]⟩
    · rw [hi]
      intro hm
      obtain ⟨m, hm1, hm2⟩ := List.mem_map.mp hm
      obtain ⟨_, _, b, hb⟩ := h2 m hm1
      rw [hb] at hm2
      cases hm2
      exact hn (S.mem.nod _ _ _ hb ha ▸ hm1)
    · refine RDs.dn (fun b hb => ?_) rd
      have : some b ∈ i0.map some := by simpa using hb
      rw [hi] at this
      obtain ⟨m, hm1, hm2⟩ := List.mem_map.mp this
      obtain ⟨_, _, c, hb⟩ := h2 m hm1
      rw [hb] at hm2; cases hm2
      exact List.mem_of_getElem? hb
  | false :: ms, .d x :: xs, vs, ns, as, ns', e, r, nd, hc => by
    obtain ⟨⟨as1, ns1⟩, e2, e⟩ := Option.map_eq_some_iff.mp (show (handS M ms xs ns).map _ = _ from e)
    cases e
    obtain ⟨v, r', rfl, r1, r2⟩ := r
    obtain ⟨h1, h2, h3, h4, h5⟩ := hand_of S ms xs r' ns as1 ns1 e2 r2 nd hc
    refine ⟨h1, h2, h3, fun i0 hi => ⟨_, _, rfl, RD.dn (fun b hb => ?_) r1, h4 i0 hi⟩, by simp [h5]⟩
    have : some b ∈ i0.map some := by simpa using hb
    rw [hi] at this
    obtain ⟨m, hm1, hm2⟩ := List.mem_map.mp this
    obtain ⟨_, _, c, hb⟩ := h2 m hm1
    rw [hb] at hm2; cases hm2
    exact List.mem_of_getElem? hb
  | false :: ms, .bor ds :: xs, vs, ns, as, ns', e, r, nd, hc => by
    obtain ⟨⟨as1, ns1⟩, e2, e⟩ := Option.map_eq_some_iff.mp (show (handS M ms xs ns).map _ = _ from e)
    cases e
    obtain ⟨v, r', rfl, r1, r2⟩ := r
    obtain ⟨h1, h2, h3, h4, h5⟩ := hand_of S ms xs r' ns as1 ns1 e2 r2 nd hc
    refine ⟨h1, h2, h3, fun i0 hi => ?_, by simp [h5]⟩
    have hb : ∀ b ∈ i0, some b ∈ ι := fun b hb => by
      have : some b ∈ i0.map some := by simpa using hb
      rw [hi] at this
      obtain ⟨m, hm1, hm2⟩ := List.mem_map.mp this
      obtain ⟨_, _, c, hb⟩ := h2 m hm1
      rw [hb] at hm2; cases hm2
      exact List.mem_of_getElem? hb
    obtain ⟨a, ys, rfl, q1, n1, _, l1, rd⟩ := r1
    exact ⟨_, _, rfl, ⟨a, ys, rfl, q1, fun hm => n1 (hb a (by simpa using hm)), ⟨fun z => z, fun z => nomatch z⟩, l1, RDs.dn hb rd⟩, h4 i0 hi⟩
  | true :: ms, .d x :: xs, _, _, _, _, e, _, _, _ => by cases e
  | true :: ms, .bor x :: xs, _, _, _, _, e, _, _, _ => by cases e
  | [], _ :: _, _, _, _, _, e, _, _, _ => by cases e
  | true :: _, [], _, _, _, _, e, _, _, _ => by cases e
  | false :: _, [], _, _, _, _, e, _, _, _ => by cases e
theorem nodup_ix : ∀ {ns : List Nat} {j l m : Nat}, ns.Nodup → ns[j]? = some m → ns[l]? = some m → j = l
  | [], _, _, _, _, h, _ => by simp at h
  | n :: ns, 0, 0, _, _, _, _ => rfl
  | n :: ns, 0, l + 1, m, nd, h1, h2 => by
    simp at h1; subst h1
    exact absurd (List.mem_of_getElem? (by simpa using h2)) (List.nodup_cons.mp nd).1
  | n :: ns, j + 1, 0, m, nd, h1, h2 => by
    simp at h2; subst h2
    exact absurd (List.mem_of_getElem? (by simpa using h1)) (List.nodup_cons.mp nd).1
  | n :: ns, j + 1, l + 1, m, nd, h1, h2 => by
    exact congrArg (· + 1) (nodup_ix (List.nodup_cons.mp nd).2 (by simpa using h1) (by simpa using h2))
theorem backS_len : ∀ (ns : List Nat) (cs M : Mem), (backS ns cs M).length = M.length
  | [], cs, M => by cases cs <;> rfl
  | n :: ns, [], M => rfl
  | n :: ns, c :: cs, M => by simp [backS, backS_len ns cs]
theorem backS_ne : ∀ (ns : List Nat) (cs M : Mem) (m : Nat), m ∉ ns → (backS ns cs M)[m]? = M[m]?
  | [], cs, M, m, _ => by cases cs <;> rfl
  | n :: ns, [], M, m, _ => rfl
  | n :: ns, c :: cs, M, m, h => by
    simp only [List.mem_cons, not_or] at h
    simp only [backS]
    rw [backS_ne ns cs _ m h.2, List.getElem?_set_ne (fun z => h.1 z.symm)]
theorem backS_at : ∀ (ns : List Nat) (cs M : Mem) (j m : Nat) (c : Cell), ns.Nodup → ns[j]? = some m → cs[j]? = some c → m < M.length → (backS ns cs M)[m]? = some c
  | [], _, _, _, _, _, _, h, _, _ => by simp at h
  | _ :: _, [], _, _, _, _, _, _, h, _ => by simp at h
  | n :: ns, d :: cs, M, 0, m, c, nd, h1, h2, hl => by
    simp at h1 h2; subst h1 h2
    simp only [backS]
    rw [backS_ne ns cs _ _ (List.nodup_cons.mp nd).1, List.getElem?_set_self hl]
  | n :: ns, d :: cs, M, j + 1, m, c, nd, h1, h2, hl => by
    simp only [backS]
    exact backS_at ns cs _ j m c (List.nodup_cons.mp nd).2 (by simpa using h1) (by simpa using h2) (by simpa using hl)
theorem Sr.after {H' : Hp} {ns : List Nat} {Mc cs : Mem} {r : List Addr} (S : Sr K G δ M ι σ H) (nd : ns.Nodup) (hc : ∀ n ∈ ns, ∃ ds, cellA M[n]? = some ds ∧ ∃ a, ι[n]? = some (some a)) (hi : i0.map some = ns.map (fun n => (ι[n]?).join))
    (hl : Mc.length = i0.length) (hcs : cs.length = r.length) (hr : ∀ a ∈ r, H a = none)
    (m : RM K (NB (Bc G ι i0)) H' (i0.map some ++ r.map some) (Mc ++ cs)) (k : Kp (i0.map some) H (i0.map some ++ r.map some) H') (ob : ObI (i0.map some) H H') (hfl : ∀ c ∈ cs, ∀ kd its, c ≠ .nd kd its := by simp) : Sr K G δ (backS ns Mc M ++ cs) (ι ++ r.map some) σ H' := by
  have hsub : ∀ b ∈ i0, some b ∈ ι := fun b hb => by
    have : some b ∈ i0.map some := by simpa using hb
    rw [hi] at this
    obtain ⟨m, hm1, hm2⟩ := List.mem_map.mp this
    obtain ⟨_, _, c, hb⟩ := hc m hm1
    rw [hb] at hm2; cases hm2
    exact List.mem_of_getElem? hb
  have hn : ∀ a, some a ∉ ι → some a ∉ i0.map some := fun a hn h => hn (hsub a (by simpa using h))
  have hrr : ∀ a o, H a = some o → some a ∉ r.map some := fun a o e h => by
    have h : a ∈ r := by simpa using h
    rw [hr a h] at e; cases e
  have kk : Kp ι H (ι ++ r.map some) H' := fun a o e n => ⟨(k a o e (hn a n)).1, fun h => by
    rcases List.mem_append.mp h with h | h
    · exact n h
    · exact hrr a o e h⟩
  have hin : ∀ (n : Nat) (a : Addr), ι[n]? = some (some a) → n ∉ ns → some a ∉ i0.map some := fun n a h hno z => by
    rw [hi] at z
    obtain ⟨m, hm1, hm2⟩ := List.mem_map.mp z
    obtain ⟨_, _, c, hb⟩ := hc m hm1
    rw [hb] at hm2; cases hm2
    exact hno (S.mem.nod _ _ _ hb h ▸ hm1)
  have hfr : ∀ a ∈ r, some a ∉ ι := fun a ha => S.mem.fresh (hr a ha)
  have hbl : (backS ns Mc M).length = ι.length := by rw [backS_len]; exact S.mem.len
  have up : ∀ c a, (∀ kd its, c ≠ .nd kd its) → RC K (NB (Bc G ι i0)) H' (i0.map some ++ r.map some) c a → RC K G.N H' (ι ++ r.map some) c a := fun c a hf q => by
    cases c with
    | nd kd its => exact absurd rfl (hf kd its)
    | gone => exact q.elim
    | lst ds => obtain ⟨xs, q1, l, r⟩ := q; exact ⟨xs, q1, l, RDs.up S k r⟩
    | dk kvs => obtain ⟨xs, q1, l, r⟩ := q; exact ⟨xs, q1, l, RDs.up S k r⟩
    | dn kvs => obtain ⟨xs, q1, l, r1, r2⟩ := q; exact ⟨xs, q1, l, RDs.up S k r1, RDs.up S k r2⟩
    | dw w kvs => obtain ⟨xs, q1, l, r1, r2⟩ := q; exact ⟨xs, q1, l, RDs.up S k r1, RDs.up S k r2⟩
  have mcf : ∀ (j n : Nat), ns[j]? = some n → ∀ c, Mc[j]? = some c → ∀ kd its, c ≠ .nd kd its := fun j n hj c hcj kd its e => by
    subst e
    obtain ⟨u, h1, a, h2⟩ := hc n (List.mem_of_getElem? hj)
    have hji : (i0.map some)[j]? = some (some a) := by rw [hi, List.getElem?_map, hj]; simp [h2]
    have hjn : j < i0.length := by simpa using (List.getElem?_eq_some_iff.mp hji).1
    obtain ⟨xs, q, _⟩ := m.cell j _ a (by rw [List.getElem?_append_left (List.getElem?_eq_some_iff.mp hcj).1]; exact hcj) (by rw [List.getElem?_append_left (by simpa using hjn)]; exact hji)
    cases kd with
    | ob c fs =>
      obtain ⟨dx, q1, _⟩ := q
      have ha : a ∈ i0 := by have := List.mem_of_getElem? hji; simpa using this
      obtain ⟨f0, h0⟩ := (ob i0 rfl a ha).2 _ _ _ q1
      obtain ⟨cx, hx1, _⟩ := cellA_some h1
      have q2 := S.mem.cell n cx a hx1 h2
      rw [hx1] at h1
      cases cx with
      | gone => exact q2.elim
      | lst ds => obtain ⟨xs, q3, _⟩ := q2; rw [q3] at h0; cases h0
      | dk ds => obtain ⟨xs, q3, _⟩ := q2; rw [q3] at h0; cases h0
      | dn ds => obtain ⟨xs, q3, _⟩ := q2; rw [q3] at h0; cases h0
      | dw w ds => obtain ⟨xs, q3, _⟩ := q2; rw [q3] at h0; cases h0
      | nd k its => cases h1
  have obk : ObK G.i0 H H' := fun a ha => by
    obtain ⟨n, hn0⟩ := List.getElem?_of_mem ha
    have hp := S.pre n a hn0
    by_cases h0 : a ∈ i0
    · exact ob i0 rfl a h0
    · obtain ⟨u, hu⟩ := S.i0there a ha
      have e9 := (k a u hu (by simpa using h0)).1
      rw [show H' a = H a from e9.trans hu.symm]
      exact ⟨fun C dx fs e => ⟨fs, e, SameF.refl fs⟩, fun C dx fs e => ⟨fs, e⟩⟩
  refine ⟨S.len, fun i d e => ?_, ⟨by simp [hbl, hcs], fun n m' a e1 e2 => ?_, fun n c a e1 e2 => ?_, fun n e => ?_, fun n c e1 => ?_⟩, fun n a e => ?_, S.kp.trans kk, fun a ha h0 => ?_, S.bad, fun a ha => ?_, S.obk.trans obk⟩
  · obtain ⟨v, e1, r⟩ := S.slot i d e
    exact ⟨v, e1, r.mono kk (Ex.app _ _) (fun _ _ _ _ z => z)⟩
  · rw [List.getElem?_append] at e1 e2
    split at e1 <;> split at e2
    · exact S.mem.nod n m' a e1 e2
    · exact absurd (List.mem_of_getElem? e1) (hfr a (by simpa using List.mem_of_getElem? e2))
    · exact absurd (List.mem_of_getElem? e2) (hfr a (by simpa using List.mem_of_getElem? e1))
    · have := m.nod (i0.length + (n - ι.length)) (i0.length + (m' - ι.length)) a (by rw [List.getElem?_append_right (by simp)]; simpa using e1) (by rw [List.getElem?_append_right (by simp)]; simpa using e2)
      omega
  · rw [List.getElem?_append, hbl] at e1
    rw [List.getElem?_append] at e2
    split at e1
    · rename_i hlt
      rw [if_pos hlt] at e2
      by_cases hno : n ∈ ns
      · obtain ⟨j, hj⟩ := List.getElem?_of_mem hno
        have hji : (i0.map some)[j]? = some (some a) := by rw [hi, List.getElem?_map, hj]; simp [e2]
        have hjn : j < i0.length := by simpa using (List.getElem?_eq_some_iff.mp hji).1
        have hjl : j < Mc.length := by omega
        have hl : n < M.length := by rw [S.mem.len]; exact hlt
        rw [backS_at ns Mc M j n _ nd hj (List.getElem?_eq_getElem hjl) hl] at e1
        cases e1
        exact up _ _ (mcf j n hj _ (List.getElem?_eq_getElem hjl)) (m.cell j _ a (by rw [List.getElem?_append_left hjl, List.getElem?_eq_getElem hjl]) (by rw [List.getElem?_append_left (by simpa using hjn)]; exact hji))
      · rw [backS_ne ns Mc M n hno] at e1
        have q := S.mem.cell n c a e1 e2
        obtain ⟨o, ho⟩ := q.has
        exact q.mono kk (Ex.app _ _) (fun _ _ _ _ z => z) (by rw [(k a o ho (hin n a e2 hno)).1, ho])
    · rename_i hlt
      rw [if_neg hlt] at e2
      exact up _ _ (hfl c (List.mem_of_getElem? e1)) (m.cell (i0.length + (n - ι.length)) _ a (by rw [List.getElem?_append_right (by omega)]; rw [hl]; simpa using e1) (by rw [List.getElem?_append_right (by simp)]; simpa using e2))
  · rw [List.getElem?_append] at e
    split at e
    · rename_i hlt
      rw [List.getElem?_append_left (by rw [hbl]; exact hlt), backS_ne ns Mc M n fun hno => ?_]
      · exact S.mem.gone n e
      · obtain ⟨_, _, c, hb⟩ := hc n hno
        rw [hb] at e; cases e
    · have := List.mem_of_getElem? e
      simp at this
  · have flat : (∀ kd its, c ≠ .nd kd its) → c.wf n := fun h => by
      cases c with
      | nd kd its => exact absurd rfl (h kd its)
      | _ => trivial
    rw [List.getElem?_append, hbl] at e1
    split at e1
    · rename_i hlt
      by_cases hno : n ∈ ns
      · obtain ⟨j, hj⟩ := List.getElem?_of_mem hno
        have hl : n < M.length := by rw [S.mem.len]; exact hlt
        have hjl : j < Mc.length := by
          have h1 := (List.getElem?_eq_some_iff.mp hj).1
          have h2 : i0.length = ns.length := by have := congrArg List.length hi; simpa using this
          omega
        rw [backS_at ns Mc M j n _ nd hj (List.getElem?_eq_getElem hjl) hl] at e1
        cases e1
        exact flat (mcf j n hj _ (List.getElem?_eq_getElem hjl))
      · rw [backS_ne ns Mc M n hno] at e1
        exact S.mem.wf n c e1
    · exact flat (hfl c (List.mem_of_getElem? e1))
  · have e1 := S.pre n a e
    rw [List.getElem?_append_left (List.getElem?_eq_some_iff.mp e1).1]; exact e1
  · rcases List.mem_append.mp ha with z | z
    · exact S.new a z h0
    · have z : a ∈ r := by simpa using z
      cases q : G.He a with
      | none => rfl
      | some u =>
        have := (S.kp a u q (by simpa using h0)).1
        rw [hr a z] at this; cases this
  · obtain ⟨u, q⟩ := (S.hid a ha).2
    exact ⟨(kk a u q (S.hid a ha).1).2, u, (kk a u q (S.hid a ha).1).1⟩
theorem call_gen {ms : List Bool} {xs as : List Sv} {vs : List V} {ns : List Nat} (S : Sr K G δ M ι σ H) (r : RSs K G.N H ι xs vs) (e : handS M ms xs [] = some (as, ns)) :
    as.length = xs.length ∧ ∃ (i0 : List Addr) (B : Addr → Prop), (∀ a, B a → ∃ o, H a = some o) ∧ RSs K (NB B) H (i0.map some) as vs ∧ RM K (NB B) H (i0.map some) (cellsAt M ns) ∧
      (∀ x M' v H', RR K (NB B) H H' (i0.map some) M' (.d x) v → Kp ι H ι H' ∧ Sr K G δ (backS ns M' M) ι σ H' ∧ RD K G.N H' ι x v) ∧
      ∀ rv c M' v H', rv.cell = some c → RR K (NB B) H H' (i0.map some) M' rv v → ∃ a, v = .ref a ∧ Kp ι H (ι ++ [some a]) H' ∧ Sr K G δ (backS ns M' M ++ [c]) (ι ++ [some a]) σ H' ∧ (backS ns M' M).length = M.length := by
  obtain ⟨nd, hc, h3, hr, hl⟩ := hand_of S ms xs vs [] as ns e r List.nodup_nil (fun _ z => by simp at z)
  obtain ⟨i0, hi⟩ : ∃ i0 : List Addr, i0.map some = ns.map (fun n => (ι[n]?).join) := by
    clear e hr nd hl h3
    induction ns with
    | nil => exact ⟨[], rfl⟩
    | cons n ns ih =>
      obtain ⟨i0, hi⟩ := ih fun m hm => hc m (List.mem_cons_of_mem _ hm)
      obtain ⟨_, _, a, ha⟩ := hc n List.mem_cons_self
      exact ⟨a :: i0, by simp [hi, ha]⟩
  have hsub : ∀ b ∈ i0, some b ∈ ι := fun b hb => by
    have : some b ∈ i0.map some := by simpa using hb
    rw [hi] at this
    obtain ⟨m, hm1, hm2⟩ := List.mem_map.mp this
    obtain ⟨_, _, c, hb⟩ := hc m hm1
    rw [hb] at hm2; cases hm2
    exact List.mem_of_getElem? hb
  have hget : ∀ (j : Nat) (a : Addr), (i0.map some)[j]? = some (some a) → ∃ n, ns[j]? = some n ∧ ι[n]? = some (some a) := fun j a e => by
    rw [hi, List.getElem?_map] at e
    cases q : ns[j]? with
    | none => rw [q] at e; cases e
    | some n =>
      rw [q] at e
      obtain ⟨_, _, b, hb⟩ := hc n (List.mem_of_getElem? q)
      simp [hb] at e
      exact ⟨n, rfl, by rw [hb, e]⟩
  refine ⟨hl, i0, Bc G ι i0, fun a ha => ?_, hr i0 hi, ⟨?_, fun j l a e1 e2 => ?_, fun j c a e1 e2 => ?_, fun j e => ?_, fun j c e1 => ?_⟩, fun x M' v H' rr => ?_, fun rv cn M' v H' hcn rr => ?_⟩
  · rcases ha with ha | ha | ⟨ha, _⟩
    · obtain ⟨o, ho⟩ := S.bad a ha
      by_cases h0 : a ∈ G.i0
      · obtain ⟨j, hj⟩ := List.getElem?_of_mem h0
        rcases S.kind (List.mem_of_getElem? (S.pre j a hj)) with ⟨ys, e⟩ | ⟨ys, e⟩ | ⟨ys, e⟩ | ⟨C, dx, fs, e⟩ <;> exact ⟨_, e⟩
      · exact ⟨o, (S.kp a o ho (by simpa using h0)).1⟩
    · exact (S.hid a ha).2
    · rcases S.kind ha with ⟨ys, e⟩ | ⟨ys, e⟩ | ⟨ys, e⟩ | ⟨C, dx, fs, e⟩ <;> exact ⟨_, e⟩
  · rw [hi]; simp [cellsAt]
  · obtain ⟨n, h1, h2⟩ := hget j a e1
    obtain ⟨m, h3, h4⟩ := hget l a e2
    have e3 := S.mem.nod _ _ _ h2 h4
    subst e3
    exact nodup_ix nd h1 h3
  · obtain ⟨n, h1, h2⟩ := hget j a e2
    have hM : n < M.length := by rw [S.mem.len]; exact (List.getElem?_eq_some_iff.mp h2).1
    unfold cellsAt at e1
    rw [List.getElem?_map, h1] at e1
    simp only [Option.map_some, List.getElem?_eq_getElem hM, Option.getD_some, Option.some.injEq] at e1
    have q := S.mem.cell n _ a (List.getElem?_eq_getElem hM) h2
    rw [e1] at q
    cases c with
    | gone => exact q.elim
    | nd kd its =>
      obtain ⟨u, h9, _⟩ := hc n (List.mem_of_getElem? h1)
      rw [List.getElem?_eq_getElem hM, e1] at h9; cases h9
    | lst ds => obtain ⟨xs, q1, l, r⟩ := q; exact ⟨xs, q1, l, RDs.dn hsub r⟩
    | dk kvs => obtain ⟨xs, q1, l, r⟩ := q; exact ⟨xs, q1, l, RDs.dn hsub r⟩
    | dn kvs => obtain ⟨xs, q1, l, r1, r2⟩ := q; exact ⟨xs, q1, l, RDs.dn hsub r1, RDs.dn hsub r2⟩
    | dw w kvs => obtain ⟨xs, q1, l, r1, r2⟩ := q; exact ⟨xs, q1, l, RDs.dn hsub r1, RDs.dn hsub r2⟩
  · rw [List.getElem?_map] at e
    cases q : i0[j]? with
    | none => rw [q] at e; cases e
    | some b => rw [q] at e; cases e
  · unfold cellsAt at e1
    rw [List.getElem?_map, Option.map_eq_some_iff] at e1
    obtain ⟨n, h1, rfl⟩ := e1
    obtain ⟨u, h9, _⟩ := hc n (List.mem_of_getElem? h1)
    obtain ⟨cx, hx, _⟩ := cellA_some h9
    rw [hx] at h9 ⊢
    cases cx with
    | nd kd its => cases h9
    | _ => trivial
  · have hni : ∀ a, some a ∉ ι → some a ∉ i0.map some := fun a n h => n (hsub a (by simpa using h))
    obtain ⟨rd, rm, k, ob⟩ := rr
    have hl : M'.length = i0.length := by rw [rm.len]; simp
    have S2 := S.after (r := []) (cs := []) nd hc hi hl rfl (fun a h => by simp at h) (by simpa using rm) (by simpa using k) ob
    have rd2 := RD.up (r := []) S (by simpa using k) (by simpa using rd)
    simp only [List.map_nil, List.append_nil] at S2 rd2
    exact ⟨fun a o e n => ⟨(k a o e (hni a n)).1, n⟩, S2, rd2⟩
  · have hni : ∀ a, some a ∉ ι → some a ∉ i0.map some := fun a n h => n (hsub a (by simpa using h))
    obtain ⟨a, rfl, ha, rm, k, ob⟩ := (RR.of hcn).mpr rr
    have hl : M'.length = i0.length := by have := rm.len; simp at this; exact this
    have S2 := S.after (r := [a]) (cs := [cn]) nd hc hi hl rfl (fun b h => by simp at h; subst h; exact ha) (by simpa using rm) (by simpa using k) ob (by
      cases rv with
      | d x => cases hcn
      | new ds => cases hcn; simp
      | newK kvs => cases hcn; simp)
    refine ⟨a, rfl, fun b o e n => ⟨(k b o e (hni b n)).1, fun h => ?_⟩, by simpa using S2, backS_len _ _ _⟩
    rcases List.mem_append.mp h with h | h
    · exact n h
    · simp at h; subst h; rw [ha] at e; cases e
theorem call_in {n : Nat} {sp : SpD} {ms : List Bool} {xs : List Sv} {vs : List V} {Q0 : Rv → Mem → Prop} {Q : VK} {E : XK} (S : Sr K G δ M ι σ H) (r : RSs K G.N H ι xs vs) (hn : xs.length = n) (h : callS ms sp M xs Q0)
    (z1 : ∀ x M' H' v, Q0 (.d x) M' → Kp ι H ι H' → Sr K G δ M' ι σ H' → RD K G.N H' ι x v → Q v H')
    (z2 : ∀ rv c M' H' a, rv.cell = some c → Q0 rv M' → Kp ι H (ι ++ [some a]) H' → Sr K G δ (M' ++ [c]) (ι ++ [some a]) σ H' → M'.length = M.length → Q (.ref a) H') : lP K n sp vs H Q E := by
  obtain ⟨⟨as, ns⟩, e, h⟩ := ok_elim h
  obtain ⟨hl, i0, B, hB, ra, rm, c1, c2⟩ := call_gen S r e
  refine ⟨as, cellsAt M ns, i0, B, _, hl.trans hn, hB, ra, rm, h, fun rv M' v H' q rr => ?_⟩
  cases rv with
  | d x =>
    obtain ⟨k, S2, rd⟩ := c1 x M' v H' rr
    exact z1 x _ H' v q k S2 rd
  | new ds =>
    obtain ⟨a, rfl, k, S2, hl2⟩ := c2 _ _ M' v H' rfl rr
    exact z2 _ _ _ H' a rfl q k S2 hl2
  | newK kvs =>
    obtain ⟨a, rfl, k, S2, hl2⟩ := c2 _ _ M' v H' rfl rr
    exact z2 _ _ _ H' a rfl q k S2 hl2
end
end
/-- a def that may be called by its name -/
structure Ca (P : Program) (w : World) (K : PySem.W.Frag) (mg : Str → Option Value) (base : Heap) (k : Nat) (x : Str) (n : Nat) (sp : SpD) : Prop where
  ex : ∃ (f : Addr) (fd : FuncData) (ps : List Str), FnG P w K mg base C8.CX0 k f fd ps (lP K n sp) ∧ mg x = some (.ref f) ∧ PySem.W.keepIn K (.ref f) = true ∧ Binds K fd ps []
section
variable {X : Cx} {G : Gd} {k j n : Nat} {x : Str} {sp : SpD} {p pos : Pos} {e : Expr} {es : List Expr} {tA : TA'}
theorem ve_call (ms : List Bool) (c : Ca X.prog X.w X.K X.mg X.base k x n sp) (hr : RoomG j X.A) (hk : k ≤ j) (hg : Gl X x) (ha : VA X G (e :: es) n tA)
    (hdb : (x == ("__debug__" : Str)) = false := by decide) (he : starEach (e :: es) X.env = (false, eval e X.env) :: starEach es X.env := by rfl) (hpl : (backTo pos (starEach es X.env)).any (·.1) = false := by rfl) :
    VE X G (.Call (.Name x p) (e :: es) [] pos) (eCall ms sp tA) := by
  obtain ⟨f, fd, ps, F, hm, kp, b⟩ := c.ex
  refine PE.weak (pe_callg F (hr.mono hk) hg hm kp b .nil C8.pass0 ha hdb he hpl (E := C8.E0)) fun σ H Q ⟨δ, M, ι, Q0, S, q, z⟩ => ?_
  refine thA S q fun xs M1 ι1 H1 vs hl h1 p1 k1 S1 r1 => ?_
  show lP X.K n sp (vs ++ []) H1 Q _
  rw [List.append_nil]
  refine call_in S1 r1 hl h1 (fun y M' H' v q2 k2 S2 r2 => z _ M' ι1 H' v q2 p1 (k1.trans k2) S2 r2) fun rv cn M' H' a hcn q2 k2 S2 hl2 => ?_
  refine z (.ref M'.length) _ _ H' _ (rvQ_cell hcn q2) (p1.trans (Ex.app _ _)) (k1.trans k2) S2 ⟨a, rfl, .inl ?_⟩
  rw [hl2, S1.mem.len, List.getElem?_append_right (Nat.le_refl _)]; simp
end
theorem Sr.seal {K : PySem.W.Frag} {G : Gd} {δ : DS} {M : Mem} {ι : Ix} {σ : L2.St} {H : Hp} {n : Nat} {a : Addr} {ds : List D} (S : Sr K G δ M ι σ H) (hn : ι[n]? = some (some a)) (h0 : G.i0.length ≤ n) (hc : M[n]? = some (.lst ds)) :
    Sr K G δ (M.set n .gone) (ι.set n none) σ H ∧ Ex ι (ι.set n none) ∧ Kp ι H (ι.set n none) H ∧ RD K G.N H (ι.set n none) (.lst ds) (.ref a) := by
  have kk : Kp ι H (ι.set n none) H := fun b o e h => ⟨e, fun z => by
    rcases List.mem_or_eq_of_mem_set z with z | z
    · exact h z
    · cases z⟩
  have ee : Ex ι (ι.set n none) := fun m o e => by
    by_cases h : n = m
    · subst h
      exact .inr (List.getElem?_set_self (List.getElem?_eq_some_iff.mp e).1)
    · rw [List.getElem?_set_ne h]; exact .inl e
  have back : ∀ (m : Nat) (b : Addr), (ι.set n none)[m]? = some (some b) → n ≠ m ∧ ι[m]? = some (some b) := fun m b e => by
    by_cases h : n = m
    · subst h
      rw [List.getElem?_set_self (List.getElem?_eq_some_iff.mp hn).1] at e; cases e
    · rw [List.getElem?_set_ne h] at e; exact ⟨h, e⟩
  have hno : some a ∉ ι.set n none := fun z => by
    obtain ⟨m, hm⟩ := List.getElem?_of_mem z
    obtain ⟨h1, h2⟩ := back m a hm
    exact h1 (S.mem.nod _ _ _ hn h2)
  have hi0 : a ∉ G.i0 := fun z => by
    obtain ⟨j, hj⟩ := List.getElem?_of_mem z
    have e1 := S.mem.nod _ _ _ (S.pre j a hj) hn
    have := (List.getElem?_eq_some_iff.mp hj).1
    omega
  obtain ⟨xs, q1, l, r⟩ := S.mem.cell n _ a hc hn
  refine ⟨⟨S.len, fun i d e => ?_, ⟨by simp [S.mem.len], fun m m' b e1 e2 => S.mem.nod _ _ _ (back m b e1).2 (back m' b e2).2, fun m c b e1 e2 => ?_, fun m e => ?_, fun m c e1 => ?_⟩, fun m b e => ?_, S.kp.trans kk, fun b hb h1 => ?_, S.bad, fun b hb => ⟨fun z => ?_, (S.hid b hb).2⟩, S.obk⟩, ee, kk,
    a, xs, rfl, q1, hno, ⟨fun z => (S.hid a z).1 (List.mem_of_getElem? hn), fun _ z => ?_⟩, l, r.mono kk fun _ _ _ _ z => z⟩
  · obtain ⟨v, e1, r⟩ := S.slot i d e
    exact ⟨v, e1, r.mono kk ee fun _ _ _ _ z => z⟩
  · obtain ⟨h1, h2⟩ := back m b e2
    rw [List.getElem?_set_ne h1] at e1
    exact (S.mem.cell m c b e1 h2).mono kk ee (fun _ _ _ _ z => z) rfl
  · by_cases h : n = m
    · subst h; exact List.getElem?_set_self (List.getElem?_eq_some_iff.mp hc).1
    · rw [List.getElem?_set_ne h] at e ⊢; exact S.mem.gone m e
  · by_cases h : n = m
    · subst h
      rw [List.getElem?_set_self (List.getElem?_eq_some_iff.mp hc).1] at e1
      cases e1; trivial
    · rw [List.getElem?_set_ne h] at e1; exact S.mem.wf m c e1
  · rw [List.getElem?_set_ne (fun h => by have := (List.getElem?_eq_some_iff.mp e).1; omega)]; exact S.pre m b e
  · rcases List.mem_or_eq_of_mem_set hb with z | z
    · exact S.new b z h1
    · cases z
  · rcases List.mem_or_eq_of_mem_set z with z | z
    · exact (S.hid b hb).1 z
    · cases z
  · obtain ⟨o, ho⟩ := S.bad a z
    rw [S.new a (List.mem_of_getElem? hn) hi0] at ho; cases ho
/-- the value, its list sealed -/
def sealD (m0 : Nat) (M : Mem) : Sv → Option (Sv × Mem)
  | .ref n => if m0 ≤ n then (cellL M[n]?).map fun ds => (.d (.lst ds), M.set n .gone) else none
  | x => some (x, M)
def eSeal (m0 : Nat) (t : TE') : TE' := fun δ M Q => t δ M fun d M1 => ok (sealD m0 M1 d) fun r => Q r.1 r.2
theorem VE.seal {X : Cx} {G : Gd} {e : Expr} {t : TE'} {m0 : Nat} (hG : G.i0.length = m0) (h : VE X G e t) : VE X G e (eSeal m0 t) :=
  PE.weak h fun σ H Q ⟨δ, M, ι, Q0, S, q, z⟩ => ⟨δ, M, ι, _, S, q, fun d M' ι' H' v h1 p1 k1 S1 r1 => by
    obtain ⟨r, e, h1⟩ := ok_elim h1
    cases d with
    | d x => cases e; exact z _ _ ι' H' v h1 p1 k1 S1 r1
    | bor ds => cases e; exact z _ _ ι' H' v h1 p1 k1 S1 r1
    | ref n =>
      by_cases hn : m0 ≤ n
      · rw [show sealD m0 M' (.ref n) = (if m0 ≤ n then (cellL M'[n]?).map fun ds => (.d (.lst ds), M'.set n .gone) else none) from rfl, if_pos hn] at e
        obtain ⟨ds, e1, rfl⟩ := Option.map_eq_some_iff.mp e
        obtain ⟨a, rfl, ha, _⟩ := S1.mem.at r1 (cellL_some e1) (fun z => nomatch z)
        obtain ⟨S2, e2, k2, r2⟩ := S1.seal ha (by omega) (cellL_some e1)
        exact z _ _ _ H' _ h1 (p1.trans e2) (k1.trans k2) S2 r2
      · rw [show sealD m0 M' (.ref n) = (if m0 ≤ n then (cellL M'[n]?).map fun ds => (.d (.lst ds), M'.set n .gone) else none) from rfl, if_neg hn] at e; cases e⟩
/-- the rule for a def: from its derivation and the pure law -/
theorem ca_of {P : Program} {w : World} {K : PySem.W.Frag} {mg : Str → Option Value} {base : Heap} {x qual : Str} {params : Arguments} {body : List Stmt} {scope : Scope} {f : Addr} {fd : FuncData} {Ns ps : List Str} {k m0 : Nat} {sp : SpD} {t : TS'}
    (F : FunD K x qual params body scope [] [] f fd) (hg : mg x = some (.ref f)) (b : Binds K fd ps []) (S : FnScope Ns ps scope) (hm0 : ∀ as M Q0, sp as M Q0 → M.length = m0)
    (hb : ∀ (cdv : Value) (A : Around) (outer : List Env) (s : Shared) (H : Hp) (E : XK) (G : Gd), RoomG k (A.deeper (PyProof.Rows.envOfC qual scope s.heap.objs.size f cdv)) → G.i0.length = m0 → VSs (cxOf C8.CX0 P w K mg base Ns qual scope f cdv A outer s H E).nox G body t)
    (hp : ∀ as M Q0, as.length = ps.length → sp as M Q0 → t (endsF M.length Q0) (startD Ns.length as) M) : Ca P w K mg base (k + 1) x ps.length sp := by
  refine ⟨f, fd, ps, ?_, hg, F.kp, b⟩
  refine fn_g F S (fun vs H Q E ⟨as, M, i0, B, Q0, hn, hB, ra, h⟩ => by rw [← ra.length, hn]) fun cdv A outer s H vs Q E hr h => ?_
  obtain ⟨t', h1, h2⟩ := body_ok (X := (cxOf C8.CX0 P w K mg base Ns qual scope f cdv A outer s H E).nox) (Ns := Ns) m0 rfl (fun G hG => hb cdv A outer s H E G hr hG) hm0 hp h
  exact ⟨t', h1.nox, h2⟩
end VL
set_option Elab.async false
set_option linter.all false
set_option maxRecDepth 100000
set_option maxHeartbeats 400000
namespace VL
open PySem PySem.Spec L2 RT RZ
def eCh (f g : Mem → Sv → Sv → Option Sv) (ta tb tc : TE') : TE' := fun δ M Q => ta δ M fun x M1 => tb δ M1 fun y M2 => ok ((f M2 x y).bind blD) fun k => if k then tc δ M2 fun z M3 => ok (g M3 y z) fun d => Q d M3 else Q (.d (.bl false)) M2
def pCh (f g : Mem → Sv → Sv → Option Sv) (a b c : PV) : PV := fun δ M => (a δ M).bind fun x => (b δ M).bind fun y => ((f M x y).bind blD).bind fun k => if k then (c δ M).bind fun z => g M y z else some (.d (.bl false))
section
variable {K : PySem.W.Frag} {X : Cx} {G : Gd} {e a b c : Expr} {es rest : List Expr} {pos : Pos} {ta tb tc : TE'} {p q u : PV}
theorem blD_some {d : Sv} {k : Bool} (h : blD d = some k) : d = .d (.bl k) := by
  cases d with
  | d x => cases x <;> first | (cases h; rfl) | cases h
  | ref n => cases h
  | bor n => cases h
theorem fin_ch {r r' : R2} {f g : Mem → Sv → Sv → Option Sv} (hf : Rd2 K r f) (hg : Rd2 K r' g) {σ : L2.St} {H : Hp} {Q : VK} (h : lE K G (eCh f g ta tb tc) σ H Q) : tChain r r' (lE K G ta) (lE K G tb) (lE K G tc) σ H Q := by
  obtain ⟨δ, M, ι, Q0, S, h, z⟩ := h
  refine th1 S h fun x M1 ι1 H1 v h1 p1 k1 S1 r1 => ?_
  refine th1 S1 h1 fun y M2 ι2 H2 u h2 p2 k2 S2 r2 => ?_
  obtain ⟨k, e, h2⟩ := ok_elim h2
  obtain ⟨d, e1, e2⟩ := Option.bind_eq_some_iff.mp e
  have e3 := blD_some e2
  subst e3
  refine hf G δ M2 ι2 σ H2 x y v u _ S2 (r1.mono k2 p2 (fun _ _ _ _ q => q)) r2 e1 _ fun ι3 H3 w p3 k3 S3 r3 => ?_
  cases (show _ = _ from r3)
  refine ⟨k, rfl, ?_⟩
  cases k with
  | false =>
    rw [if_neg Bool.false_ne_true]
    exact z _ M2 ι3 H3 _ h2 ((p1.trans p2).trans p3) ((k1.trans k2).trans k3) S3 rfl
  | true =>
    rw [if_pos rfl] at h2 ⊢
    refine th1 S3 h2 fun w M4 ι4 H4 t h4 p4 k4 S4 r4 => ?_
    obtain ⟨d, e4, h4⟩ := ok_elim h4
    exact hg G δ M4 ι4 σ H4 y w u t d S4 (r2.mono (k3.trans k4) (p3.trans p4) (fun _ _ _ _ q => q)) r4 e4 Q fun ι5 H5 w p5 k5 S5 r5 => z d M4 ι5 H5 w h4 ((((p1.trans p2).trans p3).trans p4).trans p5) ((((k1.trans k2).trans k3).trans k4).trans k5) S5 r5
theorem vt_chain {op op' : CmpOp} {r r' : R2} {f g : Mem → Sv → Sv → Option Sv} (ho : OpR X (compareOp op) r) (ho' : OpR X (compareOp op') r') (hf : Rd2 X.K r f) (hg : Rd2 X.K r' g) (ha : VE X G a ta) (hb : VE X G b tb) (hc : VE X G c tc)
    (hm : lastMarks [op, op'] [b, c] = false := by with_unfolding_all rfl) : VT X G (.Compare a [op, op'] [b, c] pos) (tTb (eCh f g ta tb tc)) := by
  have h := pt_chain (pos := pos) ho ho' ha hb hc hm
  refine ⟨fun pins s σ H Q I ⟨δ, M, ι, Q0, S, q, z⟩ => h.run pins s σ H Q I ?_⟩
  refine fin_ch hf hg ⟨δ, M, ι, _, S, q, fun d M' ι' H' v h1 p1 k1 S1 r1 => ?_⟩
  obtain ⟨k, e, h1⟩ := ok_elim h1
  have e3 := blD_some e
  subst e3
  cases (show _ = _ from r1)
  exact ⟨k, rfl, z k M' ι' H' h1 p1 k1 S1⟩
theorem ve_ty {x : Str} {n : String} (hg : Gl X x) (hm : X.mg x = none) (hv : bootBuiltins x = some (.type n)) (hn : x ≠ "__name__" := by decide) (hd : (x == ("__debug__" : Str)) = false := by decide) : VE X G (.Name x pos) (eP (pC (.ty n))) :=
  ve_const (pe_bltn (v := .ty n) hg hm hv rfl hn hd) fun _ _ _ _ => rfl
/-- data of the written part -/
def KV (K : PySem.W.Frag) (d : D) (u : Value) : Prop := ∃ v, RelV v u ∧ ∀ N H ι, RD K N H ι d v
theorem ve_glob {x : Str} {u : Value} {d : D} (hg : Gl X x) (hm : X.mg x = some u) (r : KV X.K d u) (hd : (x == ("__debug__" : Str)) = false := by decide) : VE X G (.Name x pos) (eP (pC d)) := by
  obtain ⟨v, r1, r2⟩ := r
  exact PE.weak (pe_glob hg hm r1 hd) fun σ H Q ⟨δ, M, ι, Q0, S, h, z⟩ => z _ M ι H v h (Ex.refl _) (Kp.refl _ _) S (r2 _ _ _)
def okR (d : D) : Bool := noR d && (PyData.showable (py d) && (decide ((PyData.shown (py d)).length ≤ sizeLine) && (decide (PyData.depth (py d) ≤ 150))))
def reprD (M : Mem) : List Sv → Option Sv
  | [x] => gd (okR (rsv M x) = true) (.d (.str (PyData.shown (py (rsv M x)))))
  | _ => none
mutual
theorem nod_py : ∀ d : D, PyData.hasDict (py d) = false
  | .non => rfl
  | .bl _ => rfl
  | .int _ => rfl
  | .str _ => rfl
  | .scr _ => rfl
  | .fn _ => rfl
  | .ty _ => rfl
  | .dn _ _ => rfl
  | .dk _ _ => rfl
  | .cls _ => rfl
  | .exc _ _ => rfl
  | .tup ds => nods_py ds
  | .lst ds => nods_py ds
theorem nods_py : ∀ d : List D, PyData.hasDictAll (pys d) = false
  | [] => rfl
  | d :: ds => by simp only [pys, PyData.hasDictAll, nod_py d, nods_py ds, Bool.or_false]
end
def rRepr (K : PySem.W.Frag) : List V → Hp → VK → Prop := fun xs H Q => ∃ v d, xs = [v] ∧ Dp K H v d ∧ PyData.showable d = true ∧ PyData.hasDict d = false ∧ (PyData.shown d).length ≤ sizeLine ∧ PyData.depth d ≤ 150 ∧ Q (.str (PyData.shown d)) H
end
end VL
set_option Elab.async false
set_option linter.all false
set_option maxRecDepth 100000
set_option maxHeartbeats 400000
namespace VL
open PySem PySem.Spec PyProof.Rows L2
mutual
def relDB (K : PySem.W.Frag) : D → Value → Bool
  | .non, .none => true
  | .bl b, .bool c => b == c
  | .int i, .int j _ => decide (i = j)
  | .str x, .str y _ => decide (x = y)
  | .tup ds, .ref a => (match K.lookup a with
    | some ⟨.type c, _, .seq its _, _⟩ => decide (c = "tuple") && (decide (its.size ≤ sizeLine) && relDBs K ds its.toList)
    | _ => false)
  | _, _ => false
def relDBs (K : PySem.W.Frag) : List D → List Value → Bool
  | [], [] => true
  | d :: ds, u :: us => relDB K d u && relDBs K ds us
  | _, _ => false
end
mutual
theorem relDB_ok {K : PySem.W.Frag} : ∀ (d : D) (u : Value), relDB K d u = true → ∃ v, RelV v u ∧ ∀ N H ι, RD K N H ι d v
  | .non, u, h => by
    cases u <;> first | (simp [relDB] at h; done) | exact ⟨.non, rfl, fun _ _ _ => rfl⟩
  | .bl b, u, h => by
    cases u <;> first | (simp [relDB] at h; done) | skip
    simp only [relDB, beq_iff_eq] at h; subst h
    exact ⟨.bl _, rfl, fun _ _ _ => rfl⟩
  | .int i, u, h => by
    cases u <;> first | (simp [relDB] at h; done) | skip
    simp only [relDB, decide_eq_true_eq] at h; subst h
    exact ⟨.int _, ⟨_, rfl⟩, fun _ _ _ => rfl⟩
  | .str i, u, h => by
    cases u <;> first | (simp [relDB] at h; done) | skip
    simp only [relDB, decide_eq_true_eq] at h; subst h
    exact ⟨.str _, ⟨_, rfl⟩, fun _ _ _ => rfl⟩
  | .tup ds, u, h => by
    cases u with
    | ref a =>
      unfold relDB at h
      cases q : K.lookup a with
      | none => rw [q] at h; cases h
      | some o =>
        obtain ⟨oc, od, dt, osl⟩ := o
        rw [q] at h
        cases oc with
        | type c =>
          cases dt with
          | seq its n =>
            have h : (decide (c = "tuple") && (decide (its.size ≤ sizeLine) && relDBs K ds its.toList)) = true := h
            simp only [Bool.and_eq_true, decide_eq_true_eq] at h
            obtain ⟨h1, h2, h3⟩ := h
            obtain ⟨xs, r1, r2, r3⟩ := relDBs_ok ds its.toList h3
            refine ⟨.ref a, rfl, fun N H ι => ⟨a, xs, rfl, .inr ⟨_, its, n, q, congrArg Value.type h1, rfl, h2, r1⟩, by rw [r3]; simpa using h2, r2 N H ι⟩⟩
          | _ => cases h
        | _ => cases dt <;> cases h
    | _ => simp [relDB] at h
  | .lst ds, u, h => by cases u <;> simp [relDB] at h
  | .scr ds, u, h => by cases u <;> simp [relDB] at h
  | .fn a, u, h => by cases u <;> simp [relDB] at h
  | .ty a, u, h => by cases u <;> simp [relDB] at h
  | .dn _ _, u, h => by cases u <;> simp [relDB] at h
  | .dk _ _, u, h => by cases u <;> simp [relDB] at h
  | .cls _, u, h => by cases u <;> simp [relDB] at h
  | .exc _ _, u, h => by cases u <;> simp [relDB] at h
theorem relDBs_ok {K : PySem.W.Frag} : ∀ (ds : List D) (us : List Value), relDBs K ds us = true → ∃ vs, Vals vs us ∧ (∀ N H ι, RDs K N H ι ds vs) ∧ ds.length = us.length
  | [], [], _ => ⟨[], .nil, fun _ _ _ => rfl, rfl⟩
  | [], _ :: _, h => by simp [relDBs] at h
  | _ :: _, [], h => by simp [relDBs] at h
  | d :: ds, u :: us, h => by
    simp only [relDBs, Bool.and_eq_true] at h
    obtain ⟨v, r1, r2⟩ := relDB_ok d u h.1
    obtain ⟨vs, r3, r4, r5⟩ := relDBs_ok ds us h.2
    exact ⟨v :: vs, .cons r1 r3, fun N H ι => ⟨v, vs, rfl, r2 N H ι, r4 N H ι⟩, by simp [r5]⟩
end
def conV (K : PySem.W.Frag) (c : Str × D) : Bool := match PySem.W.nsIn K mainGlobals c.1 with
  | some (some u) => relDB K c.2 u
  | _ => false
abbrev AlV : Type := He.AlD × Bool
def obsV (fa : List He.Fa) (fn : List He.DefD) (cs : List (Str × D)) (K : PySem.W.Frag) : AlV := (He.obsD fa fn K, cs.all (conV K))
def SaysV (fa : List He.Fa) (fn : List He.DefD) (cs : List (Str × D)) (K : PySem.W.Frag) : Prop := obsV fa fn cs K = (He.valD fn, true)
theorem SaysV.d {fa : List He.Fa} {fn : List He.DefD} {cs : List (Str × D)} {K : PySem.W.Frag} (c : SaysV fa fn cs K) : He.SaysD fa fn K := congrArg (fun z : AlV => z.1) c
theorem SaysV.con {fa : List He.Fa} {fn : List He.DefD} {cs : List (Str × D)} {K : PySem.W.Frag} {h : Heap} {mg : Str → Option Value} (c : SaysV fa fn cs K) (X : K.In h) (G : h.Ns mainGlobals mg) (i : Nat) {x : Str} {d : D} (hi : cs[i]? = some (x, d) := by rfl) : ∃ u, mg x = some u ∧ KV K d u := by
  have c1 : cs.all (conV K) = true := congrArg (fun z : AlV => z.2) c
  have c2 := List.all_eq_true.mp c1 _ (List.mem_of_getElem? hi)
  unfold conV at c2
  split at c2
  · rename_i u e
    exact ⟨u, PySem.W.mg_of X G e, relDB_ok d u c2⟩
  · cases c2
end VL
set_option Elab.async false
set_option linter.all false
set_option maxRecDepth 100000
set_option maxHeartbeats 400000
namespace VL
open PySem PySem.Spec L2 RT RZ
theorem bt_len : bootBuiltins "len" = some (.builtin "len") := by decide +kernel
theorem bt_abs : bootBuiltins "abs" = some (.builtin "abs") := by decide +kernel
theorem bt_min : bootBuiltins "min" = some (.builtin "min") := by decide +kernel
theorem bt_max : bootBuiltins "max" = some (.builtin "max") := by decide +kernel
theorem bt_all : bootBuiltins "all" = some (.builtin "all") := by decide +kernel
theorem bt_isinstance : bootBuiltins "isinstance" = some (.builtin "isinstance") := by decide +kernel
theorem bt_int : bootBuiltins "int" = some (.type "int") := by decide +kernel
theorem bt_bool : bootBuiltins "bool" = some (.type "bool") := by decide +kernel
theorem bt_str : bootBuiltins "str" = some (.type "str") := by decide +kernel
theorem bt_tuple : bootBuiltins "tuple" = some (.type "tuple") := by decide +kernel
theorem bt_list : bootBuiltins "list" = some (.type "list") := by decide +kernel
section
variable {K : PySem.W.Frag} {X : Cx} {G : Gd} {e a b c : Expr} {es rest : List Expr} {pos : Pos} {p q u : PV}
theorem VT.pCh {f g : Mem → Sv → Sv → Option Sv} (h : VT X G e (tTb (eCh f g (eP p) (eP q) (eP u)))) : VT X G e (cP (bB (VL.pCh f g p q u))) := h.weak fun δ M Q h => by
  unfold cP bB VL.pCh at h
  rw [ok_bind, ok_bind] at h
  obtain ⟨x, e1, h⟩ := ok_elim h
  rw [ok_bind] at h
  obtain ⟨y, e2, h⟩ := ok_elim h
  rw [ok_bind] at h
  obtain ⟨k, e3, h⟩ := ok_elim h
  refine ok_of e1 (ok_of e2 (ok_of e3 ?_))
  cases k with
  | false => exact h
  | true =>
    rw [if_pos rfl] at h ⊢
    rw [ok_bind] at h
    exact h
/-- name = [..] on one line: frozen, or changing -/
theorem vs_setLcF {i : Nat} {y : Str} {py : Pos} {elt tg iter : Expr} {ifs : List Expr} {scope : Scope} {own : List (Str × Nat)} {pos spos : Pos} {it : TI'} {g : LcG} {tt : TT'} {te : TE'} (hc : X.calm = true) (hN : X.N.Nodup) (hy : X.N[i]? = some y) (hyl : X.env.scope.names.lookup y = some .local)
    (hsw : swapsWith (.ListComp elt [⟨tg, iter, ifs, 0⟩] scope pos) (some (.Name y py)) spos.line X.env = pure true) (hi : VI X G true tg iter it) (ok' : BlkOk X.N X.env.scope scope own)
    (hg : ∀ (s : Shared) (H : Hp) (C : Addr) (cl : List (Str × Addr)) (fp : List Addr), PG (X.blk s H scope (compEnvC scope cl C X.env) fp) tg (g.raw X.K)) (ht : ∀ (s : Shared) (H : Hp) (C : Addr) (cl : List (Str × Addr)) (fp : List Addr) (G' : Gd), G'.i0 = G.i0 → VTs (X.blk s H scope (compEnvC scope cl C X.env) fp) G' ifs tt)
    (he : ∀ (s : Shared) (H : Hp) (C : Addr) (cl : List (Str × Addr)) (fp : List Addr) (G' : Gd), G'.i0 = G.i0 → VE (X.blk s H scope (compEnvC scope cl C X.env) fp) G' elt te) (hv : ∀ i ∈ g.names, i ∈ own.map (·.2)) (hs : ∀ x, foldedSetIterable iter X.env x = pure x := by intro _; rfl) :
    VS X G (.Assign [.Name y py] (.ListComp elt [⟨tg, iter, ifs, 0⟩] scope pos) spos) (sSet i (eFz (fLc it g tt te (own.map (·.2))))) := vs_setLc (nw := false) hc hN hy hyl hsw hi ok' hg ht he hv hs
/-- str(i) -/
def strD (_ : Mem) : List Sv → Option Sv
  | [.d (.int i)] => gd (i.natAbs.log2 < 1920) (.d (.str (toString i)))
  | [.d (.str s)] => some (.d (.str s))
  | _ => none
theorem rd_str : RdN K (fun xs H Q => (∃ i, xs = [V.int i] ∧ i.natAbs.log2 < 1920 ∧ Q (.str (toString i)) H) ∨ ∃ a, xs = [V.str a] ∧ Q (.str a) H) strD := by
  intro G δ M ι σ H xs vs d S rx e Q z
  unfold strD at e
  split at e
  · obtain ⟨hc, rfl⟩ := gd_some e
    obtain ⟨v, rfl, r⟩ := one_of rx
    cases (show _ = _ from r)
    exact .inl ⟨_, rfl, hc, fin_same S z rfl⟩
  · cases e
    obtain ⟨v, rfl, r⟩ := one_of rx
    cases (show _ = _ from r)
    exact .inr ⟨_, rfl, fin_same S z rfl⟩
  · cases e
theorem call_strX : CallR X (.type "str") (fun xs H Q => (∃ i, xs = [V.int i] ∧ i.natAbs.log2 < 1920 ∧ Q (.str (toString i)) H) ∨ ∃ a, xs = [V.str a] ∧ Q (.str a) H) := call_str_int.or SkE.call_str_str
theorem call_isiX : CallR X (.builtin "isinstance") (fun xs H Q => (fun xs H Q => rIsi X.K xs H Q ∨ rIsiT X.K xs H Q) xs H Q ∨ rIsiK X.K xs H Q) := (call_isi.or call_isiT).or call_isiK
end
end VL
set_option Elab.async false
set_option linter.all false
set_option maxRecDepth 100000
set_option maxHeartbeats 4000000
namespace VL
open PySem PySem.Spec L2 RT RZ PyProof.Rows
end VL
set_option Elab.async false
set_option linter.all false
set_option maxRecDepth 100000
set_option maxHeartbeats 4000000
namespace VL
open PySem PySem.Spec L2 RT RZ PyProof.Rows
def uins (x : Int) : List Int → List Int
  | [] => [x]
  | y :: ys => if x < y then x :: y :: ys else if x = y then y :: ys else y :: uins x ys
def usort : List Int → List Int
  | [] => []
  | x :: xs => uins x (usort xs)
end VL
set_option Elab.async false
set_option linter.all false
set_option maxRecDepth 100000
set_option maxHeartbeats 4000000
namespace VL
open PySem PySem.Spec L2 RT RZ PyProof.Rows
def iZq (t : TA') : TI' := fun δ M Q => t δ M fun xs M1 => match xs with
  | [a, b] => (match a, b with
    | .d (.tup as), .d (.tup bs) => Q (zipL as bs) gdT M1
    | a, b => ok (lstD M1 a) fun as => ok (lstD M1 b) fun bs => Q (zipL as bs) (fun M => gdS a as M ∧ gdS b bs M) M1)
  | _ => False
theorem zq_of {x y : Sv} {M : Mem} {Q : List D → (Mem → Prop) → Mem → Prop} (h : (match x, y with
    | .d (.tup as), .d (.tup bs) => Q (zipL as bs) gdT M
    | a, b => ok (lstD M a) fun as => ok (lstD M b) fun bs => Q (zipL as bs) (fun M => gdS a as M ∧ gdS b bs M) M)) :
    (∃ as bs, x = .d (.tup as) ∧ y = .d (.tup bs) ∧ Q (zipL as bs) gdT M) ∨ ∃ as bs, lstD M x = some as ∧ lstD M y = some bs ∧ Q (zipL as bs) (fun M => gdS x as M ∧ gdS y bs M) M := by
  split at h
  · exact .inl ⟨_, _, rfl, rfl, h⟩
  · obtain ⟨as, ea, h⟩ := ok_elim h
    obtain ⟨bs, eb, h⟩ := ok_elim h
    exact .inr ⟨as, bs, ea, eb, h⟩
/-- over a tuple -/
def iTq (t : TE') : TI' := fun δ M Q => t δ M fun s M1 => ok (tupD s) fun ds => Q ds gdT M1
section
variable {K : PySem.W.Frag} {X : Cx} {G : Gd} {e e2 tg : Expr} {pos p : Pos} {t : TE'}
theorem vi_zipQ {bd : Bool} {elts : List Expr} {kk : Nat} {tpos : Pos} {tA : TA'} (hg : Gl X "zip") (hm : X.mg "zip" = none) (ha : VA X G [e, e2] 2 tA) (hs : starEach [e, e2] X.env = (false, eval e X.env) :: starEach [e2] X.env := by rfl) (hpl : ((backTo pos (starEach [e2] X.env)).any fun x => x.1) = false := by rfl) :
    VI X G bd (.Tuple elts kk tpos) (.Call (.Name "zip" p) [e, e2] [] pos) (iZq tA) := by
  have hi := pi_zipA (tpos := tpos) (elts := elts) (kk := kk) (p := p) (pos := pos) hg hm ha hs hpl
  refine ⟨fun pins s σ H R I ⟨δ, M, ι, Q0, S, q, z⟩ => hi.run pins s σ H R I ?_⟩
  refine thA S q fun xs M1 ι1 H1 vs hl q1 p1 k1 S1 r1 => ?_
  obtain ⟨x, y, rfl⟩ : ∃ x y, xs = [x, y] := len2 hl
  obtain ⟨v, u, rfl, ra, rb⟩ := two_of r1
  rcases zq_of q1 with ⟨as, bs, rfl, rfl, q2⟩ | ⟨as, bs, ea, eb, q2⟩
  · obtain ⟨a1, rfl, ⟨xs, hq⟩, hl1, st⟩ := tup_stays ra
    obtain ⟨a2, rfl, ⟨ys, hq2⟩, hl2, st2⟩ := tup_stays rb
    refine ⟨a1, a2, xs, ys, rfl, .inr ⟨hq, hq2, z _ _ M1 ι1 H1 _ (fun _ => by unfold zipL; rw [List.length_map, List.length_zip]; omega) q2 p1 k1 S1 ?_⟩⟩
    intro G2 δ2 M2 ι2 σ2 H2 hn2 S2 e2 k2 hg
    obtain ⟨xs, qx, rx⟩ := st G2 ι2 H2 hn2 k2
    obtain ⟨ys, qy, ry⟩ := st2 G2 ι2 H2 hn2 k2
    refine ⟨⟨xs, ys, qx, qy, by have := rx.length; have := ry.length; simp only [zipL, List.length_map, List.length_zip]; omega⟩, fun i d hd => ?_⟩
    obtain ⟨d1, d2, h1, h2, rfl⟩ := zip_get hd
    obtain ⟨x, hx, rxx⟩ := rx.get h1
    obtain ⟨y, hy, ryy⟩ := ry.get h2
    refine ⟨⟨xs, ys, x, y, qx, qy, hx, hy⟩, fun v H3 hyl => ?_⟩
    obtain ⟨T, x1, y1, rfl, hT, rfl, h5, h6⟩ := hyl
    have h5 := h5 xs qx
    have h6 := h6 ys qy
    rw [hx] at h5; cases h5
    rw [hy] at h6; cases h6
    exact ⟨.inr ⟨T, _, hT, rfl⟩, fin_pair S2 hT rxx ryy⟩
  · obtain ⟨a1, rfl, ⟨xs, hq, _⟩, hl1, st⟩ := list_stays S1 ra ea
    obtain ⟨a2, rfl, ⟨ys, hq2, _⟩, hl2, st2⟩ := list_stays S1 rb eb
    refine ⟨a1, a2, xs, ys, rfl, .inl ⟨hq, hq2, z _ _ M1 ι1 H1 _ (fun _ => by unfold zipL; rw [List.length_map, List.length_zip]; omega) q2 p1 k1 S1 ?_⟩⟩
    intro G2 δ2 M2 ι2 σ2 H2 hn2 S2 e2 k2 hg
    obtain ⟨xs, qx, rx⟩ := st G2 δ2 M2 ι2 σ2 H2 hn2 S2 e2 k2 hg.1
    obtain ⟨ys, qy, ry⟩ := st2 G2 δ2 M2 ι2 σ2 H2 hn2 S2 e2 k2 hg.2
    refine ⟨⟨xs, ys, qx, qy, by have := rx.length; have := ry.length; simp only [zipL, List.length_map, List.length_zip]; omega⟩, fun i d hd => ?_⟩
    obtain ⟨d1, d2, h1, h2, rfl⟩ := zip_get hd
    obtain ⟨x, hx, rxx⟩ := rx.get h1
    obtain ⟨y, hy, ryy⟩ := ry.get h2
    refine ⟨⟨xs, ys, x, y, qx, qy, hx, hy⟩, fun v H3 hyl => ?_⟩
    obtain ⟨T, x1, y1, rfl, hT, rfl, h5, h6⟩ := hyl
    have h5 := h5 xs qx
    have h6 := h6 ys qy
    rw [hx] at h5; cases h5
    rw [hy] at h6; cases h6
    exact ⟨.inr ⟨T, _, hT, rfl⟩, fin_pair S2 hT rxx ryy⟩
end
end VL
set_option Elab.async false
set_option linter.all false
set_option maxRecDepth 100000
set_option maxHeartbeats 4000000
namespace VL
open PySem PySem.Spec L2 RT RZ
def valK (kvs : List (Key × D)) (k : Key) : Option D := (kvs.find? fun kv => decide (kv.1 = k)).map (·.2)
section
variable {K : PySem.W.Frag} {X : Cx} {N : Bool → Addr → Prop} {H : Hp} {ι : Ix} {G : Gd} {a b e o i : Expr} {es : List Expr} {pos cpos apos p1' : Pos} {ta tb te to ti t : TE'} {tA : TA'}
def RK (K : PySem.W.Frag) (N : Bool → Addr → Prop) (H : Hp) (ι : Ix) (kvs : List (Key × D)) (ws : List (Key × V)) : Prop := kvs.map (·.1) = ws.map (·.1) ∧ RDs K N H ι (kvs.map (·.2)) (ws.map (·.2))
theorem RK.inv {k : Key} {d : D} {kvs : List (Key × D)} {ws : List (Key × V)} (h : RK K N H ι ((k, d) :: kvs) ws) : ∃ v ws', ws = (k, v) :: ws' ∧ RD K N H ι d v ∧ RK K N H ι kvs ws' := by
  obtain ⟨h1, h2⟩ := h
  cases ws with
  | nil => cases h1
  | cons w ws =>
    simp only [List.map_cons, List.cons.injEq] at h1
    obtain ⟨x, r, e, g1, g2⟩ := h2
    simp only [List.map_cons, List.cons.injEq] at e
    obtain ⟨rfl, rfl⟩ := e
    exact ⟨w.2, ws, by rw [h1.1], g1, h1.2, g2⟩
theorem RK.nil : RK K N H ι [] [] := ⟨rfl, rfl⟩
theorem RK.cons {k : Key} {d : D} {v : V} {kvs : List (Key × D)} {ws : List (Key × V)} (r : RD K N H ι d v) (h : RK K N H ι kvs ws) : RK K N H ι ((k, d) :: kvs) ((k, v) :: ws) :=
  ⟨by simp [h.1], v, _, rfl, r, h.2⟩
theorem RK.nil_inv {ws : List (Key × V)} (h : RK K N H ι [] ws) : ws = [] := by
  have := h.1
  cases ws with
  | nil => rfl
  | cons w ws => simp at this
theorem RK.length {kvs : List (Key × D)} {ws : List (Key × V)} (h : RK K N H ι kvs ws) : kvs.length = ws.length := by
  have := congrArg List.length h.1
  simpa using this
theorem RK.val : ∀ {kvs : List (Key × D)} {ws : List (Key × V)}, RK K N H ι kvs ws → ∀ k, (valK kvs k = none ∧ valV ws k = none) ∨ ∃ d v, valK kvs k = some d ∧ valV ws k = some v ∧ RD K N H ι d v
  | [], ws, h, k => by
    rw [h.nil_inv]; exact .inl ⟨rfl, rfl⟩
  | (j, d) :: kvs, ws, h, k => by
    obtain ⟨v, ws', rfl, r, h'⟩ := h.inv
    by_cases e : j = k
    · refine .inr ⟨d, v, by simp [valK, e], by simp [valV, e], r⟩
    · rcases RK.val h' k with ⟨h1, h2⟩ | ⟨d', v', h1, h2, r'⟩
      · refine .inl ⟨?_, ?_⟩
        · simp only [valK, List.find?_cons, e, decide_false]; exact h1
        · simp only [valV, List.find?_cons, e, decide_false]; exact h2
      · refine .inr ⟨d', v', ?_, ?_, r'⟩
        · simp only [valK, List.find?_cons, e, decide_false]; exact h1
        · simp only [valV, List.find?_cons, e, decide_false]; exact h2
theorem RK.any {kvs : List (Key × D)} {ws : List (Key × V)} (h : RK K N H ι kvs ws) (k : Key) : (kvs.any fun kv => decide (kv.1 = k)) = ws.any fun kv => decide (kv.1 = k) := by
  have e1 : (kvs.any fun kv => decide (kv.1 = k)) = (kvs.map (·.1)).any fun j => decide (j = k) := by rw [List.any_map]; rfl
  have e2 : (ws.any fun kv => decide (kv.1 = k)) = (ws.map (·.1)).any fun j => decide (j = k) := by rw [List.any_map]; rfl
  rw [e1, e2, h.1]
theorem RK.snoc {k : Key} {d : D} {v : V} (r : RD K N H ι d v) : ∀ {kvs : List (Key × D)} {ws : List (Key × V)}, RK K N H ι kvs ws → RK K N H ι (kvs ++ [(k, d)]) (ws ++ [(k, v)])
  | [], ws, h => by rw [h.nil_inv]; exact RK.cons r RK.nil
  | (j, d') :: kvs, ws, h => by
    obtain ⟨v', ws', rfl, r', h'⟩ := h.inv
    exact RK.cons r' (RK.snoc r h')
theorem RK.mono {N' : Bool → Addr → Prop} {H' : Hp} {ι' : Ix} {kvs : List (Key × D)} {ws : List (Key × V)} (k : Kp ι H ι' H') (hn : ∀ b a o, H a = some o → N b a → N' b a) (h : RK K N H ι kvs ws) : RK K N' H' ι' kvs ws := ⟨h.1, h.2.mono k hn⟩
end
end VL
set_option Elab.async false
set_option linter.all false
set_option maxRecDepth 100000
set_option maxHeartbeats 4000000
namespace VL
open PySem PySem.Spec L2 RT RZ
/-- a plain list of these items -/
def PlnL (h : Heap) (l : Addr) (vs : List Value) : Prop := ∃ n, h.get? l = some { cls := .type "list", data := .seq vs.toArray n }
theorem PlnL.keep {h h' : Heap} {l : Addr} {vs : List Value} (p : PlnL h l vs) (k : ∀ b o, h.get? b = some o → h'.get? b = some o) : PlnL h' l vs := let ⟨n, e⟩ := p; ⟨n, k _ _ e⟩
end VL
set_option Elab.async false
set_option linter.all false
set_option maxRecDepth 100000
set_option maxHeartbeats 4000000
namespace VL
open PySem PySem.Spec L2 RT RZ
end VL
set_option Elab.async false
set_option linter.all false
set_option maxRecDepth 100000
set_option maxHeartbeats 4000000
namespace VL
open PySem PySem.Spec L2 RT RZ
end VL
set_option Elab.async false
set_option linter.all false
set_option maxRecDepth 100000
set_option maxHeartbeats 4000000
namespace VL
open PySem PySem.Spec L2 RT RZ PyProof.Rows
end VL
set_option Elab.async false
set_option linter.all false
set_option maxRecDepth 100000
set_option maxHeartbeats 4000000
namespace VL
open PySem PySem.Spec L2 RT RZ PyProof.Rows
theorem sSeq_app {a b : TS'} {E : Ends'} {δ : DS} {M : Mem} : sSeq a b E δ M = a ⟨fun δ' M' => b E δ' M', E.rt, E.bk, E.ct⟩ δ M := Eq.trans (Eq.refl _) (Eq.refl _)
variable {K : PySem.W.Frag} {X : Cx} {G : Gd} {e tg : Expr} {pos p : Pos} {t : TE'}
end VL
set_option Elab.async false
set_option linter.all false
set_option maxRecDepth 100000
set_option maxHeartbeats 4000000
namespace VL
open PySem PySem.Spec L2 RT RZ PyProof.Rows
end VL
set_option Elab.async false
set_option linter.all false
set_option maxRecDepth 100000
set_option maxHeartbeats 4000000
namespace VL
open PySem PySem.Spec L2 RT RZ PyProof.Rows
end VL
set_option Elab.async false
set_option linter.all false
set_option maxRecDepth 100000
set_option maxHeartbeats 4000000
namespace VL
open PySem PySem.Spec L2 RT RZ PyProof.Rows
end VL
set_option Elab.async false
set_option linter.all false
set_option maxRecDepth 100000
set_option maxHeartbeats 4000000
namespace VL
open PySem PySem.Spec L2 RT RZ
end VL
set_option Elab.async false
set_option linter.all false
set_option maxRecDepth 100000
set_option maxHeartbeats 4000000
namespace VL
open PySem PySem.Spec L2 RT RZ PyProof.Rows
end VL
set_option Elab.async false
set_option linter.all false
set_option maxRecDepth 100000
set_option maxHeartbeats 4000000
namespace VL
open PySem PySem.Spec L2 RT RZ
end VL
set_option Elab.async false
set_option linter.all false
set_option maxRecDepth 100000
set_option maxHeartbeats 4000000
namespace VL
open PySem PySem.Spec L2 RT RZ
end VL
set_option Elab.async false
set_option linter.all false
set_option maxRecDepth 100000
set_option maxHeartbeats 4000000
namespace VL
open PySem PySem.Spec L2 RT RZ
def sStop : TS' := fun _ _ _ => False
theorem vs_stop {X : Cx} {G : Gd} {s : Stmt} : VS X G s sStop := ⟨fun pins s σ H Q I ⟨_, _, _, _, _, q, _⟩ => q.elim⟩
end VL
set_option Elab.async false
set_option linter.all false
set_option maxRecDepth 100000
set_option maxHeartbeats 4000000
namespace VL
open PySem PySem.Spec L2 RT RZ PyProof.Rows
end VL
set_option Elab.async false
set_option linter.all false
set_option maxRecDepth 100000
set_option maxHeartbeats 4000000
namespace VL
open PySem PySem.Spec L2 RT RZ PyProof.Rows
end VL
set_option Elab.async false
set_option linter.all false
set_option maxRecDepth 100000
set_option maxHeartbeats 4000000
namespace VL
open PySem PySem.Spec L2 RT RZ PyProof.Rows
end VL
set_option Elab.async false
set_option linter.all false
set_option maxRecDepth 100000
set_option maxHeartbeats 1000000
namespace VL
open PySem PySem.Spec L2 RT RZ
end VL
set_option Elab.async false
set_option linter.all false
set_option maxRecDepth 100000
set_option maxHeartbeats 4000000
namespace VL
open PySem PySem.Spec L2
end VL
set_option Elab.async false
set_option linter.all false
set_option maxRecDepth 100000
set_option maxHeartbeats 1000000
namespace VL
open PySem PySem.Spec L2 RT RZ
end VL
set_option Elab.async false
set_option linter.all false
set_option maxRecDepth 100000
set_option maxHeartbeats 1000000
namespace VL
open PySem PySem.Spec L2 RT RZ
def sealL (m0 : Nat) : Mem → List Sv → Option (List Sv × Mem)
  | M, [] => some ([], M)
  | M, x :: xs => (sealD m0 M x).bind fun r => (sealL m0 r.2 xs).map fun q => (r.1 :: q.1, q.2)
def aSeal (m0 : Nat) (t : TA') : TA' := fun δ M Q => t δ M fun xs M1 => ok (sealL m0 M1 xs) fun r => Q r.1 r.2
section
variable {K : PySem.W.Frag} {X : Cx} {G : Gd} {es : List Expr} {tA : TA'} {δ : DS} {M : Mem} {ι : Ix} {σ : L2.St} {H : Hp}
theorem seal_rd {m0 : Nat} (hG : G.i0.length = m0) {d : Sv} {v : V} {r : Sv × Mem} (S : Sr K G δ M ι σ H) (rx : RS K G.N H ι d v) (e : sealD m0 M d = some r) :
    ∃ ι', Sr K G δ r.2 ι' σ H ∧ Ex ι ι' ∧ Kp ι H ι' H ∧ RS K G.N H ι' r.1 v := by
  cases d with
  | d x => cases e; exact ⟨ι, S, Ex.refl _, Kp.refl _ _, rx⟩
  | bor ds => cases e; exact ⟨ι, S, Ex.refl _, Kp.refl _ _, rx⟩
  | ref n =>
    by_cases hn : m0 ≤ n
    · rw [show sealD m0 M (.ref n) = (if m0 ≤ n then (cellL M[n]?).map fun ds => (.d (.lst ds), M.set n .gone) else none) from rfl, if_pos hn] at e
      obtain ⟨ds, e1, rfl⟩ := Option.map_eq_some_iff.mp e
      obtain ⟨a, rfl, ha, _⟩ := S.mem.at rx (cellL_some e1) (fun z => nomatch z)
      obtain ⟨S2, e2, k2, r2⟩ := S.seal ha (by omega) (cellL_some e1)
      exact ⟨_, S2, e2, k2, r2⟩
    · rw [show sealD m0 M (.ref n) = (if m0 ≤ n then (cellL M[n]?).map fun ds => (.d (.lst ds), M.set n .gone) else none) from rfl, if_neg hn] at e; cases e
theorem sealL_rd {m0 : Nat} (hG : G.i0.length = m0) : ∀ {xs : List Sv} {vs : List V} {M : Mem} {ι : Ix} {r : List Sv × Mem}, Sr K G δ M ι σ H → RSs K G.N H ι xs vs → sealL m0 M xs = some r →
    ∃ ι', Sr K G δ r.2 ι' σ H ∧ Ex ι ι' ∧ Kp ι H ι' H ∧ RSs K G.N H ι' r.1 vs ∧ r.1.length = xs.length
  | [], vs, M, ι, r, S, rx, e => by cases e; exact ⟨ι, S, Ex.refl _, Kp.refl _ _, rx, rfl⟩
  | x :: xs, vs, M, ι, r, S, rx, e => by
    obtain ⟨v, vr, rfl, r1, r2⟩ := rx
    obtain ⟨q1, e1, e⟩ := Option.bind_eq_some_iff.mp (show (sealD m0 M x).bind _ = some r from e)
    obtain ⟨q2, e2, rfl⟩ := Option.map_eq_some_iff.mp e
    obtain ⟨ι1, S1, p1, k1, z1⟩ := seal_rd hG S r1 e1
    obtain ⟨ι2, S2, p2, k2, z2, l2⟩ := sealL_rd hG S1 (r2.mono k1 p1 fun _ _ _ _ z => z) e2
    exact ⟨ι2, S2, p1.trans p2, k1.trans k2, ⟨v, vr, rfl, z1.mono k2 p2 fun _ _ _ _ z => z, z2⟩, by simp [l2]⟩
theorem VA.seal {m0 n : Nat} (hG : G.i0.length = m0) (h : VA X G es n tA) : VA X G es n (aSeal m0 tA) :=
  ⟨fun pos pins s σ H Q I ⟨δ, M, ι, Q0, S, q, z⟩ => h.run pos pins s σ H Q I ⟨δ, M, ι, _, S, q, fun xs M' ι' H' vs hl h1 p1 k1 S1 r1 => by
    obtain ⟨r, e, h1⟩ := ok_elim h1
    obtain ⟨ι2, S2, e2, k2, r2, l2⟩ := sealL_rd hG S1 r1 e
    exact z _ _ _ _ vs (by first | exact hl | (rw [l2]; exact hl)) h1 (p1.trans e2) (k1.trans k2) S2 r2⟩⟩
end
end VL
set_option Elab.async false
set_option linter.all false
set_option maxRecDepth 100000
set_option maxHeartbeats 2000000
namespace VL
open PySem PySem.Spec L2 RT RZ PyProof.Rows
mutual
/-- a value that is this key -/
def KeyV (K : PySem.W.Frag) (H : Hp) : NestedKey → V → Prop
  | .none, v => v = .non
  | .num i, v => v = .int i ∨ ∃ b : Bool, v = .bl b ∧ i = if b = true then 1 else 0
  | .text _, _ => False
  | .tup ks, v => ∃ a xs, v = .ref a ∧ SqT K H a xs ∧ KeyVs K H ks xs
def KeyVs (K : PySem.W.Frag) (H : Hp) : List NestedKey → List V → Prop
  | [], xs => xs = []
  | k :: ks, xs => ∃ x r, xs = x :: r ∧ KeyV K H k x ∧ KeyVs K H ks r
end
def KeyT (K : PySem.W.Frag) (H : Hp) (k : NestedKey) (b : Addr) : Prop := KeyV K H k (.ref b) ∧ k.depth ≤ 8 ∧ nplain k = true
def DnAll (K : PySem.W.Frag) (H : Hp) (xs : List (NestedKey × Addr × V)) : Prop := ∀ x ∈ xs, KeyT K H x.1 x.2.1
def valNV (xs : List (NestedKey × Addr × V)) (k : NestedKey) : Option V := (xs.find? fun x => decide (x.1 = k)).map fun x => x.2.2
abbrev PN : List (NestedKey × Addr × V) → List (NestedKey × Addr × Value) → Prop := Paired (fun (p : NestedKey × Addr × V) (q : NestedKey × Addr × Value) => p.1 = q.1 ∧ p.2.1 = q.2.1 ∧ RelV p.2.2 q.2.2)
theorem PN.any {xs : List (NestedKey × Addr × V)} {ys : List (NestedKey × Addr × Value)} (r : PN xs ys) (k : NestedKey) : (xs.any fun x => decide (x.1 = k)) = (atKey ys k).isSome := by
  induction r with
  | nil => rfl
  | @cons p q ps qs h t ih =>
    rw [List.any_cons, ih]
    unfold atKey
    rw [List.find?_cons, h.1]
    by_cases e : q.1 = k
    · rw [decide_eq_true e]; rfl
    · rw [decide_eq_false e, Bool.false_or]
theorem PN.val {xs : List (NestedKey × Addr × V)} {ys : List (NestedKey × Addr × Value)} (r : PN xs ys) (k : NestedKey) : RelO (valNV xs k) ((atKey ys k).map (·.2)) := by
  induction r with
  | nil => trivial
  | @cons p q ps qs h t ih =>
    unfold valNV atKey at *
    rw [List.find?_cons, List.find?_cons, h.1]
    by_cases e : q.1 = k
    · rw [decide_eq_true e]; exact h.2.2
    · rw [decide_eq_false e]; exact ih
end VL
set_option Elab.async false
set_option linter.all false
set_option maxRecDepth 100000
set_option maxHeartbeats 2000000
namespace VL
open PySem PySem.Spec L2 RT RZ
def valN (kvs : List (D × D)) (k : NestedKey) : Option D := (kvs.find? fun p => decide (nkD p.1 = some k)).map (·.2)
section
variable {K : PySem.W.Frag} {X : Cx} {N : Bool → Addr → Prop} {H : Hp} {ι : Ix} {G : Gd} {δ : DS} {M : Mem} {σ : L2.St}
mutual
theorem key_of_rd : ∀ (d : D) (v : V) (k : NestedKey), RD K N H ι d v → nk0 d = some k → KeyV K H k v ∧ nplain k = true
  | .non, v, k, h, e => by cases e; exact ⟨h, rfl⟩
  | .int i, v, k, h, e => by cases e; exact ⟨.inl h, rfl⟩
  | .bl b, v, k, h, e => by cases e; exact ⟨.inr ⟨b, h, rfl⟩, rfl⟩
  | .tup ds, v, k, h, e => by
    obtain ⟨ks, e1, rfl⟩ := Option.map_eq_some_iff.mp (show (nk0s ds).map NestedKey.tup = some k from e)
    obtain ⟨a, xs, rfl, q, _, r⟩ := h
    obtain ⟨h1, h2⟩ := keys_of_rd ds xs ks r e1
    exact ⟨⟨a, xs, rfl, tup_sq q, h1⟩, h2⟩
  | .str _, _, _, _, e => by cases e
  | .lst _, _, _, _, e => by cases e
  | .scr _, _, _, _, e => by cases e
  | .fn _, _, _, _, e => by cases e
  | .ty _, _, _, _, e => by cases e
  | .dn _ _, _, _, _, e => by cases e
  | .dk _ _, _, _, _, e => by cases e
  | .cls _, _, _, _, e => by cases e
  | .exc _ _, _, _, _, e => by cases e
theorem keys_of_rd : ∀ (ds : List D) (vs : List V) (ks : List NestedKey), RDs K N H ι ds vs → nk0s ds = some ks → KeyVs K H ks vs ∧ nplains ks = true
  | [], vs, ks, h, e => by cases e; exact ⟨h, rfl⟩
  | d :: ds, vs, ks, h, e => by
    obtain ⟨k, e1, e2⟩ := Option.bind_eq_some_iff.mp (show (nk0 d).bind _ = some ks from e)
    obtain ⟨ks', e3, rfl⟩ := Option.map_eq_some_iff.mp e2
    obtain ⟨x, r, rfl, h1, h2⟩ := h
    obtain ⟨g1, g2⟩ := key_of_rd d x k h1 e1
    obtain ⟨g3, g4⟩ := keys_of_rd ds r ks' h2 e3
    exact ⟨⟨x, r, rfl, g1, g3⟩, by show (nplain k && nplains ks') = true; rw [g2, g4]; rfl⟩
end
theorem nkD_some {d : D} {k : NestedKey} (e : nkD d = some k) : ∃ ds ks, d = .tup ds ∧ k = .tup ks ∧ nk0s ds = some ks ∧ (NestedKey.tup ks).depth ≤ 8 := by
  cases d with
  | tup ds =>
    obtain ⟨ks, e1, e2⟩ := Option.bind_eq_some_iff.mp (show (nk0s ds).bind _ = some k from e)
    by_cases h : (NestedKey.tup ks).depth ≤ 8
    · rw [if_pos h] at e2; cases e2; exact ⟨ds, ks, rfl, rfl, e1, h⟩
    · rw [if_neg h] at e2; cases e2
  | _ => cases e
theorem keyT_of {d : D} {v : V} {k : NestedKey} (e : nkD d = some k) (h : RD K N H ι d v) : ∃ b, v = .ref b ∧ KeyT K H k b := by
  obtain ⟨ds, ks, rfl, rfl, e1, hd⟩ := nkD_some e
  obtain ⟨h1, h2⟩ := key_of_rd (.tup ds) v (.tup ks) h (by show (nk0s ds).map _ = _; rw [e1]; rfl)
  obtain ⟨b, xs, rfl, _⟩ := id h1
  exact ⟨b, rfl, h1, hd, h2⟩
def RNk (K : PySem.W.Frag) (N : Bool → Addr → Prop) (H : Hp) (ι : Ix) (kvs : List (D × D)) (xs : List (NestedKey × Addr × V)) : Prop :=
  (kvs.map (·.1)).map nkD = xs.map (fun x => some x.1) ∧ RDs K N H ι (kvs.map (·.1)) (xs.map fun x => V.ref x.2.1) ∧ RDs K N H ι (kvs.map (·.2)) (xs.map fun x => x.2.2)
theorem RNk.nil_inv {xs : List (NestedKey × Addr × V)} (h : RNk K N H ι [] xs) : xs = [] := by
  have := h.1
  cases xs with
  | nil => rfl
  | cons x xs => simp at this
theorem RNk.nil : RNk K N H ι [] [] := ⟨rfl, rfl, rfl⟩
theorem RNk.inv {d v : D} {kvs : List (D × D)} {xs : List (NestedKey × Addr × V)} (h : RNk K N H ι ((d, v) :: kvs) xs) : ∃ k b x xs', xs = (k, b, x) :: xs' ∧ nkD d = some k ∧ RD K N H ι d (.ref b) ∧ RD K N H ι v x ∧ RNk K N H ι kvs xs' := by
  obtain ⟨h1, h2, h3⟩ := h
  cases xs with
  | nil => simp at h1
  | cons x xs =>
    simp only [List.map_cons, List.cons.injEq] at h1
    obtain ⟨y, r, e, g1, g2⟩ := h2
    simp only [List.map_cons, List.cons.injEq] at e
    obtain ⟨rfl, rfl⟩ := e
    obtain ⟨y2, r2, e2, g3, g4⟩ := h3
    simp only [List.map_cons, List.cons.injEq] at e2
    obtain ⟨rfl, rfl⟩ := e2
    exact ⟨x.1, x.2.1, x.2.2, xs, rfl, h1.1, g1, g3, h1.2, g2, g4⟩
theorem RNk.cons {d v : D} {k : NestedKey} {b : Addr} {x : V} {kvs : List (D × D)} {xs : List (NestedKey × Addr × V)} (e : nkD d = some k) (r1 : RD K N H ι d (.ref b)) (r2 : RD K N H ι v x) (h : RNk K N H ι kvs xs) : RNk K N H ι ((d, v) :: kvs) ((k, b, x) :: xs) :=
  ⟨by simp only [List.map_cons]; rw [e, h.1], ⟨_, _, rfl, r1, h.2.1⟩, ⟨_, _, rfl, r2, h.2.2⟩⟩
theorem RNk.length {kvs : List (D × D)} {xs : List (NestedKey × Addr × V)} (h : RNk K N H ι kvs xs) : kvs.length = xs.length := by
  have := congrArg List.length h.1
  simpa using this
theorem RNk.all : ∀ {kvs : List (D × D)} {xs : List (NestedKey × Addr × V)}, RNk K N H ι kvs xs → DnAll K H xs
  | [], xs, h => by rw [h.nil_inv]; intro x hx; cases hx
  | (d, v) :: kvs, xs, h => by
    obtain ⟨k, b, x, xs', rfl, e, r1, r2, h'⟩ := h.inv
    intro y hy
    rcases List.mem_cons.mp hy with rfl | hy
    · obtain ⟨b', eb, kt⟩ := keyT_of e r1
      cases eb
      exact kt
    · exact RNk.all h' y hy
theorem RNk.val : ∀ {kvs : List (D × D)} {xs : List (NestedKey × Addr × V)}, RNk K N H ι kvs xs → ∀ k, (valN kvs k = none ∧ valNV xs k = none) ∨ ∃ d v, valN kvs k = some d ∧ valNV xs k = some v ∧ RD K N H ι d v
  | [], xs, h, k => by rw [h.nil_inv]; exact .inl ⟨rfl, rfl⟩
  | (d, v) :: kvs, xs, h, k => by
    obtain ⟨j, b, x, xs', rfl, e, r1, r2, h'⟩ := h.inv
    by_cases q : j = k
    · exact .inr ⟨v, x, by simp [valN, e, q], by simp [valNV, q], r2⟩
    · have q2 : ¬ (nkD d = some k) := fun z => q (by rw [e] at z; exact Option.some.inj z)
      rcases RNk.val h' k with ⟨h1, h2⟩ | ⟨d', v', h1, h2, r'⟩
      · refine .inl ⟨?_, ?_⟩
        · simp only [valN, List.find?_cons, q2, decide_false]; exact h1
        · simp only [valNV, List.find?_cons, q, decide_false]; exact h2
      · refine .inr ⟨d', v', ?_, ?_, r'⟩
        · simp only [valN, List.find?_cons, q2, decide_false]; exact h1
        · simp only [valNV, List.find?_cons, q, decide_false]; exact h2
theorem RNk.any : ∀ {kvs : List (D × D)} {xs : List (NestedKey × Addr × V)}, RNk K N H ι kvs xs → ∀ k, (kvs.any fun p => decide (nkD p.1 = some k)) = xs.any fun x => decide (x.1 = k)
  | [], xs, h, k => by rw [h.nil_inv]; rfl
  | (d, v) :: kvs, xs, h, k => by
    obtain ⟨j, b, x, xs', rfl, e, r1, r2, h'⟩ := h.inv
    rw [List.any_cons, List.any_cons, RNk.any h' k]
    congr 1
    show decide (nkD d = some k) = decide (j = k)
    rw [e]
    simp
theorem RNk.snoc {k : NestedKey} {b : Addr} {dk d : D} {v : V} (e : nkD dk = some k) (rk : RD K N H ι dk (.ref b)) (r : RD K N H ι d v) : ∀ {kvs : List (D × D)} {xs : List (NestedKey × Addr × V)}, RNk K N H ι kvs xs → RNk K N H ι (kvs ++ [(dk, d)]) (xs ++ [(k, b, v)])
  | [], xs, h => by rw [h.nil_inv]; exact RNk.cons e rk r RNk.nil
  | (d', v') :: kvs, xs, h => by
    obtain ⟨j, b', x, xs', rfl, e', r1, r2, h'⟩ := h.inv
    exact RNk.cons e' r1 r2 (RNk.snoc e rk r h')
theorem RNk.mono {N' : Bool → Addr → Prop} {H' : Hp} {ι' : Ix} {kvs : List (D × D)} {xs : List (NestedKey × Addr × V)} (k : Kp ι H ι' H') (hn : ∀ b a o, H a = some o → N b a → N' b a) (h : RNk K N H ι kvs xs) : RNk K N' H' ι' kvs xs :=
  ⟨h.1, h.2.1.mono k hn, h.2.2.mono k hn⟩
variable {a b e o i : Expr} {pos p1' : Pos} {ta tb te to ti : TE'}
end
end VL
set_option Elab.async false
set_option linter.all false
set_option maxRecDepth 100000
set_option maxHeartbeats 2000000
namespace VL
open PySem PySem.Spec L2 RT RZ PyProof.Rows
section
variable {K : PySem.W.Frag} {X : Cx} {N : Bool → Addr → Prop} {H : Hp} {ι : Ix} {G : Gd} {δ : DS} {M : Mem} {σ : L2.St} {a b e o i : Expr} {pos p1' : Pos} {ta tb te to ti t : TE'}
theorem Sr.frz {n : Nat} {a : Addr} {kvs : List (D × D)} (S : Sr K G δ M ι σ H) (hn : ι[n]? = some (some a)) (h0 : G.i0.length ≤ n) (hc : M[n]? = some (.dn kvs)) :
    ∃ xs, H a = some (DnO a xs) ∧ ∀ od, Sr K G δ (M.set n .gone) (ι.set n none) σ (upd H a (.frz od (DnO a xs))) ∧ Ex ι (ι.set n none) ∧ Kp ι H (ι.set n none) (upd H a (.frz od (DnO a xs))) ∧ RD K G.N (upd H a (.frz od (DnO a xs))) (ι.set n none) (.dn (kvs.map (·.1)) (kvs.map (·.2))) (.ref a) := by
  obtain ⟨xs, hH, h1, h2, h3⟩ := S.mem.cell n _ a hc hn
  have hmem : some a ∈ ι := List.mem_of_getElem? hn
  refine ⟨xs, hH, fun od => ?_⟩
  have kk : Kp ι H (ι.set n none) (upd H a (.frz od (DnO a xs))) := fun b o e h => ⟨by rw [upd_ne (fun z => h (by rw [z]; exact hmem))]; exact e, fun z => by
    rcases List.mem_or_eq_of_mem_set z with z | z
    · exact h z
    · cases z⟩
  have ee : Ex ι (ι.set n none) := fun m o e => by
    by_cases h : n = m
    · subst h
      exact .inr (List.getElem?_set_self (List.getElem?_eq_some_iff.mp e).1)
    · rw [List.getElem?_set_ne h]; exact .inl e
  have back : ∀ (m : Nat) (b : Addr), (ι.set n none)[m]? = some (some b) → n ≠ m ∧ ι[m]? = some (some b) := fun m b e => by
    by_cases h : n = m
    · subst h
      rw [List.getElem?_set_self (List.getElem?_eq_some_iff.mp hn).1] at e; cases e
    · rw [List.getElem?_set_ne h] at e; exact ⟨h, e⟩
  have hno : some a ∉ ι.set n none := fun z => by
    obtain ⟨m, hm⟩ := List.getElem?_of_mem z
    obtain ⟨h1, h2⟩ := back m a hm
    exact h1 (S.mem.nod _ _ _ hn h2)
  refine ⟨⟨S.len, fun i d e => ?_, ⟨by simp [S.mem.len], fun m m' b e1 e2 => S.mem.nod _ _ _ (back m b e1).2 (back m' b e2).2, fun m c b e1 e2 => ?_, fun m e => ?_, fun m c e1 => ?_⟩, fun m b e => ?_, S.kp.trans kk, fun b hb h1 => ?_, S.bad, fun b hb => ⟨fun z => ?_, ?_⟩, S.obk.turn (by refine ObT.of hH ?_ ?_ <;> (intro C dx fs z; cases z))⟩, ee, kk,
    a, xs, od, rfl, upd_same, hno, h1, h2.mono kk fun _ _ _ _ z => z, h3.mono kk fun _ _ _ _ z => z⟩
  · obtain ⟨v, e1, r⟩ := S.slot i d e
    exact ⟨v, e1, r.mono kk ee fun _ _ _ _ z => z⟩
  · obtain ⟨h1, h2⟩ := back m b e2
    rw [List.getElem?_set_ne h1] at e1
    refine (S.mem.cell m c b e1 h2).mono kk ee (fun _ _ _ _ z => z) (upd_ne fun z => ?_)
    exact h1 (S.mem.nod _ _ _ (z ▸ hn) h2)
  · by_cases h : n = m
    · subst h; exact List.getElem?_set_self (List.getElem?_eq_some_iff.mp hc).1
    · rw [List.getElem?_set_ne h] at e ⊢; exact S.mem.gone m e
  · by_cases h : n = m
    · subst h
      rw [List.getElem?_set_self (List.getElem?_eq_some_iff.mp hc).1] at e1
      cases e1; trivial
    · rw [List.getElem?_set_ne h] at e1; exact S.mem.wf m c e1
  · rw [List.getElem?_set_ne (fun h => by have := (List.getElem?_eq_some_iff.mp e).1; omega)]; exact S.pre m b e
  · rcases List.mem_or_eq_of_mem_set hb with z | z
    · exact S.new b z h1
    · cases z
  · rcases List.mem_or_eq_of_mem_set z with z | z
    · exact (S.hid b hb).1 z
    · cases z
  · obtain ⟨o, ho⟩ := (S.hid b hb).2
    by_cases z : b = a
    · rw [z]; exact ⟨_, upd_same⟩
    · exact ⟨o, by rw [upd_ne z]; exact ho⟩
end
end VL
set_option Elab.async false
set_option linter.all false
set_option maxRecDepth 100000
set_option maxHeartbeats 4000000
namespace VL
open PySem PySem.Spec L2 RT RZ PyProof.Rows
end VL
set_option Elab.async false
set_option linter.all false
set_option maxRecDepth 100000
set_option maxHeartbeats 4000000
namespace VL
open PySem PySem.Spec L2 RT RZ PyProof.Rows
end VL
set_option Elab.async false
set_option linter.all false
set_option maxRecDepth 100000
set_option maxHeartbeats 1000000
namespace VL
open PySem PySem.Spec L2 RT RZ
end VL
set_option Elab.async false
set_option linter.all false
set_option maxRecDepth 100000
set_option maxHeartbeats 4000000
namespace VL
open PySem PySem.Spec L2 RT RZ PyProof.Rows
end VL
set_option Elab.async false
set_option linter.all false
set_option maxRecDepth 100000
set_option maxHeartbeats 1000000
namespace VL
open PySem PySem.Spec L2 RT RZ PyProof.Rows
/-- whether an error of class n is one of class m: all are FormErrors -/
def exT (n m : Str) : Bool := decide (n = m) || decide (m = "FormError")
def excCB (K : PySem.W.Frag) (D : Addr) : Bool :=
  decide (PySem.W.findIn K (.ref D) "__getattribute__" = some (some (.builtin "BaseException.__getattribute__"))) && (decide (PySem.W.findIn K (.ref D) "__getattr__" = some none) && (decide (PySem.W.subIn K (.ref D) (.type "BaseException") = some true) &&
  (PySem.W.hasDictIn K D && (decide (PySem.W.findIn K (.ref D) "__class__" = some (some (.builtin "object.__class__"))) && (decide (PySem.W.specialIn K (.builtin "object.__class__") "__get__" = some (some (.builtin "getset_descriptor.__get__"))) &&
  (decide (PySem.W.takesIn K (.builtin "object.__class__") = some true) && decide (PySem.W.mroIn K D (.type "object") = some true)))))))
def exFB (K : PySem.W.Frag) (ns : List Str) : Bool := ns.all fun n => excCB K (He.ga K n) && ((ns.all fun m => decide (PySem.W.kitOne K (.ref (He.ga K n)) (.ref (He.ga K m)) = some (exT n m)) && decide (PySem.W.exmOne K (.ref (He.ga K n)) (.ref (He.ga K m)) = some (exT n m))) &&
  (decide (PySem.W.kitOne K (.ref (He.ga K n)) (.type "ValueError") = some true) && (decide (PySem.W.subIn K (.ref (He.ga K n)) (.type "BaseException") = some true) && decide (PySem.W.typeIn K (.ref (He.ga K n)) = some (.type "type")))))
end VL
set_option Elab.async false
set_option linter.all false
set_option maxRecDepth 100000
set_option maxHeartbeats 1000000
namespace VL
open PySem PySem.Spec L2 RT RZ PyProof.Rows
end VL
set_option Elab.async false
set_option linter.all false
set_option maxRecDepth 100000
set_option maxHeartbeats 1000000
namespace VL
open PySem PySem.Spec L2 RT RZ PyProof.Rows
abbrev AlX : Type := AlV × Bool
def obsX (fa : List He.Fa) (fn : List He.DefD) (cs : List (Str × D)) (ns : List Str) (K : PySem.W.Frag) : AlX := (obsV fa fn cs K, exFB K ns)
def SaysX (fa : List He.Fa) (fn : List He.DefD) (cs : List (Str × D)) (ns : List Str) (K : PySem.W.Frag) : Prop := obsX fa fn cs ns K = ((He.valD fn, true), true)
theorem SaysX.v {fa : List He.Fa} {fn : List He.DefD} {cs : List (Str × D)} {ns : List Str} {K : PySem.W.Frag} (c : SaysX fa fn cs ns K) : SaysV fa fn cs K := congrArg (fun z : AlX => z.1) c
end VL
set_option Elab.async false
set_option linter.all false
set_option maxRecDepth 100000
set_option maxHeartbeats 1000000
namespace VL
open PySem PySem.Spec L2 RT RZ PyProof.Rows
end VL
set_option Elab.async false
set_option linter.all false
set_option maxRecDepth 100000
set_option maxHeartbeats 1000000
namespace VL
open PySem PySem.Spec L2 RT RZ PyProof.Rows HT
end VL
set_option Elab.async false
set_option linter.all false
set_option maxRecDepth 100000
set_option maxHeartbeats 1000000
namespace VL
open PySem PySem.Spec L2 RT RZ PyProof.Rows HT
end VL
set_option Elab.async false
set_option linter.all false
set_option maxRecDepth 100000
set_option maxHeartbeats 2000000
set_option Elab.async false
set_option linter.all false
set_option maxRecDepth 100000
set_option maxHeartbeats 2000000
namespace ZL
open PySem PySem.Calls PyProof.Rows PySem.Spec
def ZS (h : Heap) (z TI TO i1 i2 : Addr) (St1 St2 : Nat → Heap → Prop) (S : Addr) (i : Nat) : Prop :=
  IsTupOf2 h TI (.ref i1) (.ref i2) ∧ St1 i h ∧ St2 i h ∧ ((IsZip h z TI TO .none ∧ ∃ a b, IsTupOf2 h TO a b) ∨ ∃ T f oT, IsZipHeld h z TI TO T f ∧ h.get? T = some oT ∧ T ≠ z ∧ T ≠ i1 ∧ T ≠ i2 ∧ T ≠ S)
structure PairsAt (P1 P2 : Nat → Value → Prop) (lo : Addr) (h : Heap) (as : List Addr) : Prop where
  rise : as.Pairwise (· < ·)
  above : ∀ a ∈ as, lo < a
  pairs : ∀ (j : Nat) (a : Addr), as[j]? = some a → ∃ x y, P1 j x ∧ P2 j y ∧ h.get? a = some { cls := .type "tuple", data := .seq #[x, y] }
theorem PairsAt.there {P1 P2 : Nat → Value → Prop} {lo : Addr} {h : Heap} {as : List Addr} (g : PairsAt P1 P2 lo h as) {a : Addr} (ha : a ∈ as) : a < h.objs.size := by
  obtain ⟨j, hj⟩ := List.mem_iff_getElem?.mp ha
  obtain ⟨_, _, _, _, e⟩ := g.pairs j a hj
  exact Heap.lt_size e
theorem PairsAt.keep {P1 P2 : Nat → Value → Prop} {lo : Addr} {h h' : Heap} {as : List Addr} (g : PairsAt P1 P2 lo h as) (hk : ∀ b o, lo < b → h.get? b = some o → h'.get? b = some o) : PairsAt P1 P2 lo h' as :=
  ⟨g.rise, g.above, fun j a hj => let ⟨x, y, p, q, e⟩ := g.pairs j a hj; ⟨x, y, p, q, hk a _ (g.above a (List.mem_of_getElem? hj)) e⟩⟩
section
variable {prog : Program} {w : World} {A : Around} {E : Value → Shared → Prop} {s : Shared} {z TI TO i1 i2 S : Addr} {fp1 fp2 : List Addr} {n1 n2 i : Nat} {P1 P2 : Nat → Value → Prop} {St1 St2 : Nat → Heap → Prop}
theorem ZS.keep {h h' : Heap} (Z : ZipSep2 z TI TO i1 i2 fp1 fp2) (D1 : Draws prog w A i1 fp1 n1 P1 St1) (D2 : Draws prog w A i2 fp2 n2 P2 St2) (hlt : ∀ b ∈ z :: TI :: TO :: (fp1 ++ fp2), b < S) (g : ZS h z TI TO i1 i2 St1 St2 S i)
    (hk : ∀ b o, b ≠ S → h.get? b = some o → h'.get? b = some o) : ZS h' z TI TO i1 i2 St1 St2 S i := by
  have ne : ∀ b ∈ z :: TI :: TO :: (fp1 ++ fp2), b ≠ S := fun b hb => Nat.ne_of_lt (hlt b hb)
  obtain ⟨hTI, st1, st2, hz⟩ := g
  refine ⟨hk _ _ (ne _ (by simp)) hTI, D1.frame _ _ _ st1 fun b hb o e => hk b o (ne b (by simp [hb])) e, D2.frame _ _ _ st2 fun b hb o e => hk b o (ne b (by simp [hb])) e, ?_⟩
  rcases hz with ⟨hz, a, b, hTO⟩ | ⟨T, f, oT, hz, hT, r1, r2, r3, r4⟩
  · exact .inl ⟨hk _ _ (ne _ (by simp)) hz, a, b, hk _ _ (ne _ (by simp)) hTO⟩
  · exact .inr ⟨T, f, oT, hk _ _ (ne _ (by simp)) hz, hk _ _ r4 hT, r1, r2, r3, r4⟩
end
end ZL
set_option Elab.async false
set_option linter.all false
set_option maxRecDepth 100000
set_option maxHeartbeats 2000000
namespace VL
open PySem PySem.Spec L2 RT RZ PyProof.Rows
end VL
set_option Elab.async false
set_option linter.all false
set_option maxRecDepth 100000
set_option maxHeartbeats 1000000
namespace VL
open PySem PySem.Spec L2 RT RZ PyProof.Rows HT
/-- what is known of classes: plain ones, none of which has these names -/
def ObC (K : PySem.W.Frag) (cs : List (Str × List Str)) : Prop := ∀ p ∈ cs, Cls K (He.ga K p.1) ∧ ∀ f ∈ p.2, NoAttr K (He.ga K p.1) f
def svI : D ⊕ Nat → Sv
  | .inl d => .d d
  | .inr n => .ref n
theorem RI.sv {K : PySem.W.Frag} {N : Bool → Addr → Prop} {H : Hp} {ι : Ix} {x : D ⊕ Nat} {v : V} (h : RI K N H ι x v) : RS K N H ι (svI x) v := by
  cases x with
  | inl d => exact h
  | inr n => exact h
theorem RIs.look {K : PySem.W.Frag} {N : Bool → Addr → Prop} {H : Hp} {ι : Ix} {f : Str} {y : D ⊕ Nat} : ∀ {fs : List Str} {its : List (D ⊕ Nat)} {xs : List V}, RIs K N H ι its xs → (fs.zip its).lookup f = some y → ∃ v, (fs.zip xs).lookup f = some v ∧ RI K N H ι y v
  | [], its, xs, _, e => by cases its <;> cases e
  | g :: fs, [], xs, _, e => by cases e
  | g :: fs, d :: its, xs, h, e => by
    obtain ⟨x, r, rfl, h1, h2⟩ := h
    rw [List.zip_cons_cons, List.lookup_cons] at e ⊢
    by_cases hg : (f == g) = true
    · rw [hg] at e ⊢
      cases e
      exact ⟨x, rfl, h1⟩
    · rw [Bool.not_eq_true] at hg
      rw [hg] at e ⊢
      exact RIs.look h2 e
/-- the field of an object -/
def fldD (cs : List (Str × List Str)) (f : Str) (M : Mem) : Sv → Option Sv
  | .ref n => match M[n]? with
    | some (.nd (.ob c fs) its) => (cs.lookup c).bind fun gs => if f ∈ gs then ((fs.zip its).lookup f).map svI else none
    | _ => none
  | _ => none
def eFld (cs : List (Str × List Str)) (f : Str) (t : TE') : TE' := fun δ M Q => t δ M fun x M1 => ok (fldD cs f M1 x) fun y => Q y M1
def poFld (cs : List (Str × List Str)) (f : Str) (p : PV) : PV := fun δ M => (p δ M).bind (fldD cs f M)
theorem look_mem {α : Type} {c : Str} {g : α} : ∀ {cs : List (Str × α)}, cs.lookup c = some g → (c, g) ∈ cs
  | [], e => by cases e
  | p :: cs, e => by
    obtain ⟨a, b⟩ := p
    rw [List.lookup_cons] at e
    by_cases h : (c == a) = true
    · rw [h] at e
      cases e
      rw [beq_iff_eq] at h
      rw [h]; exact List.mem_cons_self
    · rw [Bool.not_eq_true] at h
      rw [h] at e
      exact List.mem_cons_of_mem _ (look_mem e)
section
variable {X : Cx} {G : Gd} {e : Expr} {te : TE'} {pos : Pos} {cs : List (Str × List Str)} {f : Str}
theorem ve_fld (hC : ObC X.K cs) (he : VE X G e te) (hb : attributeBase e f X.env (eval e X.env) = eval e X.env := by rfl) : VE X G (.Attribute e f pos) (eFld cs f te) :=
  PE.weak (pe_fld he hb) fun σ H Q ⟨δ, M, ι, Q0, S, h, z⟩ => th1 S h fun x M1 ι1 H1 v q1 p1 k1 S1 r1 => by
    have q1 : ok (fldD cs f M1 x) fun y => Q0 y M1 := q1
    obtain ⟨y, e, q1⟩ := ok_elim q1
    unfold fldD at e
    split at e
    · rename_i n _
      split at e
      · rename_i c fs its hM
        obtain ⟨gs, hg, e⟩ := Option.bind_eq_some_iff.mp e
        split at e
        · rename_i hf
          obtain ⟨it, hl, rfl⟩ := Option.map_eq_some_iff.mp e
          obtain ⟨a, rfl, ha, xs, ⟨dx, hH, hdx, hn, hlen⟩, _, r⟩ := S1.mem.at r1 hM (fun z => nomatch z)
          obtain ⟨w, hw, rw_⟩ := r.look hl
          obtain ⟨hc, hnf⟩ := hC _ (look_mem hg)
          exact ⟨a, _, dx, _, w, rfl, hH, hc, hnf f hf, hw, z _ M1 ι1 H1 w q1 p1 k1 S1 rw_.sv⟩
        · cases e
      · cases e
    · cases e
end
end VL
set_option Elab.async false
set_option linter.all false
set_option maxRecDepth 100000
set_option maxHeartbeats 4000000
namespace VL
open PySem PySem.Spec L2 RT RZ PyProof.Rows HT
def refsI : List (D ⊕ Nat) → List Nat
  | [] => []
  | .inl _ :: r => refsI r
  | .inr n :: r => n :: refsI r
/-- as handS; with an object its cells are lent, ahead of it -/
def handO (M : Mem) : List Bool → List Sv → List Nat → Option (List Sv × List Nat)
  | [], [], ns => some ([], ns)
  | true :: ms, .ref n :: xs, ns => if n ∈ ns then none else match M[n]? with
    | some (.nd _ its) => if (refsI its).Nodup ∧ (∀ r ∈ refsI its, r ∉ ns ∧ (cellA M[r]?).isSome = true) then (handO M ms xs (ns ++ (refsI its ++ [n]))).map fun r => (.ref (ns.length + (refsI its).length) :: r.1, r.2) else none
    | c => (cellA c).bind fun _ => (handO M ms xs (ns ++ [n])).map fun r => (.ref ns.length :: r.1, r.2)
  | false :: ms, .ref n :: xs, ns => (cellL M[n]?).bind fun ds => (handO M ms xs ns).bind fun r => if n ∈ r.2 then none else some (.bor ds :: r.1, r.2)
  | false :: ms, x :: xs, ns => (handO M ms xs ns).map fun r => (x :: r.1, r.2)
  | _, _, _ => none
def reI (ns : List Nat) : D ⊕ Nat → D ⊕ Nat
  | .inl d => .inl d
  | .inr n => .inr (ns.idxOf n)
def reC (ns : List Nat) : Cell → Cell
  | .nd k its => .nd k (its.map (reI ns))
  | c => c
def cellsO (M : Mem) (ns : List Nat) : Mem := ns.map fun n => reC ns (M[n]?.getD .gone)
/-- an object's names stay; its data is the callee's -/
def mrgI : D ⊕ Nat → D ⊕ Nat → D ⊕ Nat
  | .inl _, .inl d => .inl d
  | o, _ => o
def mrgC : Cell → Cell → Cell
  | .nd k its, .nd _ its' => .nd k (List.zipWith mrgI its its')
  | .nd k its, _ => .nd k its
  | _, c => c
def backO : List Nat → Mem → Mem → Mem
  | n :: ns, c :: cs, M => backO ns cs (M.set n (mrgC (M[n]?.getD .gone) c))
  | _, _, M => M
theorem backO_len : ∀ (ns : List Nat) (cs M : Mem), (backO ns cs M).length = M.length
  | [], cs, M => by cases cs <;> rfl
  | n :: ns, [], M => rfl
  | n :: ns, c :: cs, M => by simp [backO, backO_len ns cs]
theorem backO_ne : ∀ (ns : List Nat) (cs M : Mem) (m : Nat), m ∉ ns → (backO ns cs M)[m]? = M[m]?
  | [], cs, M, m, _ => by cases cs <;> rfl
  | n :: ns, [], M, m, _ => rfl
  | n :: ns, c :: cs, M, m, h => by
    simp only [List.mem_cons, not_or] at h
    simp only [backO]
    rw [backO_ne ns cs _ m h.2, List.getElem?_set_ne (fun z => h.1 z.symm)]
theorem backO_at : ∀ (ns : List Nat) (cs M : Mem) (j m : Nat) (c : Cell), ns.Nodup → ns[j]? = some m → cs[j]? = some c → m < M.length → (backO ns cs M)[m]? = some (mrgC (M[m]?.getD .gone) c)
  | [], _, _, _, _, _, _, h, _, _ => by simp at h
  | _ :: _, [], _, _, _, _, _, _, h, _ => by simp at h
  | n :: ns, d :: cs, M, 0, m, c, nd, h1, h2, hl => by
    simp at h1 h2; subst h1 h2
    simp only [backO]
    rw [backO_ne ns cs _ _ (List.nodup_cons.mp nd).1, List.getElem?_set_self hl]
  | n :: ns, d :: cs, M, j + 1, m, c, nd, h1, h2, hl => by
    have hne : n ≠ m := fun z => by
      subst z
      exact (List.nodup_cons.mp nd).1 (List.mem_of_getElem? (by simpa using h1))
    simp only [backO]
    rw [backO_at ns cs _ j m c (List.nodup_cons.mp nd).2 (by simpa using h1) (by simpa using h2) (by simpa using hl), List.getElem?_set_ne hne]
/-- what is lent: alive, once, the cells of an object ahead of it -/
structure Lent (M : Mem) (ι : Ix) (ns : List Nat) : Prop where
  nd : ns.Nodup
  al : ∀ n ∈ ns, ∃ a, ι[n]? = some (some a)
  bf : ∀ (p n : Nat) (k : Kd) (its : List (D ⊕ Nat)), ns[p]? = some n → M[n]? = some (.nd k its) → ∀ j ∈ refsI its, ∃ q, q < p ∧ ns[q]? = some j
theorem Lent.nil {M : Mem} {ι : Ix} : Lent M ι [] := ⟨List.nodup_nil, fun _ h => by simp at h, fun p n k its h => by simp at h⟩
section
variable {K : PySem.W.Frag} {G : Gd} {δ : DS} {M : Mem} {ι : Ix} {σ : L2.St} {H : Hp} {i0 : List Addr}
theorem Lent.sub {ns : List Nat} (L : Lent M ι ns) (hi : i0.map some = ns.map (fun n => (ι[n]?).join)) : ∀ b ∈ i0, some b ∈ ι := fun b hb => by
  have : some b ∈ i0.map some := by simpa using hb
  rw [hi] at this
  obtain ⟨m, hm1, hm2⟩ := List.mem_map.mp this
  obtain ⟨c, hb⟩ := L.al m hm1
  rw [hb] at hm2; cases hm2
  exact List.mem_of_getElem? hb
theorem Lent.one {ns : List Nat} {n : Nat} {a : Addr} (L : Lent M ι ns) (hn : n ∉ ns) (ha : ι[n]? = some (some a)) (hf : ∀ k its, M[n]? ≠ some (.nd k its)) : Lent M ι (ns ++ [n]) := by
  refine ⟨?_, fun m hm => ?_, fun p m k its hp hm j hj => ?_⟩
  · rw [List.nodup_append]; refine ⟨L.nd, by simp, fun x hx y hy => ?_⟩
    simp only [List.mem_singleton] at hy; subst hy; rintro rfl; exact hn hx
  · rcases List.mem_append.mp hm with hm | hm
    · exact L.al m hm
    · simp only [List.mem_singleton] at hm; subst hm; exact ⟨a, ha⟩
  · by_cases hl : p < ns.length
    · rw [List.getElem?_append_left hl] at hp
      obtain ⟨q, hq, e⟩ := L.bf p m k its hp hm j hj
      exact ⟨q, hq, by rw [List.getElem?_append_left (by omega)]; exact e⟩
    · rw [List.getElem?_append_right (by omega)] at hp
      have := List.mem_of_getElem? hp
      rw [List.mem_singleton.mp this] at hm
      exact absurd hm (hf k its)
theorem Lent.many {ns rs : List Nat} (L : Lent M ι ns) (nd : rs.Nodup) (h : ∀ r ∈ rs, r ∉ ns ∧ (∃ a, ι[r]? = some (some a)) ∧ ∀ k its, M[r]? ≠ some (.nd k its)) : Lent M ι (ns ++ rs) := by
  induction rs generalizing ns with
  | nil => simpa using L
  | cons r rs ih =>
    obtain ⟨h1, ⟨a, h2⟩, h3⟩ := h r List.mem_cons_self
    have L2 := L.one h1 h2 h3
    have := ih L2 (List.nodup_cons.mp nd).2 fun q hq => by
      obtain ⟨g1, g2, g3⟩ := h q (List.mem_cons_of_mem _ hq)
      refine ⟨fun hm => ?_, g2, g3⟩
      rcases List.mem_append.mp hm with hm | hm
      · exact g1 hm
      · rw [List.mem_singleton.mp hm] at hq
        exact (List.nodup_cons.mp nd).1 hq
    rw [List.append_assoc] at this
    exact this
theorem Lent.obj {ns : List Nat} {n : Nat} {a : Addr} {k : Kd} {its : List (D ⊕ Nat)} (L : Lent M ι ns) (hn : n ∉ ns) (ha : ι[n]? = some (some a)) (hM : M[n]? = some (.nd k its)) (nd : (refsI its).Nodup)
    (h : ∀ r ∈ refsI its, r ∉ ns ∧ (∃ a, ι[r]? = some (some a)) ∧ ∀ k its, M[r]? ≠ some (.nd k its)) : Lent M ι (ns ++ (refsI its ++ [n])) := by
  have L2 := L.many nd h
  have hn2 : n ∉ ns ++ refsI its := fun hm => by
    rcases List.mem_append.mp hm with hm | hm
    · exact hn hm
    · exact (h n hm).2.2 _ _ hM
  rw [← List.append_assoc]
  refine ⟨?_, fun m hm => ?_, fun p m k' its' hp hm j hj => ?_⟩
  · rw [List.nodup_append]; refine ⟨L2.nd, by simp, fun x hx y hy => ?_⟩
    simp only [List.mem_singleton] at hy; subst hy; rintro rfl; exact hn2 hx
  · rcases List.mem_append.mp hm with hm | hm
    · exact L2.al m hm
    · simp only [List.mem_singleton] at hm; subst hm; exact ⟨a, ha⟩
  · by_cases hl : p < (ns ++ refsI its).length
    · rw [List.getElem?_append_left hl] at hp
      obtain ⟨q, hq, e⟩ := L2.bf p m k' its' hp hm j hj
      exact ⟨q, hq, by rw [List.getElem?_append_left (by omega)]; exact e⟩
    · rw [List.getElem?_append_right (by omega)] at hp
      have := List.mem_of_getElem? hp
      rw [List.mem_singleton.mp this, hM] at hm
      cases hm
      obtain ⟨q, hq⟩ := List.getElem?_of_mem (show j ∈ ns ++ refsI its from List.mem_append_right _ hj)
      have hql := (List.getElem?_eq_some_iff.mp hq).1
      exact ⟨q, by omega, by rw [List.getElem?_append_left hql]; exact hq⟩
end
end VL
set_option Elab.async false
set_option linter.all false
set_option maxRecDepth 100000
set_option maxHeartbeats 4000000
namespace VL
open PySem PySem.Spec L2 RT RZ PyProof.Rows HT
section
variable {K : PySem.W.Frag} {G : Gd} {δ : DS} {M : Mem} {ι : Ix} {σ : L2.St} {H : Hp} {i0 : List Addr}
theorem flat_of {r : Nat} (h : (cellA M[r]?).isSome = true) : ∀ k its, M[r]? ≠ some (.nd k its) := fun k its e => by
  rw [e] at h; cases h
theorem alive_of (S : Sr K G δ M ι σ H) {r : Nat} (h : (cellA M[r]?).isSome = true) : ∃ a, ι[r]? = some (some a) := by
  obtain ⟨u, hu⟩ := Option.isSome_iff_exists.mp h
  obtain ⟨c, hc, hg⟩ := cellA_some hu
  have hM := (List.getElem?_eq_some_iff.mp hc).1
  have hi : r < ι.length := by rw [← S.mem.len]; exact hM
  cases e : ι[r] with
  | some a => exact ⟨a, by rw [List.getElem?_eq_getElem hi, e]⟩
  | none =>
    have := S.mem.gone r (by rw [List.getElem?_eq_getElem hi, e])
    rw [hc] at this
    exact absurd (Option.some.inj this) hg
theorem hand_ofO (S : Sr K G δ M ι σ H) : ∀ (ms : List Bool) (xs : List Sv) (vs : List V) (ns : List Nat) (as : List Sv) (ns' : List Nat), handO M ms xs ns = some (as, ns') → RSs K G.N H ι xs vs → Lent M ι ns →
    Lent M ι ns' ∧ (∃ r, ns' = ns ++ r) ∧ (∀ i0, i0.map some = ns'.map (fun n => (ι[n]?).join) → RSs K (NB (Bc G ι i0)) H (i0.map some) as vs) ∧ as.length = xs.length
  | [], [], vs, ns, as, ns', e, r, L => by
    cases e
    exact ⟨L, ⟨[], by simp⟩, fun i0 _ => r, rfl⟩
  | true :: ms, .ref n :: xs, vs, ns, as, ns', e, r, L => by
    unfold handO at e
    split at e
    · cases e
    rename_i hn
    obtain ⟨v, r', rfl, r1, r2⟩ := r
    split at e
    · rename_i k its hM
      split at e
      · rename_i hq
        obtain ⟨⟨as1, ns1⟩, e2, e⟩ := Option.map_eq_some_iff.mp e
        cases e
        obtain ⟨a, rfl, ha, _⟩ := S.mem.at r1 hM (fun z => nomatch z)
        have L1 := L.obj hn ha hM hq.1 fun q hq' => ⟨(hq.2 q hq').1, alive_of S (hq.2 q hq').2, flat_of (hq.2 q hq').2⟩
        obtain ⟨h1, ⟨q, h3⟩, h4, h5⟩ := hand_ofO S ms xs r' _ as1 ns1 e2 r2 L1
        refine ⟨h1, ⟨refsI its ++ [n] ++ q, by rw [h3]; simp⟩, fun i0 hi => ⟨_, _, rfl, ⟨a, rfl, .inl ?_⟩, h4 i0 hi⟩, by simp [h5]⟩
        have e9 : ns1[ns.length + (refsI its).length]? = some n := by
          rw [h3, List.append_assoc, List.getElem?_append_right (by omega), List.append_assoc, List.getElem?_append_right (by omega)]
          simp
        rw [hi, List.getElem?_map, e9]
        simp [ha]
      · cases e
    · rename_i hnm
      obtain ⟨ds, e1, e⟩ := Option.bind_eq_some_iff.mp e
      obtain ⟨⟨as1, ns1⟩, e2, e⟩ := Option.map_eq_some_iff.mp e
      cases e
      obtain ⟨cx, hx1, hx2⟩ := cellA_some e1
      obtain ⟨a, rfl, ha, _⟩ := S.mem.at r1 hx1 hx2
      have L1 := L.one hn ha fun k its q => hnm k its q
      obtain ⟨h1, ⟨q, h3⟩, h4, h5⟩ := hand_ofO S ms xs r' _ as1 ns1 e2 r2 L1
      refine ⟨h1, ⟨n :: q, by rw [h3]; simp⟩, fun i0 hi => ⟨_, _, rfl, ⟨a, rfl, .inl ?_⟩, h4 i0 hi⟩, by simp [h5]⟩
      rw [hi, h3, List.getElem?_map, List.append_assoc, List.getElem?_append_right (Nat.le_refl _)]
      simp [ha]
  | false :: ms, .ref n :: xs, vs, ns, as, ns', e, r, L => by
    unfold handO at e
    obtain ⟨ds, e1, e⟩ := Option.bind_eq_some_iff.mp e
    obtain ⟨⟨as1, ns1⟩, e2, e⟩ := Option.bind_eq_some_iff.mp e
    split at e
    · cases e
    rename_i hn
    cases e
    obtain ⟨v, r', rfl, r1, r2⟩ := r
    obtain ⟨a, rfl, ha, ys, q1, l1, rd⟩ := S.mem.at r1 (cellL_some e1) (fun z => nomatch z)
    obtain ⟨h1, h3, h4, h5⟩ := hand_ofO S ms xs r' ns as1 ns1 e2 r2 L
    refine ⟨h1, h3, fun i0 hi => ⟨_, _, rfl, ⟨a, ys, rfl, q1, ?_, ⟨fun z => z, fun z => nomatch z⟩, l1, RDs.dn (h1.sub hi) rd⟩, h4 i0 hi⟩, by simp [h5]⟩
    rw [hi]
    intro hm
    obtain ⟨m, hm1, hm2⟩ := List.mem_map.mp hm
    obtain ⟨b, hb⟩ := h1.al m hm1
    rw [hb] at hm2
    cases hm2
    exact hn (S.mem.nod _ _ _ hb ha ▸ hm1)
  | false :: ms, .d x :: xs, vs, ns, as, ns', e, r, L => by
    obtain ⟨⟨as1, ns1⟩, e2, e⟩ := Option.map_eq_some_iff.mp (show (handO M ms xs ns).map _ = _ from e)
    cases e
    obtain ⟨v, r', rfl, r1, r2⟩ := r
    obtain ⟨h1, h3, h4, h5⟩ := hand_ofO S ms xs r' ns as1 ns1 e2 r2 L
    exact ⟨h1, h3, fun i0 hi => ⟨_, _, rfl, RD.dn (h1.sub hi) r1, h4 i0 hi⟩, by simp [h5]⟩
  | false :: ms, .bor ds :: xs, vs, ns, as, ns', e, r, L => by
    obtain ⟨⟨as1, ns1⟩, e2, e⟩ := Option.map_eq_some_iff.mp (show (handO M ms xs ns).map _ = _ from e)
    cases e
    obtain ⟨v, r', rfl, r1, r2⟩ := r
    obtain ⟨h1, h3, h4, h5⟩ := hand_ofO S ms xs r' ns as1 ns1 e2 r2 L
    refine ⟨h1, h3, fun i0 hi => ?_, by simp [h5]⟩
    obtain ⟨a, ys, rfl, q1, n1, _, l1, rd⟩ := r1
    exact ⟨_, _, rfl, ⟨a, ys, rfl, q1, fun hm => n1 (h1.sub hi a (by simpa using hm)), ⟨fun z => z, fun z => nomatch z⟩, l1, RDs.dn (h1.sub hi) rd⟩, h4 i0 hi⟩
  | true :: ms, .d x :: xs, _, _, _, _, e, _, _ => by cases e
  | true :: ms, .bor x :: xs, _, _, _, _, e, _, _ => by cases e
  | [], _ :: _, _, _, _, _, e, _, _ => by cases e
  | true :: _, [], _, _, _, _, e, _, _ => by cases e
  | false :: _, [], _, _, _, _, e, _, _ => by cases e
end
end VL
set_option Elab.async false
set_option linter.all false
set_option maxRecDepth 100000
set_option maxHeartbeats 4000000
namespace VL
open PySem PySem.Spec L2 RT RZ PyProof.Rows HT
theorem SameF.names : ∀ {a b : List (Str × V)}, SameF a b → a.map (·.1) = b.map (·.1)
  | _, _, .nil => rfl
  | _, _, .cons h t => by rw [List.map_cons, List.map_cons, h.1, SameF.names t]
theorem obz_snd {α β : Type} : ∀ {fs : List α} {xs : List β}, fs.length = xs.length → (fs.zip xs).map (·.2) = xs
  | [], [], _ => rfl
  | [], _ :: _, h => by cases h
  | _ :: _, [], h => by cases h
  | f :: fs, x :: xs, h => by rw [List.zip_cons_cons, List.map_cons, obz_snd (Nat.succ.inj h)]
theorem obz_fst {α β : Type} : ∀ {fs : List α} {xs : List β}, fs.length = xs.length → (fs.zip xs).map (·.1) = fs
  | [], [], _ => rfl
  | [], _ :: _, h => by cases h
  | _ :: _, [], h => by cases h
  | f :: fs, x :: xs, h => by rw [List.zip_cons_cons, List.map_cons, obz_fst (Nat.succ.inj h)]
theorem SameF.tails : ∀ {fs fs' : List Str} {xs xs' : List V}, fs.length = xs.length → fs'.length = xs'.length → SameF (fs.zip xs) (fs'.zip xs') → fs = fs' ∧ Paired (fun x y => x = y ∨ ∃ i j, x = V.int i ∧ y = V.int j) xs xs' := by
  intro fs fs' xs xs' h1 h2 s
  have hn := s.names
  rw [obz_fst h1, obz_fst h2] at hn
  refine ⟨hn, ?_⟩
  have : Paired (fun x y => x = y ∨ ∃ i j, x = V.int i ∧ y = V.int j) ((fs.zip xs).map (·.2)) ((fs'.zip xs').map (·.2)) := by
    generalize fs.zip xs = a at s
    generalize fs'.zip xs' = b at s
    clear hn h1 h2
    induction a generalizing b with
    | nil => cases s; exact .nil
    | cons p a ih =>
      cases s with
      | cons h t => exact .cons h.2 (ih _ t)
  rw [obz_snd h1, obz_snd h2] at this
  exact this
section
variable {K : PySem.W.Frag} {G : Gd} {δ : DS} {M : Mem} {ι : Ix} {σ : L2.St} {H : Hp} {i0 : List Addr}
/-- an object's items behind a call: its names, the callee's data -/
theorem mrg_of {H' : Hp} {r : Ix} (S : Sr K G δ M ι σ H) (k : Kp (i0.map some) H (i0.map some ++ r) H') (kk : Kp ι H (ι ++ r) H') : ∀ {its its' : List (D ⊕ Nat)} {xs xs' : List V}, Paired (fun x y => x = y ∨ ∃ i j, x = V.int i ∧ y = V.int j) xs xs' →
    RIs K G.N H ι its xs → RIs K (NB (Bc G ι i0)) H' (i0.map some ++ r) its' xs' → RIs K G.N H' (ι ++ r) (List.zipWith mrgI its its') xs'
  | [], its', xs, xs', p, h1, h2 => by
    cases (show _ = _ from h1)
    cases p
    cases its' with
    | nil => rfl
    | cons d ds => obtain ⟨x, r, e, _⟩ := h2; cases e
  | d :: its, its', xs, xs', p, h1, h2 => by
    obtain ⟨x, t, rfl, r1, t1⟩ := h1
    cases p with
    | cons h t2 =>
      cases its' with
      | nil => cases (show _ = _ from h2)
      | cons d' its' =>
        obtain ⟨y, u, e, r2, t3⟩ := h2
        cases e
        refine ⟨_, _, rfl, ?_, mrg_of S k kk t2 t1 t3⟩
        cases d with
        | inr n =>
          obtain ⟨a, rfl, q⟩ := r1
          rcases h with rfl | ⟨i, j, e, _⟩
          · refine ⟨a, rfl, ?_⟩
            rcases q with q | q
            · exact .inl (by rw [List.getElem?_append_left (List.getElem?_eq_some_iff.mp q).1]; exact q)
            · exact .inr (by rw [List.getElem?_append_left (List.getElem?_eq_some_iff.mp q).1]; exact q)
          · cases e
        | inl d =>
          cases d' with
          | inl d' => exact RD.up S k r2
          | inr n =>
            obtain ⟨a, rfl, q⟩ := r2
            rcases h with rfl | ⟨i, j, _, e⟩
            · exact RD.mono kk (fun _ _ _ _ z => z) d _ r1
            · cases e
theorem mrg_refs {t : Nat} : ∀ {its0 its : List (D ⊕ Nat)}, Sum.inr t ∈ List.zipWith mrgI its0 its → Sum.inr t ∈ its0
  | [], _, h => by simp at h
  | _ :: _, [], h => by simp at h
  | d0 :: its0, d :: its, h => by
    rw [List.zipWith_cons_cons, List.mem_cons] at h
    rcases h with h | h
    · cases d0 with
      | inr t' => rw [show mrgI (Sum.inr t') d = .inr t' from rfl] at h; rw [h]; exact List.mem_cons_self
      | inl d0 => cases d with
        | inl d => cases h
        | inr d => cases h
    · exact List.mem_cons_of_mem _ (mrg_refs h)
theorem Sr.afterO {H' : Hp} {ns : List Nat} {Mc cs : Mem} {r : List Addr} (S : Sr K G δ M ι σ H) (L : Lent M ι ns) (hi : i0.map some = ns.map (fun n => (ι[n]?).join))
    (hl : Mc.length = i0.length) (hcs : cs.length = r.length) (hr : ∀ a ∈ r, H a = none)
    (m : RM K (NB (Bc G ι i0)) H' (i0.map some ++ r.map some) (Mc ++ cs)) (k : Kp (i0.map some) H (i0.map some ++ r.map some) H') (ob : ObI (i0.map some) H H') (hfl : ∀ c ∈ cs, ∀ kd its, c ≠ .nd kd its) : Sr K G δ (backO ns Mc M ++ cs) (ι ++ r.map some) σ H' := by
  have hsub := L.sub hi
  have hn : ∀ a, some a ∉ ι → some a ∉ i0.map some := fun a hn h => hn (hsub a (by simpa using h))
  have hrr : ∀ a o, H a = some o → some a ∉ r.map some := fun a o e h => by
    have h : a ∈ r := by simpa using h
    rw [hr a h] at e; cases e
  have kk : Kp ι H (ι ++ r.map some) H' := fun a o e n => ⟨(k a o e (hn a n)).1, fun h => by
    rcases List.mem_append.mp h with h | h
    · exact n h
    · exact hrr a o e h⟩
  have hin : ∀ (n : Nat) (a : Addr), ι[n]? = some (some a) → n ∉ ns → some a ∉ i0.map some := fun n a h hno z => by
    rw [hi] at z
    obtain ⟨m, hm1, hm2⟩ := List.mem_map.mp z
    obtain ⟨c, hb⟩ := L.al m hm1
    rw [hb] at hm2; cases hm2
    exact hno (S.mem.nod _ _ _ hb h ▸ hm1)
  have hfr : ∀ a ∈ r, some a ∉ ι := fun a ha => S.mem.fresh (hr a ha)
  have hbl : (backO ns Mc M).length = ι.length := by rw [backO_len]; exact S.mem.len
  have hil : i0.length = ns.length := by have := congrArg List.length hi; simpa using this
  have up : ∀ c a, (∀ kd its, c ≠ .nd kd its) → RC K (NB (Bc G ι i0)) H' (i0.map some ++ r.map some) c a → RC K G.N H' (ι ++ r.map some) c a := fun c a hf q => by
    cases c with
    | nd kd its => exact absurd rfl (hf kd its)
    | gone => exact q.elim
    | lst ds => obtain ⟨xs, q1, l, r⟩ := q; exact ⟨xs, q1, l, RDs.up S k r⟩
    | dk kvs => obtain ⟨xs, q1, l, r⟩ := q; exact ⟨xs, q1, l, RDs.up S k r⟩
    | dn kvs => obtain ⟨xs, q1, l, r1, r2⟩ := q; exact ⟨xs, q1, l, RDs.up S k r1, RDs.up S k r2⟩
    | dw w kvs => obtain ⟨xs, q1, l, r1, r2⟩ := q; exact ⟨xs, q1, l, RDs.up S k r1, RDs.up S k r2⟩
  /- a lent cell behind the call -/
  have low : ∀ (j n : Nat) (a : Addr), ns[j]? = some n → ι[n]? = some (some a) → ∀ c0 c, M[n]? = some c0 → Mc[j]? = some c → RC K G.N H' (ι ++ r.map some) (mrgC c0 c) a ∧ (mrgC c0 c).wf n := fun j n a hj ha c0 c h0 hc => by
    have hji : (i0.map some)[j]? = some (some a) := by rw [hi, List.getElem?_map, hj]; simp [ha]
    have hjl := (List.getElem?_eq_some_iff.mp hc).1
    have hjn : j < i0.length := by omega
    have q := m.cell j c a (by rw [List.getElem?_append_left hjl]; exact hc) (by rw [List.getElem?_append_left (by simpa using hjn)]; exact hji)
    have q0 := S.mem.cell n c0 a h0 ha
    have hai : a ∈ i0 := by have := List.mem_of_getElem? hji; simpa using this
    obtain ⟨ob1, ob2⟩ := ob i0 rfl a hai
    cases c with
    | nd kd its =>
      cases kd with
      | ob c fs =>
        obtain ⟨xs, ⟨dx, q1, q2, q3, q4⟩, l1, r1⟩ := q
        obtain ⟨f0, e0⟩ := ob2 _ _ _ q1
        cases c0 with
        | gone => exact q0.elim
        | lst ds => obtain ⟨ys, q5, _⟩ := q0; rw [q5] at e0; cases e0
        | dk ds => obtain ⟨ys, q5, _⟩ := q0; rw [q5] at e0; cases e0
        | dn ds => obtain ⟨ys, q5, _⟩ := q0; rw [q5] at e0; cases e0
        | dw w ds => obtain ⟨ys, q5, _⟩ := q0; rw [q5] at e0; cases e0
        | nd kd0 its0 =>
          cases kd0 with
          | ob c0 fs0 =>
            obtain ⟨ys, ⟨dx0, p1, p2, p3, p4⟩, l2, r2⟩ := q0
            obtain ⟨fs', g1, g2⟩ := ob1 _ _ _ p1
            rw [q1] at g1
            injection g1 with g1
            injection g1 with gc gd gf
            rw [← gf] at g2
            obtain ⟨hf, ht⟩ := SameF.tails p4 q4 g2
            have hmg := mrg_of S k kk ht r2 r1
            have hlen : (List.zipWith mrgI its0 its).length ≤ sizeLine := by rw [List.length_zipWith]; omega
            refine ⟨⟨xs, ⟨dx0, by rw [q1, gc, gd, hf], (kk dx0 _ p2 p3).1, (kk dx0 _ p2 p3).2, by rw [hf]; exact q4⟩, hlen, hmg⟩, fun t ht => ?_⟩
            have w0 := S.mem.wf n _ h0
            refine w0 t ?_
            exact mrg_refs ht
    | _ =>
      have hfc : ∀ kd its, c0 ≠ .nd kd its := fun kd its e => by
        subst e
        cases kd with
        | ob c0 fs0 =>
          obtain ⟨ys, ⟨dx0, p1, _⟩, _⟩ := q0
          obtain ⟨fs', g1, _⟩ := ob1 _ _ _ p1
          first
            | exact q.elim
            | (obtain ⟨zs, q5, _⟩ := q; rw [q5] at g1; cases g1)
      cases c0 with
      | nd kd its => exact absurd rfl (hfc kd its)
      | _ => exact ⟨up _ _ (fun kd its z => by cases z) q, trivial⟩
  have obk : ObK G.i0 H H' := fun a ha => by
    obtain ⟨n, hn0⟩ := List.getElem?_of_mem ha
    have hp := S.pre n a hn0
    by_cases h0 : a ∈ i0
    · exact ob i0 rfl a h0
    · obtain ⟨u, hu⟩ := S.i0there a ha
      have e9 := (k a u hu (by simpa using h0)).1
      rw [show H' a = H a from e9.trans hu.symm]
      exact ⟨fun C dx fs e => ⟨fs, e, SameF.refl fs⟩, fun C dx fs e => ⟨fs, e⟩⟩
  have hjc : ∀ (j n : Nat), ns[j]? = some n → ∃ c, Mc[j]? = some c := fun j n hj => by
    have := (List.getElem?_eq_some_iff.mp hj).1
    exact ⟨_, List.getElem?_eq_getElem (by omega)⟩
  refine ⟨S.len, fun i d e => ?_, ⟨by simp [hbl, hcs], fun n m' a e1 e2 => ?_, fun n c a e1 e2 => ?_, fun n e => ?_, fun n c e1 => ?_⟩, fun n a e => ?_, S.kp.trans kk, fun a ha h0 => ?_, S.bad, fun a ha => ?_, S.obk.trans obk⟩
  · obtain ⟨v, e1, r⟩ := S.slot i d e
    exact ⟨v, e1, r.mono kk (Ex.app _ _) (fun _ _ _ _ z => z)⟩
  · rw [List.getElem?_append] at e1 e2
    split at e1 <;> split at e2
    · exact S.mem.nod n m' a e1 e2
    · exact absurd (List.mem_of_getElem? e1) (hfr a (by simpa using List.mem_of_getElem? e2))
    · exact absurd (List.mem_of_getElem? e2) (hfr a (by simpa using List.mem_of_getElem? e1))
    · have := m.nod (i0.length + (n - ι.length)) (i0.length + (m' - ι.length)) a (by rw [List.getElem?_append_right (by simp)]; simpa using e1) (by rw [List.getElem?_append_right (by simp)]; simpa using e2)
      omega
  · rw [List.getElem?_append, hbl] at e1
    rw [List.getElem?_append] at e2
    split at e1
    · rename_i hlt
      rw [if_pos hlt] at e2
      by_cases hno : n ∈ ns
      · obtain ⟨j, hj⟩ := List.getElem?_of_mem hno
        obtain ⟨cc, hcc⟩ := hjc j n hj
        have hl : n < M.length := by rw [S.mem.len]; exact hlt
        rw [backO_at ns Mc M j n _ L.nd hj hcc hl, List.getElem?_eq_getElem hl] at e1
        cases e1
        exact (low j n a hj e2 _ _ (List.getElem?_eq_getElem hl) hcc).1
      · rw [backO_ne ns Mc M n hno] at e1
        have q := S.mem.cell n c a e1 e2
        obtain ⟨o, ho⟩ := q.has
        exact q.mono kk (Ex.app _ _) (fun _ _ _ _ z => z) (by rw [(k a o ho (hin n a e2 hno)).1, ho])
    · rename_i hlt
      rw [if_neg hlt] at e2
      exact up _ _ (hfl c (List.mem_of_getElem? e1)) (m.cell (i0.length + (n - ι.length)) _ a (by rw [List.getElem?_append_right (by omega)]; rw [hl]; simpa using e1) (by rw [List.getElem?_append_right (by simp)]; simpa using e2))
  · rw [List.getElem?_append] at e
    split at e
    · rename_i hlt
      rw [List.getElem?_append_left (by rw [hbl]; exact hlt), backO_ne ns Mc M n fun hno => ?_]
      · exact S.mem.gone n e
      · obtain ⟨c, hb⟩ := L.al n hno
        rw [hb] at e; cases e
    · have := List.mem_of_getElem? e
      simp at this
  · rw [List.getElem?_append, hbl] at e1
    split at e1
    · rename_i hlt
      by_cases hno : n ∈ ns
      · obtain ⟨j, hj⟩ := List.getElem?_of_mem hno
        obtain ⟨cc, hcc⟩ := hjc j n hj
        have hl : n < M.length := by rw [S.mem.len]; exact hlt
        obtain ⟨a, ha⟩ := L.al n hno
        rw [backO_at ns Mc M j n _ L.nd hj hcc hl, List.getElem?_eq_getElem hl] at e1
        cases e1
        exact (low j n a hj ha _ _ (List.getElem?_eq_getElem hl) hcc).2
      · rw [backO_ne ns Mc M n hno] at e1
        exact S.mem.wf n c e1
    · have hf := hfl c (List.mem_of_getElem? e1)
      cases c with
      | nd kd its => exact absurd rfl (hf kd its)
      | _ => trivial
  · have e1 := S.pre n a e
    rw [List.getElem?_append_left (List.getElem?_eq_some_iff.mp e1).1]; exact e1
  · rcases List.mem_append.mp ha with z | z
    · exact S.new a z h0
    · have z : a ∈ r := by simpa using z
      cases q : G.He a with
      | none => rfl
      | some u =>
        have := (S.kp a u q (by simpa using h0)).1
        rw [hr a z] at this; cases this
  · obtain ⟨u, q⟩ := (S.hid a ha).2
    exact ⟨(kk a u q (S.hid a ha).1).2, u, (kk a u q (S.hid a ha).1).1⟩
end
end VL
set_option Elab.async false
set_option linter.all false
set_option maxRecDepth 100000
set_option maxHeartbeats 4000000
namespace VL
open PySem PySem.Spec L2 RT RZ PyProof.Rows HT
section
variable {K : PySem.W.Frag} {G : Gd} {δ : DS} {M : Mem} {ι : Ix} {σ : L2.St} {H : Hp} {i0 : List Addr}
theorem at_idx {ns : List Nat} {t : Nat} (h : t ∈ ns) : ns[ns.idxOf t]? = some t := by
  have hl := List.idxOf_lt_length_of_mem h
  rw [List.getElem?_eq_getElem hl, List.getElem_idxOf hl]
theorem RIs.re {ns : List Nat} (L : Lent M ι ns) (hi : i0.map some = ns.map (fun n => (ι[n]?).join)) : ∀ {its : List (D ⊕ Nat)} {xs : List V}, (∀ t ∈ refsI its, t ∈ ns) → RIs K G.N H ι its xs → RIs K (NB (Bc G ι i0)) H (i0.map some) (its.map (reI ns)) xs
  | [], _, _, h => h
  | .inl d :: its, xs, hl, h => by
    obtain ⟨x, r, rfl, h1, h2⟩ := h
    exact ⟨x, r, rfl, RD.dn (L.sub hi) h1, RIs.re L hi hl h2⟩
  | .inr t :: its, xs, hl, h => by
    obtain ⟨x, r, rfl, ⟨a, e, q⟩, h2⟩ := h
    have ht : t ∈ ns := hl t List.mem_cons_self
    obtain ⟨b, hb⟩ := L.al t ht
    have hab : a = b := by
      rcases q with q | q
      · rw [hb] at q; cases q; rfl
      · rw [hb] at q; cases q
    refine ⟨x, r, rfl, ⟨a, e, .inl ?_⟩, RIs.re L hi (fun q hq => hl q (List.mem_cons_of_mem _ hq)) h2⟩
    rw [hi, List.getElem?_map, at_idx ht]
    simp [hb, hab]
theorem re_refs {ns : List Nat} {j : Nat} : ∀ {its : List (D ⊕ Nat)}, Sum.inr j ∈ its.map (reI ns) → ∃ t ∈ refsI its, j = ns.idxOf t
  | [], h => by simp at h
  | .inl d :: its, h => by
    rw [List.map_cons, List.mem_cons] at h
    rcases h with h | h
    · cases h
    · exact re_refs (its := its) h
  | .inr t :: its, h => by
    rw [List.map_cons, List.mem_cons] at h
    rcases h with h | h
    · exact ⟨t, List.mem_cons_self, by cases h; rfl⟩
    · obtain ⟨q, hq, e⟩ := re_refs (its := its) h
      exact ⟨q, List.mem_cons_of_mem _ hq, e⟩
theorem call_genO {ms : List Bool} {xs as : List Sv} {vs : List V} {ns : List Nat} (S : Sr K G δ M ι σ H) (r : RSs K G.N H ι xs vs) (e : handO M ms xs [] = some (as, ns)) :
    as.length = xs.length ∧ ∃ (i0 : List Addr) (B : Addr → Prop), (∀ a, B a → ∃ o, H a = some o) ∧ RSs K (NB B) H (i0.map some) as vs ∧ RM K (NB B) H (i0.map some) (cellsO M ns) ∧
      (∀ x M' v H', RR K (NB B) H H' (i0.map some) M' (.d x) v → Kp ι H ι H' ∧ Sr K G δ (backO ns M' M) ι σ H' ∧ RD K G.N H' ι x v) ∧
      ∀ rv c M' v H', rv.cell = some c → RR K (NB B) H H' (i0.map some) M' rv v → ∃ a, v = .ref a ∧ Kp ι H (ι ++ [some a]) H' ∧ Sr K G δ (backO ns M' M ++ [c]) (ι ++ [some a]) σ H' ∧ (backO ns M' M).length = M.length := by
  obtain ⟨L, h3, hr, hl⟩ := hand_ofO S ms xs vs [] as ns e r Lent.nil
  obtain ⟨i0, hi⟩ : ∃ i0 : List Addr, i0.map some = ns.map (fun n => (ι[n]?).join) := by
    have al := L.al
    clear e hr hl h3 L
    induction ns with
    | nil => exact ⟨[], rfl⟩
    | cons n ns ih =>
      obtain ⟨i0, hi⟩ := ih fun m hm => al m (List.mem_cons_of_mem _ hm)
      obtain ⟨a, ha⟩ := al n List.mem_cons_self
      exact ⟨a :: i0, by simp [hi, ha]⟩
  have hsub := L.sub hi
  have hni : ∀ a, some a ∉ ι → some a ∉ i0.map some := fun a n h => n (hsub a (by simpa using h))
  have hget : ∀ (j : Nat) (a : Addr), (i0.map some)[j]? = some (some a) → ∃ n, ns[j]? = some n ∧ ι[n]? = some (some a) := fun j a e => by
    rw [hi, List.getElem?_map] at e
    cases q : ns[j]? with
    | none => rw [q] at e; cases e
    | some n =>
      rw [q] at e
      obtain ⟨b, hb⟩ := L.al n (List.mem_of_getElem? q)
      simp [hb] at e
      exact ⟨n, rfl, by rw [hb, e]⟩
  have hcell : ∀ (j : Nat) (c : Cell), (cellsO M ns)[j]? = some c → ∃ n c0, ns[j]? = some n ∧ M[n]? = some c0 ∧ c = reC ns c0 := fun j c e1 => by
    unfold cellsO at e1
    rw [List.getElem?_map, Option.map_eq_some_iff] at e1
    obtain ⟨n, h1, rfl⟩ := e1
    obtain ⟨a, ha⟩ := L.al n (List.mem_of_getElem? h1)
    have hM : n < M.length := by rw [S.mem.len]; exact (List.getElem?_eq_some_iff.mp ha).1
    exact ⟨n, M[n], h1, List.getElem?_eq_getElem hM, by rw [List.getElem?_eq_getElem hM]; rfl⟩
  refine ⟨hl, i0, Bc G ι i0, fun a ha => ?_, hr i0 hi, ⟨?_, fun j l a e1 e2 => ?_, fun j c a e1 e2 => ?_, fun j e => ?_, fun j c e1 => ?_⟩, fun x M' v H' rr => ?_, fun rv cn M' v H' hcn rr => ?_⟩
  · rcases ha with ha | ha | ⟨ha, _⟩
    · obtain ⟨o, ho⟩ := S.bad a ha
      by_cases h0 : a ∈ G.i0
      · exact S.i0there a h0
      · exact ⟨o, (S.kp a o ho (by simpa using h0)).1⟩
    · exact (S.hid a ha).2
    · exact S.mem.there ha
  · rw [hi]; simp [cellsO]
  · obtain ⟨n, h1, h2⟩ := hget j a e1
    obtain ⟨m, h3, h4⟩ := hget l a e2
    have e3 := S.mem.nod _ _ _ h2 h4
    subst e3
    exact nodup_ix L.nd h1 h3
  · obtain ⟨n, c0, h1, h2, rfl⟩ := hcell j c e1
    obtain ⟨n', h3, h4⟩ := hget j a e2
    rw [h1] at h3; cases h3
    have q := S.mem.cell n c0 a h2 h4
    cases c0 with
    | gone => exact q.elim
    | lst ds => obtain ⟨xs, q1, l, r⟩ := q; exact ⟨xs, q1, l, RDs.dn hsub r⟩
    | dk kvs => obtain ⟨xs, q1, l, r⟩ := q; exact ⟨xs, q1, l, RDs.dn hsub r⟩
    | dn kvs => obtain ⟨xs, q1, l, r1, r2⟩ := q; exact ⟨xs, q1, l, RDs.dn hsub r1, RDs.dn hsub r2⟩
    | dw w kvs => obtain ⟨xs, q1, l, r1, r2⟩ := q; exact ⟨xs, q1, l, RDs.dn hsub r1, RDs.dn hsub r2⟩
    | nd kd its =>
      obtain ⟨xs, q1, l, r⟩ := q
      refine ⟨xs, ?_, by rw [List.length_map]; exact l, RIs.re L hi (fun t ht => ?_) r⟩
      · cases kd with
        | ob c fs =>
          obtain ⟨dx, p1, p2, p3, p4⟩ := q1
          exact ⟨dx, p1, p2, hni dx p3, p4⟩
      · obtain ⟨q, _, hq⟩ := L.bf j n kd its h1 h2 t ht
        exact List.mem_of_getElem? hq
  · rw [List.getElem?_map] at e
    cases q : i0[j]? with
    | none => rw [q] at e; cases e
    | some b => rw [q] at e; cases e
  · obtain ⟨n, c0, h1, h2, rfl⟩ := hcell j c e1
    cases c0 with
    | nd kd its =>
      intro t ht
      obtain ⟨u, hu, rfl⟩ := re_refs ht
      obtain ⟨q, hq, hqe⟩ := L.bf j n kd its h1 h2 u hu
      have := nodup_ix L.nd (at_idx (List.mem_of_getElem? hqe)) hqe
      omega
    | _ => trivial
  · obtain ⟨rd, rm, k, ob⟩ := rr
    have hl : M'.length = i0.length := by rw [rm.len]; simp
    have S2 := S.afterO (r := []) (cs := []) L hi hl rfl (fun a h => by simp at h) (by simpa using rm) (by simpa using k) ob (by simp)
    have rd2 := RD.up (r := []) S (by simpa using k) (by simpa using rd)
    simp only [List.map_nil, List.append_nil] at S2 rd2
    exact ⟨fun a o e n => ⟨(k a o e (hni a n)).1, n⟩, S2, rd2⟩
  · obtain ⟨a, rfl, ha, rm, k, ob⟩ := (RR.of hcn).mpr rr
    have hl : M'.length = i0.length := by have := rm.len; simp at this; exact this
    have S2 := S.afterO (r := [a]) (cs := [cn]) L hi hl rfl (fun b h => by simp at h; subst h; exact ha) (by simpa using rm) (by simpa using k) ob (by
      cases rv with
      | d x => cases hcn
      | new ds => cases hcn; simp
      | newK kvs => cases hcn; simp)
    refine ⟨a, rfl, fun b o e n => ⟨(k b o e (hni b n)).1, fun h => ?_⟩, by simpa using S2, backO_len _ _ _⟩
    rcases List.mem_append.mp h with h | h
    · exact n h
    · simp at h; subst h; rw [ha] at e; cases e
def callO (ms : List Bool) (sp : SpD) (M : Mem) (xs : List Sv) (Q : Rv → Mem → Prop) : Prop :=
  ok (handO M ms xs []) fun r => sp r.1 (cellsO M r.2) fun v Mc => Q v (backO r.2 Mc M)
theorem call_inO {n : Nat} {sp : SpD} {ms : List Bool} {xs : List Sv} {vs : List V} {Q0 : Rv → Mem → Prop} {Q : VK} {E : XK} (S : Sr K G δ M ι σ H) (r : RSs K G.N H ι xs vs) (hn : xs.length = n) (h : callO ms sp M xs Q0)
    (z1 : ∀ x M' H' v, Q0 (.d x) M' → Kp ι H ι H' → Sr K G δ M' ι σ H' → RD K G.N H' ι x v → Q v H')
    (z2 : ∀ rv c M' H' a, rv.cell = some c → Q0 rv M' → Kp ι H (ι ++ [some a]) H' → Sr K G δ (M' ++ [c]) (ι ++ [some a]) σ H' → M'.length = M.length → Q (.ref a) H') : lP K n sp vs H Q E := by
  obtain ⟨⟨as, ns⟩, e, h⟩ := ok_elim h
  obtain ⟨hl, i0, B, hB, ra, rm, c1, c2⟩ := call_genO S r e
  refine ⟨as, cellsO M ns, i0, B, _, hl.trans hn, hB, ra, rm, h, fun rv M' v H' q rr => ?_⟩
  cases rv with
  | d x =>
    obtain ⟨k, S2, rd⟩ := c1 x M' v H' rr
    exact z1 x _ H' v q k S2 rd
  | new ds =>
    obtain ⟨a, rfl, k, S2, hl2⟩ := c2 _ _ M' v H' rfl rr
    exact z2 _ _ _ H' a rfl q k S2 hl2
  | newK kvs =>
    obtain ⟨a, rfl, k, S2, hl2⟩ := c2 _ _ M' v H' rfl rr
    exact z2 _ _ _ H' a rfl q k S2 hl2
end
end VL
set_option Elab.async false
set_option linter.all false
set_option maxRecDepth 100000
set_option maxHeartbeats 2000000
namespace VL
open PySem PySem.Spec L2 RT RZ PyProof.Rows HT
section
variable {X : Cx} {CX : CXT} {k : Nat} {f C : Addr} {fd : FuncData} {ps : List Str} {sp : Sp} {dvs : List V} {ds : List Value} {E : XK} {x m : Str} {p pos apos : Pos} {e o : Expr} {es : List Expr} {ta : TE} {t : TA}
/-- o.m(e, ..) -/
theorem pe_methg {pl : Sem Bool} (he : PE X o ta) (c : Cls X.K C) (hm : Meth X.K C m f) (F : FnG X.prog X.w X.K X.mg X.base CX k f fd ps sp) (hr : RoomG k X.A) (hb : Binds X.K fd ps ds) (hd : Vals dvs ds) (hx : Passes CX X E) (ha : PA X (e :: es) t)
    (hst : starEach (e :: es) X.env = (false, eval e X.env) :: starEach es X.env := by rfl) (hpl : (backTo pos (starEach es X.env)).any (·.1) = false := by rfl)
    (ht : eval (.Call (.Attribute o m apos) (e :: es) [] pos) X.env = (do
      let ov ← eval o X.env
      standAt apos.atName
      let (f, first) ← holding [ov] (getMethod ov m pl)
      callWith pos f first (backTo pos (starEach (e :: es) X.env)) (backToKw pos (keywordEach [] X.env))) := by rfl) :
    PE X (.Call (.Attribute o m apos) (e :: es) [] pos) (tMeth C m sp dvs E ta t) := by
  refine ⟨fun pins s σ H Q I h => ?_⟩
  refine PySem.W.methodCall_KW (pl := pl) (thn (he.run pins s σ H _ I h) fun u s1 ⟨x, H1, I1, rx, a, dx, fs, ex, ea, l, q⟩ => ?_) ht
  subst ex
  obtain rfl : u = Value.ref a := rx
  refine getmeth_ok I1 ea c hm l ?_
  refine PySem.W.callWith_K (first := [.ref a]) (h₀ := X.base) I.ok.mod.kin hm.kp (thn (ha.run pos pins s1 σ H1 _ I1 q) fun us s2 ⟨vs, H2, I2, r, q2⟩ => ⟨I2.kIn, ?_⟩) hst hpl
  exact run_g (us := .ref a :: us) (vs := .ref a :: vs) F hr hb hd hx I2 (.cons rfl r) q2
theorem pe_methg0 {pl : Sem Bool} (he : PE X o ta) (c : Cls X.K C) (hm : Meth X.K C m f) (F : FnG X.prog X.w X.K X.mg X.base CX k f fd ps sp) (hr : RoomG k X.A) (hb : Binds X.K fd ps ds) (hd : Vals dvs ds) (hx : Passes CX X E)
    (ht : eval (.Call (.Attribute o m apos) [] [] pos) X.env = (do
      let ov ← eval o X.env
      standAt apos.atName
      let (f, first) ← holding [ov] (getMethod ov m pl)
      callWith pos f first (backTo pos (starEach [] X.env)) (backToKw pos (keywordEach [] X.env))) := by rfl) :
    PE X (.Call (.Attribute o m apos) [] [] pos) (tMeth C m sp dvs E ta tNil) := by
  refine ⟨fun pins s σ H Q I h => ?_⟩
  refine PySem.W.methodCall_KW (pl := pl) (thn (he.run pins s σ H _ I h) fun u s1 ⟨x, H1, I1, rx, a, dx, fs, ex, ea, l, q⟩ => ?_) ht
  subst ex
  obtain rfl : u = Value.ref a := rx
  refine getmeth_ok I1 ea c hm l ?_
  exact PySem.W.callWith_K0 (first := [.ref a]) I1.kIn hm.kp (run_g (us := [.ref a]) (vs := [.ref a]) F hr hb hd hx I1 (.cons rfl .nil) q)
end
/-- a method that may be called -/
structure CaM (P : Program) (w : World) (K : PySem.W.Frag) (mg : Str → Option Value) (base : Heap) (k : Nat) (c m : Str) (n : Nat) (sp : SpD) : Prop where
  cl : Cls K (He.ga K c)
  ex : ∃ (f : Addr) (fd : FuncData) (ps : List Str), FnG P w K mg base C8.CX0 k f fd ps (lP K n sp) ∧ Meth K (He.ga K c) m f ∧ Binds K fd ps []
/-- whether this is an object of the class, with no field of the method's name -/
def isOb (c m : Str) (M : Mem) : Sv → Bool
  | .ref n => match M[n]? with
    | some (.nd (.ob c' fs) _) => decide (c' = c) && !fs.contains m
    | _ => false
  | _ => false
def eMeth (c m : Str) (ms : List Bool) (sp : SpD) (to : TE') (tA : TA') : TE' := fun δ M Q => to δ M fun x M1 => isOb c m M1 x = true ∧ tA δ M1 fun xs M2 => callO ms sp M2 (x :: xs) (rvQ Q)
theorem look_none {m : Str} : ∀ {fs : List Str} {xs : List V}, fs.contains m = false → (fs.zip xs).lookup m = none
  | [], xs, _ => by cases xs <;> rfl
  | _ :: _, [], _ => rfl
  | f :: fs, x :: xs, h => by
    rw [List.contains_cons, Bool.or_eq_false_iff] at h
    rw [List.zip_cons_cons, List.lookup_cons, h.1]
    exact look_none h.2
section
variable {X : Cx} {G : Gd} {k j n : Nat} {c m x : Str} {sp : SpD} {p pos apos : Pos} {e o : Expr} {es : List Expr} {tA : TA'} {to : TE'}
theorem ob_of {δ : DS} {M : Mem} {ι : Ix} {σ : L2.St} {H : Hp} {d : Sv} {v : V} (S : Sr X.K G δ M ι σ H) (r : RS X.K G.N H ι d v) (h : isOb c m M d = true) : ∃ a dx fs, v = .ref a ∧ H a = some (.ins (He.ga X.K c) dx fs) ∧ fs.lookup m = none := by
  unfold isOb at h
  split at h
  · split at h
    · rename_i c' fs its hM
      rw [Bool.and_eq_true, decide_eq_true_eq, Bool.not_eq_true'] at h
      obtain ⟨rfl, hf⟩ := h
      obtain ⟨a, rfl, ha, xs, ⟨dx, hH, hdx, hn, hlen⟩, _, r⟩ := S.mem.at r hM (fun z => nomatch z)
      exact ⟨a, dx, _, rfl, hH, look_none hf⟩
    · cases h
  · cases h
theorem ve_meth {pl : Sem Bool} (ms : List Bool) (cm : CaM X.prog X.w X.K X.mg X.base k c m (n + 1) sp) (hr : RoomG j X.A) (hk : k ≤ j) (ho : VE X G o to) (ha : VA X G (e :: es) n tA)
    (hst : starEach (e :: es) X.env = (false, eval e X.env) :: starEach es X.env := by rfl) (hpl : (backTo pos (starEach es X.env)).any (·.1) = false := by rfl)
    (ht : eval (.Call (.Attribute o m apos) (e :: es) [] pos) X.env = (do
      let ov ← eval o X.env
      standAt apos.atName
      let (f, first) ← holding [ov] (getMethod ov m pl)
      callWith pos f first (backTo pos (starEach (e :: es) X.env)) (backToKw pos (keywordEach [] X.env))) := by rfl) :
    VE X G (.Call (.Attribute o m apos) (e :: es) [] pos) (eMeth c m ms sp to tA) := by
  obtain ⟨f, fd, ps, F, hm, b⟩ := cm.ex
  refine PE.weak (pe_methg (pl := pl) ho cm.cl hm F (hr.mono hk) b .nil C8.pass0 ha hst hpl ht (E := C8.E0)) fun σ H Q ⟨δ, M, ι, Q0, S, q, z⟩ => ?_
  refine th1 S q fun x M1 ι1 H1 v q1 p1 k1 S1 r1 => ?_
  obtain ⟨hob, q1⟩ := q1
  obtain ⟨a, dx, fs, rfl, hH, hlk⟩ := ob_of S1 r1 hob
  refine ⟨a, dx, fs, rfl, hH, hlk, ?_⟩
  refine thA S1 q1 fun xs M2 ι2 H2 vs hl h1 p2 k2 S2 r2 => ?_
  show lP X.K (n + 1) sp (.ref a :: (vs ++ [])) H2 Q _
  rw [List.append_nil]
  have r3 : RSs X.K G.N H2 ι2 (x :: xs) (.ref a :: vs) := ⟨_, _, rfl, r1.mono k2 p2 (fun _ _ _ _ z => z), r2⟩
  refine call_inO S2 r3 (by simp [hl]) h1 (fun y M' H' v q3 k3 S3 r4 => z _ M' ι2 H' v q3 (p1.trans p2) ((k1.trans k2).trans k3) S3 r4) fun rv cn M' H' b hcn q3 k3 S3 hl2 => ?_
  refine z (.ref M'.length) _ _ H' _ (rvQ_cell hcn q3) ((p1.trans p2).trans (Ex.app _ _)) ((k1.trans k2).trans k3) S3 ⟨b, rfl, .inl ?_⟩
  rw [hl2, S2.mem.len, List.getElem?_append_right (Nat.le_refl _)]; simp
theorem ve_meth0 {pl : Sem Bool} (cm : CaM X.prog X.w X.K X.mg X.base k c m 1 sp) (hr : RoomG j X.A) (hk : k ≤ j) (ho : VE X G o to)
    (ht : eval (.Call (.Attribute o m apos) [] [] pos) X.env = (do
      let ov ← eval o X.env
      standAt apos.atName
      let (f, first) ← holding [ov] (getMethod ov m pl)
      callWith pos f first (backTo pos (starEach [] X.env)) (backToKw pos (keywordEach [] X.env))) := by rfl) :
    VE X G (.Call (.Attribute o m apos) [] [] pos) (eMeth c m [true] sp to (aP [])) := by
  obtain ⟨f, fd, ps, F, hm, b⟩ := cm.ex
  refine PE.weak (pe_methg0 (pl := pl) ho cm.cl hm F (hr.mono hk) b .nil C8.pass0 ht (E := C8.E0)) fun σ H Q ⟨δ, M, ι, Q0, S, q, z⟩ => ?_
  refine th1 S q fun x M1 ι1 H1 v q1 p1 k1 S1 r1 => ?_
  obtain ⟨hob, q1⟩ := q1
  obtain ⟨a, dx, fs, rfl, hH, hlk⟩ := ob_of S1 r1 hob
  refine ⟨a, dx, fs, rfl, hH, hlk, ?_⟩
  show lP X.K 1 sp [.ref a] H1 Q C8.E0
  have h1 : callO [true] sp M1 [x] (rvQ Q0) := q1
  have r3 : RSs X.K G.N H1 ι1 [x] [.ref a] := ⟨_, _, rfl, r1, rfl⟩
  refine call_inO S1 r3 rfl h1 (fun y M' H' v q3 k3 S3 r4 => z _ M' ι1 H' v q3 p1 (k1.trans k3) S3 r4) fun rv cn M' H' b hcn q3 k3 S3 hl2 => ?_
  refine z (.ref M'.length) _ _ H' _ (rvQ_cell hcn q3) (p1.trans (Ex.app _ _)) (k1.trans k3) S3 ⟨b, rfl, .inl ?_⟩
  rw [hl2, S1.mem.len, List.getElem?_append_right (Nat.le_refl _)]; simp
end
end VL
set_option Elab.async false
set_option linter.all false
set_option maxRecDepth 100000
set_option maxHeartbeats 2000000
namespace VL
open PySem PySem.Spec L2 RT RZ PyProof.Rows HT
def putI (f : Str) (i : Int) : List Str → List (D ⊕ Nat) → Option (List (D ⊕ Nat))
  | g :: fs, d :: its => if g = f then (match d with
    | .inl (.int _) => some (.inl (.int i) :: its)
    | _ => none) else (putI f i fs its).map fun r => d :: r
  | _, _ => none
theorem putI_ok {K : PySem.W.Frag} {N : Bool → Addr → Prop} {H : Hp} {ι : Ix} {f : Str} {i : Int} : ∀ {fs : List Str} {its its' : List (D ⊕ Nat)} {xs : List V}, RIs K N H ι its xs → putI f i fs its = some its' →
    ∃ xs', putF f (.int i) (fs.zip xs) = fs.zip xs' ∧ RIs K N H ι its' xs' ∧ SameF (fs.zip xs) (fs.zip xs') ∧ xs'.length = xs.length ∧ ∀ t, Sum.inr t ∈ its' → Sum.inr t ∈ its
  | [], its, its', xs, _, e => by unfold putI at e; cases e
  | _ :: _, [], its', xs, _, e => by unfold putI at e; cases e
  | g :: fs, d :: its, its', xs, h, e => by
    obtain ⟨x, r, rfl, h1, h2⟩ := h
    unfold putI at e
    by_cases hg : g = f
    · rw [if_pos hg] at e
      split at e
      · rename_i j
        cases e
        cases (show x = .int j from h1)
        refine ⟨.int i :: r, ?_, ⟨_, _, rfl, rfl, h2⟩, .cons ⟨rfl, .inr ⟨j, i, rfl, rfl⟩⟩ (SameF.refl _), rfl, fun t ht => ?_⟩
        · show (if g = f then _ else _) = _
          rw [if_pos hg]; rfl
        · rcases List.mem_cons.mp ht with ht | ht
          · cases ht
          · exact List.mem_cons_of_mem _ ht
      · cases e
    · rw [if_neg hg] at e
      obtain ⟨its2, e2, rfl⟩ := Option.map_eq_some_iff.mp e
      obtain ⟨xs', q1, q2, q3, q4, q5⟩ := putI_ok h2 e2
      refine ⟨x :: xs', ?_, ⟨_, _, rfl, h1, q2⟩, .cons ⟨rfl, .inl rfl⟩ q3, by simp [q4], fun t ht => ?_⟩
      · show (if g = f then _ else _) = _
        rw [if_neg hg]
        exact congrArg ((g, x) :: ·) q1
      · rcases List.mem_cons.mp ht with ht | ht
        · rw [ht]; exact List.mem_cons_self
        · exact List.mem_cons_of_mem _ (q5 t ht)
/-- the memory, an object's int field laid anew -/
def fldPut (cs : List (Str × List Str)) (f : Str) (M : Mem) : Sv → Sv → Option Mem
  | .d (.int i), .ref n => match M[n]? with
    | some (.nd (.ob c fs) its) => (cs.lookup c).bind fun gs => if f ∈ gs ∧ fs.length < 1000 then (putI f i fs its).map fun its' => M.set n (.nd (.ob c fs) its') else none
    | _ => none
  | _, _ => none
end VL
set_option Elab.async false
set_option linter.all false
set_option maxRecDepth 100000
set_option maxHeartbeats 2000000
namespace VL
open PySem PySem.Spec L2 RT RZ PyProof.Rows HT
theorem RoomG.make {k : Nat} {A : Around} (r : RoomG (k + 1) A) (C : Addr) (us : List Value) (kw : List (Str × Value)) : RoomG k (A.under (.builtin "type.__call__" ⟨.ref C :: us, kw⟩)) :=
  ⟨r.rm.make C us kw, by
    have h := r.gs
    simp only [Around.under, h]
    first
      | rfl
      | (simp [pushGuards, Code.guards]; done)⟩
section
variable {X : Cx} {CX : CXT} {k : Nat} {f C : Addr} {fd : FuncData} {ps : List Str} {sp : Sp} {dvs : List V} {ds : List Value} {E : XK} {x m : Str} {p pos apos : Pos} {e o : Expr} {es : List Expr} {ta : TE} {t : TA}
theorem run_makeg {pins : List (Addr × Obj)} {σ : L2.St} {H : Hp} {s : Shared} {Q : VK} {us : List Value} {vs : List V} (M : Mk X.K C f) (F : FnG X.prog X.w X.K X.mg X.base CX k f fd ps sp) (hr : RoomG (k + 1) X.A) (hb : Binds X.K fd ps ds) (hd : Vals dvs ds)
    (hx : Passes CX X E) (I : Inv X pins σ H s) (r : Vals vs us)
    (h : ∀ x dx, H x = none → H dx = none → dx ≠ x → sp (.ref x :: (vs ++ dvs)) (upd (upd H dx (.own x)) x (.ins C dx [])) (fun v H2 => v = .non ∧ Q (.ref x) H2) E) :
    wpAny (model X.prog X.w) X.A (call (.ref C) us) (EP X pins σ Q) X.xe s := by
  have hq := h (s.heap.objs.size + 1) s.heap.objs.size (I.hok.fresh (Nat.le_succ _)) (I.hok.fresh (Nat.le_refl _)) (Nat.ne_of_lt (Nat.lt_succ_self _))
  have I2 := Inv.made (C := C) I
  have r2 : Vals (V.ref (s.heap.objs.size + 1) :: (vs ++ dvs)) (Value.ref (s.heap.objs.size + 1) :: (us ++ ds)) := .cons rfl (r.append hd)
  have hl : (Value.ref (s.heap.objs.size + 1) :: us ++ ds).length = ps.length := by
    have e := r2.length
    rw [F.len _ _ _ _ hq] at e
    exact e.symm
  refine wpAny_call (make_map (f := f) I.kIn M.makes M.init (beq_iff_eq.mp M.fn) (codeAny_mono (F.run _ X.stack _ _ ⟨Value.ref (s.heap.objs.size + 1) :: us, []⟩ (Value.ref (s.heap.objs.size + 1) :: (us ++ ds)) _ _ E (hr.make C us [])
    (I2.env0.make C us []) (hb _ (Value.ref (s.heap.objs.size + 1) :: us) I2.kIn hl) r2 hq) fun r s' hq' => ?_))
  cases r with
  | error e => exact hx pins σ _ _ e s' I2 hq'
  | ok fl =>
    cases fl with
    | ret u =>
      obtain ⟨v, H', I3, rv, ev, q3⟩ := I2.after hq'
      subst ev
      exact ⟨rv, ⟨V.ref (s.heap.objs.size + 1), H', I3, rfl, q3⟩⟩
    | next => exact False.elim hq'
    | brk => exact False.elim hq'
    | cont => exact False.elim hq'
theorem pe_makeg (M : Mk X.K C f) (F : FnG X.prog X.w X.K X.mg X.base CX k f fd ps sp) (hr : RoomG (k + 1) X.A) (hg : Gl X x) (hm : X.mg x = some (.ref C)) (hb : Binds X.K fd ps ds) (hd : Vals dvs ds) (hx : Passes CX X E)
    (ha : PA X (e :: es) t) (hdb : (x == ("__debug__" : Str)) = false := by decide) (he : starEach (e :: es) X.env = (false, eval e X.env) :: starEach es X.env := by rfl) (hpl : (backTo pos (starEach es X.env)).any (·.1) = false := by rfl) :
    PE X (.Call (.Name x p) (e :: es) [] pos) (tMake C sp dvs E t) := by
  refine ⟨fun pins s σ H Q I h => ?_⟩
  refine wpAny_Call_Name_kw (ld_glob I hg hm ?_ hdb)
  refine PySem.W.callWith_K (h₀ := X.base) I.ok.mod.kin M.kp (thn (ha.run pos pins s σ H _ I h) fun us s1 ⟨vs, H1, I1, r, q⟩ => ⟨I1.kIn, ?_⟩) he hpl
  exact run_makeg M F hr hb hd hx I1 r q
end
end VL
set_option Elab.async false
set_option linter.all false
set_option maxRecDepth 100000
set_option maxHeartbeats 2000000
namespace VL
open PySem PySem.Spec L2 RT RZ PyProof.Rows HT
section
variable {K : PySem.W.Frag} {G : Gd} {δ : DS} {M : Mem} {ι : Ix} {σ : L2.St} {H : Hp} {x dx C : Addr} {fs fs' : List (Str × V)}
/-- data does not hang on what is an instance -/
theorem RD.insT {N : Bool → Addr → Prop} {H H' : Hp} {ι ι' : Ix} (hx : H x = some (.ins C dx fs)) (hk : ∀ a o, a ≠ x → H a = some o → H' a = some o) (hi : ∀ a, a ≠ x → some a ∉ ι → some a ∉ ι') : ∀ {d : D} {v : V}, RD K N H ι d v → RD K N H' ι' d v := fun {d v} h =>
  RD.go (fun a xs q n => have ne : a ≠ x := fun z => by rw [z, hx] at q; cases q
    ⟨hk a _ ne q, hi a ne n⟩) (fun a o l q n => have ne : a ≠ x := fun z => by rw [z, hx] at q; cases q
    ⟨hk a _ ne q, hi a ne n⟩) (fun a xs q n z => have ne : a ≠ x := fun z => by rw [z, hx] at q; cases q
    ⟨hk a _ ne q, hi a ne n, z⟩) d v h
theorem RDs.insT {N : Bool → Addr → Prop} {H H' : Hp} {ι ι' : Ix} (hx : H x = some (.ins C dx fs)) (hk : ∀ a o, a ≠ x → H a = some o → H' a = some o) (hi : ∀ a, a ≠ x → some a ∉ ι → some a ∉ ι') : ∀ {d : List D} {v : List V}, RDs K N H ι d v → RDs K N H' ι' d v := fun {d v} h =>
  RDs.go (fun a xs q n => have ne : a ≠ x := fun z => by rw [z, hx] at q; cases q
    ⟨hk a _ ne q, hi a ne n⟩) (fun a o l q n => have ne : a ≠ x := fun z => by rw [z, hx] at q; cases q
    ⟨hk a _ ne q, hi a ne n⟩) (fun a xs q n z => have ne : a ≠ x := fun z => by rw [z, hx] at q; cases q
    ⟨hk a _ ne q, hi a ne n, z⟩) d v h
theorem RIs.insT {N : Bool → Addr → Prop} {H H' : Hp} {ι ι' : Ix} (hx : H x = some (.ins C dx fs)) (hk : ∀ a o, a ≠ x → H a = some o → H' a = some o) (hi : ∀ a, a ≠ x → some a ∉ ι → some a ∉ ι') (ex : Ex ι ι') : ∀ {its : List (D ⊕ Nat)} {v : List V}, RIs K N H ι its v → RIs K N H' ι' its v
  | [], _, h => h
  | .inl d :: its, v, h => by
    obtain ⟨y, r, e, h1, h2⟩ := h
    exact ⟨y, r, e, RD.insT hx hk hi h1, RIs.insT hx hk hi ex h2⟩
  | .inr n :: its, v, h => by
    obtain ⟨y, r, e, ⟨a, e2, q⟩, h2⟩ := h
    refine ⟨y, r, e, ⟨a, e2, ?_⟩, RIs.insT hx hk hi ex h2⟩
    rcases q with q | q
    · exact ex n _ q
    · rcases ex n _ q with z | z <;> exact .inr z
/-- the state, over a heap and names that differ at one instance alone -/
theorem Sr.insT {H' : Hp} {ι' : Ix} {M' : Mem} (S : Sr K G δ M ι σ H) (hx : H x = some (.ins C dx fs)) (h0 : G.He x = none) (hn : some x ∉ ι) (hk : ∀ a o, a ≠ x → H a = some o → H' a = some o) (hi : ∀ a, a ≠ x → some a ∉ ι → some a ∉ ι') (ex : Ex ι ι')
    (m : RM K G.N H' ι' M') (pre : ∀ (n : Nat) (a : Addr), G.i0[n]? = some a → ι'[n]? = some (some a)) (nw : ∀ a, some a ∈ ι' → a ∉ G.i0 → G.He a = none) (hd : ∀ a, G.Hd a → some a ∉ ι' ∧ ∃ o, H' a = some o) : Sr K G δ M' ι' σ H' := by
  have hi0 : ∀ a ∈ G.i0, a ≠ x := fun a ha z => by
    obtain ⟨n, hn2⟩ := List.getElem?_of_mem ha
    exact hn (by rw [← z]; exact List.mem_of_getElem? (S.pre n a hn2))
  refine ⟨S.len, fun i d e => ?_, m, pre, fun a o e n => ?_, nw, S.bad, hd, S.obk.trans fun a ha => ?_⟩
  · obtain ⟨v, e1, r⟩ := S.slot i d e
    refine ⟨v, e1, ?_⟩
    cases d with
    | d y => exact RD.insT hx hk hi r
    | ref n =>
      obtain ⟨a, e2, q⟩ := r
      refine ⟨a, e2, ?_⟩
      rcases q with q | q
      · exact ex n _ q
      · rcases ex n _ q with z | z <;> exact .inr z
    | bor ds =>
      obtain ⟨a, xs, e2, q, n, z, l, r⟩ := r
      have ne : a ≠ x := fun z => by rw [z, hx] at q; cases q
      exact ⟨a, xs, e2, hk a _ ne q, hi a ne n, z, l, RDs.insT hx hk hi r⟩
  · have ne : a ≠ x := fun z => by rw [z, h0] at e; cases e
    obtain ⟨q1, q2⟩ := S.kp a o e n
    exact ⟨hk a o ne q1, hi a ne q2⟩
  · obtain ⟨u, hu⟩ := S.i0there a ha
    have e9 := hk a u (hi0 a ha) hu
    rw [show H' a = H a from e9.trans hu.symm]
    exact ⟨fun C dx fs e => ⟨fs, e, SameF.refl fs⟩, fun C dx fs e => ⟨fs, e⟩⟩
theorem RC.insT {H' : Hp} {ι' : Ix} {c : Cell} {a : Addr} (hx : H x = some (.ins C dx fs)) (ha : a ≠ x) (hk : ∀ a o, a ≠ x → H a = some o → H' a = some o) (hi : ∀ a, a ≠ x → some a ∉ ι → some a ∉ ι') (ex : Ex ι ι') (h : RC K G.N H ι c a) : RC K G.N H' ι' c a := by
  cases c with
  | gone => exact h.elim
  | lst ds => obtain ⟨xs, q, l, r⟩ := h; exact ⟨xs, hk a _ ha q, l, RDs.insT hx hk hi r⟩
  | dk kvs => obtain ⟨ws, q, z, r⟩ := h; exact ⟨ws, hk a _ ha q, z, RDs.insT hx hk hi r⟩
  | dn kvs => obtain ⟨xs, q, z, r1, r2⟩ := h; exact ⟨xs, hk a _ ha q, z, RDs.insT hx hk hi r1, RDs.insT hx hk hi r2⟩
  | dw w kvs => obtain ⟨xs, q, z, r1, r2⟩ := h; exact ⟨xs, hk a _ ha q, z, RDs.insT hx hk hi r1, RDs.insT hx hk hi r2⟩
  | nd kd its =>
    obtain ⟨xs, q, l, r⟩ := h
    refine ⟨xs, ?_, l, RIs.insT hx hk hi ex r⟩
    cases kd with
    | ob c fs =>
      obtain ⟨dy, q1, q2, q3, q4⟩ := q
      have ne : dy ≠ x := fun z => by rw [z, hx] at q2; cases q2
      exact ⟨dy, hk a _ ha q1, hk dy _ ne q2, hi dy ne q3, q4⟩
/-- a field more of an object that is being made -/
theorem Sr.insU (S : Sr K G δ M ι σ H) (hx : H x = some (.ins C dx fs)) (hn : some x ∉ ι) (h0 : G.He x = none) : Sr K G δ M ι σ (upd H x (.ins C dx fs')) := by
  have hk : ∀ a o, a ≠ x → H a = some o → upd H x (.ins C dx fs') a = some o := fun a o ne e => by rw [upd_ne ne]; exact e
  refine S.insT hx h0 hn hk (fun _ _ n => n) (Ex.refl _) ⟨S.mem.len, S.mem.nod, fun n c a e1 e2 => ?_, S.mem.gone, S.mem.wf⟩ S.pre S.new fun a ha => ⟨(S.hid a ha).1, ?_⟩
  · exact (S.mem.cell n c a e1 e2).insT hx (fun z => hn (by rw [← z]; exact List.mem_of_getElem? e2)) hk (fun _ _ n => n) (Ex.refl _)
  · by_cases z : a = x
    · exact ⟨_, by rw [z]; exact upd_same⟩
    · obtain ⟨o, e⟩ := (S.hid a ha).2
      exact ⟨o, hk a o z e⟩
/-- the object, made, gets a name -/
theorem Sr.nameX {c : Cell} (S : Sr K G δ M ι σ H) (hx : H x = some (.ins C dx fs)) (hn : some x ∉ ι) (h0 : G.He x = none) (hh : ¬ G.Hd x) (hc : RC K G.N H (ι ++ [some x]) c x) (hw : c.wf M.length) : Sr K G δ (M ++ [c]) (ι ++ [some x]) σ H := by
  have hi : ∀ a, a ≠ x → some a ∉ ι → some a ∉ ι ++ [some x] := fun a ne n h => by
    rcases List.mem_append.mp h with h | h
    · exact n h
    · simp at h; exact ne h
  refine S.insT hx h0 hn (fun _ _ _ e => e) hi (Ex.app _ _) ⟨by simp [S.mem.len], fun n m a e1 e2 => ?_, fun n c' a e1 e2 => ?_, fun n e => ?_, fun n c' e1 => ?_⟩ (fun n a e => ?_) (fun a ha h1 => ?_) fun a ha => ⟨fun h => ?_, (S.hid a ha).2⟩
  · have at1 : ∀ n a, (ι ++ [some x])[n]? = some (some a) → (n < ι.length ∧ ι[n]? = some (some a)) ∨ (n = ι.length ∧ a = x) := fun n a e => by
      by_cases h : n < ι.length
      · rw [List.getElem?_append_left h] at e; exact .inl ⟨h, e⟩
      · rw [List.getElem?_append_right (by omega)] at e
        cases q : n - ι.length with
        | zero => rw [q] at e; exact .inr ⟨by omega, by simpa using e.symm⟩
        | succ j => rw [q] at e; simp at e
    rcases at1 n a e1 with ⟨_, h1⟩ | ⟨h1, rfl⟩ <;> rcases at1 m a e2 with ⟨_, h2⟩ | ⟨h2, h3⟩
    · exact S.mem.nod n m a h1 h2
    · subst h3; exact absurd (List.mem_of_getElem? h1) hn
    · exact absurd (List.mem_of_getElem? h2) hn
    · omega
  · by_cases h : n < M.length
    · rw [List.getElem?_append_left h] at e1
      rw [List.getElem?_append_left (by rw [← S.mem.len]; exact h)] at e2
      exact (S.mem.cell n c' a e1 e2).insT hx (fun z => hn (by rw [← z]; exact List.mem_of_getElem? e2)) (fun _ _ _ e => e) hi (Ex.app _ _)
    · have h1 : n = M.length := by
        have := (List.getElem?_eq_some_iff.mp e1).1
        simp at this; omega
      subst h1
      rw [List.getElem?_append_right (Nat.le_refl _)] at e1
      rw [List.getElem?_append_right (by rw [S.mem.len]; exact Nat.le_refl _)] at e2
      simp [S.mem.len] at e1 e2
      subst e1 e2
      exact hc
  · by_cases h : n < ι.length
    · rw [List.getElem?_append_left h] at e
      rw [List.getElem?_append_left (by rw [S.mem.len]; exact h)]
      exact S.mem.gone n e
    · rw [List.getElem?_append_right (by omega)] at e
      cases q : n - ι.length with
      | zero => rw [q] at e; simp at e
      | succ j => rw [q] at e; simp at e
  · by_cases h : n < M.length
    · rw [List.getElem?_append_left h] at e1
      exact S.mem.wf n c' e1
    · have h1 : n = M.length := by
        have := (List.getElem?_eq_some_iff.mp e1).1
        simp at this; omega
      subst h1
      rw [List.getElem?_append_right (Nat.le_refl _)] at e1
      simp at e1
      subst e1
      exact hw
  · have e1 := S.pre n a e
    rw [List.getElem?_append_left (List.getElem?_eq_some_iff.mp e1).1]; exact e1
  · rcases List.mem_append.mp ha with z | z
    · exact S.new a z h1
    · simp at z; rw [z]; exact h0
  · rcases List.mem_append.mp h with z | z
    · exact (S.hid a ha).1 z
    · simp at z; exact hh (by rw [← z]; exact ha)
end
end VL
set_option Elab.async false
set_option linter.all false
set_option maxRecDepth 100000
set_option maxHeartbeats 2000000
namespace VL
open PySem PySem.Spec L2 RT RZ PyProof.Rows HT
/-- an object at x is being made; self is slot 0 -/
structure Mkg (K : PySem.W.Frag) (G : Gd) (δ : DS) (M : Mem) (ι : Ix) (σ : L2.St) (H : Hp) (x dx C : Addr) (fs : List Str) (its : List (D ⊕ Nat)) (xs : List V) : Prop where
  S : Sr K G δ M ι σ H
  self : σ[0]? = some (some (.ref x))
  hx : H x = some (.ins C dx (fs.zip xs))
  hd : H dx = some (.own x)
  nx : some x ∉ ι
  nd : some dx ∉ ι
  h0 : G.He x = none
  hh : ¬ G.Hd x
  len : fs.length = xs.length
  r : RIs K G.N H ι its xs
abbrev NS' := (Mem → List Str → List (D ⊕ Nat) → Prop) → DS → Mem → List Str → List (D ⊕ Nat) → Prop
def lN (K : PySem.W.Frag) (G : Gd) (C : Addr) (t : NS') : TS := fun D σ H => ∃ δ M ι x dx fs its xs E0, Mkg K G δ M ι σ H x dx C fs its xs ∧ t E0 δ M fs its ∧
  ∀ M' ι' H' fs' its' xs', E0 M' fs' its' → Ex ι ι' → Mkg K G δ M' ι' σ H' x dx C fs' its' xs' → (∀ a o, a ≠ x → H a = some o → some a ∉ ι → H' a = some o ∧ some a ∉ ι') → D.nx σ H'
def itS : Sv → Option (D ⊕ Nat)
  | .d d => some (.inl d)
  | .ref n => some (.inr n)
  | .bor _ => none
def nSet (f : Str) (te : TE') : NS' := fun E δ M fs its => te δ M fun y M1 => ok (itS y) fun it => (f ∉ fs ∧ fs.length < 1000) ∧ E M1 (fs ++ [f]) (its ++ [it])
def nSeq (a b : NS') : NS' := fun E δ M fs its => a (fun M1 fs1 its1 => b E δ M1 fs1 its1) δ M fs its
theorem RIs.app {K : PySem.W.Frag} {N : Bool → Addr → Prop} {H : Hp} {ι : Ix} {it : D ⊕ Nat} {v : V} (h : RI K N H ι it v) : ∀ {its : List (D ⊕ Nat)} {xs : List V}, RIs K N H ι its xs → RIs K N H ι (its ++ [it]) (xs ++ [v])
  | [], xs, g => by cases (show _ = _ from g); exact ⟨v, [], rfl, h, rfl⟩
  | d :: its, xs, g => by
    obtain ⟨y, r, rfl, g1, g2⟩ := g
    exact ⟨y, r ++ [v], rfl, g1, RIs.app h g2⟩
theorem itS_ri {K : PySem.W.Frag} {N : Bool → Addr → Prop} {H : Hp} {ι : Ix} {y : Sv} {it : D ⊕ Nat} {v : V} (e : itS y = some it) (h : RS K N H ι y v) : RI K N H ι it v := by
  cases y with
  | d d => cases e; exact h
  | ref n => cases e; exact h
  | bor ds => cases e
theorem putF_new {f : Str} {v : V} : ∀ {fs : List Str} {xs : List V}, f ∉ fs → fs.length = xs.length → putF f v (fs.zip xs) = (fs ++ [f]).zip (xs ++ [v])
  | [], [], _, _ => rfl
  | [], _ :: _, _, h => by cases h
  | _ :: _, [], _, h => by cases h
  | g :: fs, x :: xs, hn, h => by
    have hg : ¬ g = f := fun z => hn (by rw [z]; exact List.mem_cons_self)
    show (if g = f then _ else _) = _
    rw [if_neg hg]
    exact congrArg ((g, x) :: ·) (putF_new (fun z => hn (List.mem_cons_of_mem _ z)) (Nat.succ.inj h))
section
variable {X : Cx} {G : Gd} {e : Expr} {te : TE'} {p p' pos : Pos} {f s : Str} {C : Addr} {st : Stmt} {ss : List Stmt} {a b : NS'}
theorem vn_set (hcl : Cls X.K C) (hna : NoAttr X.K C f) (hN : X.N[0]? = some s) (hv : Vis X.env.scope s) (he : VE X G e te) (hs : swapsWith e (some (.Attribute (.Name s p) f p')) pos.line X.env = pure false := by rfl)
    (hdb : (s == ("__debug__" : Str)) = false := by decide) (hcd : (s == ("__classdict__" : Str)) = false := by decide) : PS X (.Assign [.Attribute (.Name s p) f p'] e pos) (lN X.K G C (nSet f te)) := by
  refine PS.weak (ps_fld (pe_var hN hv hdb hcd) he hs) fun D σ H ⟨δ, M, ι, x, dx, fs, its, xs, E0, m, q, z⟩ => ?_
  refine th1 m.S q fun y M1 ι1 H1 v q1 p1 k1 S1 r1 => ?_
  obtain ⟨it, e1, ⟨hf, hl⟩, q1⟩ := ok_elim q1
  obtain ⟨hx1, nx1⟩ := k1 x _ m.hx m.nx
  obtain ⟨hd1, nd1⟩ := k1 dx _ m.hd m.nd
  have hne : dx ≠ x := fun w => by rw [w, hx1] at hd1; cases hd1
  refine ⟨.ref x, m.self, x, C, dx, fs.zip xs, rfl, hx1, hcl, hna, by rw [List.length_zip]; omega, ?_⟩
  rw [putF_new hf m.len]
  have hk : ∀ a o, a ≠ x → H1 a = some o → upd H1 x (.ins C dx ((fs ++ [f]).zip (xs ++ [v]))) a = some o := fun a o ne e => by rw [upd_ne ne]; exact e
  refine z M1 ι1 _ (fs ++ [f]) (its ++ [it]) (xs ++ [v]) q1 p1 ⟨S1.insU hx1 nx1 m.h0, m.self, upd_same, by rw [upd_ne hne]; exact hd1, nx1, nd1, m.h0, m.hh, by simp [m.len], ?_⟩ fun a o ne ea na => ?_
  · exact RIs.insT hx1 hk (fun _ _ n => n) (Ex.refl _) (RIs.app (itS_ri e1 r1) (m.r.mono k1 p1 fun _ _ _ _ z => z))
  · obtain ⟨g1, g2⟩ := k1 a o ea na
    exact ⟨hk a o ne g1, g2⟩
theorem vn_one (h : PS X st (lN X.K G C a)) : PSs X [st] (lN X.K G C a) := pss_one h
theorem vn_cons (h : PS X st (lN X.K G C a)) (h2 : PSs X ss (lN X.K G C b)) : PSs X (st :: ss) (lN X.K G C (nSeq a b)) :=
  PSs.weak (pss_cons h h2) fun D σ H ⟨δ, M, ι, x, dx, fs, its, xs, E0, m, q, z⟩ =>
    ⟨δ, M, ι, x, dx, fs, its, xs, _, m, q, fun M' ι' H' fs' its' xs' q1 ex m1 k1 => ⟨δ, M', ι', x, dx, fs', its', xs', E0, m1, q1, fun M2 ι2 H2 fs2 its2 xs2 q2 ex2 m2 k2 =>
      z M2 ι2 H2 fs2 its2 xs2 q2 (ex.trans ex2) m2 fun a o ne ea na => by
        obtain ⟨g1, g2⟩ := k1 a o ne ea na
        exact k2 a o ne g1 g2⟩⟩
end
end VL
set_option Elab.async false
set_option linter.all false
set_option maxRecDepth 100000
set_option maxHeartbeats 4000000
namespace VL
open PySem PySem.Spec L2 RT RZ PyProof.Rows HT
section
variable {K : PySem.W.Frag} {G : Gd} {δ : DS} {M : Mem} {ι : Ix} {σ : L2.St} {H : Hp} {i0 : List Addr}
theorem Sr.afterR {H' : Hp} {ns : List Nat} {Mc cs : Mem} {r : Ix} (S : Sr K G δ M ι σ H) (L : Lent M ι ns) (hi : i0.map some = ns.map (fun n => (ι[n]?).join))
    (hl : Mc.length = i0.length) (hcs : cs.length = r.length) (hr : ∀ a, some a ∈ r → H a = none)
    (m : RM K (NB (Bc G ι i0)) H' (i0.map some ++ r) (Mc ++ cs)) (k : Kp (i0.map some) H (i0.map some ++ r) H') (ob : ObI (i0.map some) H H') (hfl : ∀ c ∈ cs, ∀ kd its, c ≠ .nd kd its) : Sr K G δ (backO ns Mc M ++ cs) (ι ++ r) σ H' := by
  have hsub := L.sub hi
  have hn : ∀ a, some a ∉ ι → some a ∉ i0.map some := fun a hn h => hn (hsub a (by simpa using h))
  have hrr : ∀ a o, H a = some o → some a ∉ r := fun a o e h => by
    rw [hr a h] at e; cases e
  have kk : Kp ι H (ι ++ r) H' := fun a o e n => ⟨(k a o e (hn a n)).1, fun h => by
    rcases List.mem_append.mp h with h | h
    · exact n h
    · exact hrr a o e h⟩
  have hin : ∀ (n : Nat) (a : Addr), ι[n]? = some (some a) → n ∉ ns → some a ∉ i0.map some := fun n a h hno z => by
    rw [hi] at z
    obtain ⟨m, hm1, hm2⟩ := List.mem_map.mp z
    obtain ⟨c, hb⟩ := L.al m hm1
    rw [hb] at hm2; cases hm2
    exact hno (S.mem.nod _ _ _ hb h ▸ hm1)
  have hfr : ∀ a, some a ∈ r → some a ∉ ι := fun a ha => S.mem.fresh (hr a ha)
  have hbl : (backO ns Mc M).length = ι.length := by rw [backO_len]; exact S.mem.len
  have hil : i0.length = ns.length := by have := congrArg List.length hi; simpa using this
  have up : ∀ c a, (∀ kd its, c ≠ .nd kd its) → RC K (NB (Bc G ι i0)) H' (i0.map some ++ r) c a → RC K G.N H' (ι ++ r) c a := fun c a hf q => by
    cases c with
    | nd kd its => exact absurd rfl (hf kd its)
    | gone => exact q.elim
    | lst ds => obtain ⟨xs, q1, l, r⟩ := q; exact ⟨xs, q1, l, RDs.up S k r⟩
    | dk kvs => obtain ⟨xs, q1, l, r⟩ := q; exact ⟨xs, q1, l, RDs.up S k r⟩
    | dn kvs => obtain ⟨xs, q1, l, r1, r2⟩ := q; exact ⟨xs, q1, l, RDs.up S k r1, RDs.up S k r2⟩
    | dw w kvs => obtain ⟨xs, q1, l, r1, r2⟩ := q; exact ⟨xs, q1, l, RDs.up S k r1, RDs.up S k r2⟩
  /- a lent cell behind the call -/
  have low : ∀ (j n : Nat) (a : Addr), ns[j]? = some n → ι[n]? = some (some a) → ∀ c0 c, M[n]? = some c0 → Mc[j]? = some c → RC K G.N H' (ι ++ r) (mrgC c0 c) a ∧ (mrgC c0 c).wf n := fun j n a hj ha c0 c h0 hc => by
    have hji : (i0.map some)[j]? = some (some a) := by rw [hi, List.getElem?_map, hj]; simp [ha]
    have hjl := (List.getElem?_eq_some_iff.mp hc).1
    have hjn : j < i0.length := by omega
    have q := m.cell j c a (by rw [List.getElem?_append_left hjl]; exact hc) (by rw [List.getElem?_append_left (by simpa using hjn)]; exact hji)
    have q0 := S.mem.cell n c0 a h0 ha
    have hai : a ∈ i0 := by have := List.mem_of_getElem? hji; simpa using this
    obtain ⟨ob1, ob2⟩ := ob i0 rfl a hai
    cases c with
    | nd kd its =>
      cases kd with
      | ob c fs =>
        obtain ⟨xs, ⟨dx, q1, q2, q3, q4⟩, l1, r1⟩ := q
        obtain ⟨f0, e0⟩ := ob2 _ _ _ q1
        cases c0 with
        | gone => exact q0.elim
        | lst ds => obtain ⟨ys, q5, _⟩ := q0; rw [q5] at e0; cases e0
        | dk ds => obtain ⟨ys, q5, _⟩ := q0; rw [q5] at e0; cases e0
        | dn ds => obtain ⟨ys, q5, _⟩ := q0; rw [q5] at e0; cases e0
        | dw w ds => obtain ⟨ys, q5, _⟩ := q0; rw [q5] at e0; cases e0
        | nd kd0 its0 =>
          cases kd0 with
          | ob c0 fs0 =>
            obtain ⟨ys, ⟨dx0, p1, p2, p3, p4⟩, l2, r2⟩ := q0
            obtain ⟨fs', g1, g2⟩ := ob1 _ _ _ p1
            rw [q1] at g1
            injection g1 with g1
            injection g1 with gc gd gf
            rw [← gf] at g2
            obtain ⟨hf, ht⟩ := SameF.tails p4 q4 g2
            have hmg := mrg_of S k kk ht r2 r1
            have hlen : (List.zipWith mrgI its0 its).length ≤ sizeLine := by rw [List.length_zipWith]; omega
            refine ⟨⟨xs, ⟨dx0, by rw [q1, gc, gd, hf], (kk dx0 _ p2 p3).1, (kk dx0 _ p2 p3).2, by rw [hf]; exact q4⟩, hlen, hmg⟩, fun t ht => ?_⟩
            have w0 := S.mem.wf n _ h0
            refine w0 t ?_
            exact mrg_refs ht
    | _ =>
      have hfc : ∀ kd its, c0 ≠ .nd kd its := fun kd its e => by
        subst e
        cases kd with
        | ob c0 fs0 =>
          obtain ⟨ys, ⟨dx0, p1, _⟩, _⟩ := q0
          obtain ⟨fs', g1, _⟩ := ob1 _ _ _ p1
          first
            | exact q.elim
            | (obtain ⟨zs, q5, _⟩ := q; rw [q5] at g1; cases g1)
      cases c0 with
      | nd kd its => exact absurd rfl (hfc kd its)
      | _ => exact ⟨up _ _ (fun kd its z => by cases z) q, trivial⟩
  have obk : ObK G.i0 H H' := fun a ha => by
    obtain ⟨n, hn0⟩ := List.getElem?_of_mem ha
    have hp := S.pre n a hn0
    by_cases h0 : a ∈ i0
    · exact ob i0 rfl a h0
    · obtain ⟨u, hu⟩ := S.i0there a ha
      have e9 := (k a u hu (by simpa using h0)).1
      rw [show H' a = H a from e9.trans hu.symm]
      exact ⟨fun C dx fs e => ⟨fs, e, SameF.refl fs⟩, fun C dx fs e => ⟨fs, e⟩⟩
  have hjc : ∀ (j n : Nat), ns[j]? = some n → ∃ c, Mc[j]? = some c := fun j n hj => by
    have := (List.getElem?_eq_some_iff.mp hj).1
    exact ⟨_, List.getElem?_eq_getElem (by omega)⟩
  refine ⟨S.len, fun i d e => ?_, ⟨by simp [hbl, hcs], fun n m' a e1 e2 => ?_, fun n c a e1 e2 => ?_, fun n e => ?_, fun n c e1 => ?_⟩, fun n a e => ?_, S.kp.trans kk, fun a ha h0 => ?_, S.bad, fun a ha => ?_, S.obk.trans obk⟩
  · obtain ⟨v, e1, r⟩ := S.slot i d e
    exact ⟨v, e1, r.mono kk (Ex.app _ _) (fun _ _ _ _ z => z)⟩
  · rw [List.getElem?_append] at e1 e2
    split at e1 <;> split at e2
    · exact S.mem.nod n m' a e1 e2
    · exact absurd (List.mem_of_getElem? e1) (hfr a (List.mem_of_getElem? e2))
    · exact absurd (List.mem_of_getElem? e2) (hfr a (List.mem_of_getElem? e1))
    · have := m.nod (i0.length + (n - ι.length)) (i0.length + (m' - ι.length)) a (by rw [List.getElem?_append_right (by simp)]; simpa using e1) (by rw [List.getElem?_append_right (by simp)]; simpa using e2)
      omega
  · rw [List.getElem?_append, hbl] at e1
    rw [List.getElem?_append] at e2
    split at e1
    · rename_i hlt
      rw [if_pos hlt] at e2
      by_cases hno : n ∈ ns
      · obtain ⟨j, hj⟩ := List.getElem?_of_mem hno
        obtain ⟨cc, hcc⟩ := hjc j n hj
        have hl : n < M.length := by rw [S.mem.len]; exact hlt
        rw [backO_at ns Mc M j n _ L.nd hj hcc hl, List.getElem?_eq_getElem hl] at e1
        cases e1
        exact (low j n a hj e2 _ _ (List.getElem?_eq_getElem hl) hcc).1
      · rw [backO_ne ns Mc M n hno] at e1
        have q := S.mem.cell n c a e1 e2
        obtain ⟨o, ho⟩ := q.has
        exact q.mono kk (Ex.app _ _) (fun _ _ _ _ z => z) (by rw [(k a o ho (hin n a e2 hno)).1, ho])
    · rename_i hlt
      rw [if_neg hlt] at e2
      exact up _ _ (hfl c (List.mem_of_getElem? e1)) (m.cell (i0.length + (n - ι.length)) _ a (by rw [List.getElem?_append_right (by omega)]; rw [hl]; simpa using e1) (by rw [List.getElem?_append_right (by simp)]; simpa using e2))
  · rw [List.getElem?_append] at e
    split at e
    · rename_i hlt
      rw [List.getElem?_append_left (by rw [hbl]; exact hlt), backO_ne ns Mc M n fun hno => ?_]
      · exact S.mem.gone n e
      · obtain ⟨c, hb⟩ := L.al n hno
        rw [hb] at e; cases e
    · rename_i hlt
      have := m.gone (i0.length + (n - ι.length)) (by rw [List.getElem?_append_right (by simp)]; simpa using e)
      rw [List.getElem?_append_right (by omega)] at this
      rw [List.getElem?_append_right (by rw [hbl]; omega), hbl]
      rw [hl] at this
      simpa using this
  · rw [List.getElem?_append, hbl] at e1
    split at e1
    · rename_i hlt
      by_cases hno : n ∈ ns
      · obtain ⟨j, hj⟩ := List.getElem?_of_mem hno
        obtain ⟨cc, hcc⟩ := hjc j n hj
        have hl : n < M.length := by rw [S.mem.len]; exact hlt
        obtain ⟨a, ha⟩ := L.al n hno
        rw [backO_at ns Mc M j n _ L.nd hj hcc hl, List.getElem?_eq_getElem hl] at e1
        cases e1
        exact (low j n a hj ha _ _ (List.getElem?_eq_getElem hl) hcc).2
      · rw [backO_ne ns Mc M n hno] at e1
        exact S.mem.wf n c e1
    · have hf := hfl c (List.mem_of_getElem? e1)
      cases c with
      | nd kd its => exact absurd rfl (hf kd its)
      | _ => trivial
  · have e1 := S.pre n a e
    rw [List.getElem?_append_left (List.getElem?_eq_some_iff.mp e1).1]; exact e1
  · rcases List.mem_append.mp ha with z | z
    · exact S.new a z h0
    · cases q : G.He a with
      | none => rfl
      | some u =>
        have := (S.kp a u q (by simpa using h0)).1
        rw [hr a z] at this; cases this
  · obtain ⟨u, q⟩ := (S.hid a ha).2
    exact ⟨(kk a u q (S.hid a ha).1).2, u, (kk a u q (S.hid a ha).1).1⟩
end
end VL
set_option Elab.async false
set_option linter.all false
set_option maxRecDepth 100000
set_option maxHeartbeats 4000000
namespace VL
open PySem PySem.Spec L2 RT RZ PyProof.Rows HT
abbrev SpI := List Sv → Mem → (Mem → List Str → List (D ⊕ Nat) → Prop) → Prop
structure MadeI (K : PySem.W.Frag) (B : Addr → Prop) (H0 H' : Hp) (i0 : List Addr) (ι' : Ix) (M' : Mem) (x dx C : Addr) (fs : List Str) (its : List (D ⊕ Nat)) (xs : List V) : Prop where
  m : RM K (NB B) H' ι' M'
  pre : ∀ (n : Nat) (a : Addr), i0[n]? = some a → ι'[n]? = some (some a)
  kp : Kp (i0.map some) H0 ι' H'
  nw : ∀ a, some a ∈ ι' → a ∉ i0 → H0 a = none
  ob : ObK i0 H0 H'
  hx : H' x = some (.ins C dx (fs.zip xs))
  hd : H' dx = some (.own x)
  nx : some x ∉ ι'
  nd : some dx ∉ ι'
  len : fs.length = xs.length
  r : RIs K (NB B) H' ι' its xs
def lPi (K : PySem.W.Frag) (c : Str) (n : Nat) (sp : SpI) : Sp := fun vs H Q _ => ∃ (as : List Sv) (M : Mem) (i0 : List Addr) (B : Addr → Prop) (Q0 : Mem → List Str → List (D ⊕ Nat) → Prop) (H0 : Hp) (x dx : Addr) (ws : List V),
  vs = .ref x :: ws ∧ as.length = n ∧ H = upd (upd H0 dx (.own x)) x (.ins (He.ga K c) dx []) ∧ H0 x = none ∧ H0 dx = none ∧ dx ≠ x ∧ (∀ a, B a → ∃ o, H0 a = some o) ∧ RSs K (NB B) H0 (i0.map some) as ws ∧ RM K (NB B) H0 (i0.map some) M ∧ sp as M Q0 ∧
  ∀ M' ι' H' fs its xs, Q0 M' fs its → MadeI K B H0 H' i0 ι' M' x dx (He.ga K c) fs its xs → Q .non H'
/-- a class that may be made -/
structure CaI (P : Program) (w : World) (K : PySem.W.Frag) (mg : Str → Option Value) (base : Heap) (k : Nat) (c : Str) (n : Nat) (sp : SpI) : Prop where
  gl : mg c = some (.ref (He.ga K c))
  ex : ∃ (f : Addr) (fd : FuncData) (ps : List Str), FnG P w K mg base C8.CX0 k f fd ps (lPi K c n sp) ∧ Mk K (He.ga K c) f ∧ Binds K fd ps []
def startI (n : Nat) (as : List Sv) : DS := none :: startD (n - 1) as
section
variable {X : Cx} {K : PySem.W.Frag}
theorem init_at {Ns : List Str} {body : List Stmt} {t : NS'} {ws : List V} {Q : VK} {as : List Sv} {M : Mem} {i0 : List Addr} {B : Addr → Prop} {Q0 : Mem → List Str → List (D ⊕ Nat) → Prop} {H0 : Hp} {x dx : Addr} {C : Addr}
    (hb : PSs X body (lN X.K (gnd H0 i0 B) C t)) (hx : H0 x = none) (hd : H0 dx = none) (hne : dx ≠ x) (hB : ∀ a, B a → ∃ o, H0 a = some o) (ra : RSs X.K (NB B) H0 (i0.map some) as ws) (rm : RM X.K (NB B) H0 (i0.map some) M)
    (hp : t Q0 (startI Ns.length as) M [] [])
    (z : ∀ M' ι' H' fs its xs, Q0 M' fs its → MadeI X.K B H0 H' i0 ι' M' x dx C fs its xs → Q .non H') (hN : 1 ≤ Ns.length) :
    ∃ t', PSs X body t' ∧ t' { nx := fun _ H' => Q .non H', rt := Q } (L2.start Ns (.ref x :: ws)) (upd (upd H0 dx (.own x)) x (.ins C dx [])) := by
  have hl := ra.length
  have S0 : Sr X.K (gnd H0 i0 B) (startI Ns.length as) M (i0.map some) (L2.start Ns (.ref x :: ws)) H0 := by
    refine ⟨?_, fun i d e => ?_, rm, fun n a e => ?_, Kp.refl _ _, fun a ha hn => ?_, hB, fun a ha => ha.elim, ObK.refl _ _⟩
    · unfold startI startD L2.start
      simp [hl]
      omega
    · cases i with
      | zero => cases e
      | succ i =>
        have e1 := startD_at (show (startD (Ns.length - 1) as)[i]? = some (some d) from by simpa [startI] using e)
        obtain ⟨v, e2, r2⟩ := ra.get e1
        refine ⟨v, ?_, r2⟩
        unfold L2.start
        rw [List.getElem?_append_left (by simp; exact (List.getElem?_eq_some_iff.mp e2).1), List.getElem?_map, List.getElem?_cons_succ, e2]; rfl
    · rw [List.getElem?_map, e]; rfl
    · exact absurd (by simpa using ha) hn
  have S1 := S0.laid (p := dx) (o := .own x) hd
  have hx1 : upd H0 dx (.own x) x = none := by rw [upd_ne (Ne.symm hne)]; exact hx
  have S2 := S1.laid (p := x) (o := .ins C dx []) hx1
  have nx : some x ∉ i0.map some := S0.mem.fresh hx
  have nd : some dx ∉ i0.map some := S0.mem.fresh hd
  refine ⟨_, hb, startI Ns.length as, M, i0.map some, x, dx, [], [], [], Q0, ⟨S2, ?_, upd_same, by rw [upd_ne hne, upd_same], nx, nd, hx, fun h => h, rfl, rfl⟩, hp, fun M' ι' H' fs its xs q ex m k => ?_⟩
  · unfold L2.start
    rw [List.getElem?_append_left (by simp)]; rfl
  · exact z M' ι' H' fs its xs q ⟨m.S.mem, m.S.pre, m.S.kp, m.S.new, m.S.obk, m.hx, m.hd, m.nx, m.nd, m.len, m.r⟩
end
end VL
set_option Elab.async false
set_option linter.all false
set_option maxRecDepth 100000
set_option maxHeartbeats 4000000
namespace VL
open PySem PySem.Spec L2 RT RZ PyProof.Rows HT
section
variable {K : PySem.W.Frag} {G : Gd} {δ : DS} {M : Mem} {ι : Ix} {σ : L2.St} {H : Hp} {i0 : List Addr}
theorem lend_of {ms : List Bool} {xs as : List Sv} {vs : List V} {ns : List Nat} (S : Sr K G δ M ι σ H) (r : RSs K G.N H ι xs vs) (e : handO M ms xs [] = some (as, ns)) :
    as.length = xs.length ∧ Lent M ι ns ∧ ∃ i0 : List Addr, i0.map some = ns.map (fun n => (ι[n]?).join) ∧ (∀ a, Bc G ι i0 a → ∃ o, H a = some o) ∧ RSs K (NB (Bc G ι i0)) H (i0.map some) as vs ∧ RM K (NB (Bc G ι i0)) H (i0.map some) (cellsO M ns) := by
  obtain ⟨L, h3, hr, hl⟩ := hand_ofO S ms xs vs [] as ns e r Lent.nil
  obtain ⟨i0, hi⟩ : ∃ i0 : List Addr, i0.map some = ns.map (fun n => (ι[n]?).join) := by
    have al := L.al
    clear e hr hl h3 L
    induction ns with
    | nil => exact ⟨[], rfl⟩
    | cons n ns ih =>
      obtain ⟨i0, hi⟩ := ih fun m hm => al m (List.mem_cons_of_mem _ hm)
      obtain ⟨a, ha⟩ := al n List.mem_cons_self
      exact ⟨a :: i0, by simp [hi, ha]⟩
  have hsub := L.sub hi
  have hni : ∀ a, some a ∉ ι → some a ∉ i0.map some := fun a n h => n (hsub a (by simpa using h))
  have hget : ∀ (j : Nat) (a : Addr), (i0.map some)[j]? = some (some a) → ∃ n, ns[j]? = some n ∧ ι[n]? = some (some a) := fun j a e => by
    rw [hi, List.getElem?_map] at e
    cases q : ns[j]? with
    | none => rw [q] at e; cases e
    | some n =>
      rw [q] at e
      obtain ⟨b, hb⟩ := L.al n (List.mem_of_getElem? q)
      simp [hb] at e
      exact ⟨n, rfl, by rw [hb, e]⟩
  have hcell : ∀ (j : Nat) (c : Cell), (cellsO M ns)[j]? = some c → ∃ n c0, ns[j]? = some n ∧ M[n]? = some c0 ∧ c = reC ns c0 := fun j c e1 => by
    unfold cellsO at e1
    rw [List.getElem?_map, Option.map_eq_some_iff] at e1
    obtain ⟨n, h1, rfl⟩ := e1
    obtain ⟨a, ha⟩ := L.al n (List.mem_of_getElem? h1)
    have hM : n < M.length := by rw [S.mem.len]; exact (List.getElem?_eq_some_iff.mp ha).1
    exact ⟨n, M[n], h1, List.getElem?_eq_getElem hM, by rw [List.getElem?_eq_getElem hM]; rfl⟩
  refine ⟨hl, L, i0, hi, fun a ha => ?_, hr i0 hi, ⟨?_, fun j l a e1 e2 => ?_, fun j c a e1 e2 => ?_, fun j e => ?_, fun j c e1 => ?_⟩⟩
  · rcases ha with ha | ha | ⟨ha, _⟩
    · obtain ⟨o, ho⟩ := S.bad a ha
      by_cases h0 : a ∈ G.i0
      · exact S.i0there a h0
      · exact ⟨o, (S.kp a o ho (by simpa using h0)).1⟩
    · exact (S.hid a ha).2
    · exact S.mem.there ha
  · rw [hi]; simp [cellsO]
  · obtain ⟨n, h1, h2⟩ := hget j a e1
    obtain ⟨m, h3, h4⟩ := hget l a e2
    have e3 := S.mem.nod _ _ _ h2 h4
    subst e3
    exact nodup_ix L.nd h1 h3
  · obtain ⟨n, c0, h1, h2, rfl⟩ := hcell j c e1
    obtain ⟨n', h3, h4⟩ := hget j a e2
    rw [h1] at h3; cases h3
    have q := S.mem.cell n c0 a h2 h4
    cases c0 with
    | gone => exact q.elim
    | lst ds => obtain ⟨xs, q1, l, r⟩ := q; exact ⟨xs, q1, l, RDs.dn hsub r⟩
    | dk kvs => obtain ⟨xs, q1, l, r⟩ := q; exact ⟨xs, q1, l, RDs.dn hsub r⟩
    | dn kvs => obtain ⟨xs, q1, l, r1, r2⟩ := q; exact ⟨xs, q1, l, RDs.dn hsub r1, RDs.dn hsub r2⟩
    | dw w kvs => obtain ⟨xs, q1, l, r1, r2⟩ := q; exact ⟨xs, q1, l, RDs.dn hsub r1, RDs.dn hsub r2⟩
    | nd kd its =>
      obtain ⟨xs, q1, l, r⟩ := q
      refine ⟨xs, ?_, by rw [List.length_map]; exact l, RIs.re L hi (fun t ht => ?_) r⟩
      · cases kd with
        | ob c fs =>
          obtain ⟨dx, p1, p2, p3, p4⟩ := q1
          exact ⟨dx, p1, p2, hni dx p3, p4⟩
      · obtain ⟨q, _, hq⟩ := L.bf j n kd its h1 h2 t ht
        exact List.mem_of_getElem? hq
  · rw [List.getElem?_map] at e
    cases q : i0[j]? with
    | none => rw [q] at e; cases e
    | some b => rw [q] at e; cases e
  · obtain ⟨n, c0, h1, h2, rfl⟩ := hcell j c e1
    cases c0 with
    | nd kd its =>
      intro t ht
      obtain ⟨u, hu, rfl⟩ := re_refs ht
      obtain ⟨q, hq, hqe⟩ := L.bf j n kd its h1 h2 u hu
      have := nodup_ix L.nd (at_idx (List.mem_of_getElem? hqe)) hqe
      omega
    | _ => trivial
/-- names of new cells, as the caller counts them -/
def shI (k n : Nat) : D ⊕ Nat → D ⊕ Nat
  | .inl d => .inl d
  | .inr j => .inr (j - k + n)
theorem RIs.sh {H' : Hp} {r : Ix} (S : Sr K G δ M ι σ H) (kp : Kp (i0.map some) H (i0.map some ++ r) H') (kk : ∀ a o, H' a = some o → some a ∉ ι ++ r → True) : ∀ {its : List (D ⊕ Nat)} {xs : List V}, (∀ j, Sum.inr j ∈ its → i0.length ≤ j) → RIs K (NB (Bc G ι i0)) H' (i0.map some ++ r) its xs → RIs K G.N H' (ι ++ r) (its.map (shI i0.length ι.length)) xs
  | [], _, _, h => h
  | .inl d :: its, xs, hl, h => by
    obtain ⟨x, t, rfl, h1, h2⟩ := h
    exact ⟨x, t, rfl, RD.up S kp h1, RIs.sh S kp kk (fun j hj => hl j (List.mem_cons_of_mem _ hj)) h2⟩
  | .inr n :: its, xs, hl, h => by
    obtain ⟨x, t, rfl, ⟨a, e, q⟩, h2⟩ := h
    have hn := hl n List.mem_cons_self
    have at1 : (ι ++ r)[n - i0.length + ι.length]? = (i0.map some ++ r)[n]? := by
      rw [List.getElem?_append_right (by omega), List.getElem?_append_right (by simpa using hn)]
      congr 1
      simp
    refine ⟨x, t, rfl, ⟨a, e, ?_⟩, RIs.sh S kp kk (fun j hj => hl j (List.mem_cons_of_mem _ hj)) h2⟩
    rw [at1]; exact q
theorem made_back {ns : List Nat} {M' : Mem} {ι' : Ix} {H' : Hp} {x dx : Addr} {c : Str} {fs : List Str} {its : List (D ⊕ Nat)} {xs : List V} (S : Sr K G δ M ι σ H) (L : Lent M ι ns) (hi : i0.map some = ns.map (fun n => (ι[n]?).join)) (hx : H x = none) (hd : H dx = none) (hne : dx ≠ x)
    (mk : MadeI K (Bc G ι i0) H H' i0 ι' M' x dx (He.ga K c) fs its xs) (hits : ∀ j, Sum.inr j ∈ its → ns.length ≤ j ∧ j < M'.length) (hsz : its.length ≤ sizeLine) (hfl : ∀ cc ∈ M'.drop ns.length, ∀ kd it, cc ≠ .nd kd it) :
    ∃ ι2 : Ix, Ex ι ι2 ∧ Kp ι H ι2 H' ∧ Sr K G δ (backO ns (M'.take ns.length) M ++ M'.drop ns.length ++ [.nd (.ob c fs) (its.map (shI ns.length M.length))]) ι2 σ H' ∧ ι2[M.length + (M'.length - ns.length)]? = some (some x) := by
  have hil : i0.length = ns.length := by have := congrArg List.length hi; simpa using this
  have hlen : M'.length = ι'.length := mk.m.len
  have hpre : ι'.take i0.length = i0.map some := by
    apply List.ext_getElem?
    intro n
    rw [List.getElem?_take, List.getElem?_map]
    split
    · rename_i h
      rw [List.getElem?_eq_getElem h]
      exact mk.pre n _ (List.getElem?_eq_getElem h)
    · rename_i h
      rw [List.getElem?_eq_none (by omega)]; rfl
  have hle : i0.length ≤ ι'.length := by
    by_cases h0 : i0.length = 0
    · omega
    · have := mk.pre (i0.length - 1) _ (List.getElem?_eq_getElem (by omega))
      have := (List.getElem?_eq_some_iff.mp this).1
      omega
  have eι : ι' = i0.map some ++ ι'.drop i0.length := by rw [← hpre, List.take_append_drop]
  have eM : M' = M'.take i0.length ++ M'.drop i0.length := (List.take_append_drop _ _).symm
  have hr : ∀ a, some a ∈ ι'.drop i0.length → H a = none := fun a ha => by
    refine mk.nw a (List.mem_of_mem_drop ha) fun h => ?_
    obtain ⟨n, hn⟩ := List.getElem?_of_mem h
    obtain ⟨q, hq⟩ := List.getElem?_of_mem ha
    rw [List.getElem?_drop] at hq
    have := mk.m.nod _ _ _ (mk.pre n a hn) hq
    have := (List.getElem?_eq_some_iff.mp hn).1
    omega
  have m2 : RM K (NB (Bc G ι i0)) H' (i0.map some ++ ι'.drop i0.length) (M'.take i0.length ++ M'.drop i0.length) := by rw [← eι, ← eM]; exact mk.m
  have k2 : Kp (i0.map some) H (i0.map some ++ ι'.drop i0.length) H' := by rw [← eι]; exact mk.kp
  have S2 := S.afterR (Mc := M'.take i0.length) (cs := M'.drop i0.length) (r := ι'.drop i0.length) L hi (by rw [List.length_take]; omega) (by rw [List.length_drop, List.length_drop]; omega) hr m2 k2 (ObI.of mk.ob) (by rw [hil]; exact hfl)
  have nxι : some x ∉ ι := S.mem.fresh hx
  have ndι : some dx ∉ ι := S.mem.fresh hd
  have nx2 : some x ∉ ι ++ ι'.drop i0.length := fun h => by
    rcases List.mem_append.mp h with h | h
    · exact nxι h
    · exact mk.nx (List.mem_of_mem_drop h)
  have nd2 : some dx ∉ ι ++ ι'.drop i0.length := fun h => by
    rcases List.mem_append.mp h with h | h
    · exact ndι h
    · exact mk.nd (List.mem_of_mem_drop h)
  have h0 : G.He x = none := by
    cases q : G.He x with
    | none => rfl
    | some u =>
      by_cases h : x ∈ G.i0
      · obtain ⟨v, hv⟩ := S.i0there x h
        rw [hx] at hv; cases hv
      · have := (S.kp x u q (by simpa using h)).1
        rw [hx] at this; cases this
  have hh : ¬ G.Hd x := fun h => by
    obtain ⟨o, q⟩ := (S.hid x h).2
    rw [hx] at q; cases q
  have hML : (backO ns (M'.take i0.length) M ++ M'.drop i0.length).length = M.length + (M'.length - i0.length) := by
    rw [List.length_append, backO_len, List.length_drop]
  have r2 : RIs K G.N H' (ι ++ ι'.drop i0.length) (its.map (shI i0.length ι.length)) xs := RIs.sh S k2 (fun _ _ _ _ => trivial) (fun j hj => by have := (hits j hj).1; omega) (by rw [← eι]; exact mk.r)
  have kx : Kp ι H (ι ++ ι'.drop i0.length ++ [some x]) H' := fun a o e n => by
    have ne : a ≠ x := fun w => by rw [w, hx] at e; cases e
    obtain ⟨g1, g2⟩ := mk.kp a o e (fun h => n (L.sub hi a (by simpa using h)))
    refine ⟨g1, fun h => ?_⟩
    rcases List.mem_append.mp h with h | h
    · rcases List.mem_append.mp h with h | h
      · exact n h
      · exact g2 (List.mem_of_mem_drop h)
    · simp at h; exact ne h
  have hi2 : ∀ a, a ≠ x → some a ∉ ι ++ ι'.drop i0.length → some a ∉ ι ++ ι'.drop i0.length ++ [some x] := fun a ne n h => by
    rcases List.mem_append.mp h with h | h
    · exact n h
    · simp at h; exact ne h
  have S3 := S2.nameX (c := .nd (.ob c fs) (its.map (shI i0.length ι.length))) mk.hx nx2 h0 hh
    ⟨xs, ⟨dx, mk.hx, mk.hd, hi2 dx hne nd2, mk.len⟩, by rw [List.length_map]; exact hsz, RIs.insT mk.hx (fun _ _ _ e => e) hi2 (Ex.app _ _) r2⟩ (fun t ht => by
      obtain ⟨y, hy, e⟩ := List.mem_map.mp ht
      cases y with
      | inl d => cases e
      | inr j =>
        cases e
        obtain ⟨g1, g2⟩ := hits j hy
        rw [hML, S.mem.len]; omega)
  rw [S.mem.len, ← hil]
  refine ⟨_, (Ex.app _ _).trans (Ex.app _ _), kx, S3, ?_⟩
  rw [List.getElem?_append_right (by rw [List.length_append, List.length_drop]; omega), List.length_append, List.length_drop]
  have : ι.length + (M'.length - i0.length) - (ι.length + (ι'.length - i0.length)) = 0 := by omega
  rw [this]; rfl
end
end VL
set_option Elab.async false
set_option linter.all false
set_option maxRecDepth 100000
set_option maxHeartbeats 4000000
namespace VL
open PySem PySem.Spec L2 RT RZ PyProof.Rows HT
def makeO (c : Str) (ms : List Bool) (sp : SpI) (M : Mem) (xs : List Sv) (Q : QD) : Prop :=
  ok (handO M ms xs []) fun r => sp r.1 (cellsO M r.2) fun M' fs its =>
    ((∀ j, Sum.inr j ∈ its → r.2.length ≤ j ∧ j < M'.length) ∧ its.length ≤ sizeLine ∧ ∀ cc ∈ M'.drop r.2.length, ∀ kd it, cc ≠ .nd kd it) ∧
    Q (.ref (M.length + (M'.length - r.2.length))) (backO r.2 (M'.take r.2.length) M ++ M'.drop r.2.length ++ [.nd (.ob c fs) (its.map (shI r.2.length M.length))])
def eMake (c : Str) (ms : List Bool) (sp : SpI) (tA : TA') : TE' := fun δ M Q => tA δ M fun xs M1 => makeO c ms sp M1 xs Q
section
variable {X : Cx} {G : Gd} {k j n : Nat} {c : Str} {sp : SpI} {p pos : Pos} {e : Expr} {es : List Expr} {tA : TA'} {δ : DS} {M : Mem} {ι : Ix} {σ : L2.St} {H : Hp}
theorem make_in {xs : List Sv} {vs : List V} {ms : List Bool} {Q0 : QD} {Q : VK} {E : XK} {x dx : Addr} (S : Sr X.K G δ M ι σ H) (r : RSs X.K G.N H ι xs vs) (hn : xs.length = n) (h : makeO c ms sp M xs Q0) (hx : H x = none) (hd : H dx = none) (hne : dx ≠ x)
    (z : ∀ y M' ι' H', Q0 (.ref y) M' → Ex ι ι' → Kp ι H ι' H' → Sr X.K G δ M' ι' σ H' → ι'[y]? = some (some x) → Q (.ref x) H') :
    lPi X.K c n sp (.ref x :: vs) (upd (upd H dx (.own x)) x (.ins (He.ga X.K c) dx [])) (fun v H2 => v = .non ∧ Q (.ref x) H2) E := by
  obtain ⟨⟨as, ns⟩, e, h⟩ := ok_elim h
  obtain ⟨hl, L, i0, hi, hB, ra, rm⟩ := lend_of S r e
  refine ⟨as, cellsO M ns, i0, Bc G ι i0, _, H, x, dx, vs, rfl, hl.trans hn, rfl, hx, hd, hne, hB, ra, rm, h, fun M' ι' H' fs its ys q mk => ⟨rfl, ?_⟩⟩
  obtain ⟨⟨q1, q2, q3⟩, q⟩ := q
  obtain ⟨ι2, ex, k2, S2, hy⟩ := made_back S L hi hx hd hne mk q1 q2 q3
  exact z _ _ ι2 H' q ex k2 S2 hy
theorem ve_make (ms : List Bool) (ci : CaI X.prog X.w X.K X.mg X.base k c n sp) (hr : RoomG j X.A) (hk : k + 1 ≤ j) (hg : Gl X c) (ha : VA X G (e :: es) n tA)
    (hdb : (c == ("__debug__" : Str)) = false := by decide) (he : starEach (e :: es) X.env = (false, eval e X.env) :: starEach es X.env := by rfl) (hpl : (backTo pos (starEach es X.env)).any (·.1) = false := by rfl) :
    VE X G (.Call (.Name c p) (e :: es) [] pos) (eMake c ms sp tA) := by
  obtain ⟨f, fd, ps, F, Mk_, b⟩ := ci.ex
  refine PE.weak (pe_makeg Mk_ F (hr.mono hk) hg ci.gl b .nil C8.pass0 ha hdb he hpl (E := C8.E0)) fun σ H Q ⟨δ, M, ι, Q0, S, q, z⟩ => ?_
  refine thA S q fun xs M1 ι1 H1 vs hl h1 p1 k1 S1 r1 => ?_
  intro x dx hx hd hne
  rw [List.append_nil]
  exact make_in S1 r1 hl h1 hx hd hne fun y M' ι' H' q2 ex k2 S2 hy => z (.ref y) M' ι' H' _ q2 (p1.trans ex) (k1.trans k2) S2 ⟨x, rfl, .inl hy⟩
end
/-- the rule for a class: from the rows of its __init__ -/
theorem ci_of {P : Program} {w : World} {K : PySem.W.Frag} {mg : Str → Option Value} {base : Heap} {c qual x : Str} {params : Arguments} {body : List Stmt} {scope : Scope} {f : Addr} {fd : FuncData} {Ns ps : List Str} {k m0 : Nat} {sp : SpI} {t : NS'}
    (F : FunD K x qual params body scope [] [] f fd) (gl : mg c = some (.ref (He.ga K c))) (mk : Mk K (He.ga K c) f) (b : Binds K fd ps []) (S : FnScope Ns ps scope) (hps : ps.length = n + 1) (hN : 1 ≤ Ns.length) (hm0 : ∀ as M Q0, sp as M Q0 → M.length = m0)
    (hb : ∀ (cdv : Value) (A : Around) (outer : List Env) (s : Shared) (H : Hp) (E : XK) (G : Gd), RoomG k (A.deeper (PyProof.Rows.envOfC qual scope s.heap.objs.size f cdv)) → G.i0.length = m0 → PSs (cxOf C8.CX0 P w K mg base Ns qual scope f cdv A outer s H E).nox body (lN K G (He.ga K c) t))
    (hp : ∀ as M Q0, as.length = n → sp as M Q0 → t Q0 (startI Ns.length as) M [] []) : CaI P w K mg base (k + 1) c n sp := by
  refine ⟨gl, f, fd, ps, ?_, mk, b⟩
  refine fn_g F S (fun vs H Q E ⟨as, M, i0, B, Q0, H0, y, dx, ws, e, hn, _, _, _, _, _, ra, _⟩ => by rw [e, hps, List.length_cons, ← ra.length, hn]) fun cdv A outer s H vs Q E hr ⟨as, M, i0, B, Q0, H0, y, dx, ws, e, hn, eH, hx, hd, hne, hB, ra, rm, hs, z⟩ => ?_
  subst e eH
  have hlen : M.length = i0.length := by rw [rm.len]; simp
  obtain ⟨t', h1, h2⟩ := init_at (X := (cxOf C8.CX0 P w K mg base Ns qual scope f cdv A outer s _ E).nox) (Ns := Ns) (hb cdv A outer s _ E (gnd H0 i0 B) hr (hlen.symm.trans (hm0 _ _ _ hs))) hx hd hne hB ra rm (hp as M Q0 hn hs) z hN
  exact ⟨t', h1.nox, h2⟩
end VL
set_option Elab.async false
set_option linter.all false
set_option maxRecDepth 100000
set_option maxHeartbeats 2000000
namespace VL
open PySem PySem.Spec L2 RT RZ PyProof.Rows HT
theorem cm_of {P : Program} {w : World} {K : PySem.W.Frag} {mg : Str → Option Value} {base : Heap} {c m x qual : Str} {params : Arguments} {body : List Stmt} {scope : Scope} {f : Addr} {fd : FuncData} {Ns ps : List Str} {k m0 : Nat} {sp : SpD} {t : TS'}
    (F : FunD K x qual params body scope [] [] f fd) (cl : Cls K (He.ga K c)) (hm : Meth K (He.ga K c) m f) (b : Binds K fd ps []) (S : FnScope Ns ps scope) (hm0 : ∀ as M Q0, sp as M Q0 → M.length = m0)
    (hb : ∀ (cdv : Value) (A : Around) (outer : List Env) (s : Shared) (H : Hp) (E : XK) (G : Gd), RoomG k (A.deeper (PyProof.Rows.envOfC qual scope s.heap.objs.size f cdv)) → G.i0.length = m0 → VSs (cxOf C8.CX0 P w K mg base Ns qual scope f cdv A outer s H E).nox G body t)
    (hp : ∀ as M Q0, as.length = ps.length → sp as M Q0 → t (endsF M.length Q0) (startD Ns.length as) M) : CaM P w K mg base (k + 1) c m ps.length sp := by
  refine ⟨cl, f, fd, ps, ?_, hm, b⟩
  refine fn_g F S (fun vs H Q E ⟨as, M, i0, B, Q0, hn, hB, ra, h⟩ => by rw [← ra.length, hn]) fun cdv A outer s H vs Q E hr h => ?_
  obtain ⟨t', h1, h2⟩ := body_ok (X := (cxOf C8.CX0 P w K mg base Ns qual scope f cdv A outer s H E).nox) (Ns := Ns) m0 rfl (fun G hG => hb cdv A outer s H E G hr hG) hm0 hp h
  exact ⟨t', h1.nox, h2⟩
end VL
set_option Elab.async false
set_option linter.all false
set_option maxRecDepth 100000
set_option maxHeartbeats 2000000
namespace VL
open PySem PySem.Spec L2 RT RZ PyProof.Rows HT
/-- the j-th row of a class -/
def methS (s : Stmt) (j : Nat) : Stmt := match s with
  | .ClassDef _ _ _ body _ _ _ _ _ _ _ => body.getD j s
  | _ => s
section
variable {X : Cx} {G : Gd} {e : Expr} {p : PV} {pos : Pos} {cs : List (Str × List Str)} {f : Str}
theorem fldP {δ : DS} {M : Mem} {Q : QD} : eFld cs f (eP p) δ M Q = eP (poFld cs f p) δ M Q := by
  unfold eFld eP poFld
  cases p δ M <;> rfl
theorem ve_fldP (hC : ObC X.K cs) (he : VE X G e (eP p)) (hb : attributeBase e f X.env (eval e X.env) = eval e X.env := by rfl) : VE X G (.Attribute e f pos) (eP (poFld cs f p)) := by
  have h := ve_fld (pos := pos) hC he hb
  have e1 : eFld cs f (eP p) = eP (poFld cs f p) := by
    funext δ M Q
    exact fldP
  rw [e1] at h
  exact h
end
end VL
set_option Elab.async false
set_option linter.all false
set_option maxRecDepth 100000
set_option maxHeartbeats 4000000
namespace VL
open PySem PySem.Spec L2 RT RZ PyProof.Rows
end VL
set_option Elab.async false
set_option linter.all false
set_option maxRecDepth 100000
set_option maxHeartbeats 1000000
namespace VL
open PySem PySem.Spec L2 RT RZ PyProof.Rows TL
def txtsOf : List D → Option (List Str)
  | [] => some []
  | .str s :: ds => (txtsOf ds).map (s :: ·)
  | _ => none
theorem txtsOf_some : ∀ {ds : List D} {ys : List Str}, txtsOf ds = some ys → ds = ys.map .str
  | [], _, h => by cases h; rfl
  | d :: ds, ys, h => by
    cases d with
    | str s =>
      simp only [txtsOf] at h
      cases q : txtsOf ds with
      | none => rw [q] at h; cases h
      | some ms => rw [q] at h; cases h; rw [txtsOf_some q]; rfl
    | _ => cases h
theorem txtsOf_map (ys : List Str) : txtsOf (ys.map .str) = some ys := by
  induction ys with
  | nil => rfl
  | cons n ns ih => simp [txtsOf, ih]
def joinD (M : Mem) (o : Sv) (xs : List Sv) : Option Sv := match o, xs with
  | .d (.str a), [x] => (seqD M x).bind fun ds => (txtsOf ds).bind fun ys => gd ((ys.map (·.length)).sum + ys.length * a.length ≤ 16777216) (.d (.str (Txt.join a ys)))
  | _, _ => none
def splitD (_ : Mem) (o : Sv) (xs : List Sv) : Option Sv := match o, xs with
  | .d (.str a), [.d (.str b)] => gd ((b.length == 0) = false ∧ a.length + 2 ≤ sizeLine) (.d (.lst ((Txt.split a b).map .str)))
  | _, _ => none
/-- one sign in a text -/
def inSg (_ : Mem) (x y : Sv) : Option Sv := match x, y with
  | .d (.str a), .d (.str z) => match a.cps.toList with
    | [c] => some (blS (decide (c ∈ z.cps.toList)))
    | _ => none
  | _, _ => none
def intTD (_ : Mem) : List Sv → Option Sv
  | [.d (.str a)] => gd (a.length ≤ 640) () |>.bind fun _ => (PySem.intText? a).map intS
  | _ => none
def sgD (c : Nat) : D := .str ⟨#[c]⟩
def iTx (t : TE') : TI' := fun δ M Q => t δ M fun s M1 => match s with
  | .d (.str z) => z.length ≤ sizeLine ∧ Q (z.cps.toList.map sgD) (fun _ => True) M1
  | _ => False
section
variable {K : PySem.W.Frag} {X : Cx} {G : Gd} {e : Expr} {t : TE'} {N : Bool → Addr → Prop} {H : Hp} {ι : Ix}
theorem RDs.strs : ∀ {ys : List Str} {vs : List V}, RDs K N H ι (ys.map .str) vs → vs = ys.map V.str
  | [], _, h => h
  | y :: ys, _, h => by
    obtain ⟨x, r, rfl, h1, h2⟩ := h
    cases (show _ = _ from h1)
    rw [RDs.strs h2]; rfl
theorem RDs.of_strs : ∀ ys : List Str, RDs K N H ι (ys.map .str) (ys.map V.str)
  | [] => rfl
  | y :: ys => ⟨_, _, rfl, rfl, RDs.of_strs ys⟩
theorem rd_join : RdMt K (fun x xs H Q => ∃ a p, ∃ ys : List Str, x = .str a ∧ xs = [.ref p] ∧ (SqL K H p (ys.map V.str) ∨ SqT K H p (ys.map V.str)) ∧
    (ys.map (·.length)).sum + ys.length * a.length ≤ 16777216 ∧ Q (.str (Txt.join a ys)) H) (mPure joinD) := by
  intro G δ M ι σ H o xs v vs Q0 S ro rx h Q z
  obtain ⟨d, e, q⟩ := ok_elim h
  unfold joinD at e
  split at e
  · rename_i a x
    cases qs : seqD M x with
    | none => rw [qs] at e; cases e
    | some ds =>
      rw [qs] at e
      cases qt : txtsOf ds with
      | none => simp only [Option.bind_some, qt] at e; cases e
      | some ys =>
        simp only [Option.bind_some, qt] at e
        obtain ⟨hl, rfl⟩ := gd_some e
        cases (show _ = _ from ro)
        obtain ⟨y, rfl, ry⟩ := one_of rx
        obtain ⟨p, ws, rfl, hq, rw_⟩ := seq_of S ry qs
        rw [txtsOf_some qt] at rw_
        rw [rw_.strs] at hq
        exact ⟨a, p, ys, rfl, rfl, hq, hl, z _ M ι H _ q (Ex.refl _) (Kp.refl _ _) S rfl⟩
  · cases e
theorem rd_split : RdMt K (fun x xs H Q => ∃ a b, x = .str a ∧ xs = [.str b] ∧ (b.length == 0) = false ∧ a.length + 2 ≤ sizeLine ∧ rNewStrs (Txt.split a b) H Q) (mPure splitD) := by
  intro G δ M ι σ H o xs v vs Q0 S ro rx h Q z
  obtain ⟨d, e, q⟩ := ok_elim h
  unfold splitD at e
  split at e
  · rename_i a b
    obtain ⟨⟨hb, hl⟩, rfl⟩ := gd_some e
    cases (show _ = _ from ro)
    obtain ⟨y, rfl, ry⟩ := one_of rx
    cases (show _ = _ from ry)
    refine ⟨a, b, rfl, rfl, hb, hl, fun p hp => ?_⟩
    exact fin_lst (Q := Q) S (fun ι' H' w p k S' r => z _ M ι' H' w q p k S' r) (RDs.of_strs _) (by rw [List.length_map]; exact Nat.le_trans (PyProof.Rows.split_le a b) hl) hp
  · cases e
theorem rd_inSg : Rd2 K (fun x y H Q => ∃ (c : Nat) (z : Str), x = .str ⟨#[c]⟩ ∧ y = .str z ∧ Q (.bl (decide (c ∈ z.cps.toList))) H) inSg := by
  intro G δ M ι σ H x y v u d S rx ry e Q z
  unfold inSg at e
  split at e
  · rename_i a w
    split at e
    · rename_i c hc
      cases e
      cases (show _ = _ from rx); cases (show _ = _ from ry)
      exact ⟨c, w, by rw [show a = ⟨#[c]⟩ from ext_tl (by rw [show tl a = [c] from hc])], rfl, fin_same S z rfl⟩
    · cases e
  · cases e
theorem rd_intT : RdN K (fun xs H Q => ∃ a n, xs = [.str a] ∧ PySem.intText? a = some n ∧ a.length ≤ 640 ∧ Q (.int n) H) intTD := by
  intro G δ M ι σ H xs vs d S rx e Q z
  unfold intTD at e
  split at e
  · rename_i a
    by_cases hl : a.length ≤ 640
    · rw [gd_pos hl] at e
      cases qn : PySem.intText? a with
      | none => simp only [Option.bind_some, qn] at e; cases e
      | some n =>
        simp only [Option.bind_some, qn] at e
        cases e
        obtain ⟨y, rfl, ry⟩ := one_of rx
        cases (show _ = _ from ry)
        exact ⟨a, n, rfl, qn, hl, fin_same S z rfl⟩
    · unfold gd at e; rw [if_neg hl] at e; cases e
  · cases e
theorem vi_text {bd : Bool} {tg : Expr} (h : VE X G e t) : VI X G bd tg e (iTx t) := by
  have hi := pi_str (X := X) (tg := tg) h
  refine ⟨fun pins s σ H R I ⟨δ, M, ι, Q0, S, q, z⟩ => hi.run pins s σ H R I ?_⟩
  refine th1 S q fun x M1 ι1 H1 v q1 p1 k1 S1 r1 => ?_
  split at q1
  · rename_i y
    obtain ⟨hl, q1⟩ := q1
    cases (show _ = _ from r1)
    have hsz : y.cps.toList.length = y.cps.size := by simp
    refine ⟨y, rfl, z _ _ M1 ι1 H1 _ (fun _ => by rw [List.length_map, hsz]; exact hl) q1 p1 k1 S1 ?_⟩
    intro G2 δ2 M2 ι2 σ2 H2 hn2 S2 e2 k2 hg
    refine ⟨by show y.cps.size ≤ _; rw [List.length_map, hsz]; exact Nat.le_refl _, fun i d hd => ?_⟩
    rw [List.getElem?_map] at hd
    obtain ⟨c, hc, rfl⟩ := Option.map_eq_some_iff.mp hd
    have hlt := (List.getElem?_eq_some_iff.mp hc).1
    refine ⟨by show i < _; rw [← hsz]; exact hlt, fun x H3 yy => ?_⟩
    obtain ⟨rfl, c', hc', rfl⟩ := yy
    rw [Array.getElem?_toList] at hc
    rw [hc] at hc'; cases hc'
    exact ⟨.inl rfl, S2, Kp.refl _ _, rfl⟩
  · exact q1.elim
end
end VL
set_option Elab.async false
set_option linter.all false
set_option maxRecDepth 100000
set_option maxHeartbeats 2000000
namespace VL
open PySem PySem.Spec PyProof.Rows L2
section
variable {X : Cx} {K : PySem.W.Frag}
theorem call_strT (hgs : X.A.guards = some []) (hu : X.A.units + 200 < cLine) : CallR X (.type "str") (fun xs H Q => ((∃ i, xs = [V.int i] ∧ i.natAbs.log2 < 1920 ∧ Q (.str (toString i)) H) ∨ ∃ a, xs = [V.str a] ∧ Q (.str a) H) ∨ ((∃ a, xs = [.ref a]) ∧ rRepr X.K xs H Q)) := by
  refine (call_strX).or ?_
  intro pins s σ H xs us Q I r h
  obtain ⟨⟨a, rfl⟩, v, d, e, hd, hs, hn, hz, hdp, q⟩ := h
  cases e
  obtain ⟨u, rfl, rv⟩ := vals1 r
  obtain ⟨as, rd⟩ := Dp.reads I d _ u hd rv
  cases hd with
  | tup _ _ => cases rv; exact str_of_reads rd hs (PyData.noDict_hsm hn) hgs (by omega) (fun _ _ e => e) (fun h' u tk hk => ⟨.str _, H, I.kept hk, ⟨_, rfl⟩, q⟩) hz
  | lst _ _ => cases rv; exact str_of_reads rd hs (PyData.noDict_hsm hn) hgs (by omega) (fun _ _ e => e) (fun h' u tk hk => ⟨.str _, H, I.kept hk, ⟨_, rfl⟩, q⟩) hz
def strTD (M : Mem) : List Sv → Option Sv
  | [.d (.tup ds)] => gd (okR (.tup ds) = true) (.d (.str (PyData.shown (py (.tup ds)))))
  | xs => strD M xs
theorem rd_strT : RdN K (fun xs H Q => ((∃ i, xs = [V.int i] ∧ i.natAbs.log2 < 1920 ∧ Q (.str (toString i)) H) ∨ ∃ a, xs = [V.str a] ∧ Q (.str a) H) ∨ ((∃ a, xs = [.ref a]) ∧ rRepr K xs H Q)) strTD := by
  intro G δ M ι σ H xs vs d S rx e Q z
  unfold strTD at e
  split at e
  · rename_i ds
    obtain ⟨hc, rfl⟩ := gd_some e
    obtain ⟨v, rfl, r⟩ := one_of rx
    unfold okR at hc
    simp only [Bool.and_eq_true, decide_eq_true_eq] at hc
    have hr : ∃ a, v = .ref a := by
      obtain ⟨a, _, h, _⟩ := (show _ from r)
      exact ⟨a, h⟩
    obtain ⟨a, rfl⟩ := hr
    exact .inr ⟨⟨a, rfl⟩, _, _, rfl, rsv_dp S r hc.1, hc.2.1, nod_py _, hc.2.2.1, hc.2.2.2, fin_same S z rfl⟩
  · exact .inl (rd_str _ _ _ _ _ _ _ _ _ S rx e _ z)
end
end VL
set_option Elab.async false
set_option linter.all false
set_option maxRecDepth 100000
set_option maxHeartbeats 2000000
namespace VL
open PySem PySem.Spec PyProof.Rows L2
def lookT (z : Str) : List (Str × Int) → Option Int
  | [] => none
  | q :: r => if q.1 = z then some q.2 else lookT z r
/-- a written table at an address -/
structure TabK (K : PySem.W.Frag) (w : World) (a : Addr) (kvs : List (Str × Int)) : Prop where
  kd : ∃ es n, KDict K w a es n
  has : ∀ z i, lookT z kvs = some i → ∃ t, PySem.W.nsIn K a z = some (some (.int i t))
  non : ∀ z, lookT z kvs = none → PySem.W.nsIn K a z = some none
def tabE (e : DictEntry) : Option (Str × Int) := match e.key, e.val with
  | .str x _, .int i _ => some (x, i)
  | _, _ => none
theorem tabE_some {e : DictEntry} {q : Str × Int} (h : tabE e = some q) : (∃ t, e.key = .str q.1 t) ∧ ∃ t, e.val = .int q.2 t := by
  unfold tabE at h
  split at h
  · rename_i x t i u h1 h2
    cases h
    exact ⟨⟨t, h1⟩, ⟨u, h2⟩⟩
  · cases h
theorem tab_find {z : Str} : ∀ {es : List DictEntry} {kvs : List (Str × Int)}, es.map tabE = kvs.map some →
    (match lookT z kvs with | some i => ∃ e t, es.find? (·.key.isStr z) = some e ∧ e.val = .int i t | none => es.find? (·.key.isStr z) = none)
  | [], [], _ => rfl
  | [], _ :: _, h => by cases h
  | _ :: _, [], h => by cases h
  | e :: es, q :: kvs, h => by
    rw [List.map_cons, List.map_cons] at h
    injection h with h1 h2
    obtain ⟨⟨t, hk⟩, ⟨u, hv⟩⟩ := tabE_some h1
    have hs : e.key.isStr z = decide (q.1 = z) := by
      rw [hk]
      show (q.1 == z) = _
      by_cases hz : q.1 = z <;> simp [hz]
    unfold lookT
    by_cases hz : q.1 = z
    · rw [if_pos hz]
      exact ⟨e, u, by rw [List.find?_cons_of_pos (by rw [hs]; exact decide_eq_true hz)], hv⟩
    · rw [if_neg hz, List.find?_cons_of_neg (by rw [hs]; simp [hz])]
      exact tab_find h2
theorem tab_ref : ∀ {es : List DictEntry} {kvs : List (Str × Int)}, es.map tabE = kvs.map some → es.any (·.refKey) = false
  | [], _, _ => rfl
  | _ :: _, [], h => by cases h
  | e :: es, q :: kvs, h => by
    rw [List.map_cons, List.map_cons] at h
    injection h with h1 h2
    obtain ⟨⟨t, hk⟩, _⟩ := tabE_some h1
    rw [List.any_cons, tab_ref h2]
    have : e.refKey = false := by unfold DictEntry.refKey; rw [hk]
    rw [this]; rfl
def tabB (K : PySem.W.Frag) (t : Str × List (Str × Int)) : Bool := match K.lookup (He.ga K t.1) with
  | some ⟨_, _, .dict es _, _⟩ => decide (es.toList.map tabE = t.2.map some)
  | _ => false
theorem tabB_ok {K : PySem.W.Frag} {w : World} {x : Str} {kvs : List (Str × Int)} (h : tabB K (x, kvs) = true) (hd : He.dicW K (He.ga K x) = some (He.keysIn w.params (kvs.map (·.1)))) : TabK K w (He.ga K x) kvs := by
  obtain ⟨es, n, D⟩ := He.dicW_ok hd
  have h2 := D.at_
  unfold tabB at h
  rw [h2] at h
  have h3 : es.toList.map tabE = kvs.map some := of_decide_eq_true h
  refine ⟨⟨es, n, D⟩, fun z i hz => ?_, fun z hz => ?_⟩
  · have := tab_find (z := z) h3
    rw [hz] at this
    obtain ⟨e, t, e1, e2⟩ := this
    refine ⟨t, ?_⟩
    unfold PySem.W.nsIn
    rw [h2]
    dsimp only
    rw [e1]
    show some (some e.val) = _
    rw [e2]
  · have := tab_find (z := z) h3
    rw [hz] at this
    have this : es.toList.find? (·.key.isStr z) = none := this
    unfold PySem.W.nsIn
    rw [h2]
    dsimp only
    rw [this, tab_ref h3]; rfl
def inTab (kvs : List (Str × Int)) (_ : Mem) : Sv → Option Sv
  | .d (.str z) => some (.d (.bl (lookT z kvs).isSome))
  | _ => none
def atTab (kvs : List (Str × Int)) (_ : Mem) : Sv → Option Sv
  | .d (.str z) => (lookT z kvs).map fun i => .d (.int i)
  | _ => none
section
variable {X : Cx} {G : Gd} {e : Expr} {te : TE'} {x : Str} {a : Addr} {kvs : List (Str × Int)} {pos p : Pos}
theorem vt_inTab (hg : Gl X x) (hm : X.mg x = some (.ref a)) (T : TabK X.K X.w a kvs) (ha : VE X G e te) (hd : (x == ("__debug__" : Str)) = false := by decide) : VT X G (.Compare e [.In] [.Name x p] pos) (tTb (eo1 (inTab kvs) te)) := by
  obtain ⟨es, n, D⟩ := T.kd
  have h := pt_cmpR (pos := pos) (op_in_kd D) ha (pe_glob (pos := p) (v := .ref a) hg hm rfl hd) rfl
  refine ⟨fun pins s σ H Q I q => h.run pins s σ H Q I ?_⟩
  obtain ⟨δ, M, ι, Q0, S, h, z⟩ := q
  refine th1 S h fun y M1 ι1 H1 v h1 p1 k1 S1 r1 => ?_
  obtain ⟨d, e, h1⟩ := ok_elim h1
  unfold inTab at e
  split at e
  · rename_i s
    cases e
    have rv : v = .str s := r1
    subst rv
    cases hl : lookT s kvs with
    | none =>
      rw [hl] at h1
      exact ⟨s, none, rfl, rfl, T.non s hl, _, rfl, z _ M1 ι1 H1 h1 p1 k1 S1⟩
    | some i =>
      rw [hl] at h1
      obtain ⟨t, ht⟩ := T.has s i hl
      exact ⟨s, _, rfl, rfl, ht, _, rfl, z _ M1 ι1 H1 h1 p1 k1 S1⟩
  · cases e
theorem VT.pureT1 {a : Expr} {f : Mem → Sv → Option Sv} {v : PV} (h : VT X G a (tTb (eo1 f (eP v)))) : VT X G a (cP (bB (po1 f v))) := h.weak fun δ M Q h => by
  unfold cP bB po1 at h
  rw [ok_bind, ok_bind] at h
  exact h
theorem ve_atTab (hg : Gl X x) (hm : X.mg x = some (.ref a)) (T : TabK X.K X.w a kvs) (ha : VE X G e te) (hs : PlainIx e := by first | exact fun _ _ => rfl) (hd : (x == ("__debug__" : Str)) = false := by decide) : VE X G (.Subscript (.Name x p) e pos) (eo1 (atTab kvs) te) := by
  obtain ⟨es, n, D⟩ := T.kd
  refine PE.weak (pe_ix ix_kdict (pe_glob (v := .ref a) hg hm rfl hd) ha hs) fun σ H Q h => ?_
  obtain ⟨δ, M, ι, Q0, S, h, z⟩ := h
  refine th1 S h fun y M1 ι1 H1 v h1 p1 k1 S1 r1 => ?_
  obtain ⟨d, e, h1⟩ := ok_elim h1
  unfold atTab at e
  split at e
  · rename_i s
    have rv : v = .str s := r1
    subst rv
    obtain ⟨i, hl, e2⟩ := Option.map_eq_some_iff.mp e
    subst e2
    obtain ⟨t, ht⟩ := T.has s i hl
    exact ⟨a, s, .int i, rfl, rfl, ⟨es, n, _, D.at_, D.lit, ht, ⟨t, rfl⟩⟩, z _ M1 ι1 H1 _ h1 p1 k1 S1 rfl⟩
  · cases e
end
abbrev AlVT : Type := AlV × Bool × List (Option (List (Option (Str × Int))))
abbrev TabL : Type := List (Str × List (Str × Int))
def obsVT (fa : List He.Fa) (fn : List He.DefD) (cs : List (Str × D)) (ts : TabL) (K : PySem.W.Frag) : AlVT := (obsV fa fn cs K, ts.all (tabB K), ts.map fun t => He.dicW K (He.ga K t.1))
def valVT (fn : List He.DefD) (ts : TabL) (w : World) : AlVT := ((He.valD fn, true), true, ts.map fun t => some (He.keysIn w.params (t.2.map (·.1))))
def obsVTG (n : Nat) (fa : List He.Fa) (fn : List He.DefD) (cs : List (Str × D)) (ts : TabL) (g : Addr → Option Obj) : AlVT := obsVT fa fn cs ts (He.frG g (He.asD g n))
def SaysVT (fa : List He.Fa) (fn : List He.DefD) (cs : List (Str × D)) (ts : TabL) (w : World) (K : PySem.W.Frag) : Prop := obsVT fa fn cs ts K = valVT fn ts w
def hookVT (n : Nat) (fa : List He.Fa) (fn : List He.DefD) (cs : List (Str × D)) (ts : TabL) : PySem.W.Hook where
  α := AlVT
  obs := fun s => obsVTG n fa fn cs ts s.heap.get?
  val := fun w => valVT fn ts w
  says := fun w h => ∃ K : PySem.W.Frag, K.In h ∧ SaysVT fa fn cs ts w K
  of := fun _ _ e => ⟨_, He.frG_in, e⟩
  keeps := fun _ _ _ ⟨K, hK, c⟩ k => ⟨K, PySem.W.Frag.In.keeps hK k, c⟩
theorem obsVTG_eq {n : Nat} {fa : List He.Fa} {fn : List He.DefD} {cs : List (Str × D)} {ts : TabL} {g : Addr → Option Obj} {s : Shared} (h : ∀ a, g a = s.heap.get? a) : obsVTG n fa fn cs ts g = (hookVT n fa fn cs ts).obs s := by
  have e : g = s.heap.get? := funext h
  rw [e] <;> rfl
theorem SaysVT.v {fa : List He.Fa} {fn : List He.DefD} {cs : List (Str × D)} {ts : TabL} {w : World} {K : PySem.W.Frag} (c : SaysVT fa fn cs ts w K) : SaysV fa fn cs K := congrArg (fun z : AlVT => z.1) c
theorem SaysVT.tab {fa : List He.Fa} {fn : List He.DefD} {cs : List (Str × D)} {ts : TabL} {w : World} {K : PySem.W.Frag} (c : SaysVT fa fn cs ts w K) (i : Nat) {x : Str} {kvs : List (Str × Int)} (hi : ts[i]? = some (x, kvs) := by rfl) : TabK K w (He.ga K x) kvs := by
  have c1 : ts.all (tabB K) = true := congrArg (fun z : AlVT => z.2.1) c
  have c2 : (ts.map fun t => He.dicW K (He.ga K t.1)) = ts.map fun t => some (He.keysIn w.params (t.2.map (·.1))) := congrArg (fun z : AlVT => z.2.2) c
  have e2 := congrArg (·[i]?) c2
  simp only [List.getElem?_map, hi, Option.map_some, Option.some.injEq] at e2
  exact tabB_ok (List.all_eq_true.mp c1 _ (List.mem_of_getElem? hi)) e2
end VL
set_option Elab.async false
set_option linter.all false
set_option maxRecDepth 100000
set_option maxHeartbeats 2000000
namespace VL
open PySem PySem.Spec L2 RT RZ PyProof.Rows
end VL
set_option Elab.async false
set_option linter.all false
set_option maxRecDepth 100000
set_option maxHeartbeats 2000000
namespace VL
open PySem PySem.Spec L2 RT RZ PyProof.Rows
end VL
set_option Elab.async false
set_option linter.all false
set_option maxRecDepth 100000
set_option maxHeartbeats 2000000
namespace VL
open PySem PySem.Spec L2 RT RZ PyProof.Rows HT
def dropKD (kvs : List (Key × D)) (k : Key) : List (Key × D) := kvs.filter fun kv => decide (kv.1 ≠ k)
section
variable {K : PySem.W.Frag} {X : Cx} {N : Bool → Addr → Prop} {H : Hp} {ι : Ix} {G : Gd} {δ : DS} {M : Mem} {σ : L2.St}
theorem RK.drop {k : Key} : ∀ {kvs : List (Key × D)} {ws : List (Key × V)}, RK K N H ι kvs ws → RK K N H ι (dropKD kvs k) (dropK ws k)
  | [], ws, h => by rw [h.nil_inv]; exact RK.nil
  | (j, d) :: kvs, ws, h => by
    obtain ⟨v, ws', rfl, r, h'⟩ := h.inv
    have ih := RK.drop (k := k) h'
    unfold dropKD dropK at ih ⊢
    by_cases e : j = k
    · rw [List.filter_cons_of_neg (by simp [e]), List.filter_cons_of_neg (by simp [e])]; exact ih
    · rw [List.filter_cons_of_pos (by simp [e]), List.filter_cons_of_pos (by simp [e])]; exact RK.cons r ih
end
def sFldA (cs : List (Str × List Str)) (f : Str) (j : Int) (to : TE') : TS' := fun E δ M => to δ M fun x M1 => match fldD cs f M1 x with
  | some (.d (.int i)) => ok (fldPut cs f M1 (.d (.int (i + j))) x) fun M3 => E.nx δ M3
  | _ => False
section
variable {X : Cx} {G : Gd} {o : Expr} {to : TE'} {pos pos' p : Pos} {cs : List (Str × List Str)} {f : Str} {j : Int} {jj : Nat}
theorem vs_fldA (hC : ObC X.K cs) (ho : VE X G o to) : VS X G (.AugAssign (.Attribute o f pos') .Add (.Constant (.int j) jj p) pos) (sFldA cs f j to) := by
  refine PS.weak (ps_fldaug ho pe_int in_add) fun D σ H ⟨δ, M, ι, E0, S, h, z⟩ => ?_
  refine th1 S h fun x M1 ι1 H1 u q1 p1 k1 S1 r1 => ?_
  split at q1
  · rename_i i e
    obtain ⟨M3, e1, q3⟩ := ok_elim q1
    unfold fldPut at e1
    split at e1
    · rename_i i' n hx
      cases hx
      split at e1
      · rename_i c fs its hM
        obtain ⟨gs, hg, e1⟩ := Option.bind_eq_some_iff.mp e1
        split at e1
        · rename_i hf
          obtain ⟨its', hp, rfl⟩ := Option.map_eq_some_iff.mp e1
          unfold fldD at e
          simp only [hM, hg, Option.bind_some, if_pos hf.1] at e
          obtain ⟨it, hl9, e9⟩ := Option.map_eq_some_iff.mp e
          obtain ⟨a, rfl, ha, xs, ⟨dx, hH, hdx, hnx, hlen⟩, hl, r⟩ := S1.mem.at r1 hM (fun z => nomatch z)
          obtain ⟨w, hw, rw_⟩ := r.look hl9
          have rw2 := rw_.sv
          rw [e9] at rw2
          cases (show w = .int i from rw2)
          obtain ⟨hc, hnf⟩ := hC _ (look_mem hg)
          obtain ⟨xs', g1, g2, g3, g4, g5⟩ := putI_ok r hp
          have hm := List.mem_of_getElem? ha
          have k : Kp ι1 H1 ι1 (upd H1 a (.ins (He.ga X.K c) dx (fs.zip xs'))) := Kp.turned hm
          have hda : dx ≠ a := fun z => hnx (by rw [z]; exact hm)
          refine ⟨a, _, dx, _, .int i, rfl, hH, hc, hnf f hf.1, hw, i, j, rfl, rfl, dx, _, hH, ?_, ?_⟩
          · rw [List.length_zip]; omega
          · rw [g1]
            refine z.nx _ _ ι1 _ _ q3 p1 (k1.trans k) (S1.turned ha ⟨xs', ⟨dx, upd_same, by rw [upd_ne hda]; exact hdx, hnx, by rw [g4]; exact hlen⟩, ?_, g2.mono k (Ex.refl _) fun _ _ _ _ z => z⟩ (fun t ht => S1.mem.wf _ _ hM t (g5 t ht)) ⟨fun C dx2 fs2 q => ?_, fun C dx2 fs2 q => ?_⟩)
            · have e8 := g2.length
              have e9 := r.length
              omega
            · rw [hH] at q; cases q
              exact ⟨_, rfl, g3⟩
            · cases q
              exact ⟨_, hH⟩
        · cases e1
      · cases e1
    · cases e1
  · exact q1.elim
end
end VL
set_option Elab.async false
set_option linter.all false
set_option maxRecDepth 100000
set_option maxHeartbeats 1000000
namespace Zk60
open PySem PySem.Spec L2 RT RZ VL
def top (i : Nat) : Stmt := PySem.Challenge.pw_countforms_k60_claims_written.main.body.getD i (.Pass ⟨0, 0, 0, 0⟩)
def c_PARTED : D := (.tup [(.str "and"), (.str "or")])
def c_FIGURES : D := (.str "0123456789")
def c_MOST_FIGURES : D := (.int 4)
def tab_INNER : List (Str × Int) := [("yes", 0), ("no", 0), ("not", 1), ("same", 2)]
def clsT : List (Str × List Str) := [("Reader", ["many", "words", "place"])]
abbrev s_number_in : Stmt := top 8
def N_number_in : List Str := ["word", "sign"]
def t_number_in  : TS' :=
  (sSeq (sIf (tOrr (cP (bNt (bB (pCh leD leD (pC (.int 1)) (poN lenD [(pV 0)]) (pC c_MOST_FIGURES))))) (tNt (tTr (eoN allD (aCons (eFz (fLc (iTx (eP (pV 0))) (.nm 1) tYs (eP (po2 inSg (pV 1) (pC c_FIGURES))) [1])) (aP []))))))
  (sRet (eP (pC .non)))
  sNil)
  (sSeq (sIf (cP (bAn (bB (po2 eqD (po2 ixD (pV 0) (pC (.int 0))) (pC (.str "0")))) (bB (po2 gtD (poN lenD [(pV 0)]) (pC (.int 1))))))
  (sRet (eP (pC .non)))
  sNil)
  (sRet (eP (poN intTD [(pV 0)])))))
theorem nd_number_in : N_number_in.Nodup := by decide
theorem sc_number_in : FnScope N_number_in ["word"] (defScope s_number_in) := C8.fnScope_by (by decide +kernel)
theorem d_number_in {P : Program} {w : World} {K : PySem.W.Frag} {mg : Str → Option Value} {base : Heap} {f : Addr} {k : Nat} (m_len : mg "len" = none) (m_all : mg "all" = none) (m_int : mg "int" = none) {u_MOST_FIGURES : Value} (hm_MOST_FIGURES : mg "MOST_FIGURES" = some u_MOST_FIGURES) (kv_MOST_FIGURES : KV K c_MOST_FIGURES u_MOST_FIGURES) {u_FIGURES : Value} (hm_FIGURES : mg "FIGURES" = some u_FIGURES) (kv_FIGURES : KV K c_FIGURES u_FIGURES) :
    ∀ (cdv : Value) (A : Around) (outer : List Env) (s : Shared) (H : Hp) (E : XK) (G : Gd), RoomG k (A.deeper (PyProof.Rows.envOfC "number_in" (defScope s_number_in) s.heap.objs.size f cdv)) → G.i0.length = 0 →
      VSs (cxOf C8.CX0 P w K mg base N_number_in "number_in" (defScope s_number_in) f cdv A outer s H E).nox G (defBody s_number_in) (t_number_in ) := by
  intro cdv A outer s H E G hr hG
  have hU : ∀ n : Nat, n ≤ 200 → (A.deeper (PyProof.Rows.envOfC "number_in" (defScope s_number_in) s.heap.objs.size f cdv)).units + n < cLine := fun n hn => by have := hr.rm.un; omega
  exact (vss_cons (vs_if (VW.vt (vw_or (VT.pNot (vt_not (VT.pCh (vt_chain op_le op_le rd_le rd_le ve_int (VE.pureN (ve_callB call_lenX rd_len rfl m_len bt_len (va_p (ve_v 0) va_p0))) (ve_glob rfl hm_MOST_FIGURES kv_MOST_FIGURES))))) (vw_or1 (vt_not (vt_val (ve_callB (cr_all rfl) rd_all rfl m_all bt_all (va_cons (VF.fz (vf_lc (own := [("sign", 1)]) rfl nd_number_in (vi_text (ve_v 0)) (blkOk_by (show blkC N_number_in (defScope s_number_in) _ _ = true by decide +kernel)) (fun s H C cl fp => pg_name nd_number_in rfl (by first | exact Or.inl rfl | exact Or.inr rfl) (by first | exact Or.inr rfl | exact Or.inl rfl)) (fun s H C cl fp G hG' => vts_nil) (fun s H C cl fp G hG' => (VE.pure2 (ve_cmp op_in_sign rd_inSg (ve_v 1) (ve_glob rfl hm_FIGURES kv_FIGURES) rfl))) (by decide))) va_p0))))))) (vss_one (vs_ret ve_non)) vss_nil)
  (vss_cons (vs_if (VW.vt (VW.pAn (vw_and (VT.pureB2 (vt_cmp (op_eqX (hU 64 (by decide))) rd_eq (VE.pure2 (ve_idx (ve_v 0) ve_int)) ve_str (nomark _))) (vw_and1 (VT.pureB2 (vt_cmp op_gt rd_gt (VE.pureN (ve_callB call_lenX rd_len rfl m_len bt_len (va_p (ve_v 0) va_p0))) ve_int (nomark _))))))) (vss_one (vs_ret ve_non)) vss_nil)
  (vss_one (vs_ret (VE.pureN (ve_callTy call_int_str rd_intT rfl m_int bt_int (va_p (ve_v 0) va_p0)))))))
abbrev s_claim_words : Stmt := top 9
def N_claim_words : List Str := ["claim", "word", "one", "words", "inner"]
def t_claim_words (sp_claim_words : SpD) : TS' :=
  (sSeq (sSet 1 (eP (po2 ixD (pV 0) (pC (.int 0)))))
  (sSeq (sIf (cP (bB (po2 eqD (pV 1) (pC (.str "name")))))
  (sRet (eNw (fP (plLst [(poN strD [(po2 ixD (pV 0) (pC (.int 1)))])]))))
  sNil)
  (sSeq (sIf (cP (bB (po1 (inTab tab_INNER) (pV 1))))
  (sPar 3 4 (aCons (eNw (fP (plLst [(pV 1)]))) (aP [(pFz (plN listF [(poSl (pV 0) (poI (pC (.int 1))) poNo)]))])))
  (sPar 3 4 (aCons (eNw (fP (plLst [(pV 1), (poN strD [(poN lenD [(po2 ixD (pV 0) (po1 negD (pC (.int 1))))])])]))) (aP [(pFz (plN listF [(po2 ixD (pV 0) (po1 negD (pC (.int 1))))]))]))))
  (sSeq (sIf (cP (bB (po2 eqD (pV 1) (pC (.str "least")))))
  (sSet 3 (eNw (fP (plLst [(pV 1), (poN strD [(po2 ixD (pV 0) (pC (.int 1)))]), (poN strD [(poN lenD [(po2 ixD (pV 0) (pC (.int 2)))])])]))))
  sNil)
  (sSeq (sFor (iPq (pV 4)) (gNm 2)
  (sDrop (eMt "list" mExt (eP (pV 3)) (aCons (eSeal 0 (eCall [false] sp_claim_words (aP [(pV 2)]))) (aP [])))))
  (sRet (eP (pV 3))))))))
theorem nd_claim_words : N_claim_words.Nodup := by decide
theorem sc_claim_words : FnScope N_claim_words ["claim"] (defScope s_claim_words) := C8.fnScope_by (by decide +kernel)
theorem d_claim_words {P : Program} {w : World} {K : PySem.W.Frag} {mg : Str → Option Value} {base : Heap} {f : Addr} {k : Nat} (m_str : mg "str" = none) (m_list : mg "list" = none) (m_len : mg "len" = none) (ht_INNER : mg "INNER" = some (.ref (He.ga K "INNER"))) (tb_INNER : TabK K w (He.ga K "INNER") tab_INNER) {sp_claim_words : SpD} {k_claim_words : Nat} (ca_claim_words : Ca P w K mg base k_claim_words "claim_words" 1 sp_claim_words) (hk_claim_words : k_claim_words ≤ k) :
    ∀ (cdv : Value) (A : Around) (outer : List Env) (s : Shared) (H : Hp) (E : XK) (G : Gd), RoomG k (A.deeper (PyProof.Rows.envOfC "claim_words" (defScope s_claim_words) s.heap.objs.size f cdv)) → G.i0.length = 0 →
      VSs (cxOf C8.CX0 P w K mg base N_claim_words "claim_words" (defScope s_claim_words) f cdv A outer s H E).nox G (defBody s_claim_words) (t_claim_words sp_claim_words) := by
  intro cdv A outer s H E G hr hG
  have hU : ∀ n : Nat, n ≤ 200 → (A.deeper (PyProof.Rows.envOfC "claim_words" (defScope s_claim_words) s.heap.objs.size f cdv)).units + n < cLine := fun n hn => by have := hr.rm.un; omega
  exact (vss_cons (vs_set nd_claim_words rfl (by first | exact Or.inl rfl | exact Or.inr rfl) (VE.pure2 (ve_idx (ve_v 0) ve_int)))
  (vss_cons (vs_if (VT.pureB2 (vt_cmp (op_eqX (hU 64 (by decide))) rd_eq (ve_v 1) ve_str (nomark _))) (vss_one (vs_ret (VF.nw (VF.pLst (vf_lst (va_p (VE.pureN (ve_callTy call_strX rd_str rfl m_str bt_str (va_p (VE.pure2 (ve_idx (ve_v 0) ve_int)) va_p0))) va_p0)))))) vss_nil)
  (vss_cons (vs_if (VT.pureT1 (vt_inTab rfl ht_INNER tb_INNER (ve_v 1))) (vss_one (vs_par rfl nd_claim_words rfl rfl (by decide) rfl rfl (va_cons (VF.nw (VF.pLst (vf_lst (va_p (ve_v 1) va_p0)))) (va_p (VF.pure (VF.pN (vf_callTy call_list_of rd_list rfl m_list bt_list (va_p (ve_slice (ve_v 0) (vo_some ve_int) vo_none) va_p0)))) va_p0)) rfl)) (vss_one (vs_par rfl nd_claim_words rfl rfl (by decide) rfl rfl (va_cons (VF.nw (VF.pLst (vf_lst (va_p (ve_v 1) (va_p (VE.pureN (ve_callTy call_strX rd_str rfl m_str bt_str (va_p (VE.pureN (ve_callB call_lenX rd_len rfl m_len bt_len (va_p (VE.pure2 (ve_idx (ve_v 0) (VE.pure1 (ve_neg ve_int)))) va_p0))) va_p0))) va_p0))))) (va_p (VF.pure (VF.pN (vf_callTy call_list_of rd_list rfl m_list bt_list (va_p (VE.pure2 (ve_idx (ve_v 0) (VE.pure1 (ve_neg ve_int)))) va_p0)))) va_p0)) rfl)))
  (vss_cons (vs_if (VT.pureB2 (vt_cmp (op_eqX (hU 64 (by decide))) rd_eq (ve_v 1) ve_str (nomark _))) (vss_one (vs_set nd_claim_words rfl (by first | exact Or.inl rfl | exact Or.inr rfl) (VF.nw (VF.pLst (vf_lst (va_p (ve_v 1) (va_p (VE.pureN (ve_callTy call_strX rd_str rfl m_str bt_str (va_p (VE.pure2 (ve_idx (ve_v 0) ve_int)) va_p0))) (va_p (VE.pureN (ve_callTy call_strX rd_str rfl m_str bt_str (va_p (VE.pureN (ve_callB call_lenX rd_len rfl m_len bt_len (va_p (VE.pure2 (ve_idx (ve_v 0) ve_int)) va_p0))) va_p0))) va_p0)))))))) vss_nil)
  (vss_cons (vs_for (bd := false) PassesOwn.never rfl (vi_pq (ve_v 4)) (vg_name nd_claim_words rfl (by first | exact Or.inl rfl | exact Or.inr rfl)) (vss_one (vs_expr (ve_mt F.plainAttrs_list F.slot_list_extend rfl mt_extend rd_ext (ve_v 3) (va_cons (VE.seal hG (ve_call [false] ca_claim_words hr hk_claim_words rfl (va_p (ve_v 2) va_p0))) va_p0)))))
  (vss_one (vs_ret (ve_v 3))))))))
abbrev s_claim_text : Stmt := top 10
def N_claim_text : List Str := ["claim"]
def t_claim_text (sp_claim_words : SpD) : TS' :=
  (sRet (eMt "str" (mPure joinD) (eP (pC (.str " "))) (aCons (eSeal 0 (eCall [false] sp_claim_words (aP [(pV 0)]))) (aP []))))
theorem sc_claim_text : FnScope N_claim_text ["claim"] (defScope s_claim_text) := C8.fnScope_by (by decide +kernel)
theorem d_claim_text {P : Program} {w : World} {K : PySem.W.Frag} {mg : Str → Option Value} {base : Heap} {f : Addr} {k : Nat} {sp_claim_words : SpD} {k_claim_words : Nat} (ca_claim_words : Ca P w K mg base k_claim_words "claim_words" 1 sp_claim_words) (hk_claim_words : k_claim_words ≤ k) :
    ∀ (cdv : Value) (A : Around) (outer : List Env) (s : Shared) (H : Hp) (E : XK) (G : Gd), RoomG k (A.deeper (PyProof.Rows.envOfC "claim_text" (defScope s_claim_text) s.heap.objs.size f cdv)) → G.i0.length = 0 →
      VSs (cxOf C8.CX0 P w K mg base N_claim_text "claim_text" (defScope s_claim_text) f cdv A outer s H E).nox G (defBody s_claim_text) (t_claim_text sp_claim_words) := by
  intro cdv A outer s H E G hr hG
  have hU : ∀ n : Nat, n ≤ 200 → (A.deeper (PyProof.Rows.envOfC "claim_text" (defScope s_claim_text) s.heap.objs.size f cdv)).units + n < cLine := fun n hn => by have := hr.rm.un; omega
  exact (vss_one (vs_ret (ve_mt F.plainAttrs_str F.slot_str_join rfl mt_join rd_join ve_str (va_cons (VE.seal hG (ve_call [false] ca_claim_words hr hk_claim_words rfl (va_p (ve_v 0) va_p0))) va_p0))))
abbrev s_Reader____init__ : Stmt := methS (top 11) 0
def N_Reader____init__ : List Str := ["self", "many", "words"]
def t_Reader____init__  : NS' :=
  (nSeq (nSet "many" (eP (pV 1)))
  (nSeq (nSet "words" (eP (pV 2)))
  (nSet "place" (eP (pC (.int 0))))))
theorem sc_Reader____init__ : FnScope N_Reader____init__ ["self", "many", "words"] (defScope s_Reader____init__) := C8.fnScope_by (by decide +kernel)
theorem d_Reader____init__ {P : Program} {w : World} {K : PySem.W.Frag} {mg : Str → Option Value} {base : Heap} {f : Addr} {k : Nat} (hcl : Cls K (He.ga K "Reader")) (hna_many : NoAttr K (He.ga K "Reader") "many") (hna_words : NoAttr K (He.ga K "Reader") "words") (hna_place : NoAttr K (He.ga K "Reader") "place") :
    ∀ (cdv : Value) (A : Around) (outer : List Env) (s : Shared) (H : Hp) (E : XK) (G : Gd), RoomG k (A.deeper (PyProof.Rows.envOfC "Reader.__init__" (defScope s_Reader____init__) s.heap.objs.size f cdv)) → G.i0.length = 0 →
      PSs (cxOf C8.CX0 P w K mg base N_Reader____init__ "Reader.__init__" (defScope s_Reader____init__) f cdv A outer s H E).nox (defBody s_Reader____init__) (lN K G (He.ga K "Reader") (t_Reader____init__ )) := by
  intro cdv A outer s H E G hr hG
  have hU : ∀ n : Nat, n ≤ 200 → (A.deeper (PyProof.Rows.envOfC "Reader.__init__" (defScope s_Reader____init__) s.heap.objs.size f cdv)).units + n < cLine := fun n hn => by have := hr.rm.un; omega
  exact (vn_cons (vn_set hcl hna_many rfl (by first | exact Or.inl rfl | exact Or.inr rfl) (ve_v 1))
  (vn_cons (vn_set hcl hna_words rfl (by first | exact Or.inl rfl | exact Or.inr rfl) (ve_v 2))
  (vn_one (vn_set hcl hna_place rfl (by first | exact Or.inl rfl | exact Or.inr rfl) ve_int))))
abbrev s_Reader__next_word : Stmt := methS (top 11) 1
def N_Reader__next_word : List Str := ["self"]
def t_Reader__next_word  : TS' :=
  (sSeq (sIf (cP (bB (po2 eqD (poFld clsT "place" (pV 0)) (poN lenD [(poFld clsT "words" (pV 0))]))))
  sStop
  sNil)
  (sSeq (sFldA clsT "place" 1 (eP (pV 0)))
  (sRet (eP (po2 ixD (poFld clsT "words" (pV 0)) (po2 subD (poFld clsT "place" (pV 0)) (pC (.int 1))))))))
theorem sc_Reader__next_word : FnScope N_Reader__next_word ["self"] (defScope s_Reader__next_word) := C8.fnScope_by (by decide +kernel)
theorem d_Reader__next_word {P : Program} {w : World} {K : PySem.W.Frag} {mg : Str → Option Value} {base : Heap} {f : Addr} {k : Nat} (m_len : mg "len" = none) (hC : ObC K clsT) :
    ∀ (cdv : Value) (A : Around) (outer : List Env) (s : Shared) (H : Hp) (E : XK) (G : Gd), RoomG k (A.deeper (PyProof.Rows.envOfC "Reader.next_word" (defScope s_Reader__next_word) s.heap.objs.size f cdv)) → G.i0.length = 1 →
      VSs (cxOf C8.CX0 P w K mg base N_Reader__next_word "Reader.next_word" (defScope s_Reader__next_word) f cdv A outer s H E).nox G (defBody s_Reader__next_word) (t_Reader__next_word ) := by
  intro cdv A outer s H E G hr hG
  have hU : ∀ n : Nat, n ≤ 200 → (A.deeper (PyProof.Rows.envOfC "Reader.next_word" (defScope s_Reader__next_word) s.heap.objs.size f cdv)).units + n < cLine := fun n hn => by have := hr.rm.un; omega
  exact (vss_cons (vs_if (VT.pureB2 (vt_cmp (op_eqX (hU 64 (by decide))) rd_eq (ve_fldP hC (ve_v 0)) (VE.pureN (ve_callB call_lenX rd_len rfl m_len bt_len (va_p (ve_fldP hC (ve_v 0)) va_p0))) (nomark _))) (vss_one vs_stop) vss_nil)
  (vss_cons (vs_fldA hC (ve_v 0))
  (vss_one (vs_ret (VE.pure2 (ve_idx (ve_fldP hC (ve_v 0)) (VE.pure2 (ve_sub (ve_fldP hC (ve_v 0)) ve_int))))))))
abbrev s_Reader__next_number : Stmt := methS (top 11) 2
def N_Reader__next_number : List Str := ["self", "number"]
def t_Reader__next_number (sp_number_in : SpD) (sp_Reader__next_word : SpD) : TS' :=
  (sSeq (sSet 1 (eCall [false] sp_number_in (aCons (eMeth "Reader" "next_word" [true] sp_Reader__next_word (eP (pV 0)) (aP [])) (aP []))))
  (sSeq (sIf (cP (bB (po2 isD (pV 1) (pC .non))))
  sStop
  sNil)
  (sRet (eP (pV 1)))))
theorem nd_Reader__next_number : N_Reader__next_number.Nodup := by decide
theorem sc_Reader__next_number : FnScope N_Reader__next_number ["self"] (defScope s_Reader__next_number) := C8.fnScope_by (by decide +kernel)
theorem d_Reader__next_number {P : Program} {w : World} {K : PySem.W.Frag} {mg : Str → Option Value} {base : Heap} {f : Addr} {k : Nat} {sp_number_in : SpD} {k_number_in : Nat} (ca_number_in : Ca P w K mg base k_number_in "number_in" 1 sp_number_in) (hk_number_in : k_number_in ≤ k) {sp_Reader__next_word : SpD} {k_Reader__next_word : Nat} (cm_Reader__next_word : CaM P w K mg base k_Reader__next_word "Reader" "next_word" 1 sp_Reader__next_word) (hk_Reader__next_word : k_Reader__next_word ≤ k) :
    ∀ (cdv : Value) (A : Around) (outer : List Env) (s : Shared) (H : Hp) (E : XK) (G : Gd), RoomG k (A.deeper (PyProof.Rows.envOfC "Reader.next_number" (defScope s_Reader__next_number) s.heap.objs.size f cdv)) → G.i0.length = 1 →
      VSs (cxOf C8.CX0 P w K mg base N_Reader__next_number "Reader.next_number" (defScope s_Reader__next_number) f cdv A outer s H E).nox G (defBody s_Reader__next_number) (t_Reader__next_number sp_number_in sp_Reader__next_word) := by
  intro cdv A outer s H E G hr hG
  have hU : ∀ n : Nat, n ≤ 200 → (A.deeper (PyProof.Rows.envOfC "Reader.next_number" (defScope s_Reader__next_number) s.heap.objs.size f cdv)).units + n < cLine := fun n hn => by have := hr.rm.un; omega
  exact (vss_cons (vs_set nd_Reader__next_number rfl (by first | exact Or.inl rfl | exact Or.inr rfl) (ve_call [false] ca_number_in hr hk_number_in rfl (va_cons (ve_meth0 cm_Reader__next_word hr hk_Reader__next_word (ve_v 0)) va_p0)))
  (vss_cons (vs_if (VT.pureB2 (vt_cmp op_isX rd_is (ve_v 1) ve_non (nomark _))) (vss_one vs_stop) vss_nil)
  (vss_one (vs_ret (ve_v 1)))))
abbrev s_Reader__next_claims : Stmt := methS (top 11) 3
def N_Reader__next_claims : List Str := ["self", "many", "turn"]
def t_Reader__next_claims (sp_Reader__next_claim : SpD) : TS' :=
  (sRet (eo1 tupC (eFz (fLc (iRg true (aP [(pV 1)])) (.nm 2) tYs (eMeth "Reader" "next_claim" [true] sp_Reader__next_claim (eP (pV 0)) (aP [])) [2]))))
theorem nd_Reader__next_claims : N_Reader__next_claims.Nodup := by decide
theorem sc_Reader__next_claims : FnScope N_Reader__next_claims ["self", "many"] (defScope s_Reader__next_claims) := C8.fnScope_by (by decide +kernel)
theorem d_Reader__next_claims {P : Program} {w : World} {K : PySem.W.Frag} {mg : Str → Option Value} {base : Heap} {f : Addr} {k : Nat} (m_range : mg "range" = none) (m_tuple : mg "tuple" = none) {sp_Reader__next_claim : SpD} {k_Reader__next_claim : Nat} (cm_Reader__next_claim : CaM P w K mg base k_Reader__next_claim "Reader" "next_claim" 1 sp_Reader__next_claim) (hk_Reader__next_claim : k_Reader__next_claim ≤ k) :
    ∀ (cdv : Value) (A : Around) (outer : List Env) (s : Shared) (H : Hp) (E : XK) (G : Gd), RoomG k (A.deeper (PyProof.Rows.envOfC "Reader.next_claims" (defScope s_Reader__next_claims) s.heap.objs.size f cdv)) → G.i0.length = 1 →
      VSs (cxOf C8.CX0 P w K mg base N_Reader__next_claims "Reader.next_claims" (defScope s_Reader__next_claims) f cdv A outer s H E).nox G (defBody s_Reader__next_claims) (t_Reader__next_claims sp_Reader__next_claim) := by
  intro cdv A outer s H E G hr hG
  have hU : ∀ n : Nat, n ≤ 200 → (A.deeper (PyProof.Rows.envOfC "Reader.next_claims" (defScope s_Reader__next_claims) s.heap.objs.size f cdv)).units + n < cLine := fun n hn => by have := hr.rm.un; omega
  exact (vss_one (vs_ret (ve_tupleOf rfl m_tuple (VF.fz (vf_lc (own := [("turn", 2)]) rfl nd_Reader__next_claims (vi_range1 rfl m_range (va_p (ve_v 1) va_p0)) (blkOk_by (show blkC N_Reader__next_claims (defScope s_Reader__next_claims) _ _ = true by decide +kernel)) (fun s H C cl fp => pg_name nd_Reader__next_claims rfl (by first | exact Or.inl rfl | exact Or.inr rfl) (by first | exact Or.inr rfl | exact Or.inl rfl)) (fun s H C cl fp G hG' => vts_nil) (fun s H C cl fp G hG' => (ve_meth0 cm_Reader__next_claim hr hk_Reader__next_claim (ve_v 0))) (by decide))))))
abbrev s_Reader__next_claim : Stmt := methS (top 11) 4
def N_Reader__next_claim : List Str := ["self", "word", "name", "most"]
def t_Reader__next_claim (sp_Reader__next_word : SpD) (sp_Reader__next_claims : SpD) (sp_Reader__next_number : SpD) (sp_number_in : SpD) : TS' :=
  (sSeq (sSet 1 (eMeth "Reader" "next_word" [true] sp_Reader__next_word (eP (pV 0)) (aP [])))
  (sSeq (sIf (cP (bB (po1 (inTab tab_INNER) (pV 1))))
  (sRet (eo2 addD (eP (poTup [(pV 1)])) (eMeth "Reader" "next_claims" [true, false] sp_Reader__next_claims (eP (pV 0)) (aP [(po1 (atTab tab_INNER) (pV 1))]))))
  sNil)
  (sSeq (sIf (cP (bB (po2 inD (pV 1) (pC c_PARTED))))
  (sRet (tTupE (aCons (eP (pV 1)) (aCons (eMeth "Reader" "next_claims" [true, false] sp_Reader__next_claims (eP (pV 0)) (aCons (eMeth "Reader" "next_number" [true] sp_Reader__next_number (eP (pV 0)) (aP [])) (aP []))) (aP [])))))
  sNil)
  (sSeq (sIf (cP (bB (po2 eqD (pV 1) (pC (.str "least")))))
  (sSeq (sSet 3 (eMeth "Reader" "next_number" [true] sp_Reader__next_number (eP (pV 0)) (aP [])))
  (sRet (tTupE (aCons (eP (pV 1)) (aCons (eP (pV 3)) (aCons (eMeth "Reader" "next_claims" [true, false] sp_Reader__next_claims (eP (pV 0)) (aCons (eMeth "Reader" "next_number" [true] sp_Reader__next_number (eP (pV 0)) (aP [])) (aP []))) (aP [])))))))
  sNil)
  (sSeq (sSet 2 (eCall [false] sp_number_in (aP [(pV 1)])))
  (sSeq (sIf (cP (bOr (bB (po2 isD (pV 2) (pC .non))) (bB (po2 geD (pV 2) (poFld clsT "many" (pV 0))))))
  sStop
  sNil)
  (sRet (eP (poTup [(pC (.str "name")), (pV 2)])))))))))
theorem nd_Reader__next_claim : N_Reader__next_claim.Nodup := by decide
theorem sc_Reader__next_claim : FnScope N_Reader__next_claim ["self"] (defScope s_Reader__next_claim) := C8.fnScope_by (by decide +kernel)
theorem d_Reader__next_claim {P : Program} {w : World} {K : PySem.W.Frag} {mg : Str → Option Value} {base : Heap} {f : Addr} {k : Nat} {u_PARTED : Value} (hm_PARTED : mg "PARTED" = some u_PARTED) (kv_PARTED : KV K c_PARTED u_PARTED) (ht_INNER : mg "INNER" = some (.ref (He.ga K "INNER"))) (tb_INNER : TabK K w (He.ga K "INNER") tab_INNER) (hC : ObC K clsT) {sp_Reader__next_word : SpD} {k_Reader__next_word : Nat} (cm_Reader__next_word : CaM P w K mg base k_Reader__next_word "Reader" "next_word" 1 sp_Reader__next_word) (hk_Reader__next_word : k_Reader__next_word ≤ k) {sp_Reader__next_claims : SpD} {k_Reader__next_claims : Nat} (cm_Reader__next_claims : CaM P w K mg base k_Reader__next_claims "Reader" "next_claims" 2 sp_Reader__next_claims) (hk_Reader__next_claims : k_Reader__next_claims ≤ k) {sp_Reader__next_number : SpD} {k_Reader__next_number : Nat} (cm_Reader__next_number : CaM P w K mg base k_Reader__next_number "Reader" "next_number" 1 sp_Reader__next_number) (hk_Reader__next_number : k_Reader__next_number ≤ k) {sp_number_in : SpD} {k_number_in : Nat} (ca_number_in : Ca P w K mg base k_number_in "number_in" 1 sp_number_in) (hk_number_in : k_number_in ≤ k) :
    ∀ (cdv : Value) (A : Around) (outer : List Env) (s : Shared) (H : Hp) (E : XK) (G : Gd), RoomG k (A.deeper (PyProof.Rows.envOfC "Reader.next_claim" (defScope s_Reader__next_claim) s.heap.objs.size f cdv)) → G.i0.length = 1 →
      VSs (cxOf C8.CX0 P w K mg base N_Reader__next_claim "Reader.next_claim" (defScope s_Reader__next_claim) f cdv A outer s H E).nox G (defBody s_Reader__next_claim) (t_Reader__next_claim sp_Reader__next_word sp_Reader__next_claims sp_Reader__next_number sp_number_in) := by
  intro cdv A outer s H E G hr hG
  have hU : ∀ n : Nat, n ≤ 200 → (A.deeper (PyProof.Rows.envOfC "Reader.next_claim" (defScope s_Reader__next_claim) s.heap.objs.size f cdv)).units + n < cLine := fun n hn => by have := hr.rm.un; omega
  exact (vss_cons (vs_set nd_Reader__next_claim rfl (by first | exact Or.inl rfl | exact Or.inr rfl) (ve_meth0 cm_Reader__next_word hr hk_Reader__next_word (ve_v 0)))
  (vss_cons (vs_if (VT.pureT1 (vt_inTab rfl ht_INNER tb_INNER (ve_v 1))) (vss_one (vs_ret (ve_add (VE.pTup (ve_tup (va_p (ve_v 1) va_p0))) (ve_meth [true, false] cm_Reader__next_claims hr hk_Reader__next_claims (ve_v 0) (va_p (VE.pure1 (ve_atTab rfl ht_INNER tb_INNER (ve_v 1))) va_p0))))) vss_nil)
  (vss_cons (vs_if (VT.pureB2 (vt_cmp (op_inX (hU 65 (by decide))) rd_in (ve_v 1) (ve_glob rfl hm_PARTED kv_PARTED) rfl)) (vss_one (vs_ret (ve_tup (va_cons (ve_v 1) (va_cons (ve_meth [true, false] cm_Reader__next_claims hr hk_Reader__next_claims (ve_v 0) (va_cons (ve_meth0 cm_Reader__next_number hr hk_Reader__next_number (ve_v 0)) va_p0)) va_p0))))) vss_nil)
  (vss_cons (vs_if (VT.pureB2 (vt_cmp (op_eqX (hU 64 (by decide))) rd_eq (ve_v 1) ve_str (nomark _))) (vss_cons (vs_set nd_Reader__next_claim rfl (by first | exact Or.inl rfl | exact Or.inr rfl) (ve_meth0 cm_Reader__next_number hr hk_Reader__next_number (ve_v 0)))
  (vss_one (vs_ret (ve_tup (va_cons (ve_v 1) (va_cons (ve_v 3) (va_cons (ve_meth [true, false] cm_Reader__next_claims hr hk_Reader__next_claims (ve_v 0) (va_cons (ve_meth0 cm_Reader__next_number hr hk_Reader__next_number (ve_v 0)) va_p0)) va_p0))))))) vss_nil)
  (vss_cons (vs_set nd_Reader__next_claim rfl (by first | exact Or.inl rfl | exact Or.inr rfl) (ve_call [false] ca_number_in hr hk_number_in rfl (va_p (ve_v 1) va_p0)))
  (vss_cons (vs_if (VW.vt (VW.pOr (vw_or (VT.pureB2 (vt_cmp op_isX rd_is (ve_v 2) ve_non (nomark _))) (vw_or1 (VT.pureB2 (vt_cmp op_ge rd_ge (ve_v 2) (ve_fldP hC (ve_v 0)) (nomark _))))))) (vss_one vs_stop) vss_nil)
  (vss_one (vs_ret (VE.pTup (ve_tup (va_p ve_str (va_p (ve_v 2) va_p0))))))))))))
abbrev s_claim_from : Stmt := top 12
def N_claim_from : List Str := ["many", "text", "reader", "claim"]
def t_claim_from (sp_Reader____init__ : SpI) (sp_Reader__next_claim : SpD) : TS' :=
  (sSeq (sSet 2 (eMake "Reader" [false, false] sp_Reader____init__ (aP [(pV 0), (poMt "str" splitD (pV 1) [(pC (.str " "))])])))
  (sSeq (sSet 3 (eMeth "Reader" "next_claim" [true] sp_Reader__next_claim (eP (pV 2)) (aP [])))
  (sSeq (sIf (cP (bB (po2 ltD (poFld clsT "place" (pV 2)) (poN lenD [(poFld clsT "words" (pV 2))]))))
  sStop
  sNil)
  (sRet (eP (pV 3))))))
theorem nd_claim_from : N_claim_from.Nodup := by decide
theorem sc_claim_from : FnScope N_claim_from ["many", "text"] (defScope s_claim_from) := C8.fnScope_by (by decide +kernel)
theorem d_claim_from {P : Program} {w : World} {K : PySem.W.Frag} {mg : Str → Option Value} {base : Heap} {f : Addr} {k : Nat} (m_len : mg "len" = none) (hC : ObC K clsT) {sp_Reader____init__ : SpI} {k_Reader____init__ : Nat} (ci_Reader____init__ : CaI P w K mg base k_Reader____init__ "Reader" 2 sp_Reader____init__) (hk_Reader____init__ : k_Reader____init__ + 1 ≤ k) {sp_Reader__next_claim : SpD} {k_Reader__next_claim : Nat} (cm_Reader__next_claim : CaM P w K mg base k_Reader__next_claim "Reader" "next_claim" 1 sp_Reader__next_claim) (hk_Reader__next_claim : k_Reader__next_claim ≤ k) :
    ∀ (cdv : Value) (A : Around) (outer : List Env) (s : Shared) (H : Hp) (E : XK) (G : Gd), RoomG k (A.deeper (PyProof.Rows.envOfC "claim_from" (defScope s_claim_from) s.heap.objs.size f cdv)) → G.i0.length = 0 →
      VSs (cxOf C8.CX0 P w K mg base N_claim_from "claim_from" (defScope s_claim_from) f cdv A outer s H E).nox G (defBody s_claim_from) (t_claim_from sp_Reader____init__ sp_Reader__next_claim) := by
  intro cdv A outer s H E G hr hG
  have hU : ∀ n : Nat, n ≤ 200 → (A.deeper (PyProof.Rows.envOfC "claim_from" (defScope s_claim_from) s.heap.objs.size f cdv)).units + n < cLine := fun n hn => by have := hr.rm.un; omega
  exact (vss_cons (vs_set nd_claim_from rfl (by first | exact Or.inl rfl | exact Or.inr rfl) (ve_make [false, false] ci_Reader____init__ hr hk_Reader____init__ rfl (va_p (ve_v 0) (va_p (VE.pMt (ve_mt F.plainAttrs_str F.slot_str_split rfl mt_split rd_split (ve_v 1) (va_p ve_str va_p0))) va_p0))))
  (vss_cons (vs_set nd_claim_from rfl (by first | exact Or.inl rfl | exact Or.inr rfl) (ve_meth0 cm_Reader__next_claim hr hk_Reader__next_claim (ve_v 2)))
  (vss_cons (vs_if (VT.pureB2 (vt_cmp op_lt rd_lt (ve_fldP hC (ve_v 2)) (VE.pureN (ve_callB call_lenX rd_len rfl m_len bt_len (va_p (ve_fldP hC (ve_v 2)) va_p0))) (nomark _))) (vss_one vs_stop) vss_nil)
  (vss_one (vs_ret (ve_v 3))))))
abbrev s__law_cell_at : Stmt := top 14
def N__law_cell_at : List Str := ["_law_script", "_law_k"]
def t__law_cell_at  : TS' :=
  (sRet (eP (poIf (bB (po2 ltD (pV 1) (poN lenD [(pV 0)]))) (po2 ixD (pV 0) (pV 1)) (pC (.int 0)))))
theorem sc__law_cell_at : FnScope N__law_cell_at ["_law_script", "_law_k"] (defScope s__law_cell_at) := C8.fnScope_by (by decide +kernel)
theorem d__law_cell_at {P : Program} {w : World} {K : PySem.W.Frag} {mg : Str → Option Value} {base : Heap} {f : Addr} {k : Nat} (m_len : mg "len" = none) :
    ∀ (cdv : Value) (A : Around) (outer : List Env) (s : Shared) (H : Hp) (E : XK) (G : Gd), RoomG k (A.deeper (PyProof.Rows.envOfC "_law_cell_at" (defScope s__law_cell_at) s.heap.objs.size f cdv)) → G.i0.length = 0 →
      VSs (cxOf C8.CX0 P w K mg base N__law_cell_at "_law_cell_at" (defScope s__law_cell_at) f cdv A outer s H E).nox G (defBody s__law_cell_at) (t__law_cell_at ) := by
  intro cdv A outer s H E G hr hG
  have hU : ∀ n : Nat, n ≤ 200 → (A.deeper (PyProof.Rows.envOfC "_law_cell_at" (defScope s__law_cell_at) s.heap.objs.size f cdv)).units + n < cLine := fun n hn => by have := hr.rm.un; omega
  exact (vss_one (vs_ret (VE.pIf (ve_if (VT.pureB2 (vt_cmp op_lt rd_lt (ve_v 1) (VE.pureN (ve_callB call_lenX rd_len rfl m_len bt_len (va_p (ve_v 0) va_p0))) (nomark _))) (VE.pure2 (ve_idx (ve_v 0) (ve_v 1))) ve_int))))
abbrev s__law_tape : Stmt := top 15
def N__law_tape : List Str := ["_law_script", "_law_k", "_law_cell"]
def t__law_tape (sp__law_cell_at : SpD) : TS' :=
  (sSeq (sSet 2 (eCall [false, false] sp__law_cell_at (aP [(pV 0), (pV 1)])))
  (sRet (eNw (fP (plLst [(po2 mulD (poN absD [(pV 2)]) (poN intD [(po2 geD (poN absD [(pV 2)]) (po2 powD (pC (.int 10)) (pC (.int 18))))])), (po2 modD (po2 mulD (po2 addD (po2 addD (po2 modD (pV 2) (pC (.int 2147483647))) (po2 mulD (po2 mulD (pC (.int 7753)) (pV 1)) (pV 1))) (pC (.int 41))) (pC (.int 48271))) (pC (.int 2147483629))), (pC (.int 0))])))))
theorem nd__law_tape : N__law_tape.Nodup := by decide
theorem sc__law_tape : FnScope N__law_tape ["_law_script", "_law_k"] (defScope s__law_tape) := C8.fnScope_by (by decide +kernel)
theorem d__law_tape {P : Program} {w : World} {K : PySem.W.Frag} {mg : Str → Option Value} {base : Heap} {f : Addr} {k : Nat} (m_abs : mg "abs" = none) (m_int : mg "int" = none) {sp__law_cell_at : SpD} {k__law_cell_at : Nat} (ca__law_cell_at : Ca P w K mg base k__law_cell_at "_law_cell_at" 2 sp__law_cell_at) (hk__law_cell_at : k__law_cell_at ≤ k) :
    ∀ (cdv : Value) (A : Around) (outer : List Env) (s : Shared) (H : Hp) (E : XK) (G : Gd), RoomG k (A.deeper (PyProof.Rows.envOfC "_law_tape" (defScope s__law_tape) s.heap.objs.size f cdv)) → G.i0.length = 0 →
      VSs (cxOf C8.CX0 P w K mg base N__law_tape "_law_tape" (defScope s__law_tape) f cdv A outer s H E).nox G (defBody s__law_tape) (t__law_tape sp__law_cell_at) := by
  intro cdv A outer s H E G hr hG
  have hU : ∀ n : Nat, n ≤ 200 → (A.deeper (PyProof.Rows.envOfC "_law_tape" (defScope s__law_tape) s.heap.objs.size f cdv)).units + n < cLine := fun n hn => by have := hr.rm.un; omega
  exact (vss_cons (vs_set nd__law_tape rfl (by first | exact Or.inl rfl | exact Or.inr rfl) (ve_call [false, false] ca__law_cell_at hr hk__law_cell_at rfl (va_p (ve_v 0) (va_p (ve_v 1) va_p0))))
  (vss_one (vs_ret (VF.nw (VF.pLst (vf_lst (va_p (VE.pure2 (ve_mul (VE.pureN (ve_callB call_abs rd_abs rfl m_abs bt_abs (va_p (ve_v 2) va_p0))) (VE.pureN (ve_callTy call_int1 rd_intC rfl m_int bt_int (va_p (VE.pure2 (ve_cmp op_ge rd_ge (VE.pureN (ve_callB call_abs rd_abs rfl m_abs bt_abs (va_p (ve_v 2) va_p0))) (VE.pure2 (ve_pow ve_int ve_int)) (nomark _))) va_p0))))) (va_p (VE.pure2 (ve_mod (VE.pure2 (ve_mul (VE.pure2 (ve_add (VE.pure2 (ve_add (VE.pure2 (ve_mod (ve_v 2) ve_int)) (VE.pure2 (ve_mul (VE.pure2 (ve_mul ve_int (ve_v 1))) (ve_v 1))))) ve_int)) ve_int)) ve_int)) (va_p ve_int va_p0)))))))))
abbrev s__law_take : Stmt := top 16
def N__law_take : List Str := ["_law_tape_here", "_law_many_here", "_law_prime", "_law_once", "_law_found"]
def t__law_take (sp__law_take : SpD) : TS' :=
  (sSeq (sIf (cP (bB (po2 gtD (po2 ixD (pV 0) (pC (.int 0))) (pC (.int 0)))))
  (sSeq (sSet 4 (eP (po2 modD (po2 ixD (pV 0) (pC (.int 0))) (pV 1))))
  (sSeq (sSub (eP (po2 fdivD (po2 ixD (pV 0) (pC (.int 0))) (pV 1))) (eP (pV 0)) (eP (pC (.int 0))))
  (sRet (eP (pV 4)))))
  sNil)
  (sSeq (sSub (eP (po2 addD (po2 ixD (pV 0) (pC (.int 2))) (pC (.int 1)))) (eP (pV 0)) (eP (pC (.int 2))))
  (sSeq (sSet 2 (eP (po2 ixD (pFz (plLst [(pC (.int 2147483587)), (pC (.int 2147483579)), (pC (.int 2147483563)), (pC (.int 2147483549)), (pC (.int 2147483543)), (pC (.int 2147483497)), (pC (.int 2147483489))])) (po2 modD (po2 ixD (pV 0) (pC (.int 2))) (pC (.int 7))))))
  (sSeq (sSet 3 (eP (po2 modD (po2 mulD (po2 addD (po2 ixD (pV 0) (pC (.int 1))) (po2 mulD (pC (.int 39373)) (po2 ixD (pV 0) (pC (.int 2))))) (po2 addD (pC (.int 48271)) (po2 ixD (pV 0) (pC (.int 2))))) (pV 2))))
  (sSeq (sSub (eP (po2 modD (po2 addD (po2 mulD (pV 3) (po2 addD (po2 modD (pV 3) (pC (.int 40009))) (pC (.int 7)))) (po2 ixD (pV 0) (pC (.int 2)))) (pC (.int 2147483629)))) (eP (pV 0)) (eP (pC (.int 1))))
  (sSeq (sSet 4 (eP (po2 fdivD (po2 modD (po2 mulD (po2 ixD (pV 0) (pC (.int 1))) (po2 addD (po2 modD (po2 ixD (pV 0) (pC (.int 1))) (pC (.int 1009))) (pC (.int 3)))) (pC (.int 998244353))) (pC (.int 7)))))
  (sRet (eIf (cP (bB (po2 ltD (pV 1) (po2 powD (pC (.int 10)) (pC (.int 6)))))) (eP (po2 modD (pV 4) (pV 1))) (eo2 modD (eo2 addD (eP (po2 mulD (pV 4) (pC (.int 99991)))) (eCall [true, false] sp__law_take (aP [(pV 0), (pC (.int 99991))]))) (eP (pV 1)))))))))))
theorem nd__law_take : N__law_take.Nodup := by decide
theorem sc__law_take : FnScope N__law_take ["_law_tape_here", "_law_many_here"] (defScope s__law_take) := C8.fnScope_by (by decide +kernel)
theorem d__law_take {P : Program} {w : World} {K : PySem.W.Frag} {mg : Str → Option Value} {base : Heap} {f : Addr} {k : Nat} {sp__law_take : SpD} {k__law_take : Nat} (ca__law_take : Ca P w K mg base k__law_take "_law_take" 2 sp__law_take) (hk__law_take : k__law_take ≤ k) :
    ∀ (cdv : Value) (A : Around) (outer : List Env) (s : Shared) (H : Hp) (E : XK) (G : Gd), RoomG k (A.deeper (PyProof.Rows.envOfC "_law_take" (defScope s__law_take) s.heap.objs.size f cdv)) → G.i0.length = 1 →
      VSs (cxOf C8.CX0 P w K mg base N__law_take "_law_take" (defScope s__law_take) f cdv A outer s H E).nox G (defBody s__law_take) (t__law_take sp__law_take) := by
  intro cdv A outer s H E G hr hG
  have hU : ∀ n : Nat, n ≤ 200 → (A.deeper (PyProof.Rows.envOfC "_law_take" (defScope s__law_take) s.heap.objs.size f cdv)).units + n < cLine := fun n hn => by have := hr.rm.un; omega
  exact (vss_cons (vs_if (VT.pureB2 (vt_cmp op_gt rd_gt (VE.pure2 (ve_idx (ve_v 0) ve_int)) ve_int (nomark _))) (vss_cons (vs_set nd__law_take rfl (by first | exact Or.inl rfl | exact Or.inr rfl) (VE.pure2 (ve_mod (VE.pure2 (ve_idx (ve_v 0) ve_int)) (ve_v 1))))
  (vss_cons (vs_sub (VE.pure2 (ve_fdiv (VE.pure2 (ve_idx (ve_v 0) ve_int)) (ve_v 1))) (ve_v 0) ve_int)
  (vss_one (vs_ret (ve_v 4))))) vss_nil)
  (vss_cons (vs_sub (VE.pure2 (ve_add (VE.pure2 (ve_idx (ve_v 0) ve_int)) ve_int)) (ve_v 0) ve_int)
  (vss_cons (vs_set nd__law_take rfl (by first | exact Or.inl rfl | exact Or.inr rfl) (VE.pure2 (ve_idx (VF.pure (VF.pLst (vf_lst (va_p ve_int (va_p ve_int (va_p ve_int (va_p ve_int (va_p ve_int (va_p ve_int (va_p ve_int va_p0)))))))))) (VE.pure2 (ve_mod (VE.pure2 (ve_idx (ve_v 0) ve_int)) ve_int)))))
  (vss_cons (vs_set nd__law_take rfl (by first | exact Or.inl rfl | exact Or.inr rfl) (VE.pure2 (ve_mod (VE.pure2 (ve_mul (VE.pure2 (ve_add (VE.pure2 (ve_idx (ve_v 0) ve_int)) (VE.pure2 (ve_mul ve_int (VE.pure2 (ve_idx (ve_v 0) ve_int)))))) (VE.pure2 (ve_add ve_int (VE.pure2 (ve_idx (ve_v 0) ve_int)))))) (ve_v 2))))
  (vss_cons (vs_sub (VE.pure2 (ve_mod (VE.pure2 (ve_add (VE.pure2 (ve_mul (ve_v 3) (VE.pure2 (ve_add (VE.pure2 (ve_mod (ve_v 3) ve_int)) ve_int)))) (VE.pure2 (ve_idx (ve_v 0) ve_int)))) ve_int)) (ve_v 0) ve_int)
  (vss_cons (vs_set nd__law_take rfl (by first | exact Or.inl rfl | exact Or.inr rfl) (VE.pure2 (ve_fdiv (VE.pure2 (ve_mod (VE.pure2 (ve_mul (VE.pure2 (ve_idx (ve_v 0) ve_int)) (VE.pure2 (ve_add (VE.pure2 (ve_mod (VE.pure2 (ve_idx (ve_v 0) ve_int)) ve_int)) ve_int)))) ve_int)) ve_int)))
  (vss_one (vs_ret (ve_if (VT.pureB2 (vt_cmp op_lt rd_lt (ve_v 1) (VE.pure2 (ve_pow ve_int ve_int)) (nomark _))) (VE.pure2 (ve_mod (ve_v 4) (ve_v 1))) (ve_mod (ve_add (VE.pure2 (ve_mul (ve_v 4) ve_int)) (ve_call [true, false] ca__law_take hr hk__law_take rfl (va_p (ve_v 0) (va_p ve_int va_p0)))) (ve_v 1)))))))))))
abbrev s__law_claim : Stmt := top 17
def N__law_claim : List Str := ["_law_tape_here", "_law_many_here", "_law_deep", "_law_way", "_law_claims", "_law_k", "_law_one", "_law_turn"]
def t__law_claim (sp__law_take : SpD) (sp__law_claim : SpD) : TS' :=
  (sSeq (sSet 3 (eCall [true, false] sp__law_take (aP [(pV 0), (pC (.int 12))])))
  (sSeq (sIf (cP (bOr (bB (po2 eqD (pV 2) (pC (.int 0)))) (bB (po2 ltD (pV 3) (pC (.int 3))))))
  (sSeq (sSet 5 (eCall [true, false] sp__law_take (aP [(pV 0), (poN maxD [(pC (.int 1)), (pV 1)])])))
  (sRet (eIf (cP (bAn (bB (po2 gtD (pV 1) (pC (.int 0)))) (bB (po2 neD (pV 3) (pC (.int 3)))))) (eP (poTup [(pC (.str "name")), (pV 5)])) (eo2 ixD (eP (pFz (plLst [(poTup [(pC (.str "yes"))]), (poTup [(pC (.str "no"))])]))) (eCall [true, false] sp__law_take (aP [(pV 0), (pC (.int 2))]))))))
  sNil)
  (sSeq (sIf (cP (bB (po2 eqD (pV 3) (pC (.int 3)))))
  (sRet (eo2 ixD (eP (pFz (plLst [(poTup [(pC (.str "yes"))]), (poTup [(pC (.str "no"))]), (poTup [(pC (.str "and")), (poTup [])]), (poTup [(pC (.str "or")), (poTup [])]), (poTup [(pC (.str "least")), (pC (.int 0)), (poTup [])])]))) (eCall [true, false] sp__law_take (aP [(pV 0), (pC (.int 5))]))))
  sNil)
  (sSeq (sIf (cP (bB (po2 eqD (pV 3) (pC (.int 4)))))
  (sRet (tTupE (aCons (eP (pC (.str "not"))) (aCons (eCall [true, false, false] sp__law_claim (aP [(pV 0), (pV 1), (po2 subD (pV 2) (pC (.int 1)))])) (aP [])))))
  sNil)
  (sSeq (sIf (cP (bB (po2 eqD (pV 3) (pC (.int 5)))))
  (sSeq (sSet 6 (eCall [true, false, false] sp__law_claim (aP [(pV 0), (pV 1), (po2 subD (pV 2) (pC (.int 1)))])))
  (sRet (tTupE (aCons (eP (pC (.str "same"))) (aCons (eP (pV 6)) (aCons (eCall [true, false, false] sp__law_claim (aP [(pV 0), (pV 1), (po2 subD (pV 2) (pC (.int 1)))])) (aP [])))))))
  sNil)
  (sSeq (sSet 4 (eo1 tupC (eFz (fLc (iRg true (aCons (eo2 addD (eP (pC (.int 1))) (eCall [true, false] sp__law_take (aP [(pV 0), (pC (.int 4))]))) (aP []))) (.nm 7) tYs (eCall [true, false, false] sp__law_claim (aP [(pV 0), (pV 1), (po2 subD (pV 2) (pC (.int 1)))])) [7]))))
  (sSeq (sIf (cP (bB (po2 gtD (pV 3) (pC (.int 9)))))
  (sRet (tTupE (aCons (eP (pC (.str "least"))) (aCons (eCall [true, false] sp__law_take (aP [(pV 0), (po2 addD (poN lenD [(pV 4)]) (pC (.int 2)))])) (aP [(pV 4)])))))
  sNil)
  (sRet (eP (poTup [(po2 ixD (pFz (plLst [(pC (.str "and")), (pC (.str "or"))])) (po2 modD (pV 3) (pC (.int 2)))), (pV 4)]))))))))))
theorem nd__law_claim : N__law_claim.Nodup := by decide
theorem sc__law_claim : FnScope N__law_claim ["_law_tape_here", "_law_many_here", "_law_deep"] (defScope s__law_claim) := C8.fnScope_by (by decide +kernel)
theorem d__law_claim {P : Program} {w : World} {K : PySem.W.Frag} {mg : Str → Option Value} {base : Heap} {f : Addr} {k : Nat} (m_max : mg "max" = none) (m_range : mg "range" = none) (m_tuple : mg "tuple" = none) (m_len : mg "len" = none) {sp__law_take : SpD} {k__law_take : Nat} (ca__law_take : Ca P w K mg base k__law_take "_law_take" 2 sp__law_take) (hk__law_take : k__law_take ≤ k) {sp__law_claim : SpD} {k__law_claim : Nat} (ca__law_claim : Ca P w K mg base k__law_claim "_law_claim" 3 sp__law_claim) (hk__law_claim : k__law_claim ≤ k) :
    ∀ (cdv : Value) (A : Around) (outer : List Env) (s : Shared) (H : Hp) (E : XK) (G : Gd), RoomG k (A.deeper (PyProof.Rows.envOfC "_law_claim" (defScope s__law_claim) s.heap.objs.size f cdv)) → G.i0.length = 1 →
      VSs (cxOf C8.CX0 P w K mg base N__law_claim "_law_claim" (defScope s__law_claim) f cdv A outer s H E).nox G (defBody s__law_claim) (t__law_claim sp__law_take sp__law_claim) := by
  intro cdv A outer s H E G hr hG
  have hU : ∀ n : Nat, n ≤ 200 → (A.deeper (PyProof.Rows.envOfC "_law_claim" (defScope s__law_claim) s.heap.objs.size f cdv)).units + n < cLine := fun n hn => by have := hr.rm.un; omega
  exact (vss_cons (vs_set nd__law_claim rfl (by first | exact Or.inl rfl | exact Or.inr rfl) (ve_call [true, false] ca__law_take hr hk__law_take rfl (va_p (ve_v 0) (va_p ve_int va_p0))))
  (vss_cons (vs_if (VW.vt (VW.pOr (vw_or (VT.pureB2 (vt_cmp (op_eqX (hU 64 (by decide))) rd_eq (ve_v 2) ve_int (nomark _))) (vw_or1 (VT.pureB2 (vt_cmp op_lt rd_lt (ve_v 3) ve_int (nomark _))))))) (vss_cons (vs_set nd__law_claim rfl (by first | exact Or.inl rfl | exact Or.inr rfl) (ve_call [true, false] ca__law_take hr hk__law_take rfl (va_p (ve_v 0) (va_p (VE.pureN (ve_callB (call_maxX rfl) rd_max rfl m_max bt_max (va_p ve_int (va_p (ve_v 1) va_p0)))) va_p0))))
  (vss_one (vs_ret (ve_if (VW.vt (VW.pAn (vw_and (VT.pureB2 (vt_cmp op_gt rd_gt (ve_v 1) ve_int (nomark _))) (vw_and1 (VT.pureB2 (vt_cmp (op_neX (hU 64 (by decide))) rd_ne (ve_v 3) ve_int (nomark _))))))) (VE.pTup (ve_tup (va_p ve_str (va_p (ve_v 5) va_p0)))) (ve_idx (VF.pure (VF.pLst (vf_lst (va_p (VE.pTup (ve_tup (va_p ve_str va_p0))) (va_p (VE.pTup (ve_tup (va_p ve_str va_p0))) va_p0))))) (ve_call [true, false] ca__law_take hr hk__law_take rfl (va_p (ve_v 0) (va_p ve_int va_p0)))))))) vss_nil)
  (vss_cons (vs_if (VT.pureB2 (vt_cmp (op_eqX (hU 64 (by decide))) rd_eq (ve_v 3) ve_int (nomark _))) (vss_one (vs_ret (ve_idx (VF.pure (VF.pLst (vf_lst (va_p (VE.pTup (ve_tup (va_p ve_str va_p0))) (va_p (VE.pTup (ve_tup (va_p ve_str va_p0))) (va_p (VE.pTup (ve_tup (va_p ve_str (va_p (VE.pTup (ve_tup va_p0)) va_p0)))) (va_p (VE.pTup (ve_tup (va_p ve_str (va_p (VE.pTup (ve_tup va_p0)) va_p0)))) (va_p (VE.pTup (ve_tup (va_p ve_str (va_p ve_int (va_p (VE.pTup (ve_tup va_p0)) va_p0))))) va_p0)))))))) (ve_call [true, false] ca__law_take hr hk__law_take rfl (va_p (ve_v 0) (va_p ve_int va_p0)))))) vss_nil)
  (vss_cons (vs_if (VT.pureB2 (vt_cmp (op_eqX (hU 64 (by decide))) rd_eq (ve_v 3) ve_int (nomark _))) (vss_one (vs_ret (ve_tup (va_cons ve_str (va_cons (ve_call [true, false, false] ca__law_claim hr hk__law_claim rfl (va_p (ve_v 0) (va_p (ve_v 1) (va_p (VE.pure2 (ve_sub (ve_v 2) ve_int)) va_p0)))) va_p0))))) vss_nil)
  (vss_cons (vs_if (VT.pureB2 (vt_cmp (op_eqX (hU 64 (by decide))) rd_eq (ve_v 3) ve_int (nomark _))) (vss_cons (vs_set nd__law_claim rfl (by first | exact Or.inl rfl | exact Or.inr rfl) (ve_call [true, false, false] ca__law_claim hr hk__law_claim rfl (va_p (ve_v 0) (va_p (ve_v 1) (va_p (VE.pure2 (ve_sub (ve_v 2) ve_int)) va_p0)))))
  (vss_one (vs_ret (ve_tup (va_cons ve_str (va_cons (ve_v 6) (va_cons (ve_call [true, false, false] ca__law_claim hr hk__law_claim rfl (va_p (ve_v 0) (va_p (ve_v 1) (va_p (VE.pure2 (ve_sub (ve_v 2) ve_int)) va_p0)))) va_p0))))))) vss_nil)
  (vss_cons (vs_set nd__law_claim rfl (by first | exact Or.inl rfl | exact Or.inr rfl) (ve_tupleOf rfl m_tuple (VF.fz (vf_lc (own := [("_law_turn", 7)]) rfl nd__law_claim (vi_range1 rfl m_range (va_cons (ve_add ve_int (ve_call [true, false] ca__law_take hr hk__law_take rfl (va_p (ve_v 0) (va_p ve_int va_p0)))) va_p0)) (blkOk_by (show blkC N__law_claim (defScope s__law_claim) _ _ = true by decide +kernel)) (fun s H C cl fp => pg_name nd__law_claim rfl (by first | exact Or.inl rfl | exact Or.inr rfl) (by first | exact Or.inr rfl | exact Or.inl rfl)) (fun s H C cl fp G hG' => vts_nil) (fun s H C cl fp G hG' => (ve_call [true, false, false] ca__law_claim hr hk__law_claim rfl (va_p (ve_v 0) (va_p (ve_v 1) (va_p (VE.pure2 (ve_sub (ve_v 2) ve_int)) va_p0))))) (by decide)))))
  (vss_cons (vs_if (VT.pureB2 (vt_cmp op_gt rd_gt (ve_v 3) ve_int (nomark _))) (vss_one (vs_ret (ve_tup (va_cons ve_str (va_cons (ve_call [true, false] ca__law_take hr hk__law_take rfl (va_p (ve_v 0) (va_p (VE.pure2 (ve_add (VE.pureN (ve_callB call_lenX rd_len rfl m_len bt_len (va_p (ve_v 4) va_p0))) ve_int)) va_p0))) (va_p (ve_v 4) va_p0)))))) vss_nil)
  (vss_one (vs_ret (VE.pTup (ve_tup (va_p (VE.pure2 (ve_idx (VF.pure (VF.pLst (vf_lst (va_p ve_str (va_p ve_str va_p0))))) (VE.pure2 (ve_mod (ve_v 3) ve_int)))) (va_p (ve_v 4) va_p0)))))))))))))
abbrev s__law_any_claim : Stmt := top 18
def N__law_any_claim : List Str := ["_law_tape_here", "_law_many_here", "_law_pieces", "_law_turn", "_law_names", "_law_some", "_law_place", "_law_one"]
def t__law_any_claim (sp__law_take : SpD) (sp__law_claim : SpD) : TS' :=
  (sSeq (sIf (tOrr (cP (bB (po2 ltD (pV 1) (pC (.int 2))))) (tTb (eo2 gtD (eCall [true, false] sp__law_take (aP [(pV 0), (pC (.int 4))])) (eP (pC (.int 0))))))
  (sRet (eCall [true, false, false] sp__law_claim (aP [(pV 0), (pV 1), (pC (.int 3))])))
  sNil)
  (sSeq (sSet 2 (eNw (fP (plLst []))))
  (sSeq (sFor (iRg false (aCons (eo2 addD (eP (pC (.int 2))) (eCall [true, false] sp__law_take (aP [(pV 0), (pC (.int 4))]))) (aP []))) (gNm 3)
  (sSeq (sSet 4 (eFz (fLc (iRg true (aCons (eo2 addD (eP (pC (.int 2))) (eCall [true, false] sp__law_take (aP [(pV 0), (pC (.int 2))]))) (aP []))) (.nm 6) tYs (tTupE (aCons (eP (pC (.str "name"))) (aCons (eCall [true, false] sp__law_take (aP [(pV 0), (pV 1)])) (aP [])))) [6])))
  (sSeq (sSet 4 (eo1 tupC (eFz (fLc (iPq (pV 4)) (.nm 7) tYs (eIf (tTb (eo2 eqD (eCall [true, false] sp__law_take (aP [(pV 0), (pC (.int 3))])) (eP (pC (.int 0))))) (eP (poTup [(pC (.str "not")), (pV 7)])) (eP (pV 7))) [7]))))
  (sSeq (sSet 5 (eP (pFz (plLst [(poTup [(pC (.str "or")), (pV 4)]), (poTup [(pC (.str "and")), (pV 4)]), (poTup [(pC (.str "same")), (po2 ixD (pV 4) (pC (.int 0))), (po2 ixD (pV 4) (pC (.int 1)))]), (poTup [(pC (.str "least")), (pC (.int 2)), (pV 4)])]))))
  (sDrop (eMt "list" mApp (eP (pV 2)) (aCons (eo2 ixD (eP (pV 5)) (eCall [true, false] sp__law_take (aP [(pV 0), (pC (.int 4))]))) (aP []))))))))
  (sRet (tTupE (aCons (eo2 ixD (eP (pFz (plLst [(pC (.str "and")), (pC (.str "and")), (pC (.str "or"))]))) (eCall [true, false] sp__law_take (aP [(pV 0), (pC (.int 3))]))) (aP [(po1 tupC (pV 2))])))))))
theorem nd__law_any_claim : N__law_any_claim.Nodup := by decide
theorem sc__law_any_claim : FnScope N__law_any_claim ["_law_tape_here", "_law_many_here"] (defScope s__law_any_claim) := C8.fnScope_by (by decide +kernel)
theorem d__law_any_claim {P : Program} {w : World} {K : PySem.W.Frag} {mg : Str → Option Value} {base : Heap} {f : Addr} {k : Nat} (m_range : mg "range" = none) (m_tuple : mg "tuple" = none) {sp__law_take : SpD} {k__law_take : Nat} (ca__law_take : Ca P w K mg base k__law_take "_law_take" 2 sp__law_take) (hk__law_take : k__law_take ≤ k) {sp__law_claim : SpD} {k__law_claim : Nat} (ca__law_claim : Ca P w K mg base k__law_claim "_law_claim" 3 sp__law_claim) (hk__law_claim : k__law_claim ≤ k) :
    ∀ (cdv : Value) (A : Around) (outer : List Env) (s : Shared) (H : Hp) (E : XK) (G : Gd), RoomG k (A.deeper (PyProof.Rows.envOfC "_law_any_claim" (defScope s__law_any_claim) s.heap.objs.size f cdv)) → G.i0.length = 1 →
      VSs (cxOf C8.CX0 P w K mg base N__law_any_claim "_law_any_claim" (defScope s__law_any_claim) f cdv A outer s H E).nox G (defBody s__law_any_claim) (t__law_any_claim sp__law_take sp__law_claim) := by
  intro cdv A outer s H E G hr hG
  have hU : ∀ n : Nat, n ≤ 200 → (A.deeper (PyProof.Rows.envOfC "_law_any_claim" (defScope s__law_any_claim) s.heap.objs.size f cdv)).units + n < cLine := fun n hn => by have := hr.rm.un; omega
  exact (vss_cons (vs_if (VW.vt (vw_or (VT.pureB2 (vt_cmp op_lt rd_lt (ve_v 1) ve_int (nomark _))) (vw_or1 (vt_cmp op_gt rd_gt (ve_call [true, false] ca__law_take hr hk__law_take rfl (va_p (ve_v 0) (va_p ve_int va_p0))) ve_int (nomark _))))) (vss_one (vs_ret (ve_call [true, false, false] ca__law_claim hr hk__law_claim rfl (va_p (ve_v 0) (va_p (ve_v 1) (va_p ve_int va_p0)))))) vss_nil)
  (vss_cons (vs_set nd__law_any_claim rfl (by first | exact Or.inl rfl | exact Or.inr rfl) (VF.nw (VF.pLst (vf_lst va_p0))))
  (vss_cons (vs_for (bd := false) PassesOwn.never rfl (vi_range1 rfl m_range (va_cons (ve_add ve_int (ve_call [true, false] ca__law_take hr hk__law_take rfl (va_p (ve_v 0) (va_p ve_int va_p0)))) va_p0)) (vg_name nd__law_any_claim rfl (by first | exact Or.inl rfl | exact Or.inr rfl)) (vss_cons (vs_setLcF (own := [("_law_place", 6)]) rfl nd__law_any_claim rfl rfl rfl (vi_range1 rfl m_range (va_cons (ve_add ve_int (ve_call [true, false] ca__law_take hr hk__law_take rfl (va_p (ve_v 0) (va_p ve_int va_p0)))) va_p0)) (blkOk_by (show blkC N__law_any_claim (defScope s__law_any_claim) _ _ = true by decide +kernel)) (fun s H C cl fp => pg_name nd__law_any_claim rfl (by first | exact Or.inl rfl | exact Or.inr rfl) (by first | exact Or.inr rfl | exact Or.inl rfl)) (fun s H C cl fp G hG' => vts_nil) (fun s H C cl fp G hG' => (ve_tup (va_cons ve_str (va_cons (ve_call [true, false] ca__law_take hr hk__law_take rfl (va_p (ve_v 0) (va_p (ve_v 1) va_p0))) va_p0)))) (by decide))
  (vss_cons (vs_set nd__law_any_claim rfl (by first | exact Or.inl rfl | exact Or.inr rfl) (ve_tupleOf rfl m_tuple (VF.fz (vf_lc (own := [("_law_one", 7)]) rfl nd__law_any_claim (vi_pq (ve_v 4)) (blkOk_by (show blkC N__law_any_claim (defScope s__law_any_claim) _ _ = true by decide +kernel)) (fun s H C cl fp => pg_name nd__law_any_claim rfl (by first | exact Or.inl rfl | exact Or.inr rfl) (by first | exact Or.inr rfl | exact Or.inl rfl)) (fun s H C cl fp G hG' => vts_nil) (fun s H C cl fp G hG' => (ve_if (vt_cmp (op_eqX (hU 64 (by decide))) rd_eq (ve_call [true, false] ca__law_take hr hk__law_take rfl (va_p (ve_v 0) (va_p ve_int va_p0))) ve_int (nomark _)) (VE.pTup (ve_tup (va_p ve_str (va_p (ve_v 7) va_p0)))) (ve_v 7))) (by decide)))))
  (vss_cons (vs_set nd__law_any_claim rfl (by first | exact Or.inl rfl | exact Or.inr rfl) (VF.pure (VF.pLst (vf_lst (va_p (VE.pTup (ve_tup (va_p ve_str (va_p (ve_v 4) va_p0)))) (va_p (VE.pTup (ve_tup (va_p ve_str (va_p (ve_v 4) va_p0)))) (va_p (VE.pTup (ve_tup (va_p ve_str (va_p (VE.pure2 (ve_idx (ve_v 4) ve_int)) (va_p (VE.pure2 (ve_idx (ve_v 4) ve_int)) va_p0))))) (va_p (VE.pTup (ve_tup (va_p ve_str (va_p ve_int (va_p (ve_v 4) va_p0))))) va_p0))))))))
  (vss_one (vs_expr (ve_mt F.plainAttrs_list F.slot_list_append rfl mt_append rd_app (ve_v 2) (va_cons (ve_idx (ve_v 5) (ve_call [true, false] ca__law_take hr hk__law_take rfl (va_p (ve_v 0) (va_p ve_int va_p0)))) va_p0))))))))
  (vss_one (vs_ret (ve_tup (va_cons (ve_idx (VF.pure (VF.pLst (vf_lst (va_p ve_str (va_p ve_str (va_p ve_str va_p0)))))) (ve_call [true, false] ca__law_take hr hk__law_take rfl (va_p (ve_v 0) (va_p ve_int va_p0)))) (va_p (VE.pure1 (ve_tupleOf rfl m_tuple (ve_v 2))) va_p0))))))))
abbrev s__law_many : Stmt := top 19
def N__law_many : List Str := ["_law_tape_here", "_law_great"]
def t__law_many (sp__law_take : SpD) : TS' :=
  (sSeq (sSet 1 (eo2 eqD (eCall [true, false] sp__law_take (aP [(pV 0), (pC (.int 8))])) (eP (pC (.int 0)))))
  (sRet (eIf (cP (bTr (pV 1))) (eo2 addD (eP (pC (.int 7))) (eCall [true, false] sp__law_take (aP [(pV 0), (pC (.int 2))]))) (eCall [true, false] sp__law_take (aP [(pV 0), (pC (.int 7))])))))
theorem nd__law_many : N__law_many.Nodup := by decide
theorem sc__law_many : FnScope N__law_many ["_law_tape_here"] (defScope s__law_many) := C8.fnScope_by (by decide +kernel)
theorem d__law_many {P : Program} {w : World} {K : PySem.W.Frag} {mg : Str → Option Value} {base : Heap} {f : Addr} {k : Nat} {sp__law_take : SpD} {k__law_take : Nat} (ca__law_take : Ca P w K mg base k__law_take "_law_take" 2 sp__law_take) (hk__law_take : k__law_take ≤ k) :
    ∀ (cdv : Value) (A : Around) (outer : List Env) (s : Shared) (H : Hp) (E : XK) (G : Gd), RoomG k (A.deeper (PyProof.Rows.envOfC "_law_many" (defScope s__law_many) s.heap.objs.size f cdv)) → G.i0.length = 1 →
      VSs (cxOf C8.CX0 P w K mg base N__law_many "_law_many" (defScope s__law_many) f cdv A outer s H E).nox G (defBody s__law_many) (t__law_many sp__law_take) := by
  intro cdv A outer s H E G hr hG
  have hU : ∀ n : Nat, n ≤ 200 → (A.deeper (PyProof.Rows.envOfC "_law_many" (defScope s__law_many) s.heap.objs.size f cdv)).units + n < cLine := fun n hn => by have := hr.rm.un; omega
  exact (vss_cons (vs_set nd__law_many rfl (by first | exact Or.inl rfl | exact Or.inr rfl) (ve_cmp (op_eqX (hU 64 (by decide))) rd_eq (ve_call [true, false] ca__law_take hr hk__law_take rfl (va_p (ve_v 0) (va_p ve_int va_p0))) ve_int (nomark _)))
  (vss_one (vs_ret (ve_if (VT.pure (vt_val (ve_v 1))) (ve_add ve_int (ve_call [true, false] ca__law_take hr hk__law_take rfl (va_p (ve_v 0) (va_p ve_int va_p0)))) (ve_call [true, false] ca__law_take hr hk__law_take rfl (va_p (ve_v 0) (va_p ve_int va_p0)))))))
abbrev s__law_same : Stmt := top 20
def N__law_same : List Str := ["_law_found", "_law_due", "_law_one", "_law_other"]
def t__law_same (sp__law_same : SpD) : TS' :=
  (sSeq (sIf (cP (bTr (poN isiD [(pV 1), (poTup [(pC (.ty "list")), (pC (.ty "tuple"))])])))
  (sSeq (sIf (cP (bOr (bB (po2 neD (poN isiD [(pV 0), (pC (.ty "list"))]) (poN isiD [(pV 1), (pC (.ty "list"))]))) (bB (po2 neD (poN isiD [(pV 0), (pC (.ty "tuple"))]) (poN isiD [(pV 1), (pC (.ty "tuple"))])))))
  (sRet (eP (pC (.bl false))))
  sNil)
  (sSeq (sIf (cP (bB (po2 neD (poN lenD [(pV 0)]) (poN lenD [(pV 1)]))))
  (sRet (eP (pC (.bl false))))
  sNil)
  (sRet (eoN allD (aCons (eFz (fLc (iZq (aP [(pV 0), (pV 1)])) (.tp [2, 3]) tYs (eCall [false, false] sp__law_same (aP [(pV 2), (pV 3)])) [2, 3])) (aP []))))))
  sNil)
  (sSeq (sIf (cP (bOr (bB (po2 isD (pV 1) (pC .non))) (bTr (poN isiD [(pV 1), (pC (.ty "str"))]))))
  (sRet (eP (poAn (po2 eqD (pV 0) (pV 1)) (po2 eqD (poN isiD [(pV 0), (pC (.ty "str"))]) (poN isiD [(pV 1), (pC (.ty "str"))])))))
  sNil)
  (sSeq (sIf (cP (bTr (poN isiD [(pV 1), (pC (.ty "bool"))])))
  (sRet (eP (poAn (poN isiD [(pV 0), (pC (.ty "bool"))]) (po2 eqD (pV 0) (pV 1)))))
  sNil)
  (sRet (eP (poAn (poN isiD [(pV 0), (pC (.ty "int"))]) (poAn (poNt (poN isiD [(pV 0), (pC (.ty "bool"))])) (po2 eqD (pV 0) (pV 1)))))))))
theorem nd__law_same : N__law_same.Nodup := by decide
theorem sc__law_same : FnScope N__law_same ["_law_found", "_law_due"] (defScope s__law_same) := C8.fnScope_by (by decide +kernel)
theorem d__law_same {P : Program} {w : World} {K : PySem.W.Frag} {mg : Str → Option Value} {base : Heap} {f : Addr} {k : Nat} (m_list : mg "list" = none) (m_tuple : mg "tuple" = none) (m_isinstance : mg "isinstance" = none) (m_len : mg "len" = none) (m_zip : mg "zip" = none) (m_all : mg "all" = none) (m_str : mg "str" = none) (m_bool : mg "bool" = none) (m_int : mg "int" = none) {sp__law_same : SpD} {k__law_same : Nat} (ca__law_same : Ca P w K mg base k__law_same "_law_same" 2 sp__law_same) (hk__law_same : k__law_same ≤ k) :
    ∀ (cdv : Value) (A : Around) (outer : List Env) (s : Shared) (H : Hp) (E : XK) (G : Gd), RoomG k (A.deeper (PyProof.Rows.envOfC "_law_same" (defScope s__law_same) s.heap.objs.size f cdv)) → G.i0.length = 0 →
      VSs (cxOf C8.CX0 P w K mg base N__law_same "_law_same" (defScope s__law_same) f cdv A outer s H E).nox G (defBody s__law_same) (t__law_same sp__law_same) := by
  intro cdv A outer s H E G hr hG
  have hU : ∀ n : Nat, n ≤ 200 → (A.deeper (PyProof.Rows.envOfC "_law_same" (defScope s__law_same) s.heap.objs.size f cdv)).units + n < cLine := fun n hn => by have := hr.rm.un; omega
  exact (vss_cons (vs_if (VT.pure (vt_val (VE.pureN (ve_callB call_isiX rd_isi rfl m_isinstance bt_isinstance (va_p (ve_v 1) (va_p (VE.pTup (ve_tup (va_p (ve_ty rfl m_list bt_list) (va_p (ve_ty rfl m_tuple bt_tuple) va_p0)))) va_p0)))))) (vss_cons (vs_if (VW.vt (VW.pOr (vw_or (VT.pureB2 (vt_cmp (op_neX (hU 64 (by decide))) rd_ne (VE.pureN (ve_callB call_isiX rd_isi rfl m_isinstance bt_isinstance (va_p (ve_v 0) (va_p (ve_ty rfl m_list bt_list) va_p0)))) (VE.pureN (ve_callB call_isiX rd_isi rfl m_isinstance bt_isinstance (va_p (ve_v 1) (va_p (ve_ty rfl m_list bt_list) va_p0)))) (nomark _))) (vw_or1 (VT.pureB2 (vt_cmp (op_neX (hU 64 (by decide))) rd_ne (VE.pureN (ve_callB call_isiX rd_isi rfl m_isinstance bt_isinstance (va_p (ve_v 0) (va_p (ve_ty rfl m_tuple bt_tuple) va_p0)))) (VE.pureN (ve_callB call_isiX rd_isi rfl m_isinstance bt_isinstance (va_p (ve_v 1) (va_p (ve_ty rfl m_tuple bt_tuple) va_p0)))) (nomark _))))))) (vss_one (vs_ret ve_bl)) vss_nil)
  (vss_cons (vs_if (VT.pureB2 (vt_cmp (op_neX (hU 64 (by decide))) rd_ne (VE.pureN (ve_callB call_lenX rd_len rfl m_len bt_len (va_p (ve_v 0) va_p0))) (VE.pureN (ve_callB call_lenX rd_len rfl m_len bt_len (va_p (ve_v 1) va_p0))) (nomark _))) (vss_one (vs_ret ve_bl)) vss_nil)
  (vss_one (vs_ret (ve_callB (cr_all rfl) rd_all rfl m_all bt_all (va_cons (VF.fz (vf_lc (own := [("_law_one", 2), ("_law_other", 3)]) rfl nd__law_same (vi_zipQ rfl m_zip (va_p (ve_v 0) (va_p (ve_v 1) va_p0))) (blkOk_by (show blkC N__law_same (defScope s__law_same) _ _ = true by decide +kernel)) (fun s H C cl fp => pg_tup rfl (pgs_cons (pg_name nd__law_same rfl (by first | exact Or.inl rfl | exact Or.inr rfl) (by first | exact Or.inr rfl | exact Or.inl rfl)) (pgs_cons (pg_name nd__law_same rfl (by first | exact Or.inl rfl | exact Or.inr rfl) (by first | exact Or.inr rfl | exact Or.inl rfl)) pgs_nil))) (fun s H C cl fp G hG' => vts_nil) (fun s H C cl fp G hG' => (ve_call [false, false] ca__law_same hr hk__law_same rfl (va_p (ve_v 2) (va_p (ve_v 3) va_p0)))) (by decide))) va_p0)))))) vss_nil)
  (vss_cons (vs_if (VW.vt (VW.pOr (vw_or (VT.pureB2 (vt_cmp op_isX rd_is (ve_v 1) ve_non (nomark _))) (vw_or1 (VT.pure (vt_val (VE.pureN (ve_callB call_isiX rd_isi rfl m_isinstance bt_isinstance (va_p (ve_v 1) (va_p (ve_ty rfl m_str bt_str) va_p0)))))))))) (vss_one (vs_ret (VE.pAn (ve_and (VE.pure2 (ve_cmp (op_eqX (hU 64 (by decide))) rd_eq (ve_v 0) (ve_v 1) (nomark _))) (ve_one (VE.pure2 (ve_cmp (op_eqX (hU 64 (by decide))) rd_eq (VE.pureN (ve_callB call_isiX rd_isi rfl m_isinstance bt_isinstance (va_p (ve_v 0) (va_p (ve_ty rfl m_str bt_str) va_p0)))) (VE.pureN (ve_callB call_isiX rd_isi rfl m_isinstance bt_isinstance (va_p (ve_v 1) (va_p (ve_ty rfl m_str bt_str) va_p0)))) (nomark _)))))))) vss_nil)
  (vss_cons (vs_if (VT.pure (vt_val (VE.pureN (ve_callB call_isiX rd_isi rfl m_isinstance bt_isinstance (va_p (ve_v 1) (va_p (ve_ty rfl m_bool bt_bool) va_p0)))))) (vss_one (vs_ret (VE.pAn (ve_and (VE.pureN (ve_callB call_isiX rd_isi rfl m_isinstance bt_isinstance (va_p (ve_v 0) (va_p (ve_ty rfl m_bool bt_bool) va_p0)))) (ve_one (VE.pure2 (ve_cmp (op_eqX (hU 64 (by decide))) rd_eq (ve_v 0) (ve_v 1) (nomark _)))))))) vss_nil)
  (vss_one (vs_ret (VE.pAn (ve_and (VE.pureN (ve_callB call_isiX rd_isi rfl m_isinstance bt_isinstance (va_p (ve_v 0) (va_p (ve_ty rfl m_int bt_int) va_p0)))) (VE.pAn (ve_and (VE.pNt (ve_not (VE.pureN (ve_callB call_isiX rd_isi rfl m_isinstance bt_isinstance (va_p (ve_v 0) (va_p (ve_ty rfl m_bool bt_bool) va_p0)))))) (ve_one (VE.pure2 (ve_cmp (op_eqX (hU 64 (by decide))) rd_eq (ve_v 0) (ve_v 1) (nomark _)))))))))))))
abbrev s__law_claim_text : Stmt := top 21
def N__law_claim_text : List Str := ["_law_claim_here", "_law_words", "_law_inner", "_law_one"]
def t__law_claim_text (sp__law_claim_text : SpD) : TS' :=
  (sSeq (sIf (cP (bB (po2 eqD (po2 ixD (pV 0) (pC (.int 0))) (pC (.str "name")))))
  (sRet (eP (poN strTD [(po2 ixD (pV 0) (pC (.int 1)))])))
  sNil)
  (sSeq (sPar 1 2 (aCons (eNw (fP (plLst [(po2 ixD (pV 0) (pC (.int 0)))]))) (aP [(pFz (plN listF [(poSl (pV 0) (poI (pC (.int 1))) poNo)]))])))
  (sSeq (sIf (cP (bB (po2 inD (po2 ixD (pV 0) (pC (.int 0))) (poTup [(pC (.str "and")), (pC (.str "or")), (pC (.str "least"))]))))
  (sSeq (sSet 2 (eP (pFz (plN listF [(po2 ixD (pV 0) (po1 negD (pC (.int 1))))]))))
  (sSeq (sSet 1 (eNw (fP (pl2 catF (pV 1) (pFz (pl2 repF (pFz (plLst [(poN strTD [(po2 ixD (pV 0) (pC (.int 1)))])])) (poN intD [(po2 eqD (po2 ixD (pV 0) (pC (.int 0))) (pC (.str "least")))])))))))
  (sDrop (eMt "list" mApp (eP (pV 1)) (aP [(poN strTD [(poN lenD [(pV 2)])])])))))
  sNil)
  (sRet (eMt "str" (mPure joinD) (eP (pC (.str " "))) (aCons (eFz (f2 catF (eP (pV 1)) (eFz (fLc (iPq (pV 2)) (.nm 3) tYs (eCall [false] sp__law_claim_text (aP [(pV 3)])) [3])))) (aP [])))))))
theorem nd__law_claim_text : N__law_claim_text.Nodup := by decide
theorem sc__law_claim_text : FnScope N__law_claim_text ["_law_claim_here"] (defScope s__law_claim_text) := C8.fnScope_by (by decide +kernel)
theorem d__law_claim_text {P : Program} {w : World} {K : PySem.W.Frag} {mg : Str → Option Value} {base : Heap} {f : Addr} {k : Nat} (m_str : mg "str" = none) (m_list : mg "list" = none) (m_int : mg "int" = none) (m_len : mg "len" = none) {sp__law_claim_text : SpD} {k__law_claim_text : Nat} (ca__law_claim_text : Ca P w K mg base k__law_claim_text "_law_claim_text" 1 sp__law_claim_text) (hk__law_claim_text : k__law_claim_text ≤ k) :
    ∀ (cdv : Value) (A : Around) (outer : List Env) (s : Shared) (H : Hp) (E : XK) (G : Gd), RoomG k (A.deeper (PyProof.Rows.envOfC "_law_claim_text" (defScope s__law_claim_text) s.heap.objs.size f cdv)) → G.i0.length = 0 →
      VSs (cxOf C8.CX0 P w K mg base N__law_claim_text "_law_claim_text" (defScope s__law_claim_text) f cdv A outer s H E).nox G (defBody s__law_claim_text) (t__law_claim_text sp__law_claim_text) := by
  intro cdv A outer s H E G hr hG
  have hU : ∀ n : Nat, n ≤ 200 → (A.deeper (PyProof.Rows.envOfC "_law_claim_text" (defScope s__law_claim_text) s.heap.objs.size f cdv)).units + n < cLine := fun n hn => by have := hr.rm.un; omega
  exact (vss_cons (vs_if (VT.pureB2 (vt_cmp (op_eqX (hU 64 (by decide))) rd_eq (VE.pure2 (ve_idx (ve_v 0) ve_int)) ve_str (nomark _))) (vss_one (vs_ret (VE.pureN (ve_callTy (call_strT hr.gs (hU 200 (by decide))) rd_strT rfl m_str bt_str (va_p (VE.pure2 (ve_idx (ve_v 0) ve_int)) va_p0))))) vss_nil)
  (vss_cons (vs_par rfl nd__law_claim_text rfl rfl (by decide) rfl rfl (va_cons (VF.nw (VF.pLst (vf_lst (va_p (VE.pure2 (ve_idx (ve_v 0) ve_int)) va_p0)))) (va_p (VF.pure (VF.pN (vf_callTy call_list_of rd_list rfl m_list bt_list (va_p (ve_slice (ve_v 0) (vo_some ve_int) vo_none) va_p0)))) va_p0)) rfl)
  (vss_cons (vs_if (VT.pureB2 (vt_cmp (op_inX (hU 65 (by decide))) rd_in (VE.pure2 (ve_idx (ve_v 0) ve_int)) (VE.pTup (ve_tup (va_p ve_str (va_p ve_str (va_p ve_str va_p0))))) rfl)) (vss_cons (vs_set nd__law_claim_text rfl (by first | exact Or.inl rfl | exact Or.inr rfl) (VF.pure (VF.pN (vf_callTy call_list_of rd_list rfl m_list bt_list (va_p (VE.pure2 (ve_idx (ve_v 0) (VE.pure1 (ve_neg ve_int)))) va_p0)))))
  (vss_cons (vs_set nd__law_claim_text rfl (by first | exact Or.inl rfl | exact Or.inr rfl) (VF.nw (VF.p2 (vf_cat (ve_v 1) (VF.pure (VF.p2 (vf_rep (VF.pure (VF.pLst (vf_lst (va_p (VE.pureN (ve_callTy (call_strT hr.gs (hU 200 (by decide))) rd_strT rfl m_str bt_str (va_p (VE.pure2 (ve_idx (ve_v 0) ve_int)) va_p0))) va_p0)))) (VE.pureN (ve_callTy call_int1 rd_intC rfl m_int bt_int (va_p (VE.pure2 (ve_cmp (op_eqX (hU 64 (by decide))) rd_eq (VE.pure2 (ve_idx (ve_v 0) ve_int)) ve_str (nomark _))) va_p0))))))))))
  (vss_one (vs_expr (ve_mt F.plainAttrs_list F.slot_list_append rfl mt_append rd_app (ve_v 1) (va_p (VE.pureN (ve_callTy (call_strT hr.gs (hU 200 (by decide))) rd_strT rfl m_str bt_str (va_p (VE.pureN (ve_callB call_lenX rd_len rfl m_len bt_len (va_p (ve_v 2) va_p0))) va_p0))) va_p0)))))) vss_nil)
  (vss_one (vs_ret (ve_mt F.plainAttrs_str F.slot_str_join rfl mt_join rd_join ve_str (va_cons (VF.fz (vf_cat (ve_v 1) (VF.fz (vf_lc (own := [("_law_one", 3)]) rfl nd__law_claim_text (vi_pq (ve_v 2)) (blkOk_by (show blkC N__law_claim_text (defScope s__law_claim_text) _ _ = true by decide +kernel)) (fun s H C cl fp => pg_name nd__law_claim_text rfl (by first | exact Or.inl rfl | exact Or.inr rfl) (by first | exact Or.inr rfl | exact Or.inl rfl)) (fun s H C cl fp G hG' => vts_nil) (fun s H C cl fp G hG' => (ve_call [false] ca__law_claim_text hr hk__law_claim_text rfl (va_p (ve_v 3) va_p0))) (by decide))))) va_p0)))))))
abbrev s__law_long : Stmt := top 22
def N__law_long : List Str := ["_law_tape_here", "_law_many_here", "_law_turn", "_law_some", "_law_claims", "_law_size", "_law_plain", "_law_one"]
def t__law_long (sp__law_take : SpD) (sp__law_claim_text : SpD) : TS' :=
  (sSeq (sPar 4 5 (aCons (eNw (fP (plLst []))) (aP [(pC (.int 16))])))
  (sSeq (sFor (iRg false (aCons (eIf (tTb (eo2 eqD (eCall [true, false] sp__law_take (aP [(pV 0), (pC (.int 2))])) (eP (pC (.int 0))))) (eP (pC (.int 190))) (eo2 addD (eP (pC (.int 60))) (eCall [true, false] sp__law_take (aP [(pV 0), (pC (.int 131))])))) (aP []))) (gNm 2)
  (sSeq (sSet 6 (eOr (eP (po2 eqD (pV 1) (pC (.int 0)))) (eo2 eqD (eCall [true, false] sp__law_take (aP [(pV 0), (pC (.int 20))])) (eP (pC (.int 0))))))
  (sSeq (sSet 7 (eIf (cP (bTr (pV 6))) (eo2 ixD (eP (pFz (plLst [(poTup [(pC (.str "yes"))]), (poTup [(pC (.str "no"))])]))) (eCall [true, false] sp__law_take (aP [(pV 0), (pC (.int 2))]))) (tTupE (aCons (eP (pC (.str "name"))) (aCons (eCall [true, false] sp__law_take (aP [(pV 0), (poN minD [(pV 1), (pC (.int 10))])])) (aP []))))))
  (sSeq (sSet 5 (eo2 addD (eo2 addD (eP (pV 5)) (eoN lenD (aCons (eCall [false] sp__law_claim_text (aP [(pV 7)])) (aP [])))) (eP (pC (.int 1)))))
  (sIf (cP (bB (po2 ltD (pV 5) (pC (.int 400)))))
  (sDrop (eMt "list" mApp (eP (pV 4)) (aP [(pV 7)])))
  sNil)))))
  (sSeq (sSet 3 (eFz (tLstF (aCons (eP (poTup [(pC (.str "and")), (po1 tupC (pV 4))])) (aCons (eP (poTup [(pC (.str "or")), (po1 tupC (pV 4))])) (aCons (tTupE (aCons (eP (pC (.str "least"))) (aCons (eCall [true, false] sp__law_take (aP [(pV 0), (pC (.int 200))])) (aP [(po1 tupC (pV 4))])))) (aP [])))))))
  (sRet (eo2 ixD (eP (pV 3)) (eCall [true, false] sp__law_take (aP [(pV 0), (pC (.int 3))])))))))
theorem nd__law_long : N__law_long.Nodup := by decide
theorem sc__law_long : FnScope N__law_long ["_law_tape_here", "_law_many_here"] (defScope s__law_long) := C8.fnScope_by (by decide +kernel)
theorem d__law_long {P : Program} {w : World} {K : PySem.W.Frag} {mg : Str → Option Value} {base : Heap} {f : Addr} {k : Nat} (m_range : mg "range" = none) (m_min : mg "min" = none) (m_len : mg "len" = none) (m_tuple : mg "tuple" = none) {sp__law_take : SpD} {k__law_take : Nat} (ca__law_take : Ca P w K mg base k__law_take "_law_take" 2 sp__law_take) (hk__law_take : k__law_take ≤ k) {sp__law_claim_text : SpD} {k__law_claim_text : Nat} (ca__law_claim_text : Ca P w K mg base k__law_claim_text "_law_claim_text" 1 sp__law_claim_text) (hk__law_claim_text : k__law_claim_text ≤ k) :
    ∀ (cdv : Value) (A : Around) (outer : List Env) (s : Shared) (H : Hp) (E : XK) (G : Gd), RoomG k (A.deeper (PyProof.Rows.envOfC "_law_long" (defScope s__law_long) s.heap.objs.size f cdv)) → G.i0.length = 1 →
      VSs (cxOf C8.CX0 P w K mg base N__law_long "_law_long" (defScope s__law_long) f cdv A outer s H E).nox G (defBody s__law_long) (t__law_long sp__law_take sp__law_claim_text) := by
  intro cdv A outer s H E G hr hG
  have hU : ∀ n : Nat, n ≤ 200 → (A.deeper (PyProof.Rows.envOfC "_law_long" (defScope s__law_long) s.heap.objs.size f cdv)).units + n < cLine := fun n hn => by have := hr.rm.un; omega
  exact (vss_cons (vs_par rfl nd__law_long rfl rfl (by decide) rfl rfl (va_cons (VF.nw (VF.pLst (vf_lst va_p0))) (va_p ve_int va_p0)) rfl)
  (vss_cons (vs_for (bd := false) PassesOwn.never rfl (vi_range1 rfl m_range (va_cons (ve_if (vt_cmp (op_eqX (hU 64 (by decide))) rd_eq (ve_call [true, false] ca__law_take hr hk__law_take rfl (va_p (ve_v 0) (va_p ve_int va_p0))) ve_int (nomark _)) ve_int (ve_add ve_int (ve_call [true, false] ca__law_take hr hk__law_take rfl (va_p (ve_v 0) (va_p ve_int va_p0))))) va_p0)) (vg_name nd__law_long rfl (by first | exact Or.inl rfl | exact Or.inr rfl)) (vss_cons (vs_set nd__law_long rfl (by first | exact Or.inl rfl | exact Or.inr rfl) (ve_or (VE.pure2 (ve_cmp (op_eqX (hU 64 (by decide))) rd_eq (ve_v 1) ve_int (nomark _))) (ve_one (ve_cmp (op_eqX (hU 64 (by decide))) rd_eq (ve_call [true, false] ca__law_take hr hk__law_take rfl (va_p (ve_v 0) (va_p ve_int va_p0))) ve_int (nomark _)))))
  (vss_cons (vs_set nd__law_long rfl (by first | exact Or.inl rfl | exact Or.inr rfl) (ve_if (VT.pure (vt_val (ve_v 6))) (ve_idx (VF.pure (VF.pLst (vf_lst (va_p (VE.pTup (ve_tup (va_p ve_str va_p0))) (va_p (VE.pTup (ve_tup (va_p ve_str va_p0))) va_p0))))) (ve_call [true, false] ca__law_take hr hk__law_take rfl (va_p (ve_v 0) (va_p ve_int va_p0)))) (ve_tup (va_cons ve_str (va_cons (ve_call [true, false] ca__law_take hr hk__law_take rfl (va_p (ve_v 0) (va_p (VE.pureN (ve_callB (call_minX rfl) rd_min rfl m_min bt_min (va_p (ve_v 1) (va_p ve_int va_p0)))) va_p0))) va_p0)))))
  (vss_cons (vs_set nd__law_long rfl (by first | exact Or.inl rfl | exact Or.inr rfl) (ve_add (ve_add (ve_v 5) (ve_callB call_lenX rd_len rfl m_len bt_len (va_cons (ve_call [false] ca__law_claim_text hr hk__law_claim_text rfl (va_p (ve_v 7) va_p0)) va_p0))) ve_int))
  (vss_one (vs_if (VT.pureB2 (vt_cmp op_lt rd_lt (ve_v 5) ve_int (nomark _))) (vss_one (vs_expr (ve_mt F.plainAttrs_list F.slot_list_append rfl mt_append rd_app (ve_v 4) (va_p (ve_v 7) va_p0)))) vss_nil))))))
  (vss_cons (vs_set nd__law_long rfl (by first | exact Or.inl rfl | exact Or.inr rfl) (VF.fz (vf_lst (va_cons (VE.pTup (ve_tup (va_p ve_str (va_p (VE.pure1 (ve_tupleOf rfl m_tuple (ve_v 4))) va_p0)))) (va_cons (VE.pTup (ve_tup (va_p ve_str (va_p (VE.pure1 (ve_tupleOf rfl m_tuple (ve_v 4))) va_p0)))) (va_cons (ve_tup (va_cons ve_str (va_cons (ve_call [true, false] ca__law_take hr hk__law_take rfl (va_p (ve_v 0) (va_p ve_int va_p0))) (va_p (VE.pure1 (ve_tupleOf rfl m_tuple (ve_v 4))) va_p0)))) va_p0))))))
  (vss_one (vs_ret (ve_idx (ve_v 3) (ve_call [true, false] ca__law_take hr hk__law_take rfl (va_p (ve_v 0) (va_p ve_int va_p0)))))))))
abbrev s_law : Stmt := top 23
def N_law : List Str := ["_law_script", "_law_deep", "_law_turn", "_law_some", "_law_k", "_law_tape_here", "_law_many_here", "_law_claim_here", "_law_wide", "_law_claims", "_law_due", "_law_place", "_law_one"]
def t_law (sp__law_tape : SpD) (sp__law_take : SpD) (sp__law_many : SpD) (sp__law_any_claim : SpD) (sp__law_claim_text : SpD) (sp__law_claim : SpD) (sp__law_long : SpD) (sp__law_same : SpD) (sp_claim_text : SpD) (sp_claim_from : SpD) : TS' :=
  (sSeq (sSet 1 (eP (poTup [(pC (.str "name")), (pC (.int 0))])))
  (sSeq (sFor (iRg false (aP [(pC (.int 11))])) (gNm 2)
  (sSet 1 (eP (poTup [(pC (.str "not")), (pV 1)]))))
  (sSeq (sSet 3 (eP (pFz (plLst [(pV 1), (poTup [(pC (.str "least")), (pC (.int 9999)), (poTup [])]), (poTup [(pC (.str "least")), (pC (.int 0)), (poTup [(poTup [(pC (.str "no"))])])]), (poTup [(pC (.str "and")), (poTup [])]), (poTup [(pC (.str "or")), (poTup [(poTup [(pC (.str "and")), (poTup [])])])]), (poTup [(pC (.str "yes"))])]))))
  (sSeq (sFor (iRg false (aP [(po2 addD (pC (.int 1)) (poN minD [(pC (.int 8)), (poN lenD [(pV 0)])]))])) (gNm 4)
  (sSeq (sSet 5 (eCall [false, false] sp__law_tape (aP [(pV 0), (pV 4)])))
  (sSeq (sSet 6 (eIf (tTb (eo2 eqD (eCall [true, false] sp__law_take (aP [(pV 5), (pC (.int 4))])) (eP (pC (.int 0))))) (eo2 addD (eP (pC (.int 9))) (eCall [true, false] sp__law_take (aP [(pV 5), (pC (.int 22))]))) (eCall [true] sp__law_many (aP [(pV 5)]))))
  (sSeq (sSet 7 (eCall [true, false] sp__law_any_claim (aP [(pV 5), (pV 6)])))
  (sSeq (sIf (tTb (eo2 gtD (eoN lenD (aCons (eCall [false] sp__law_claim_text (aP [(pV 7)])) (aP []))) (eP (pC (.int 380)))))
  (sSet 7 (eCall [true, false, false] sp__law_claim (aP [(pV 5), (pV 6), (pC (.int 1))])))
  sNil)
  (sSeq (sSet 8 (eo1 tupC (eFz (fLc (iRg true (aCons (eo2 addD (eP (pC (.int 10))) (eCall [true, false] sp__law_take (aP [(pV 5), (pC (.int 11))]))) (aP []))) (.nm 11) tYs (eCall [true, false, false] sp__law_claim (aP [(pV 5), (pV 6), (po2 subD (pC (.int 1)) (poN intD [(po2 gtD (pV 11) (pC (.int 4)))]))])) [11]))))
  (sSeq (sSet 8 (eFz (tLstF (aCons (eP (poTup [(pC (.str "and")), (pV 8)])) (aCons (eP (poTup [(pC (.str "or")), (pV 8)])) (aCons (tTupE (aCons (eP (pC (.str "least"))) (aCons (eCall [true, false] sp__law_take (aP [(pV 5), (pC (.int 30))])) (aP [(pV 8)])))) (aP [])))))))
  (sSeq (sSet 9 (eP (pFz (pl2 catF (pFz (plLst [(pV 7)])) (pFz (plSl (pV 3) (poI (poN intD [(po2 eqD (pV 6) (pC (.int 0)))])) poNo))))))
  (sSeq (sSet 9 (eFz (f2 catF (eFz (f2 catF (eP (pV 9)) (eFz (fLc (iPq (pV 8)) (.nm 12) (tTb (eo2 ltD (eoN lenD (aCons (eCall [false] sp__law_claim_text (aP [(pV 12)])) (aP []))) (eP (pC (.int 380))))) (eP (pV 12)) [12])))) (eFz (tLstF (aCons (eCall [true, false] sp__law_long (aP [(pV 5), (pV 6)])) (aP [])))))))
  (sFor (iSq (eFz (f2 catF (eP (pV 9)) (eFz (tLstF (aCons (tTupE (aCons (eP (pC (.str "least"))) (aCons (eCall [true, false] sp__law_take (aP [(pV 5), (pC (.int 10000))])) (aP [(poTup [(po2 ixD (pV 9) (pC (.int 0)))])])))) (aP []))))))) (gNm 7)
  (sSeq (sSet 10 (eCall [false] sp__law_claim_text (aP [(pV 7)])))
  (sFor (iRg false (aP [(pC (.int 2))])) (gNm 2)
  (sIf (tOrr (tNt (tTr (eCall [false, false] sp__law_same (aCons (eCall [false] sp_claim_text (aP [(pV 7)])) (aP [(pV 10)]))))) (tNt (tTr (eCall [false, false] sp__law_same (aCons (eCall [false, false] sp_claim_from (aP [(pV 6), (pV 10)])) (aP [(pV 7)]))))))
  (sRet (eP (pC (.bl false))))
  sNil)))))))))))))
  (sRet (eP (pC (.bl true))))))))
theorem nd_law : N_law.Nodup := by decide
theorem sc_law : FnScope N_law ["_law_script"] (defScope s_law) := C8.fnScope_by (by decide +kernel)
theorem d_law {P : Program} {w : World} {K : PySem.W.Frag} {mg : Str → Option Value} {base : Heap} {f : Addr} {k : Nat} (m_range : mg "range" = none) (m_len : mg "len" = none) (m_min : mg "min" = none) (m_int : mg "int" = none) (m_tuple : mg "tuple" = none) {sp__law_tape : SpD} {k__law_tape : Nat} (ca__law_tape : Ca P w K mg base k__law_tape "_law_tape" 2 sp__law_tape) (hk__law_tape : k__law_tape ≤ k) {sp__law_take : SpD} {k__law_take : Nat} (ca__law_take : Ca P w K mg base k__law_take "_law_take" 2 sp__law_take) (hk__law_take : k__law_take ≤ k) {sp__law_many : SpD} {k__law_many : Nat} (ca__law_many : Ca P w K mg base k__law_many "_law_many" 1 sp__law_many) (hk__law_many : k__law_many ≤ k) {sp__law_any_claim : SpD} {k__law_any_claim : Nat} (ca__law_any_claim : Ca P w K mg base k__law_any_claim "_law_any_claim" 2 sp__law_any_claim) (hk__law_any_claim : k__law_any_claim ≤ k) {sp__law_claim_text : SpD} {k__law_claim_text : Nat} (ca__law_claim_text : Ca P w K mg base k__law_claim_text "_law_claim_text" 1 sp__law_claim_text) (hk__law_claim_text : k__law_claim_text ≤ k) {sp__law_claim : SpD} {k__law_claim : Nat} (ca__law_claim : Ca P w K mg base k__law_claim "_law_claim" 3 sp__law_claim) (hk__law_claim : k__law_claim ≤ k) {sp__law_long : SpD} {k__law_long : Nat} (ca__law_long : Ca P w K mg base k__law_long "_law_long" 2 sp__law_long) (hk__law_long : k__law_long ≤ k) {sp__law_same : SpD} {k__law_same : Nat} (ca__law_same : Ca P w K mg base k__law_same "_law_same" 2 sp__law_same) (hk__law_same : k__law_same ≤ k) {sp_claim_text : SpD} {k_claim_text : Nat} (ca_claim_text : Ca P w K mg base k_claim_text "claim_text" 1 sp_claim_text) (hk_claim_text : k_claim_text ≤ k) {sp_claim_from : SpD} {k_claim_from : Nat} (ca_claim_from : Ca P w K mg base k_claim_from "claim_from" 2 sp_claim_from) (hk_claim_from : k_claim_from ≤ k) :
    ∀ (cdv : Value) (A : Around) (outer : List Env) (s : Shared) (H : Hp) (E : XK) (G : Gd), RoomG k (A.deeper (PyProof.Rows.envOfC "law" (defScope s_law) s.heap.objs.size f cdv)) → G.i0.length = 0 →
      VSs (cxOf C8.CX0 P w K mg base N_law "law" (defScope s_law) f cdv A outer s H E).nox G (defBody s_law) (t_law sp__law_tape sp__law_take sp__law_many sp__law_any_claim sp__law_claim_text sp__law_claim sp__law_long sp__law_same sp_claim_text sp_claim_from) := by
  intro cdv A outer s H E G hr hG
  have hU : ∀ n : Nat, n ≤ 200 → (A.deeper (PyProof.Rows.envOfC "law" (defScope s_law) s.heap.objs.size f cdv)).units + n < cLine := fun n hn => by have := hr.rm.un; omega
  exact (vss_cons (vs_set nd_law rfl (by first | exact Or.inl rfl | exact Or.inr rfl) (VE.pTup (ve_tup (va_p ve_str (va_p ve_int va_p0)))))
  (vss_cons (vs_for (bd := false) PassesOwn.never rfl (vi_range1 rfl m_range (va_p ve_int va_p0)) (vg_name nd_law rfl (by first | exact Or.inl rfl | exact Or.inr rfl)) (vss_one (vs_set nd_law rfl (by first | exact Or.inl rfl | exact Or.inr rfl) (VE.pTup (ve_tup (va_p ve_str (va_p (ve_v 1) va_p0)))))))
  (vss_cons (vs_set nd_law rfl (by first | exact Or.inl rfl | exact Or.inr rfl) (VF.pure (VF.pLst (vf_lst (va_p (ve_v 1) (va_p (VE.pTup (ve_tup (va_p ve_str (va_p ve_int (va_p (VE.pTup (ve_tup va_p0)) va_p0))))) (va_p (VE.pTup (ve_tup (va_p ve_str (va_p ve_int (va_p (VE.pTup (ve_tup (va_p (VE.pTup (ve_tup (va_p ve_str va_p0))) va_p0))) va_p0))))) (va_p (VE.pTup (ve_tup (va_p ve_str (va_p (VE.pTup (ve_tup va_p0)) va_p0)))) (va_p (VE.pTup (ve_tup (va_p ve_str (va_p (VE.pTup (ve_tup (va_p (VE.pTup (ve_tup (va_p ve_str (va_p (VE.pTup (ve_tup va_p0)) va_p0)))) va_p0))) va_p0)))) (va_p (VE.pTup (ve_tup (va_p ve_str va_p0))) va_p0))))))))))
  (vss_cons (vs_for (bd := false) PassesOwn.never rfl (vi_range1 rfl m_range (va_p (VE.pure2 (ve_add ve_int (VE.pureN (ve_callB (call_minX rfl) rd_min rfl m_min bt_min (va_p ve_int (va_p (VE.pureN (ve_callB call_lenX rd_len rfl m_len bt_len (va_p (ve_v 0) va_p0))) va_p0)))))) va_p0)) (vg_name nd_law rfl (by first | exact Or.inl rfl | exact Or.inr rfl)) (vss_cons (vs_set nd_law rfl (by first | exact Or.inl rfl | exact Or.inr rfl) (ve_call [false, false] ca__law_tape hr hk__law_tape rfl (va_p (ve_v 0) (va_p (ve_v 4) va_p0))))
  (vss_cons (vs_set nd_law rfl (by first | exact Or.inl rfl | exact Or.inr rfl) (ve_if (vt_cmp (op_eqX (hU 64 (by decide))) rd_eq (ve_call [true, false] ca__law_take hr hk__law_take rfl (va_p (ve_v 5) (va_p ve_int va_p0))) ve_int (nomark _)) (ve_add ve_int (ve_call [true, false] ca__law_take hr hk__law_take rfl (va_p (ve_v 5) (va_p ve_int va_p0)))) (ve_call [true] ca__law_many hr hk__law_many rfl (va_p (ve_v 5) va_p0))))
  (vss_cons (vs_set nd_law rfl (by first | exact Or.inl rfl | exact Or.inr rfl) (ve_call [true, false] ca__law_any_claim hr hk__law_any_claim rfl (va_p (ve_v 5) (va_p (ve_v 6) va_p0))))
  (vss_cons (vs_if (vt_cmp op_gt rd_gt (ve_callB call_lenX rd_len rfl m_len bt_len (va_cons (ve_call [false] ca__law_claim_text hr hk__law_claim_text rfl (va_p (ve_v 7) va_p0)) va_p0)) ve_int (nomark _)) (vss_one (vs_set nd_law rfl (by first | exact Or.inl rfl | exact Or.inr rfl) (ve_call [true, false, false] ca__law_claim hr hk__law_claim rfl (va_p (ve_v 5) (va_p (ve_v 6) (va_p ve_int va_p0)))))) vss_nil)
  (vss_cons (vs_set nd_law rfl (by first | exact Or.inl rfl | exact Or.inr rfl) (ve_tupleOf rfl m_tuple (VF.fz (vf_lc (own := [("_law_place", 11)]) rfl nd_law (vi_range1 rfl m_range (va_cons (ve_add ve_int (ve_call [true, false] ca__law_take hr hk__law_take rfl (va_p (ve_v 5) (va_p ve_int va_p0)))) va_p0)) (blkOk_by (show blkC N_law (defScope s_law) _ _ = true by decide +kernel)) (fun s H C cl fp => pg_name nd_law rfl (by first | exact Or.inl rfl | exact Or.inr rfl) (by first | exact Or.inr rfl | exact Or.inl rfl)) (fun s H C cl fp G hG' => vts_nil) (fun s H C cl fp G hG' => (ve_call [true, false, false] ca__law_claim hr hk__law_claim rfl (va_p (ve_v 5) (va_p (ve_v 6) (va_p (VE.pure2 (ve_sub ve_int (VE.pureN (ve_callTy call_int1 rd_intC rfl m_int bt_int (va_p (VE.pure2 (ve_cmp op_gt rd_gt (ve_v 11) ve_int (nomark _))) va_p0))))) va_p0))))) (by decide)))))
  (vss_cons (vs_set nd_law rfl (by first | exact Or.inl rfl | exact Or.inr rfl) (VF.fz (vf_lst (va_cons (VE.pTup (ve_tup (va_p ve_str (va_p (ve_v 8) va_p0)))) (va_cons (VE.pTup (ve_tup (va_p ve_str (va_p (ve_v 8) va_p0)))) (va_cons (ve_tup (va_cons ve_str (va_cons (ve_call [true, false] ca__law_take hr hk__law_take rfl (va_p (ve_v 5) (va_p ve_int va_p0))) (va_p (ve_v 8) va_p0)))) va_p0))))))
  (vss_cons (vs_set nd_law rfl (by first | exact Or.inl rfl | exact Or.inr rfl) (VF.pure (VF.p2 (vf_cat (VF.pure (VF.pLst (vf_lst (va_p (ve_v 7) va_p0)))) (VF.pure (vf_slice (ve_v 3) (vo_some (VE.pureN (ve_callTy call_int1 rd_intC rfl m_int bt_int (va_p (VE.pure2 (ve_cmp (op_eqX (hU 64 (by decide))) rd_eq (ve_v 6) ve_int (nomark _))) va_p0)))) vo_none))))))
  (vss_cons (vs_set nd_law rfl (by first | exact Or.inl rfl | exact Or.inr rfl) (VF.fz (vf_cat (VF.fz (vf_cat (ve_v 9) (VF.fz (vf_lc (own := [("_law_one", 12)]) rfl nd_law (vi_pq (ve_v 8)) (blkOk_by (show blkC N_law (defScope s_law) _ _ = true by decide +kernel)) (fun s H C cl fp => pg_name nd_law rfl (by first | exact Or.inl rfl | exact Or.inr rfl) (by first | exact Or.inr rfl | exact Or.inl rfl)) (fun s H C cl fp G hG' => vts_one (vt_cmp op_lt rd_lt (ve_callB call_lenX rd_len rfl m_len bt_len (va_cons (ve_call [false] ca__law_claim_text hr hk__law_claim_text rfl (va_p (ve_v 12) va_p0)) va_p0)) ve_int (nomark _))) (fun s H C cl fp G hG' => (ve_v 12)) (by decide))))) (VF.fz (vf_lst (va_cons (ve_call [true, false] ca__law_long hr hk__law_long rfl (va_p (ve_v 5) (va_p (ve_v 6) va_p0))) va_p0))))))
  (vss_one (vs_for (bd := false) PassesOwn.never rfl (vi_sq (VF.fz (vf_cat (ve_v 9) (VF.fz (vf_lst (va_cons (ve_tup (va_cons ve_str (va_cons (ve_call [true, false] ca__law_take hr hk__law_take rfl (va_p (ve_v 5) (va_p ve_int va_p0))) (va_p (VE.pTup (ve_tup (va_p (VE.pure2 (ve_idx (ve_v 9) ve_int)) va_p0))) va_p0)))) va_p0)))))) (vg_name nd_law rfl (by first | exact Or.inl rfl | exact Or.inr rfl)) (vss_cons (vs_set nd_law rfl (by first | exact Or.inl rfl | exact Or.inr rfl) (ve_call [false] ca__law_claim_text hr hk__law_claim_text rfl (va_p (ve_v 7) va_p0)))
  (vss_one (vs_for (bd := false) PassesOwn.never rfl (vi_range1 rfl m_range (va_p ve_int va_p0)) (vg_name nd_law rfl (by first | exact Or.inl rfl | exact Or.inr rfl)) (vss_one (vs_if (VW.vt (vw_or (vt_not (vt_val (ve_call [false, false] ca__law_same hr hk__law_same rfl (va_cons (ve_call [false] ca_claim_text hr hk_claim_text rfl (va_p (ve_v 7) va_p0)) (va_p (ve_v 10) va_p0))))) (vw_or1 (vt_not (vt_val (ve_call [false, false] ca__law_same hr hk__law_same rfl (va_cons (ve_call [false, false] ca_claim_from hr hk_claim_from rfl (va_p (ve_v 6) (va_p (ve_v 10) va_p0))) (va_p (ve_v 7) va_p0)))))))) (vss_one (vs_ret ve_bl)) vss_nil))))))))))))))))
  (vss_one (vs_ret ve_bl))))))
end Zk60
set_option Elab.async false
set_option linter.all false
set_option maxRecDepth 100000
set_option maxHeartbeats 1000000
namespace VL
open PySem PySem.Spec L2
theorem ok_gd {α : Type} {c : Prop} [Decidable c] {x : α} {k : α → Prop} : ok (gd c x) k ↔ c ∧ k x := by
  unfold gd
  by_cases h : c
  · simp [h, ok]
  · simp [h, ok]
theorem ok_ite {α : Type} {c : Prop} [Decidable c] {a b : Option α} {k : α → Prop} : ok (if c then a else b) k ↔ if c then ok a k else ok b k := by
  by_cases h : c <;> simp [h]
section
variable {M : Mem} {Q : QD} {i j : Int} {n m : Nat} {x y z u v : D} {a b : List D} {s t : Str} {p q : Bool} {ns : List Int} {c : Cell}
theorem ix_ref : ixD M (.ref n) (.d (.int i)) = (cellL M[n]?).bind fun ds => (atI ds i).map .d := rfl
theorem ix_tup : ixD M (.d (.tup a)) (.d (.int i)) = (atI a i).map .d := rfl
theorem ix_lst : ixD M (.d (.lst a)) (.d (.int i)) = (atI a i).map .d := rfl
theorem ix_bor : ixD M (.bor a) (.d (.int i)) = (atI a i).map .d := rfl
theorem ix_scr : ixD M (.d (.scr ns)) (.d (.int i)) = (atI (ns.map D.int) i).map .d := rfl
theorem add_int : addD M (.d (.int i)) (.d (.int j)) = some (.d (.int (i + j))) := rfl
theorem add_str : addD M (.d (.str s)) (.d (.str t)) = gd (s.length + t.length ≤ sizeLine) (.d (.str (s ++ t))) := rfl
theorem add_tup : addD M (.d (.tup a)) (.d (.tup b)) = gd (a.length + b.length ≤ sizeLine) (.d (.tup (a ++ b))) := rfl
theorem sub_int : subD M (.d (.int i)) (.d (.int j)) = some (.d (.int (i - j))) := rfl
theorem mul_int : mulD M (.d (.int i)) (.d (.int j)) = gd (MulOk i j) (.d (.int (i * j))) := rfl
theorem fdiv_int : fdivD M (.d (.int i)) (.d (.int j)) = gd (0 < j ∧ j.natAbs.log2 < 9000) (.d (.int (i / j))) := rfl
theorem mod_int : modD M (.d (.int i)) (.d (.int j)) = gd (0 < j) (.d (.int (i % j))) := rfl
theorem pow_int : powD M (.d (.int i)) (.d (.int j)) = gd (CPow i j) (.d (.int (i ^ j.toNat))) := rfl
theorem neg_int : negD M (.d (.int i)) = some (.d (.int (-i))) := rfl
theorem lt_int : ltD M (.d (.int i)) (.d (.int j)) = some (.d (.bl (decide (i < j)))) := rfl
theorem le_int : leD M (.d (.int i)) (.d (.int j)) = some (.d (.bl (decide (i ≤ j)))) := rfl
theorem gt_int : gtD M (.d (.int i)) (.d (.int j)) = some (.d (.bl (decide (j < i)))) := rfl
theorem ge_int : geD M (.d (.int i)) (.d (.int j)) = some (.d (.bl (decide (j ≤ i)))) := rfl
theorem eq_int : eqD M (.d (.int i)) (.d (.int j)) = some (.d (.bl (decide (i = j)))) := rfl
theorem eq_str : eqD M (.d (.str s)) (.d (.str t)) = some (.d (.bl (decide (s = t)))) := rfl
theorem eq_bl : eqD M (.d (.bl p)) (.d (.bl q)) = some (.d (.bl (decide (p = q)))) := rfl
theorem ne_int : neD M (.d (.int i)) (.d (.int j)) = some (.d (.bl (!decide (i = j)))) := rfl
theorem ne_str : neD M (.d (.str s)) (.d (.str t)) = some (.d (.bl (!decide (s = t)))) := rfl
theorem ne_bl : neD M (.d (.bl p)) (.d (.bl q)) = some (.d (.bl (!decide (p = q)))) := rfl
theorem is_bl : isD M (.d (.bl p)) (.d (.bl q)) = some (.d (.bl (decide (p = q)))) := rfl
theorem isnt_bl : isntD M (.d (.bl p)) (.d (.bl q)) = some (.d (.bl (!decide (p = q)))) := rfl
theorem is_non {w : Sv} : isD M w (.d .non) = some (.d (.bl (nonB w))) := by cases w with | d x => cases x <;> rfl | _ => rfl
theorem isnt_non {w : Sv} : isntD M w (.d .non) = some (.d (.bl (!nonB w))) := by cases w with | d x => cases x <;> rfl | _ => rfl
theorem len_tup : lenD M [.d (.tup a)] = some (.d (.int a.length)) := rfl
theorem len_lst : lenD M [.d (.lst a)] = some (.d (.int a.length)) := rfl
theorem len_bor : lenD M [.bor a] = some (.d (.int a.length)) := rfl
theorem len_scr : lenD M [.d (.scr ns)] = some (.d (.int ns.length)) := by simp [lenD, lenOf, seqD, intS]
theorem len_ref (h : M[n]? = some (.lst a)) : lenD M [.ref n] = some (.d (.int a.length)) := by simp [lenD, lenOf, h, intS]
theorem int_bl : intD M [.d (.bl p)] = some (.d (.int (if p then 1 else 0))) := rfl
theorem int_int : intD M [.d (.int i)] = some (.d (.int i)) := rfl
theorem abs_int : absD M [.d (.int i)] = some (.d (.int (if i < 0 then -i else i))) := rfl
theorem min_int : minD M [.d (.int i), .d (.int j)] = some (.d (.int (if j < i then j else i))) := rfl
theorem max_int : maxD M [.d (.int i), .d (.int j)] = some (.d (.int (if j > i then j else i))) := rfl
theorem blD_bl : blD (.d (.bl p)) = some p := rfl
theorem cell_lst : cellL (some (.lst a)) = some a := rfl
theorem st_ref {R : Mem → Prop} : stD (.ref n) (.d (.int i)) x M R = ok (cellL M[n]?) fun ds => ok (ixN ds.length i) fun j => R (M.set n (.lst (ds.set j x))) := rfl
theorem at_nat {α : Type} {xs : List α} {k : Nat} : atI xs ((k : Nat) : Int) = xs[k]? := by
  unfold atI ixN
  rw [if_pos (by omega)]
  split
  · simp
  · rw [List.getElem?_eq_none (by omega)]; rfl
theorem at_0 {α : Type} {x : α} {xs : List α} : atI (x :: xs) 0 = some x := at_nat (k := 0)
theorem at_1 {α : Type} {x y : α} {xs : List α} : atI (x :: y :: xs) 1 = some y := at_nat (k := 1)
theorem at_2 {α : Type} {x y z : α} {xs : List α} : atI (x :: y :: z :: xs) 2 = some z := at_nat (k := 2)
theorem at_3 {α : Type} {x y z u : α} {xs : List α} : atI (x :: y :: z :: u :: xs) 3 = some u := at_nat (k := 3)
theorem at_4 {α : Type} {x y z u v : α} {xs : List α} : atI (x :: y :: z :: u :: v :: xs) 4 = some v := at_nat (k := 4)
theorem ixN_10 : ixN 1 0 = some 0 := by decide
theorem ixN_20 : ixN 2 0 = some 0 := by decide
theorem ixN_21 : ixN 2 1 = some 1 := by decide
theorem ixN_30 : ixN 3 0 = some 0 := by decide
theorem ixN_31 : ixN 3 1 = some 1 := by decide
theorem ixN_32 : ixN 3 2 = some 2 := by decide
theorem dataS_d : dataS (.d x) = some x := rfl
theorem datas_nil : datas [] = some [] := rfl
theorem datas_cons {xs : List Sv} : datas (.d x :: xs) = (datas xs).map fun ds => x :: ds := rfl
theorem truth_bl : truth M (.d (.bl p)) = some p := rfl
theorem endsF_rt {R : Rv → Mem → Prop} {k : Nat} {w : Sv} : (endsF k R).rt w M = (okRef k w ∧ ok (resD M w) fun r => R r (M.take k)) := rfl
theorem endsF_nx {R : Rv → Mem → Prop} {k : Nat} {δ : DS} : (endsF k R).nx δ M = R (.d .non) (M.take k) := rfl
theorem rv_d : resD M (.d x) = some (.d x) := rfl
theorem rv_ref : resD M (.ref n) = resC M[n]? := rfl
theorem rv_cl {ds : List D} : resC (some (.lst ds)) = some (.new ds) := rfl
theorem rv_ck {kvs : List (Key × D)} : resC (some (.dk kvs)) = some (.newK kvs) := rfl
theorem rvQ_d : rvQ Q (.d x) M = Q (.d x) M := rfl
theorem rvQ_new : rvQ Q (.new a) M = Q (.ref M.length) (M ++ [.lst a]) := rfl
theorem rvQ_newK {kvs : List (Key × D)} : rvQ Q (.newK kvs) M = Q (.ref M.length) (M ++ [.dk kvs]) := rfl
theorem okRef_d {k : Nat} : okRef k (.d x) = True := rfl
theorem okRef_ref {k : Nat} : okRef k (.ref n) = (k ≤ n) := rfl
theorem at_pick {P : D → Prop} {R : D → Prop} {ds : List D} {i : Int} (h0 : 0 ≤ i) (h1 : i < ds.length) (h : ∀ d ∈ ds, P d) (k : ∀ d, P d → R d) : ok (atI ds i) R := by
  obtain ⟨j, rfl⟩ := Int.eq_ofNat_of_zero_le h0
  have hj : j < ds.length := by omega
  rw [at_nat, List.getElem?_eq_getElem hj]
  exact k _ (h _ (List.getElem_mem hj))
theorem handS_n {ks : List Nat} : handS M [] [] ks = some ([], ks) := rfl
theorem handS_tr {ms : List Bool} {xs : List Sv} {ks : List Nat} : handS M (true :: ms) (.ref n :: xs) ks = if n ∈ ks then none else (cellA M[n]?).bind fun _ => (handS M ms xs (ks ++ [n])).map fun r => (.ref ks.length :: r.1, r.2) := rfl
theorem handS_fr {ms : List Bool} {xs : List Sv} {ks : List Nat} : handS M (false :: ms) (.ref n :: xs) ks = (cellL M[n]?).bind fun ds => (handS M ms xs ks).bind fun r => if n ∈ r.2 then none else some (.bor ds :: r.1, r.2) := rfl
theorem handS_fd {ms : List Bool} {xs : List Sv} {ks : List Nat} : handS M (false :: ms) (.d x :: xs) ks = (handS M ms xs ks).map fun r => (.d x :: r.1, r.2) := rfl
theorem handS_fb {ms : List Bool} {xs : List Sv} {ks : List Nat} : handS M (false :: ms) (.bor a :: xs) ks = (handS M ms xs ks).map fun r => (.bor a :: r.1, r.2) := rfl
theorem cellA_lst {a : List D} : cellA (some (.lst a)) = some () := rfl
theorem cellA_dk {a : List (Key × D)} : cellA (some (.dk a)) = some () := rfl
theorem cellsAt_0 : cellsAt M [] = [] := rfl
theorem cellsAt_c {ks : List Nat} : cellsAt M (n :: ks) = M[n]?.getD .gone :: cellsAt M ks := rfl
theorem tup_lst : tupC M (.d (.lst a)) = some (.d (.tup a)) := rfl
theorem tup_tup : tupC M (.d (.tup a)) = some (.d (.tup a)) := rfl
theorem tup_ref : tupC M (.ref n) = (cellL M[n]?).map fun ds => .d (.tup ds) := rfl
theorem rng_1 {k : List D → Prop} : rngD [.d (.int j)] k = (I62 j ∧ k (rgL 0 j.toNat)) := rfl
theorem rng_2 {k : List D → Prop} : rngD [.d (.int i), .d (.int j)] k = ((I62 i ∧ I62 j) ∧ k (rgL i (j - i).toNat)) := rfl
theorem wipeS_c {δ : DS} {vs : List Nat} : wipeS δ (n :: vs) = (wipeS δ vs).set n none := rfl
theorem wipeS_n {δ : DS} : wipeS δ [] = δ := rfl
theorem ite_two {p q : Prop} [Decidable p] [Decidable q] {A B : Prop} (a : A) (b : ¬p → ¬q → B) : if p then A else if q then A else B := by
  by_cases h : p
  · rw [if_pos h]; exact a
  · rw [if_neg h]
    by_cases h2 : q
    · rw [if_pos h2]; exact a
    · rw [if_neg h2]; exact b h h2
theorem seq_tup : seqD M (.d (.tup a)) = some a := rfl
theorem seq_lst : seqD M (.d (.lst a)) = some a := rfl
theorem seq_bor : seqD M (.bor a) = some a := rfl
theorem lst_lst : lstD M (.d (.lst a)) = some a := rfl
theorem lst_bor : lstD M (.bor a) = some a := rfl
theorem gdS_d : gdS (.d x) a = fun _ => True := rfl
theorem gdS_b : gdS (.bor b) a = fun _ => True := rfl
theorem gcS_c {k : Nat} {o : Option Sv} {δ : DS} : gcS k (o :: δ) = gcO k o :: gcS k δ := rfl
theorem gcS_n {k : Nat} : gcS k [] = [] := rfl
theorem gcO_d {k : Nat} : gcO k (some (.d x)) = some (.d x) := rfl
theorem gcO_n {k : Nat} : gcO k none = none := rfl
theorem gcO_z : gcO 0 (some (.ref n)) = none := rfl
theorem seal_d {m0 : Nat} : sealD m0 M (.d x) = some (.d x, M) := rfl
theorem gcO_r0 {k : Nat} : gcO (k + 1) (some (.ref 0)) = some (.ref 0) := rfl
theorem gcO_r1 {k : Nat} : gcO (k + 2) (some (.ref 1)) = some (.ref 1) := rfl
theorem gcO_r {k : Nat} (h : n < k) : gcO k (some (.ref n)) = some (.ref n) := if_pos h
theorem mapp {R : QD} : mApp (.ref n) [.d x] M R = ok (cellL M[n]?) fun ds => ds.length < sizeLine ∧ R (.d .non) (M.set n (.lst (ds ++ [x]))) := rfl
theorem rcv_0 : rcv (.lst a :: M) (.ref 0) = some "list" := rfl
theorem rcv_1 : rcv (c :: .lst a :: M) (.ref 1) = some "list" := rfl
theorem rcv_l : rcv M (.d (.lst a)) = some "list" := rfl
theorem backS_0 {cs : Mem} : backS [] cs M = M := by cases cs <;> rfl
theorem backS_1 : backS [n] [c] M = M.set n c := rfl
end
/-- the tape: its third number at most b -/
structure Tp (b : Nat) (ds : List D) : Prop where
  ex : ∃ t0 t1 t2 : Int, ds = [.int t0, .int t1, .int t2] ∧ 0 ≤ t0 ∧ 0 ≤ t1 ∧ t1 < 2147483629 ∧ 0 ≤ t2 ∧ t2 ≤ b
theorem Tp.mono {b c : Nat} {ds : List D} (h : Tp b ds) (hb : b ≤ c) : Tp c ds := by
  obtain ⟨t0, t1, t2, rfl, h0, h1, h2, h3, h4⟩ := h.ex
  exact ⟨t0, t1, t2, rfl, h0, h1, h2, h3, by omega⟩
def sp_take : SpD := fun as M Q => ∃ (ds : List D) (n : Int) (b : Nat), as = [.ref 0, .d (.int n)] ∧ M = [.lst ds] ∧ Tp b ds ∧ b < 1099511627776 ∧ 1 ≤ n ∧ n ≤ 99999 ∧
  ∀ (v : Int) (ds' : List D), 0 ≤ v → v < n → Tp (b + 1) ds' → Q (.d (.int v)) [.lst ds']
def r_take (sp__law_take : SpD) : TS' :=
  (sSeq (sIf (cP (bB (po2 gtD (po2 ixD (pV 0) (pC (.int 0))) (pC (.int 0)))))
  (sSeq (sSet 4 (eP (po2 modD (po2 ixD (pV 0) (pC (.int 0))) (pV 1))))
  (sSeq (sSub (eP (po2 fdivD (po2 ixD (pV 0) (pC (.int 0))) (pV 1))) (eP (pV 0)) (eP (pC (.int 0))))
  (sRet (eP (pV 4)))))
  sNil)
  (sSeq (sSub (eP (po2 addD (po2 ixD (pV 0) (pC (.int 2))) (pC (.int 1)))) (eP (pV 0)) (eP (pC (.int 2))))
  (sSeq (sSet 2 (eP (po2 ixD (pFz (plLst [(pC (.int 2147483587)), (pC (.int 2147483579)), (pC (.int 2147483563)), (pC (.int 2147483549)), (pC (.int 2147483543)), (pC (.int 2147483497)), (pC (.int 2147483489))])) (po2 modD (po2 ixD (pV 0) (pC (.int 2))) (pC (.int 7))))))
  (sSeq (sSet 3 (eP (po2 modD (po2 mulD (po2 addD (po2 ixD (pV 0) (pC (.int 1))) (po2 mulD (pC (.int 39373)) (po2 ixD (pV 0) (pC (.int 2))))) (po2 addD (pC (.int 48271)) (po2 ixD (pV 0) (pC (.int 2))))) (pV 2))))
  (sSeq (sSub (eP (po2 modD (po2 addD (po2 mulD (pV 3) (po2 addD (po2 modD (pV 3) (pC (.int 40009))) (pC (.int 7)))) (po2 ixD (pV 0) (pC (.int 2)))) (pC (.int 2147483629)))) (eP (pV 0)) (eP (pC (.int 1))))
  (sSeq (sSet 4 (eP (po2 fdivD (po2 modD (po2 mulD (po2 ixD (pV 0) (pC (.int 1))) (po2 addD (po2 modD (po2 ixD (pV 0) (pC (.int 1))) (pC (.int 1009))) (pC (.int 3)))) (pC (.int 998244353))) (pC (.int 7)))))
  (sRet (eIf (cP (bB (po2 ltD (pV 1) (po2 powD (pC (.int 10)) (pC (.int 6)))))) (eP (po2 modD (pV 4) (pV 1))) (eo2 modD (eo2 addD (eP (po2 mulD (pV 4) (pC (.int 99991)))) (eCall [true, false] sp__law_take (aP [(pV 0), (pC (.int 99991))]))) (eP (pV 1)))))))))))
local macro_rules
  | `(tactic| simp only [VLS]) => `(tactic| simp only [sSeq, sIf, sSet, sSub, sRet, sRetN, sNil, sDrop, sAsg, sPar, sParT, sAug, cP, bB, bTr, bNt, bAn, bOr, po1, po2, poN, pArgs, poIf, poAn, poOr, poNt, poTup, plLst, plN, pl2, pl1, pFz, pV, pC, eP, eo1, eo2, eoN, aP, aNil, aCons, eAn, eOr, eNt, eIf, eFz, eNw, fP, fN, f2, f1, tTupE, tLstF, tTr, tTb, tAn, tOrr, tNt, tYs, eSeal, eMt, poMt, mPure, eCh, pCh, ok_bind, ok_map, ok_some, ok_none, ok_gd, ok_ite, List.getElem?_cons_zero, List.getElem?_cons_succ, List.set_cons_zero, List.set_cons_succ, Option.join_some, Option.bind_some, Option.map_some, Option.bind_none, Option.map_none, ix_ref, ix_tup, ix_lst, ix_bor, ix_scr, add_int, add_str, add_tup, sub_int, mul_int, fdiv_int, mod_int, pow_int, neg_int, lt_int, le_int, gt_int, ge_int, eq_int, eq_str, eq_bl, ne_int, ne_str, ne_bl, is_bl, isnt_bl, is_non, isnt_non, len_tup, len_lst, len_ref, len_bor, len_scr, int_bl, int_int, abs_int, min_int, max_int, blD_bl, cell_lst, cellA_lst, cellA_dk, st_ref, at_0, at_1, at_2, at_3, at_4, ixN_10, ixN_20, ixN_21, ixN_30, ixN_31, ixN_32, dataS_d, datas_nil, datas_cons, truth_bl, notD, intS, blS, nonB, List.length_cons, List.length_nil, Nat.reduceAdd, endsF_rt, endsF_nx, rvQ_d, rvQ_new, rvQ_newK, rv_d, rv_ref, rv_cl, rv_ck, okRef_d, okRef_ref, List.not_mem_nil, List.nil_append, true_and, and_true, List.take_succ_cons, List.take_zero, Nat.zero_add, decide_eq_true_eq, Bool.false_eq_true, if_false, if_true, callS, handS_n, handS_tr, handS_fr, handS_fd, handS_fb, cellsAt_c, cellsAt_0, Option.getD_some, backS_0, backS_1, eCall, tup_lst, tup_tup, tup_ref, fLc, iRg, rng_1, rng_2, wipeS_c, wipeS_n, iPq, iSq, seq_tup, seq_lst, seq_bor, lst_lst, lst_bor, gdS_d, gdS_b, sFor, gNm, gcS_c, gcS_n, gcO_d, gcO_n, mapp, rcv_0, rcv_1, rcv_l, gcO_r0, gcO_r1, gcO_z, seal_d, eq_self, List.take_nil, List.cons_append])
  | `(tactic| simp only [VLS, $xs,*]) => `(tactic| simp only [sSeq, sIf, sSet, sSub, sRet, sRetN, sNil, sDrop, sAsg, sPar, sParT, sAug, cP, bB, bTr, bNt, bAn, bOr, po1, po2, poN, pArgs, poIf, poAn, poOr, poNt, poTup, plLst, plN, pl2, pl1, pFz, pV, pC, eP, eo1, eo2, eoN, aP, aNil, aCons, eAn, eOr, eNt, eIf, eFz, eNw, fP, fN, f2, f1, tTupE, tLstF, tTr, tTb, tAn, tOrr, tNt, tYs, eSeal, eMt, poMt, mPure, eCh, pCh, ok_bind, ok_map, ok_some, ok_none, ok_gd, ok_ite, List.getElem?_cons_zero, List.getElem?_cons_succ, List.set_cons_zero, List.set_cons_succ, Option.join_some, Option.bind_some, Option.map_some, Option.bind_none, Option.map_none, ix_ref, ix_tup, ix_lst, ix_bor, ix_scr, add_int, add_str, add_tup, sub_int, mul_int, fdiv_int, mod_int, pow_int, neg_int, lt_int, le_int, gt_int, ge_int, eq_int, eq_str, eq_bl, ne_int, ne_str, ne_bl, is_bl, isnt_bl, is_non, isnt_non, len_tup, len_lst, len_ref, len_bor, len_scr, int_bl, int_int, abs_int, min_int, max_int, blD_bl, cell_lst, cellA_lst, cellA_dk, st_ref, at_0, at_1, at_2, at_3, at_4, ixN_10, ixN_20, ixN_21, ixN_30, ixN_31, ixN_32, dataS_d, datas_nil, datas_cons, truth_bl, notD, intS, blS, nonB, List.length_cons, List.length_nil, Nat.reduceAdd, endsF_rt, endsF_nx, rvQ_d, rvQ_new, rvQ_newK, rv_d, rv_ref, rv_cl, rv_ck, okRef_d, okRef_ref, List.not_mem_nil, List.nil_append, true_and, and_true, List.take_succ_cons, List.take_zero, Nat.zero_add, decide_eq_true_eq, Bool.false_eq_true, if_false, if_true, callS, handS_n, handS_tr, handS_fr, handS_fd, handS_fb, cellsAt_c, cellsAt_0, Option.getD_some, backS_0, backS_1, eCall, tup_lst, tup_tup, tup_ref, fLc, iRg, rng_1, rng_2, wipeS_c, wipeS_n, iPq, iSq, seq_tup, seq_lst, seq_bor, lst_lst, lst_bor, gdS_d, gdS_b, sFor, gNm, gcS_c, gcS_n, gcO_d, gcO_n, mapp, rcv_0, rcv_1, rcv_l, gcO_r0, gcO_r1, gcO_z, seal_d, eq_self, List.take_nil, List.cons_append, $xs,*])
theorem pure_take {sp : SpD} (as : List Sv) (M : Mem) (Q : Rv → Mem → Prop) (h : sp_take as M Q) : r_take sp (endsF M.length Q) (startD 5 as) M := by
  obtain ⟨ds, n, b, rfl, rfl, ht, hb, h1, h2, z⟩ := h
  obtain ⟨t0, t1, t2, rfl, a0, a1, a2, a3, a4⟩ := ht.ex
  show r_take sp (endsF 1 Q) [some (.ref 0), some (.d (.int n)), none, none, none] [.lst [.int t0, .int t1, .int t2]]
  simp only [VLS, r_take]
  split
  · rename_i h0
    refine ⟨by omega, ⟨by omega, ?_⟩, z _ _ (Int.emod_nonneg _ (by omega)) (Int.emod_lt_of_pos _ (by omega)) ⟨t0 / n, t1, t2, rfl, Int.ediv_nonneg a0 (by omega), a1, a2, a3, by omega⟩⟩
    have hn : n.natAbs < 2 ^ 17 := by omega
    have := (Nat.log2_lt (n := n.natAbs) (k := 17) (by omega)).mpr hn
    omega
  · refine ⟨by decide, at_pick (P := fun d => ∃ p : Int, d = .int p ∧ 2147483489 ≤ p ∧ p ≤ 2147483587) (Int.emod_nonneg _ (by decide)) (by have := Int.emod_lt_of_pos (t2 + 1) (show (0:Int) < 7 by decide); simpa using this) ?_ ?_⟩
    · intro d hd
      simp only [List.mem_cons, List.not_mem_nil, or_false] at hd
      rcases hd with rfl | rfl | rfl | rfl | rfl | rfl | rfl <;> exact ⟨_, rfl, by decide, by decide⟩
    · rintro d ⟨p, rfl, p1, p2⟩
      simp only [VLS]
      generalize hz : (t1 + 39373 * (t2 + 1)) * (48271 + (t2 + 1)) = zz
      have e1 := Int.emod_nonneg zz (show p ≠ 0 by omega)
      have e2 := Int.emod_lt_of_pos zz (show 0 < p by omega)
      generalize zz % p = q at e1 e2
      have e3 := Int.emod_nonneg q (show (40009:Int) ≠ 0 by decide)
      have e4 := Int.emod_lt_of_pos q (show (0:Int) < 40009 by decide)
      generalize q % 40009 = r at e3 e4
      generalize q * (r + 7) + (t2 + 1) = y
      have e5 := Int.emod_nonneg y (show (2147483629:Int) ≠ 0 by decide)
      have e6 := Int.emod_lt_of_pos y (show (0:Int) < 2147483629 by decide)
      generalize y % 2147483629 = x at e5 e6
      have e7 := Int.emod_nonneg x (show (1009:Int) ≠ 0 by decide)
      have e8 := Int.emod_lt_of_pos x (show (0:Int) < 1009 by decide)
      generalize x % 1009 = v at e7 e8
      have e9 : n < 10 ^ Int.toNat 6 := by
        have : (10:Int) ^ Int.toNat 6 = 1000000 := by decide
        omega
      rw [if_pos e9]
      refine ⟨.inl ⟨by decide, by decide⟩, .inr (.inl ⟨by omega, by omega⟩), by omega, by decide, .inl ⟨by omega, by omega⟩, by decide, by decide, .inl ⟨by omega, by omega⟩, by decide, ⟨by decide, by decide⟩, by unfold CPow; decide, by omega, ?_⟩
      exact z _ _ (Int.emod_nonneg _ (by omega)) (Int.emod_lt_of_pos _ (by omega)) ⟨t0, x, t2 + 1, rfl, a0, e5, e6, by omega, by omega⟩
set_option maxHeartbeats 1000000
theorem for_inv {k : Nat} {g : TG'} {b : TS'} {E : Ends'} {gd : Mem → Prop} (I : List D → DS → Mem → Prop) (fin : ∀ δ M, I [] δ M → gd M ∧ E.nx δ M)
    (step : ∀ d rest δ M (nx : DS → Mem → Prop), I (d :: rest) δ M → (∀ δ' M', I rest (gcS k δ') (M'.take k) → nx δ' M') → gd M ∧ g d δ M fun δ1 M1 => b ⟨nx, E.rt, E.nx, nx⟩ δ1 M1) : ∀ ds δ M, I ds δ M → forL k g b E gd ds δ M
  | [], δ, M, h => fin δ M h
  | d :: ds, δ, M, h => step d ds δ M _ h fun δ' M' h' => for_inv I fin step ds _ _ h'
theorem lc_inv {i : Nat} {te : TE'} {δw : DS} {gd : Mem → Prop} {Q : List D → Mem → Prop} (I : List D → List D → Mem → Prop) (fin : ∀ acc M, I [] acc M → gd M ∧ Q acc M)
    (step : ∀ d rest acc M (R : QD), I (d :: rest) acc M → (∀ y M', I rest (acc ++ [y]) M' → R (.d y) M') → gd M ∧ te (δw.set i (some (.d d))) M R) : ∀ ds acc M, I ds acc M → lcL (LcG.nm i).to tYs te δw gd Q ds acc M
  | [], acc, M, h => fin acc M h
  | d :: ds, acc, M, h => by
    have hs := step d ds acc M (fun s M4 => ok (dataS s) fun y => lcL (LcG.nm i).to tYs te δw gd Q ds (acc ++ [y]) M4) h fun y M' h' => lc_inv I fin step ds _ _ h'
    exact ⟨hs.1, hs.2⟩
/-- each item's value hangs on the item alone, nothing changes -/
theorem lc_map {i : Nat} {te : TE'} {δw : DS} {gd : Mem → Prop} {Q : List D → Mem → Prop} {f : D → D} {M : Mem} {ds : List D} (hg : gd M) (h : ∀ d ∈ ds, ∀ R : QD, R (.d (f d)) M → te (δw.set i (some (.d d))) M R) (q : Q (ds.map f) M) :
    lcL (LcG.nm i).to tYs te δw gd Q ds [] M := by
  have : ∀ (l acc : List D), (∀ d ∈ l, d ∈ ds) → Q (acc ++ l.map f) M → lcL (LcG.nm i).to tYs te δw gd Q l acc M := by
    intro l
    induction l with
    | nil => intro acc _ q; exact ⟨hg, by simpa using q⟩
    | cons d l ih =>
      intro acc hl q
      refine ⟨hg, h d (hl d List.mem_cons_self) _ ?_⟩
      exact ih (acc ++ [f d]) (fun x hx => hl x (List.mem_cons_of_mem _ hx)) (by simpa using q)
  exact this ds [] (fun _ h => h) (by simpa using q)
def spB (sp : Nat → SpD) (d : Nat) : SpD := fun as M Q => ∃ e, e < d ∧ sp e as M Q
theorem ca_bot {P : Program} {w : World} {K : PySem.W.Frag} {mg : Str → Option Value} {base : Heap} {x qual : Str} {params : Arguments} {body : List Stmt} {scope : Scope} {f : Addr} {fd : FuncData} {ps : List Str} {k : Nat} {sp : Nat → SpD}
    (F : FunD K x qual params body scope [] [] f fd) (hg : mg x = some (.ref f)) (b : Binds K fd ps []) (n : Nat) : Ca P w K mg base k x n (spB sp 0) :=
  ⟨f, fd, ps, ⟨fun vs H Q E ⟨_, _, _, _, _, _, _, _, _, ⟨e, he, _⟩, _⟩ => by omega, fun A outer s H args us vs Q E _ _ _ _ ⟨_, _, _, _, _, _, _, _, _, ⟨e, he, _⟩, _⟩ => by omega⟩, hg, F.kp, b⟩
def sp_cell : SpD := fun as M Q => ∃ (ns : List Int) (k : Int), as = [.d (.scr ns), .d (.int k)] ∧ M = [] ∧ 0 ≤ k ∧ ∀ c : Int, Q (.d (.int c)) []
def r_cell : TS' :=
  (sRet (eP (poIf (bB (po2 ltD (pV 1) (poN lenD [(pV 0)]))) (po2 ixD (pV 0) (pV 1)) (pC (.int 0)))))
theorem pure_cell (as : List Sv) (M : Mem) (Q : Rv → Mem → Prop) (h : sp_cell as M Q) : r_cell (endsF M.length Q) (startD 2 as) M := by
  obtain ⟨ns, k, rfl, rfl, hk, z⟩ := h
  obtain ⟨k, rfl⟩ := Int.eq_ofNat_of_zero_le hk
  show r_cell (endsF 0 Q) [some (.d (.scr ns)), some (.d (.int k))] []
  simp only [VLS, r_cell]
  by_cases h : (k : Int) < ns.length
  · rw [if_pos h]
    have h' : k < ns.length := by omega
    rw [at_nat, List.getElem?_map, List.getElem?_eq_getElem h']
    simp only [VLS]
    exact z _
  · rw [if_neg h]
    exact z _
def sp_tape : SpD := fun as M Q => ∃ (ns : List Int) (k : Int), as = [.d (.scr ns), .d (.int k)] ∧ M = [] ∧ 0 ≤ k ∧ k ≤ 1000 ∧ ∀ ds, Tp 0 ds → Q (.new ds) []
def r_tape (sp__law_cell_at : SpD) : TS' :=
  (sSeq (sSet 2 (eCall [false, false] sp__law_cell_at (aP [(pV 0), (pV 1)])))
  (sRet (eNw (fP (plLst [(po2 mulD (poN absD [(pV 2)]) (poN intD [(po2 geD (poN absD [(pV 2)]) (po2 powD (pC (.int 10)) (pC (.int 18))))])), (po2 modD (po2 mulD (po2 addD (po2 addD (po2 modD (pV 2) (pC (.int 2147483647))) (po2 mulD (po2 mulD (pC (.int 7753)) (pV 1)) (pV 1))) (pC (.int 41))) (pC (.int 48271))) (pC (.int 2147483629))), (pC (.int 0))])))))
theorem pure_tape (as : List Sv) (M : Mem) (Q : Rv → Mem → Prop) (h : sp_tape as M Q) : r_tape sp_cell (endsF M.length Q) (startD 3 as) M := by
  obtain ⟨ns, k, rfl, rfl, hk, hk2, z⟩ := h
  show r_tape sp_cell (endsF 0 Q) [some (.d (.scr ns)), some (.d (.int k)), none] []
  simp only [VLS, r_tape]
  refine ⟨ns, k, rfl, rfl, hk, fun c => ?_⟩
  simp only [VLS]
  have h0 : 0 ≤ (if c < 0 then -c else c) := by split <;> omega
  generalize (if c < 0 then -c else c) = ac at h0
  have e1 : (if 10 ^ Int.toNat 18 ≤ ac then (1 : Int) else 0) = 0 ∨ (if 10 ^ Int.toNat 18 ≤ ac then (1 : Int) else 0) = 1 := by split <;> simp
  generalize (if 10 ^ Int.toNat 18 ≤ ac then (1 : Int) else 0) = t at e1
  have h1 : 0 ≤ ac * t := by rcases e1 with rfl | rfl <;> omega
  have h2 : 0 ≤ 7753 * k * k ∧ 7753 * k * k ≤ 7753 * 1000 * 1000 := by
    refine ⟨Int.mul_nonneg (by omega) hk, Int.mul_le_mul (by omega) hk2 hk (by omega)⟩
  generalize 7753 * k * k = u at h2
  have e3 := Int.emod_nonneg ((c % 2147483647 + u + 41) * 48271) (show (2147483629 : Int) ≠ 0 by decide)
  have e4 := Int.emod_lt_of_pos ((c % 2147483647 + u + 41) * 48271) (show (0 : Int) < 2147483629 by decide)
  refine ⟨by unfold CPow; decide, .inr (.inl ⟨by omega, by omega⟩), by decide, .inl ⟨by decide, by decide⟩, .inr (.inl ⟨by omega, by omega⟩), .inr (.inl ⟨by decide, by decide⟩), by decide, by decide, z _ ⟨_, _, _, rfl, h1, e3, e4, by decide, by decide⟩⟩
inductive Cm where
  | yes | no | name (k : Nat) | neg (c : Cm) | same (a b : Cm) | all (cs : List Cm) | any (cs : List Cm) | least (m : Nat) (cs : List Cm)
mutual
def cD : Cm → D
  | .yes => .tup [.str "yes"]
  | .no => .tup [.str "no"]
  | .name k => .tup [.str "name", .int k]
  | .neg c => .tup [.str "not", cD c]
  | .same a b => .tup [.str "same", cD a, cD b]
  | .all cs => .tup [.str "and", .tup (cDs cs)]
  | .any cs => .tup [.str "or", .tup (cDs cs)]
  | .least m cs => .tup [.str "least", .int m, .tup (cDs cs)]
def cDs : List Cm → List D
  | [] => []
  | c :: cs => cD c :: cDs cs
end
mutual
/-- claims of names less than n, at most d deep -/
def Cm.ok (n : Nat) : Nat → Cm → Prop
  | _, .yes => True
  | _, .no => True
  | _, .name k => k < n
  | d + 1, .neg c => Cm.ok n d c
  | d + 1, .same a b => Cm.ok n d a ∧ Cm.ok n d b
  | d + 1, .all cs => Cm.oks n d cs
  | d + 1, .any cs => Cm.oks n d cs
  | d + 1, .least m cs => m ≤ cs.length + 1 ∧ Cm.oks n d cs
  | 0, _ => False
def Cm.oks (n : Nat) : Nat → List Cm → Prop
  | _, [] => True
  | d, c :: cs => Cm.ok n d c ∧ Cm.oks n d cs
end
mutual
def Cm.sz : Cm → Nat
  | .yes => 1
  | .no => 1
  | .name _ => 1
  | .neg c => c.sz + 1
  | .same a b => a.sz + b.sz + 1
  | .all cs => Cm.szs cs + 1
  | .any cs => Cm.szs cs + 1
  | .least _ cs => Cm.szs cs + 1
def Cm.szs : List Cm → Nat
  | [] => 0
  | c :: cs => c.sz + Cm.szs cs
end
theorem cDs_len : ∀ cs : List Cm, (cDs cs).length = cs.length
  | [] => rfl
  | c :: cs => by simp [cDs, cDs_len cs]
theorem cDs_app : ∀ (a b : List Cm), cDs (a ++ b) = cDs a ++ cDs b
  | [], b => rfl
  | c :: cs, b => by simp [cDs, cDs_app cs b]
theorem szs_app : ∀ (a b : List Cm), Cm.szs (a ++ b) = Cm.szs a + Cm.szs b
  | [], b => by simp [Cm.szs]
  | c :: cs, b => by simp [Cm.szs, szs_app cs b]; omega
theorem oks_app {n d : Nat} : ∀ (a b : List Cm), Cm.oks n d (a ++ b) ↔ Cm.oks n d a ∧ Cm.oks n d b
  | [], b => by simp [Cm.oks]
  | c :: cs, b => by simp [Cm.oks, oks_app cs b, and_assoc]
set_option maxHeartbeats 1000000
def cS : Nat → Nat
  | 0 => 1
  | d + 1 => 1 + 4 * cS d
def cC : Nat → Nat
  | 0 => 3
  | d + 1 => 3 + 4 * cC d
theorem cC_pos : ∀ d, 3 ≤ cC d
  | 0 => by decide
  | d + 1 => by simp only [cC]; omega
theorem cS_pos : ∀ d, 1 ≤ cS d
  | 0 => by decide
  | d + 1 => by simp only [cS]; omega
def sp_claim (d : Nat) : SpD := fun as M Q => ∃ (ds : List D) (n b : Nat), as = [.ref 0, .d (.int n), .d (.int d)] ∧ M = [.lst ds] ∧ Tp b ds ∧ b + cC d < 1099511627776 ∧ n ≤ 99990 ∧
  ∀ (c : Cm) (ds' : List D), c.ok n d → c.sz ≤ cS d → Tp (b + cC d) ds' → Q (.d (cD c)) [.lst ds']
def r_claim (sp__law_take : SpD) (sp__law_claim : SpD) : TS' :=
  (sSeq (sSet 3 (eCall [true, false] sp__law_take (aP [(pV 0), (pC (.int 12))])))
  (sSeq (sIf (cP (bOr (bB (po2 eqD (pV 2) (pC (.int 0)))) (bB (po2 ltD (pV 3) (pC (.int 3))))))
  (sSeq (sSet 5 (eCall [true, false] sp__law_take (aP [(pV 0), (poN maxD [(pC (.int 1)), (pV 1)])])))
  (sRet (eIf (cP (bAn (bB (po2 gtD (pV 1) (pC (.int 0)))) (bB (po2 neD (pV 3) (pC (.int 3)))))) (eP (poTup [(pC (.str "name")), (pV 5)])) (eo2 ixD (eP (pFz (plLst [(poTup [(pC (.str "yes"))]), (poTup [(pC (.str "no"))])]))) (eCall [true, false] sp__law_take (aP [(pV 0), (pC (.int 2))]))))))
  sNil)
  (sSeq (sIf (cP (bB (po2 eqD (pV 3) (pC (.int 3)))))
  (sRet (eo2 ixD (eP (pFz (plLst [(poTup [(pC (.str "yes"))]), (poTup [(pC (.str "no"))]), (poTup [(pC (.str "and")), (poTup [])]), (poTup [(pC (.str "or")), (poTup [])]), (poTup [(pC (.str "least")), (pC (.int 0)), (poTup [])])]))) (eCall [true, false] sp__law_take (aP [(pV 0), (pC (.int 5))]))))
  sNil)
  (sSeq (sIf (cP (bB (po2 eqD (pV 3) (pC (.int 4)))))
  (sRet (tTupE (aCons (eP (pC (.str "not"))) (aCons (eCall [true, false, false] sp__law_claim (aP [(pV 0), (pV 1), (po2 subD (pV 2) (pC (.int 1)))])) (aP [])))))
  sNil)
  (sSeq (sIf (cP (bB (po2 eqD (pV 3) (pC (.int 5)))))
  (sSeq (sSet 6 (eCall [true, false, false] sp__law_claim (aP [(pV 0), (pV 1), (po2 subD (pV 2) (pC (.int 1)))])))
  (sRet (tTupE (aCons (eP (pC (.str "same"))) (aCons (eP (pV 6)) (aCons (eCall [true, false, false] sp__law_claim (aP [(pV 0), (pV 1), (po2 subD (pV 2) (pC (.int 1)))])) (aP [])))))))
  sNil)
  (sSeq (sSet 4 (eo1 tupC (eFz (fLc (iRg true (aCons (eo2 addD (eP (pC (.int 1))) (eCall [true, false] sp__law_take (aP [(pV 0), (pC (.int 4))]))) (aP []))) (.nm 7) tYs (eCall [true, false, false] sp__law_claim (aP [(pV 0), (pV 1), (po2 subD (pV 2) (pC (.int 1)))])) [7]))))
  (sSeq (sIf (cP (bB (po2 gtD (pV 3) (pC (.int 9)))))
  (sRet (tTupE (aCons (eP (pC (.str "least"))) (aCons (eCall [true, false] sp__law_take (aP [(pV 0), (po2 addD (poN lenD [(pV 4)]) (pC (.int 2)))])) (aP [(pV 4)])))))
  sNil)
  (sRet (eP (poTup [(po2 ixD (pFz (plLst [(pC (.str "and")), (pC (.str "or"))])) (po2 modD (pV 3) (pC (.int 2)))), (pV 4)]))))))))))
theorem pure_claim {d : Nat} (as : List Sv) (M : Mem) (Q : Rv → Mem → Prop) (h : spB sp_claim (d + 1) as M Q) : r_claim sp_take (spB sp_claim d) (endsF M.length Q) (startD 8 as) M := by
  obtain ⟨e, he, ds, n, b, rfl, rfl, ht, hb, hn, z⟩ := h
  have hc := cC_pos e
  show r_claim sp_take (spB sp_claim d) (endsF 1 Q) [some (.ref 0), some (.d (.int n)), some (.d (.int e)), none, none, none, none, none] [.lst ds]
  simp only [VLS, r_claim]
  refine ⟨ds, 12, b, rfl, rfl, ht, by omega, by omega, by omega, fun w ds1 w0 w1 t1 => ?_⟩
  simp only [VLS]
  refine ite_two ?_ fun he0 hw3 => ?_
  · refine ⟨ds1, _, b + 1, rfl, rfl, t1, by omega, by split <;> omega, by split <;> omega, fun k ds2 k0 k1 t2 => ?_⟩
    simp only [VLS]
    have two : ∀ (R : Rv → Mem → Prop), (∀ u ds3, 0 ≤ u → u < 2 → Tp (b + 3) ds3 → R (.d (.int u)) [.lst ds3]) → sp_take [.ref 0, .d (.int 2)] [.lst ds2] R := fun R hR =>
      ⟨ds2, 2, b + 2, rfl, rfl, t2, by omega, by decide, by decide, hR⟩
    have leaf : ∀ u ds3, 0 ≤ u → u < 2 → Tp (b + 3) ds3 → ok (atI [D.tup [D.str "yes"], D.tup [D.str "no"]] u) fun d => Q (Rv.d d) [Cell.lst ds3] := fun u ds3 u0 u1 t3 => by
      have hu : u = 0 ∨ u = 1 := by omega
      have hp := cS_pos e
      rcases hu with rfl | rfl
      · simp only [VLS]; exact z .yes ds3 (by cases e <;> trivial) hp (t3.mono (by omega))
      · simp only [VLS]; exact z .no ds3 (by cases e <;> trivial) hp (t3.mono (by omega))
    split
    · rename_i hn0
      split
      · obtain ⟨k, rfl⟩ := Int.eq_ofNat_of_zero_le k0
        refine z (.name k) ds2 ?_ (cS_pos e) (t2.mono (by omega))
        have : k < n := by
          split at k1 <;> omega
        cases e <;> exact this
      · exact two _ fun u ds3 u0 u1 t3 => by simp only [VLS]; exact leaf u ds3 u0 u1 t3
    · exact two _ fun u ds3 u0 u1 t3 => by simp only [VLS]; exact leaf u ds3 u0 u1 t3
  · obtain ⟨e, rfl⟩ : ∃ e', e = e' + 1 := ⟨e - 1, by omega⟩
    have hp := cS_pos e
    have e1 : ((e + 1 : Nat) : Int) - 1 = (e : Int) := by omega
    simp only [cC, cS] at hb hc z ⊢
    rw [e1]
    have rec_ : ∀ (c0 : Nat) (ds2 : List D) (R : Rv → Mem → Prop), Tp c0 ds2 → c0 + cC e < 1099511627776 → (∀ (c : Cm) ds3, c.ok n e → c.sz ≤ cS e → Tp (c0 + cC e) ds3 → R (.d (cD c)) [.lst ds3]) →
        spB sp_claim d [.ref 0, .d (.int n), .d (.int e)] [.lst ds2] R := fun c0 ds2 R t h1 h2 => ⟨e, by omega, ds2, n, c0, rfl, rfl, t, h1, hn, h2⟩
    have h3 := cC_pos e
    split
    · refine ⟨ds1, 5, b + 1, rfl, rfl, t1, by omega, by decide, by decide, fun u ds3 u0 u1 t3 => ?_⟩
      simp only [VLS]
      have hu : u = 0 ∨ u = 1 ∨ u = 2 ∨ u = 3 ∨ u = 4 := by omega
      have t4 := t3.mono (c := b + (3 + 4 * cC e)) (by omega)
      rcases hu with rfl | rfl | rfl | rfl | rfl <;> simp only [VLS]
      · exact z .yes ds3 trivial (by simp only [Cm.sz]; omega) t4
      · exact z .no ds3 trivial (by simp only [Cm.sz]; omega) t4
      · exact z (.all []) ds3 trivial (by simp only [Cm.sz, Cm.szs]; omega) t4
      · exact z (.any []) ds3 trivial (by simp only [Cm.sz, Cm.szs]; omega) t4
      · exact z (.least 0 []) ds3 ⟨by decide, trivial⟩ (by simp only [Cm.sz, Cm.szs]; omega) t4
    split
    · refine rec_ (b + 1) ds1 _ t1 (by omega) fun c ds3 h1 h2 t3 => ?_
      simp only [VLS]
      exact z (.neg c) ds3 h1 (by simp only [Cm.sz]; omega) (t3.mono (by omega))
    split
    · refine rec_ (b + 1) ds1 _ t1 (by omega) fun c ds3 h1 h2 t3 => ?_
      simp only [VLS]
      refine rec_ _ ds3 _ t3 (by omega) fun c' ds4 h1' h2' t4 => ?_
      simp only [VLS]
      exact z (.same c c') ds4 ⟨h1, h1'⟩ (by simp only [Cm.sz]; omega) (t4.mono (by omega))
    · refine ⟨ds1, 4, b + 1, rfl, rfl, t1, by omega, by decide, by decide, fun u ds2 u0 u1 t2 => ?_⟩
      obtain ⟨u, rfl⟩ := Int.eq_ofNat_of_zero_le u0
      have e2 : ((1 : Int) + (u : Int)).toNat = u + 1 := by omega
      simp only [VLS, e2, rgL_len]
      refine ⟨⟨by omega, by omega⟩, fun _ => by rw [sizeLine_eq]; omega, ?_⟩
      refine lc_inv (fun rest acc M => ∃ cs ds3, acc = cDs cs ∧ M = [.lst ds3] ∧ Cm.oks n e cs ∧ Cm.szs cs ≤ cs.length * cS e ∧ cs.length + rest.length = u + 1 ∧ Tp (b + 2 + cs.length * cC e) ds3) ?_ ?_ _ _ _ ⟨[], ds2, rfl, rfl, trivial, by simp [Cm.szs], by simp [rgL_len], by simpa using t2⟩
      · rintro acc M ⟨cs, ds3, rfl, rfl, o3, s3, l3, t3⟩
        simp only [List.length_nil, Nat.add_zero] at l3
        have m1 : cs.length * cS e ≤ 4 * cS e := Nat.mul_le_mul_right _ (by omega)
        have m2 : cs.length * cC e ≤ 4 * cC e := Nat.mul_le_mul_right _ (by omega)
        refine ⟨trivial, ?_⟩
        simp only [VLS]
        split
        · refine ⟨ds3, _, b + 2 + cs.length * cC e, rfl, rfl, t3, by omega, by rw [cDs_len]; omega, by rw [cDs_len]; omega, fun v ds4 v0 v1 t4 => ?_⟩
          obtain ⟨v, rfl⟩ := Int.eq_ofNat_of_zero_le v0
          simp only [VLS]
          rw [cDs_len] at v1
          exact z (.least v cs) ds4 ⟨by omega, o3⟩ (by simp only [Cm.sz]; omega) (t4.mono (by omega))
        · refine ⟨by decide, ?_⟩
          have hw : w % 2 = 0 ∨ w % 2 = 1 := by omega
          rcases hw with hw | hw <;> rw [hw] <;> simp only [VLS]
          · exact z (.all cs) ds3 o3 (by simp only [Cm.sz]; omega) (t3.mono (by omega))
          · exact z (.any cs) ds3 o3 (by simp only [Cm.sz]; omega) (t3.mono (by omega))
      · rintro x rest acc M R ⟨cs, ds3, rfl, rfl, o3, s3, l3, t3⟩ k
        simp only [List.length_cons] at l3
        refine ⟨trivial, ?_⟩
        have m2 : cs.length * cC e ≤ 3 * cC e := Nat.mul_le_mul_right _ (by omega)
        simp only [VLS, e1]
        refine rec_ _ ds3 _ t3 (by omega) fun c ds4 h1 h2 t4 => ?_
        simp only [VLS]
        refine k (cD c) _ ⟨cs ++ [c], ds4, by rw [cDs_app]; rfl, rfl, (oks_app _ _).mpr ⟨o3, h1, trivial⟩, ?_, by simp; omega, ?_⟩
        · rw [szs_app, List.length_append, List.length_singleton, Nat.add_mul]; simp only [Cm.szs]; omega
        · rw [List.length_append, List.length_singleton, Nat.add_mul]; exact t4.mono (by omega)
set_option maxHeartbeats 1000000
mutual
theorem Cm.ok_up {n : Nat} : ∀ (d : Nat) (c : Cm), c.ok n d → c.ok n (d + 1)
  | d, .yes, _ => by cases d <;> trivial
  | d, .no, _ => by cases d <;> trivial
  | d, .name k, h => by cases d <;> exact h
  | 0, .neg c, h => h.elim
  | 0, .same _ _, h => h.elim
  | 0, .all _, h => h.elim
  | 0, .any _, h => h.elim
  | 0, .least _ _, h => h.elim
  | d + 1, .neg c, h => Cm.ok_up d c h
  | d + 1, .same a b, h => ⟨Cm.ok_up d a h.1, Cm.ok_up d b h.2⟩
  | d + 1, .all cs, h => Cm.oks_up d cs h
  | d + 1, .any cs, h => Cm.oks_up d cs h
  | d + 1, .least m cs, h => ⟨h.1, Cm.oks_up d cs h.2⟩
theorem Cm.oks_up {n : Nat} : ∀ (d : Nat) (cs : List Cm), Cm.oks n d cs → Cm.oks n (d + 1) cs
  | _, [], _ => trivial
  | d, c :: cs, h => ⟨Cm.ok_up d c h.1, Cm.oks_up d cs h.2⟩
end
def sp_any : SpD := fun as M Q => ∃ (ds : List D) (n b : Nat), as = [.ref 0, .d (.int n)] ∧ M = [.lst ds] ∧ Tp b ds ∧ b + 300 < 1099511627776 ∧ n ≤ 99990 ∧
  ∀ (c : Cm) (ds' : List D), c.ok n 3 → c.sz ≤ 100 → Tp (b + 300) ds' → Q (.d (cD c)) [.lst ds']
def r_any (sp__law_take : SpD) (sp__law_claim : SpD) : TS' :=
  (sSeq (sIf (tOrr (cP (bB (po2 ltD (pV 1) (pC (.int 2))))) (tTb (eo2 gtD (eCall [true, false] sp__law_take (aP [(pV 0), (pC (.int 4))])) (eP (pC (.int 0))))))
  (sRet (eCall [true, false, false] sp__law_claim (aP [(pV 0), (pV 1), (pC (.int 3))])))
  sNil)
  (sSeq (sSet 2 (eNw (fP (plLst []))))
  (sSeq (sFor (iRg false (aCons (eo2 addD (eP (pC (.int 2))) (eCall [true, false] sp__law_take (aP [(pV 0), (pC (.int 4))]))) (aP []))) (gNm 3)
  (sSeq (sSet 4 (eFz (fLc (iRg true (aCons (eo2 addD (eP (pC (.int 2))) (eCall [true, false] sp__law_take (aP [(pV 0), (pC (.int 2))]))) (aP []))) (.nm 6) tYs (tTupE (aCons (eP (pC (.str "name"))) (aCons (eCall [true, false] sp__law_take (aP [(pV 0), (pV 1)])) (aP [])))) [6])))
  (sSeq (sSet 4 (eo1 tupC (eFz (fLc (iPq (pV 4)) (.nm 7) tYs (eIf (tTb (eo2 eqD (eCall [true, false] sp__law_take (aP [(pV 0), (pC (.int 3))])) (eP (pC (.int 0))))) (eP (poTup [(pC (.str "not")), (pV 7)])) (eP (pV 7))) [7]))))
  (sSeq (sSet 5 (eP (pFz (plLst [(poTup [(pC (.str "or")), (pV 4)]), (poTup [(pC (.str "and")), (pV 4)]), (poTup [(pC (.str "same")), (po2 ixD (pV 4) (pC (.int 0))), (po2 ixD (pV 4) (pC (.int 1)))]), (poTup [(pC (.str "least")), (pC (.int 2)), (pV 4)])]))))
  (sDrop (eMt "list" mApp (eP (pV 2)) (aCons (eo2 ixD (eP (pV 5)) (eCall [true, false] sp__law_take (aP [(pV 0), (pC (.int 4))]))) (aP []))))))))
  (sRet (tTupE (aCons (eo2 ixD (eP (pFz (plLst [(pC (.str "and")), (pC (.str "and")), (pC (.str "or"))]))) (eCall [true, false] sp__law_take (aP [(pV 0), (pC (.int 3))]))) (aP [(po1 tupC (pV 2))])))))))
theorem take_ok {R : Rv → Mem → Prop} {n : Int} {b : Nat} {ds : List D} (t : Tp b ds) (hb : b < 1099511627776) (h1 : 1 ≤ n) (h2 : n ≤ 99999) (h : ∀ (v : Int) (ds' : List D), 0 ≤ v → v < n → Tp (b + 1) ds' → R (.d (.int v)) [.lst ds']) : sp_take [.ref 0, .d (.int n)] [.lst ds] R :=
  ⟨ds, n, b, rfl, rfl, t, hb, h1, h2, h⟩
theorem pure_any (as : List Sv) (M : Mem) (Q : Rv → Mem → Prop) (h : sp_any as M Q) : r_any sp_take (sp_claim 3) (endsF M.length Q) (startD 8 as) M := by
  obtain ⟨ds, n, b, rfl, rfl, ht, hb, hn, z⟩ := h
  show r_any sp_take (sp_claim 3) (endsF 1 Q) [some (.ref 0), some (.d (.int n)), none, none, none, none, none, none] [.lst ds]
  have big : ∀ (c0 : Nat) (ds2 : List D) (R : Rv → Mem → Prop), Tp c0 ds2 → c0 ≤ b + 1 → (∀ (c : Cm) ds3, c.ok n 3 → c.sz ≤ 100 → Tp (b + 300) ds3 → R (.d (cD c)) [.lst ds3]) → sp_claim 3 [.ref 0, .d (.int n), .d (.int 3)] [.lst ds2] R := fun c0 ds2 R t hc hR =>
    ⟨ds2, n, c0, rfl, rfl, t, by simp only [cC]; omega, hn, fun c ds3 h1 h2 t3 => hR c ds3 h1 (by simp only [cS] at h2; omega) (t3.mono (by simp only [cC]; omega))⟩
  simp only [VLS, r_any]
  split
  · refine big b ds _ ht (by omega) fun c ds3 h1 h2 t3 => ?_
    simp only [VLS]
    exact z c ds3 h1 h2 t3
  rename_i hn2
  refine take_ok ht (by omega) (by decide) (by decide) fun v ds1 v0 v1 t1 => ?_
  simp only [VLS]
  split
  · refine big (b + 1) ds1 _ t1 (by omega) fun c ds3 h1 h2 t3 => ?_
    simp only [VLS]
    exact z c ds3 h1 h2 t3
  refine take_ok t1 (by omega) (by decide) (by decide) fun v2 ds2 v20 v21 t2 => ?_
  simp only [VLS]
  refine ⟨⟨by omega, by omega⟩, fun h => h.elim, ?_⟩
  have hm : (2 + v2).toNat ≤ 5 := by omega
  generalize (2 + v2).toNat = m at hm
  refine for_inv (fun rest δ M => ∃ cs ds3 o3 o4 o5, δ = [some (.ref 0), some (.d (.int n)), some (.ref 1), o3, o4, o5, none, none] ∧ M = [.lst ds3, .lst (cDs cs)] ∧ Cm.oks n 2 cs ∧ Cm.szs cs ≤ 7 * cs.length ∧ cs.length + rest.length = m ∧ Tp (b + 2 + 8 * cs.length) ds3) ?_ ?_ _ _ _
    ⟨[], ds2, none, none, none, rfl, rfl, trivial, by simp [Cm.szs], by simp [rgL_len], by simpa using t2⟩
  · rintro δ M ⟨cs, ds3, o3, o4, o5, rfl, rfl, q1, q2, q3, t3⟩
    simp only [List.length_nil, Nat.add_zero] at q3
    refine ⟨trivial, ?_⟩
    simp only [VLS]
    refine take_ok t3 (by omega) (by decide) (by decide) fun v ds4 v0 v1 t4 => ?_
    simp only [VLS]
    have t5 := t4.mono (c := b + 300) (by omega)
    have hv : v = 0 ∨ v = 1 ∨ v = 2 := by omega
    rcases hv with rfl | rfl | rfl <;> simp only [VLS]
    · exact z (.all cs) ds4 q1 (by simp only [Cm.sz]; omega) t5
    · exact z (.all cs) ds4 q1 (by simp only [Cm.sz]; omega) t5
    · exact z (.any cs) ds4 q1 (by simp only [Cm.sz]; omega) t5
  · rintro x rest δ M nx ⟨cs, ds3, o3, o4, o5, rfl, rfl, q1, q2, q3, t3⟩ k
    simp only [List.length_cons] at q3
    refine ⟨trivial, ?_⟩
    simp only [VLS]
    refine take_ok t3 (by omega) (by decide) (by decide) fun u ds4 u0 u1 t4 => ?_
    obtain ⟨u, rfl⟩ := Int.eq_ofNat_of_zero_le u0
    have e2 : ((2 : Int) + (u : Int)).toNat = u + 2 := by omega
    simp only [VLS, e2, rgL_len]
    refine ⟨⟨by omega, by omega⟩, fun _ => by rw [sizeLine_eq]; omega, ?_⟩
    refine lc_inv (fun rest acc M => ∃ cs' ds5, acc = cDs cs' ∧ M = [.lst ds5, .lst (cDs cs)] ∧ Cm.oks n 0 cs' ∧ Cm.szs cs' = cs'.length ∧ cs'.length + rest.length = u + 2 ∧ Tp (b + 2 + 8 * cs.length + 1 + cs'.length) ds5) ?_ ?_ _ _ _
      ⟨[], ds4, rfl, rfl, trivial, rfl, by simp [rgL_len], by simpa using t4⟩
    · rintro acc M ⟨cs', ds5, rfl, rfl, w1, w2, w3, t5⟩
      simp only [List.length_nil, Nat.add_zero] at w3
      refine ⟨trivial, ?_⟩
      refine lc_inv (fun rest acc M => ∃ r cs2 ds6, rest = cDs r ∧ Cm.oks n 0 r ∧ Cm.szs r = r.length ∧ acc = cDs cs2 ∧ M = [.lst ds6, .lst (cDs cs)] ∧ Cm.oks n 1 cs2 ∧ Cm.szs cs2 ≤ 2 * cs2.length ∧ cs2.length + r.length = u + 2 ∧ Tp (b + 2 + 8 * cs.length + 1 + (u + 2) + cs2.length) ds6) ?_ ?_ _ _ _
        ⟨cs', [], ds5, rfl, w1, w2, rfl, rfl, trivial, by simp [Cm.szs], by simpa using w3, t5.mono (by omega)⟩
      · rintro acc M ⟨r, cs2, ds6, hr, y1, y2, rfl, rfl, y3, y4, y5, t6⟩
        obtain rfl : r = [] := by
          cases r with
          | nil => rfl
          | cons c r => cases hr
        simp only [List.length_nil, Nat.add_zero] at y5
        refine ⟨trivial, ?_⟩
        obtain ⟨c1, c2, r, rfl⟩ : ∃ c1 c2 r, cs2 = c1 :: c2 :: r := by
          match cs2, y5 with
          | c1 :: c2 :: r, _ => exact ⟨c1, c2, r, rfl⟩
        simp only [VLS, cDs]
        refine take_ok t6 (by omega) (by decide) (by decide) fun v ds7 v0 v1 t7 => ?_
        simp only [VLS]
        have hv : v = 0 ∨ v = 1 ∨ v = 2 ∨ v = 3 := by omega
        have fin : ∀ c : Cm, c.ok n 2 → c.sz ≤ 7 → nx [some (.ref 0), some (.d (.int n)), some (.ref 1), some (.d x), some (.d (.tup (cD c1 :: cD c2 :: cDs r))), some (.d (.lst [.tup [.str "or", .tup (cD c1 :: cD c2 :: cDs r)], .tup [.str "and", .tup (cD c1 :: cD c2 :: cDs r)], .tup [.str "same", cD c1, cD c2], .tup [.str "least", .int 2, .tup (cD c1 :: cD c2 :: cDs r)]])), none, none] [.lst ds7, .lst (cDs cs ++ [cD c])] := fun c h1 h2 => by
          refine k _ _ ⟨cs ++ [c], ds7, _, _, _, rfl, by rw [cDs_app]; rfl, (oks_app _ _).mpr ⟨q1, h1, trivial⟩, ?_, by simp; omega, t7.mono (by simp at y5 ⊢; omega)⟩
          rw [szs_app, List.length_append]; simp only [Cm.szs, List.length_cons, List.length_nil]; omega
        have hsz : (cDs cs).length < sizeLine := by rw [cDs_len, sizeLine_eq]; omega
        simp only [List.length_cons] at y5 y4
        rcases hv with rfl | rfl | rfl | rfl <;> simp only [VLS]
        · exact ⟨hsz, fin (.any (c1 :: c2 :: r)) (y3) (by simp only [Cm.sz]; omega)⟩
        · exact ⟨hsz, fin (.all (c1 :: c2 :: r)) (y3) (by simp only [Cm.sz]; omega)⟩
        · exact ⟨hsz, fin (.same c1 c2) ⟨y3.1, y3.2.1⟩ (by simp only [Cm.szs] at y4; simp only [Cm.sz]; omega)⟩
        · exact ⟨hsz, fin (.least 2 (c1 :: c2 :: r)) ⟨by simp, y3⟩ (by simp only [Cm.sz]; omega)⟩
      · rintro x2 rest2 acc M R ⟨r, cs2, ds6, hr, y1, y2, rfl, rfl, y3, y4, y5, t6⟩ k2
        cases r with
        | nil => cases hr
        | cons c r =>
          simp only [cDs, List.cons.injEq] at hr
          obtain ⟨rfl, rfl⟩ := hr
          simp only [List.length_cons] at y5
          have hc1 : c.sz = 1 ∧ Cm.szs r = r.length := by
            have : ∀ l : List Cm, Cm.oks n 0 l → Cm.szs l = l.length := by
              intro l
              induction l with
              | nil => intro _; rfl
              | cons c l ih =>
                intro h
                have := ih h.2
                have h1 := h.1
                cases c <;> first | exact h1.elim | (simp only [Cm.szs, Cm.sz, List.length_cons]; omega)
            have := this r y1.2
            simp only [Cm.szs, List.length_cons] at y2
            omega
          refine ⟨trivial, ?_⟩
          simp only [VLS]
          refine take_ok t6 (by omega) (by decide) (by decide) fun v ds7 v0 v1 t7 => ?_
          simp only [VLS]
          have done : ∀ c' : Cm, c'.ok n 1 → c'.sz ≤ 2 → R (.d (cD c')) [.lst ds7, .lst (cDs cs)] := fun c' h1 h2 => by
            refine k2 _ _ ⟨r, cs2 ++ [c'], ds7, rfl, y1.2, hc1.2, by rw [cDs_app]; rfl, rfl, (oks_app _ _).mpr ⟨y3, h1, trivial⟩, ?_, by simp; omega, t7.mono (by simp; omega)⟩
            rw [szs_app, List.length_append]; simp only [Cm.szs, List.length_cons, List.length_nil]; omega
          split
          · exact done (.neg c) y1.1 (by simp only [Cm.sz]; omega)
          · exact done c (Cm.ok_up 0 c y1.1) (by omega)
    · rintro x2 rest2 acc M R ⟨cs', ds5, rfl, rfl, w1, w2, w3, t5⟩ k2
      simp only [List.length_cons] at w3
      refine ⟨trivial, ?_⟩
      simp only [VLS]
      refine take_ok t5 (by omega) (by omega) (by omega) fun v ds6 v0 v1 t6 => ?_
      obtain ⟨v, rfl⟩ := Int.eq_ofNat_of_zero_le v0
      simp only [VLS]
      refine k2 (cD (.name v)) _ ⟨cs' ++ [.name v], ds6, by rw [cDs_app]; rfl, rfl, (oks_app _ _).mpr ⟨w1, (show Cm.ok n 0 (.name v) from (show v < n by omega)), trivial⟩, ?_, by simp; omega, t6.mono (by simp; omega)⟩
      rw [szs_app, List.length_append]; simp only [Cm.szs, Cm.sz, List.length_cons, List.length_nil]; omega
set_option maxHeartbeats 1000000
theorem toNat_inj {a b : Char} (h : a.toNat = b.toNat) : a = b := Char.ext (UInt32.toNat_inj.mp h)
theorem ofS_inj {a b : String} : (Str.ofString a = Str.ofString b) = (a = b) := by
  apply propext
  constructor
  · intro h
    rw [Str.ofString_eq_toList, Str.ofString_eq_toList] at h
    have h1 : a.toList.map Char.toNat = b.toList.map Char.toNat := by
      have := congrArg (fun z : Str => z.cps.toList) h
      simpa using this
    have h2 : ∀ (l m : List Char), l.map Char.toNat = m.map Char.toNat → l = m := by
      intro l
      induction l with
      | nil => intro m hm; cases m with | nil => rfl | cons _ _ => cases hm
      | cons x l ih =>
        intro m hm
        cases m with
        | nil => cases hm
        | cons y m =>
          simp only [List.map_cons, List.cons.injEq] at hm
          rw [toNat_inj hm.1, ih m hm.2]
    exact String.toList_inj.mp (h2 _ _ h1)
  · rintro rfl; rfl
theorem in_tup {M : Mem} {s : Str} {ds : List D} : inD M (.d (.str s)) (.d (.tup ds)) = (gd ((atomD (.str s) = true ∧ ds.all atomD = true) ∨ (okE (.str s) = true ∧ isTupD (.d (.tup ds)) = false ∧ okE (.lst ds) = true)) (ds.any fun z => eqvD z (.str s))).map blS := rfl
theorem in_str2 {M : Mem} {s a b : Str} : inD M (.d (.str s)) (.d (.tup [.str a, .str b])) = some (.d (.bl (decide (a = s ∨ b = s)))) := by
  rw [in_tup]
  have h : (atomD (.str s) = true ∧ [D.str a, D.str b].all atomD = true) ∨ (okE (.str s) = true ∧ isTupD (.d (.tup [D.str a, D.str b])) = false ∧ okE (.lst [D.str a, D.str b]) = true) := .inl ⟨rfl, rfl⟩
  rw [gd_pos h]
  simp only [Option.map_some, blS, List.any_cons, List.any_nil, eqvD, Bool.or_false]
  congr 3
  rw [Bool.eq_iff_iff]
  simp [beq_iff_eq]
theorem at_m1_2 {α : Type} {x y : α} : atI [x, y] (-1) = some y := rfl
theorem at_m1_3 {α : Type} {x y z : α} : atI [x, y, z] (-1) = some z := rfl
theorem cut_2 {x y : D} : cutD [x, y] (some 1) none = [y] := rfl
theorem cut_3 {x y z : D} : cutD [x, y, z] (some 1) none = [y, z] := rfl
theorem bls_map {bs : List Bool} : blsOf (bs.map D.bl) = some bs := blsOf_map bs
theorem all_bls {M : Mem} {bs : List Bool} : allD M [.d (.lst (bs.map D.bl))] = some (.d (.bl (bs.all id))) := by
  simp only [allD, lstD, Option.bind_some, bls_map, Option.map_some, blS]
theorem any_bls {M : Mem} {bs : List Bool} : anyD M [.d (.lst (bs.map D.bl))] = some (.d (.bl (bs.any id))) := by
  simp only [anyD, lstD, Option.bind_some, bls_map, Option.map_some, blS]
theorem okE_bl {b : Bool} : okE (.bl b) = true := by cases b <;> rfl
theorem bls_lay : ∀ bs : List Bool, PyData.canLayAll0 (pys (bs.map D.bl)) = true ∧ PyData.depthAll (pys (bs.map D.bl)) = 0 ∧ noRs (bs.map D.bl) = true
  | [] => ⟨rfl, rfl, rfl⟩
  | b :: bs => by
    obtain ⟨h1, h2, h3⟩ := bls_lay bs
    simp only [List.map_cons, pys, py, PyData.canLayAll0, PyData.canLay0, PyData.depthAll, PyData.depth, noRs, noR, h1, h2, h3]
    decide
theorem okE_bls {bs : List Bool} : okE (.lst (bs.map D.bl)) = true := by
  obtain ⟨h1, h2, h3⟩ := bls_lay bs
  unfold okE SeqAt.shaped
  simp only [noR, py, PyData.canLay0, PyData.depth, h1, h2, h3]
  decide
theorem count_bls {M : Mem} {bs : List Bool} {b : Bool} : countD M (.d (.lst (bs.map D.bl))) [.d (.bl b)] = some (.d (.int (bs.count b))) := by
  simp only [countD, lstD, Option.bind_some]
  rw [gd_pos ⟨okE_bl, okE_bls⟩]
  simp only [intS]
  congr 4
  rw [List.countP_map]
  rfl
theorem slD_t {M : Mem} {a : List D} {lo hi : Option Int} : slD M (.d (.tup a)) lo hi = some (.d (.tup (cutD a lo hi))) := rfl
theorem intO_i {i : Int} : intO (.d (.int i)) = some (some i) := rfl
theorem list_t {M : Mem} {a : List D} : listF M [.d (.tup a)] = some a := rfl
theorem list_l {M : Mem} {a : List D} : listF M [.d (.lst a)] = some a := rfl
set_option maxHeartbeats 1000000
def Cm.subs : Cm → List Cm
  | .neg c => [c]
  | .same a b => [a, b]
  | .all cs => cs
  | .any cs => cs
  | .least _ cs => cs
  | _ => []
theorem seal_r {m0 n : Nat} {M : Mem} : sealD m0 M (.ref n) = if m0 ≤ n then (cellL M[n]?).map fun ds => (.d (.lst ds), M.set n .gone) else none := rfl
local macro_rules
  | `(tactic| simp only [VLT]) => `(tactic| simp only [sSeq, sIf, sSet, sSub, sRet, sRetN, sNil, sDrop, sAsg, sPar, sParT, sAug, cP, bB, bTr, bNt, bAn, bOr, po1, po2, poN, pArgs, poIf, poAn, poOr, poNt, poTup, plLst, plN, pl2, pl1, pFz, pV, pC, eP, eo1, eo2, eoN, aP, aNil, aCons, eAn, eOr, eNt, eIf, eFz, eNw, fP, fN, f2, f1, tTupE, tLstF, tTr, tTb, tAn, tOrr, tNt, tYs, eSeal, eMt, poMt, mPure, eCh, pCh, ok_bind, ok_map, ok_some, ok_none, ok_gd, ok_ite, List.getElem?_cons_zero, List.getElem?_cons_succ, List.set_cons_zero, List.set_cons_succ, Option.join_some, Option.bind_some, Option.map_some, Option.bind_none, Option.map_none, ix_ref, ix_tup, ix_lst, ix_bor, ix_scr, add_int, add_str, add_tup, sub_int, mul_int, fdiv_int, mod_int, pow_int, neg_int, lt_int, le_int, gt_int, ge_int, eq_int, eq_str, eq_bl, ne_int, ne_str, ne_bl, is_bl, isnt_bl, is_non, isnt_non, len_tup, len_lst, len_ref, len_bor, len_scr, int_bl, int_int, abs_int, min_int, max_int, blD_bl, cell_lst, cellA_lst, cellA_dk, st_ref, at_0, at_1, at_2, at_3, at_4, ixN_10, ixN_20, ixN_21, ixN_30, ixN_31, ixN_32, dataS_d, datas_nil, datas_cons, truth_bl, notD, intS, blS, nonB, List.length_cons, List.length_nil, Nat.reduceAdd, endsF_rt, endsF_nx, rvQ_d, rvQ_new, rvQ_newK, rv_d, rv_ref, rv_cl, rv_ck, okRef_d, okRef_ref, List.not_mem_nil, List.nil_append, true_and, and_true, List.take_succ_cons, List.take_zero, Nat.zero_add, decide_eq_true_eq, Bool.false_eq_true, if_false, if_true, callS, handS_n, handS_tr, handS_fr, handS_fd, handS_fb, cellsAt_c, cellsAt_0, Option.getD_some, backS_0, backS_1, eCall, tup_lst, tup_tup, tup_ref, fLc, iRg, rng_1, rng_2, wipeS_c, wipeS_n, iPq, iSq, seq_tup, seq_lst, seq_bor, lst_lst, lst_bor, gdS_d, gdS_b, sFor, gNm, gcS_c, gcS_n, gcO_d, gcO_n, mapp, rcv_0, rcv_1, rcv_l, gcO_r0, gcO_r1, gcO_z, seal_d, eq_self, List.take_nil, List.cons_append, poSl, poI, poNo, slD_t, intO_i, list_t, list_l, in_str2, ofS_inj, String.reduceEq, or_false, false_or, or_true, true_or, or_self, decide_true, decide_false, Bool.not_true, Bool.not_false, at_m1_2, at_m1_3, cut_2, cut_3, all_bls, any_bls, count_bls])
  | `(tactic| simp only [VLT, $xs,*]) => `(tactic| simp only [sSeq, sIf, sSet, sSub, sRet, sRetN, sNil, sDrop, sAsg, sPar, sParT, sAug, cP, bB, bTr, bNt, bAn, bOr, po1, po2, poN, pArgs, poIf, poAn, poOr, poNt, poTup, plLst, plN, pl2, pl1, pFz, pV, pC, eP, eo1, eo2, eoN, aP, aNil, aCons, eAn, eOr, eNt, eIf, eFz, eNw, fP, fN, f2, f1, tTupE, tLstF, tTr, tTb, tAn, tOrr, tNt, tYs, eSeal, eMt, poMt, mPure, eCh, pCh, ok_bind, ok_map, ok_some, ok_none, ok_gd, ok_ite, List.getElem?_cons_zero, List.getElem?_cons_succ, List.set_cons_zero, List.set_cons_succ, Option.join_some, Option.bind_some, Option.map_some, Option.bind_none, Option.map_none, ix_ref, ix_tup, ix_lst, ix_bor, ix_scr, add_int, add_str, add_tup, sub_int, mul_int, fdiv_int, mod_int, pow_int, neg_int, lt_int, le_int, gt_int, ge_int, eq_int, eq_str, eq_bl, ne_int, ne_str, ne_bl, is_bl, isnt_bl, is_non, isnt_non, len_tup, len_lst, len_ref, len_bor, len_scr, int_bl, int_int, abs_int, min_int, max_int, blD_bl, cell_lst, cellA_lst, cellA_dk, st_ref, at_0, at_1, at_2, at_3, at_4, ixN_10, ixN_20, ixN_21, ixN_30, ixN_31, ixN_32, dataS_d, datas_nil, datas_cons, truth_bl, notD, intS, blS, nonB, List.length_cons, List.length_nil, Nat.reduceAdd, endsF_rt, endsF_nx, rvQ_d, rvQ_new, rvQ_newK, rv_d, rv_ref, rv_cl, rv_ck, okRef_d, okRef_ref, List.not_mem_nil, List.nil_append, true_and, and_true, List.take_succ_cons, List.take_zero, Nat.zero_add, decide_eq_true_eq, Bool.false_eq_true, if_false, if_true, callS, handS_n, handS_tr, handS_fr, handS_fd, handS_fb, cellsAt_c, cellsAt_0, Option.getD_some, backS_0, backS_1, eCall, tup_lst, tup_tup, tup_ref, fLc, iRg, rng_1, rng_2, wipeS_c, wipeS_n, iPq, iSq, seq_tup, seq_lst, seq_bor, lst_lst, lst_bor, gdS_d, gdS_b, sFor, gNm, gcS_c, gcS_n, gcO_d, gcO_n, mapp, rcv_0, rcv_1, rcv_l, gcO_r0, gcO_r1, gcO_z, seal_d, eq_self, List.take_nil, List.cons_append, poSl, poI, poNo, slD_t, intO_i, list_t, list_l, in_str2, ofS_inj, String.reduceEq, or_false, false_or, or_true, true_or, or_self, decide_true, decide_false, Bool.not_true, Bool.not_false, at_m1_2, at_m1_3, cut_2, cut_3, all_bls, any_bls, count_bls, $xs,*])
set_option maxHeartbeats 1000000
structure Pl (w dp : Nat) (d : D) : Prop where
  no : noR d = true
  sh : (py d).leavesShort 40 = true
  la : (py d).canLay0 = true
  sw : (py d).showable = true
  we : (py d).weight ≤ w
  de : (py d).depth ≤ dp
structure Pls (w dp : Nat) (d : List D) : Prop where
  no : noRs d = true
  sh : PyData.leavesShortAll 40 (pys d) = true
  la : PyData.canLayAll0 (pys d) = true
  sw : PyData.showableAll (pys d) = true
  we : PyData.weightAll (pys d) ≤ w
  de : PyData.depthAll (pys d) ≤ dp
theorem Pl.mono {w dp w' dp' : Nat} {d : D} (h : Pl w dp d) (h1 : w ≤ w') (h2 : dp ≤ dp') : Pl w' dp' d := ⟨h.no, h.sh, h.la, h.sw, Nat.le_trans h.we h1, Nat.le_trans h.de h2⟩
theorem Pls.mono {w dp w' dp' : Nat} {d : List D} (h : Pls w dp d) (h1 : w ≤ w') (h2 : dp ≤ dp') : Pls w' dp' d := ⟨h.no, h.sh, h.la, h.sw, Nat.le_trans h.we h1, Nat.le_trans h.de h2⟩
theorem Pl.int {i : Int} (h : i.natAbs < 10 ^ 39) : Pl 140 0 (.int i) := by
  have h2 : i.natAbs < 2 ^ 130 := Nat.lt_trans h (by decide)
  have hl : i.natAbs ≠ 0 → i.natAbs.log2 < 130 := fun h0 => (Nat.log2_lt h0).mpr h2
  have hl2 : i.natAbs.log2 < 130 := by
    by_cases h0 : i.natAbs = 0
    · rw [h0]; decide
    · exact hl h0
  refine ⟨rfl, ?_, rfl, ?_, ?_, Nat.le_refl _⟩
  · show decide ((PyData.shown (.int i)).length ≤ 40) = true
    have e := int_text_length_le10 (k := 39) (by decide) h
    have : (Str.ofString (toString i)).length ≤ 40 := by rw [ofString_length]; exact e
    exact decide_eq_true this
  · show decide (i.natAbs.log2 < 1920) = true
    exact decide_eq_true (by omega)
  · show (if i == 0 then 0 else i.natAbs.log2 + 1) ≤ 140
    split <;> omega
theorem Pl.str {s : Str} {n : Nat} (h : (PyData.canLay0 (.str s) && s.cps.toList.all (fun c => decide (c < 16 ^ 8)) && decide (s.cps.size ≤ n)) = true) : Pl n 0 (.str s) := by
  simp only [Bool.and_eq_true, decide_eq_true_eq] at h
  exact ⟨rfl, h.1.2, h.1.1, rfl, h.2, Nat.le_refl _⟩
theorem Pl.bl {b : Bool} : Pl 0 0 (.bl b) := ⟨rfl, rfl, rfl, rfl, Nat.le_refl _, Nat.le_refl _⟩
theorem Pl.non : Pl 0 0 .non := ⟨rfl, rfl, rfl, rfl, Nat.le_refl _, Nat.le_refl _⟩
theorem Pls.nil {dp : Nat} : Pls 0 dp [] := ⟨rfl, rfl, rfl, rfl, Nat.le_refl _, Nat.zero_le _⟩
theorem Pls.cons {w1 w2 dp : Nat} {d : D} {ds : List D} (h : Pl w1 dp d) (h2 : Pls w2 dp ds) : Pls (w1 + 1 + w2) dp (d :: ds) := by
  refine ⟨?_, ?_, ?_, ?_, ?_, ?_⟩
  · simp only [noRs, h.no, h2.no]; rfl
  · simp only [pys, PyData.leavesShortAll, h.sh, h2.sh]; rfl
  · simp only [pys, PyData.canLayAll0, h.la, h2.la]; rfl
  · simp only [pys, PyData.showableAll, h.sw, h2.sw]; rfl
  · simp only [pys, PyData.weightAll]; have := h.we; have := h2.we; omega
  · simp only [pys, PyData.depthAll]; have := h.de; have := h2.de; omega
theorem Pl.tup {w dp : Nat} {ds : List D} (h : Pls w dp ds) : Pl w (dp + 1) (.tup ds) := by
  refine ⟨h.no, ?_, ?_, ?_, ?_, ?_⟩
  · simp only [py, PyData.leavesShort]; exact h.sh
  · simp only [py, PyData.canLay0]; exact h.la
  · simp only [py, PyData.showable]; exact h.sw
  · simp only [py, PyData.weight]; exact h.we
  · simp only [py, PyData.depth]; have := h.de; omega
theorem Pl.lst {w dp : Nat} {ds : List D} (h : Pls w dp ds) : Pl w (dp + 1) (.lst ds) := by
  refine ⟨h.no, ?_, ?_, ?_, ?_, ?_⟩
  · simp only [py, PyData.leavesShort]; exact h.sh
  · simp only [py, PyData.canLay0]; exact h.la
  · simp only [py, PyData.showable]; exact h.sw
  · simp only [py, PyData.weight]; exact h.we
  · simp only [py, PyData.depth]; have := h.de; omega
theorem Pl.okR {w dp : Nat} {d : D} (h : Pl w dp d) (hw : w ≤ 390000) (hd : dp ≤ 150) : okR d = true := by
  have h1 := PyData.shown_le 40 (by decide) _ h.sh
  have h2 : (40 + 2) * (py d).weight ≤ 42 * 390000 := Nat.mul_le_mul (by decide) (Nat.le_trans h.we hw)
  have h3 : (PyData.shown (py d)).length ≤ sizeLine := by rw [sizeLine_eq]; omega
  have h4 := h.de
  unfold VL.okR
  rw [h.no, h.sw, decide_eq_true h3, decide_eq_true (show (py d).depth ≤ 150 by omega)]
  rfl
theorem cs_len : ∀ cs : List Cm, cs.length ≤ Cm.szs cs
  | [] => Nat.le_refl _
  | c :: cs => by
    have := cs_len cs
    have : 1 ≤ c.sz := by cases c <;> simp [Cm.sz]
    simp only [Cm.szs, List.length_cons]; omega
set_option maxHeartbeats 1000000
theorem cat_l {M : Mem} {a b : List D} : catF M (.d (.lst a)) (.d (.lst b)) = gd (a.length + b.length ≤ sizeLine) (a ++ b) := rfl
def pre (x : D) : D → D
  | .tup ds => .tup (x :: ds)
  | d => d
def sp_many : SpD := fun as M Q => ∃ (ds : List D) (b : Nat), as = [.ref 0] ∧ M = [.lst ds] ∧ Tp b ds ∧ b + 10 < 1099511627776 ∧ ∀ (v : Nat) ds', v ≤ 8 → Tp (b + 3) ds' → Q (.d (.int v)) [.lst ds']
def r_many (sp__law_take : SpD) : TS' :=
  (sSeq (sSet 1 (eo2 eqD (eCall [true, false] sp__law_take (aP [(pV 0), (pC (.int 8))])) (eP (pC (.int 0)))))
  (sRet (eIf (cP (bTr (pV 1))) (eo2 addD (eP (pC (.int 7))) (eCall [true, false] sp__law_take (aP [(pV 0), (pC (.int 2))]))) (eCall [true, false] sp__law_take (aP [(pV 0), (pC (.int 7))])))))
theorem pure_many (as : List Sv) (M : Mem) (Q : Rv → Mem → Prop) (h : sp_many as M Q) : r_many sp_take (endsF M.length Q) (startD 2 as) M := by
  obtain ⟨ds, b, rfl, rfl, ht, hb, z⟩ := h
  show r_many sp_take (endsF 1 Q) [some (.ref 0), none] [.lst ds]
  simp only [VLT, r_many]
  refine take_ok ht (by omega) (by decide) (by decide) fun v ds1 v0 v1 t1 => ?_
  simp only [VLT]
  split
  · refine take_ok t1 (by omega) (by decide) (by decide) fun v ds1 v0 v1 t1 => ?_
    obtain ⟨v, rfl⟩ := Int.eq_ofNat_of_zero_le v0
    simp only [VLT]
    exact z (7 + v) ds1 (by omega) (t1.mono (by omega))
  · refine take_ok t1 (by omega) (by decide) (by decide) fun v ds1 v0 v1 t1 => ?_
    obtain ⟨v, rfl⟩ := Int.eq_ofNat_of_zero_le v0
    simp only [VLT]
    exact z v ds1 (by omega) (t1.mono (by omega))
theorem repr_d {M : Mem} {x : D} : reprD M [.d x] = gd (okR x = true) (.d (.str (PyData.shown (py x)))) := rfl
set_option maxHeartbeats 1000000
def sp_law : SpD := fun as M Q => ∃ ns : List Int, as = [.d (.scr ns)] ∧ M = [] ∧ ns.length ≤ 63 ∧ Q (.d (.bl true)) []
theorem all_true' {M : Mem} {l : List D} : allD M [.d (.lst (l.map fun _ => D.bl true))] = some (.d (.bl true)) := by
  have e : (l.map fun _ => D.bl true) = (l.map fun _ => true).map D.bl := by rw [List.map_map]; rfl
  rw [e, all_bls]
  simp
end VL
set_option Elab.async false
set_option linter.all false
set_option maxRecDepth 100000
set_option maxHeartbeats 400000
namespace VL
open PySem PySem.Spec PyProof.Rows L2
theorem Ca.imp {P : Program} {w : World} {K : PySem.W.Frag} {mg : Str → Option Value} {base : Heap} {k n : Nat} {x : Str} {sp sp' : SpD} (c : Ca P w K mg base k x n sp) (h : ∀ as M Q, sp' as M Q → sp as M Q) : Ca P w K mg base k x n sp' := by
  obtain ⟨f, fd, ps, F, hm, kp, b⟩ := c.ex
  have up : ∀ vs H Q E, lP K n sp' vs H Q E → lP K n sp vs H Q E := fun vs H Q E ⟨as, M, i0, B, Q0, a1, a2, a3, a4, a5, a6⟩ => ⟨as, M, i0, B, Q0, a1, a2, a3, a4, h _ _ _ a5, a6⟩
  exact ⟨f, fd, ps, ⟨fun vs H Q E q => F.len vs H Q E (up _ _ _ _ q), fun A outer s H args us vs Q E hr he hb hv hs => F.run A outer s H args us vs Q E hr he hb hv (up _ _ _ _ hs)⟩, hm, kp, b⟩
theorem fg_of {P : Program} {w : World} {K : PySem.W.Frag} {mg : Str → Option Value} {base : Heap} {x qual : Str} {params : Arguments} {body : List Stmt} {scope : Scope} {f : Addr} {fd : FuncData} {Ns ps : List Str} {k m0 : Nat} {sp : SpD} {t : TS'}
    (F : FunD K x qual params body scope [] [] f fd) (S : FnScope Ns ps scope) (hm0 : ∀ as M Q0, sp as M Q0 → M.length = m0)
    (hb : ∀ (cdv : Value) (A : Around) (outer : List Env) (s : Shared) (H : Hp) (E : XK) (G : Gd), RoomG k (A.deeper (PyProof.Rows.envOfC qual scope s.heap.objs.size f cdv)) → G.i0.length = m0 → VSs (cxOf C8.CX0 P w K mg base Ns qual scope f cdv A outer s H E).nox G body t)
    (hp : ∀ as M Q0, as.length = ps.length → sp as M Q0 → t (endsF M.length Q0) (startD Ns.length as) M) : FnG P w K mg base C8.CX0 (k + 1) f fd ps (lP K ps.length sp) := by
  refine fn_g F S (fun vs H Q E ⟨as, M, i0, B, Q0, hn, hB, ra, h⟩ => by rw [← ra.length, hn]) fun cdv A outer s H vs Q E hr h => ?_
  obtain ⟨t', h1, h2⟩ := body_ok (X := (cxOf C8.CX0 P w K mg base Ns qual scope f cdv A outer s H E).nox) (Ns := Ns) m0 rfl (fun G hG => hb cdv A outer s H E G hr hG) hm0 hp h
  exact ⟨t', h1.nox, h2⟩
/-- the law's own promise, of a script -/
theorem lawSp {K : PySem.W.Frag} {H : Hp} {a : Addr} {ns : List Int} (hl : ns.length ≤ 63) (hO : Only H) (hS : SqL K H a (ns.map V.int)) : lP K 1 sp_law [.ref a] H (fun v _ => v = .bl true) fun _ _ _ => False := by
  have hs : RD K (NB fun _ => False) H [] (.scr ns) (.ref a) := by
    refine ⟨a, rfl, ?_, by rw [sizeLine_eq]; omega⟩
    rcases hS with (h | ⟨o, h⟩) | h
    · rcases hO a with z | ⟨o, xs, z⟩
      · rw [z] at h; cases h
      · rw [z] at h; cases h
    · exact .inl ⟨o, h, by simp⟩
    · exact .inr h
  refine ⟨[.d (.scr ns)], [], [], fun _ => False, fun r _ => r = .d (.bl true), rfl, fun _ h => h.elim, ⟨_, _, rfl, hs, rfl⟩, ⟨rfl, fun n m b h => by simp at h, fun n c b h => by simp at h, fun n h => by simp at h, fun n c h => by simp at h⟩, ⟨ns, rfl, rfl, hl, rfl⟩, ?_⟩
  rintro r M' v H' rfl ⟨h, _⟩
  exact h
end VL
set_option Elab.async false
set_option linter.all false
set_option maxRecDepth 100000
set_option maxHeartbeats 2000000
namespace VL
open PySem PySem.Spec L2 RT RZ PyProof.Rows HT
theorem cm_bot {P : Program} {w : World} {K : PySem.W.Frag} {mg : Str → Option Value} {base : Heap} {c m x qual : Str} {params : Arguments} {body : List Stmt} {scope : Scope} {f : Addr} {fd : FuncData} {ps : List Str} {k : Nat} {sp : Nat → SpD}
    (F : FunD K x qual params body scope [] [] f fd) (cl : Cls K (He.ga K c)) (hm : Meth K (He.ga K c) m f) (b : Binds K fd ps []) (n : Nat) : CaM P w K mg base k c m n (spB sp 0) :=
  ⟨cl, f, fd, ps, ⟨fun vs H Q E ⟨_, _, _, _, _, _, _, _, _, ⟨e, he, _⟩, _⟩ => by omega, fun A outer s H args us vs Q E _ _ _ _ ⟨_, _, _, _, _, _, _, _, _, ⟨e, he, _⟩, _⟩ => by omega⟩, hm, b⟩
end VL
set_option Elab.async false
set_option linter.all false
namespace VL
open PySem PySem.Spec L2
def clsT : List (Str × List Str) := [("Reader", ["many", "words", "place"])]
set_option maxHeartbeats 1000000
inductive Rw where
  | yes | no | has (k : Nat) (b : Bool) | all (ps : List Nat) | any (ps : List Nat) | pick (k lo hi : Nat)
  deriving DecidableEq
abbrev Wb := List Rw
def scan {α : Type} (g : List α → Rw → α) : List α → Wb → List α
  | acc, [] => acc
  | acc, r :: rs => scan g (acc ++ [g acc r]) rs
section
variable {α : Type} {g : List α → Rw → α}
theorem scan_app : ∀ (acc : List α) (a b : Wb), scan g acc (a ++ b) = scan g (scan g acc a) b
  | _, [], _ => rfl
  | acc, r :: a, b => scan_app (acc ++ [g acc r]) a b
theorem scan_len : ∀ (acc : List α) (a : Wb), (scan g acc a).length = acc.length + a.length
  | _, [] => rfl
  | acc, r :: a => by
    rw [scan, scan_len]
    simp only [List.length_append, List.length_cons, List.length_nil]; omega
theorem scan_pre : ∀ (acc : List α) (a : Wb), acc <+: scan g acc a
  | acc, [] => List.prefix_refl _
  | acc, r :: a => (List.prefix_append acc [g acc r]).trans (scan_pre _ a)
theorem pre_get {a b : List α} (h : a <+: b) {i : Nat} (hi : i < a.length) (d : α) : b.getD i d = a.getD i d := by
  obtain ⟨t, rfl⟩ := h
  rw [List.getD_eq_getElem?_getD, List.getD_eq_getElem?_getD, List.getElem?_append_left hi]
/-- the value at i: what g tells of the values ahead -/
theorem scan_at {w : Wb} {i : Nat} {r : Rw} (h : w[i]? = some r) (d : α) : (scan g [] w).getD i d = g (scan g [] (w.take i)) r := by
  have hi := (List.getElem?_eq_some_iff.mp h).1
  have e : w = w.take i ++ (r :: w.drop (i + 1)) := by
    have : w[i] = r := (List.getElem?_eq_some_iff.mp h).2
    rw [← this, List.getElem_cons_drop, List.take_append_drop]
  have hl : (scan g [] (w.take i)).length = i := by rw [scan_len]; simp; omega
  have e2 : scan g [] w = scan g (scan g [] (w.take i) ++ [g (scan g [] (w.take i)) r]) (w.drop (i + 1)) := by
    conv => lhs; rw [e, scan_app]
    rfl
  rw [e2, pre_get (scan_pre _ _) (by simp [hl]) d, List.getD_eq_getElem?_getD, List.getElem?_append_right (by omega), hl]
  simp
theorem scan_take {w : Wb} {i j : Nat} (h : j < i) (hi : i ≤ w.length) (d : α) : (scan g [] (w.take i)).getD j d = (scan g [] w).getD j d := by
  have e : scan g [] w = scan g (scan g [] (w.take i)) (w.drop i) := by rw [← scan_app, List.take_append_drop]
  rw [e]
  exact (pre_get (scan_pre _ _) (by rw [scan_len]; simp; omega) d).symm
end
def Rw.below : Rw → List Nat
  | .all ps => ps
  | .any ps => ps
  | .pick _ lo hi => [lo, hi]
  | _ => []
def Rw.hv (f : List Bool) (acc : List Bool) : Rw → Bool
  | .yes => true
  | .no => false
  | .has k b => f.getD k false == b
  | .all ps => (ps.map fun p => acc.getD p false).all id
  | .any ps => (ps.map fun p => acc.getD p false).any id
  | .pick k lo hi => if f.getD k false then acc.getD hi false else acc.getD lo false
def hvW (f : List Bool) (w : Wb) : List Bool := scan (Rw.hv f) [] w
/-- whether row i holds -/
def hvAt (f : List Bool) (w : Wb) (i : Nat) : Bool := (hvW f w).getD i false
def Rw.ks : Rw → List Int
  | .has k _ => [(k : Int)]
  | .pick k _ _ => [(k : Int)]
  | _ => []
def Rw.nm (acc : List (List Int)) (r : Rw) : List Int := usort (r.ks ++ (r.below.map fun p => acc.getD p []).flatten)
def nmW (w : Wb) : List (List Int) := scan Rw.nm [] w
def nmAt (w : Wb) (i : Nat) : List Int := (nmW w).getD i []
/-- a row, its names less than n, its rows less than i -/
def Rw.ok (n i : Nat) : Rw → Prop
  | .yes => True
  | .no => True
  | .has k _ => k < n
  | .all ps => (2 ≤ ps.length ∧ ps.length ≤ 32) ∧ ps.Pairwise (· < ·) ∧ ∀ p ∈ ps, p < i
  | .any ps => (2 ≤ ps.length ∧ ps.length ≤ 32) ∧ ps.Pairwise (· < ·) ∧ ∀ p ∈ ps, p < i
  | .pick k lo hi => k < n ∧ lo < i ∧ hi < i
def WbOk (n : Nat) (w : Wb) : Prop := ∀ (i : Nat) (r : Rw), w[i]? = some r → r.ok n i
/-- what a row of a form must be -/
def Rw.fm (w : Wb) : Rw → Prop
  | .all ps => ps.Pairwise fun p q => ∀ k, k ∈ nmAt w p → k ∉ nmAt w q
  | .any ps => ps.Pairwise fun p q => ∀ f, ¬ (hvAt f w p = true ∧ hvAt f w q = true)
  | .pick k lo hi => (k : Int) ∉ nmAt w lo ∧ (k : Int) ∉ nmAt w hi
  | _ => True
def WbFm (w : Wb) : Prop := ∀ (i : Nat) (r : Rw), w[i]? = some r → r.fm w
theorem Rw.ok.mono {n m i j : Nat} {r : Rw} (h : r.ok n i) (hn : n ≤ m) (hi : i ≤ j) : r.ok m j := by
  cases r with
  | yes => trivial
  | no => trivial
  | has k b => exact Nat.lt_of_lt_of_le h hn
  | all ps => exact ⟨h.1, h.2.1, fun p hp => Nat.lt_of_lt_of_le (h.2.2 p hp) hi⟩
  | any ps => exact ⟨h.1, h.2.1, fun p hp => Nat.lt_of_lt_of_le (h.2.2 p hp) hi⟩
  | pick k lo hi' => exact ⟨Nat.lt_of_lt_of_le h.1 hn, Nat.lt_of_lt_of_le h.2.1 hi, Nat.lt_of_lt_of_le h.2.2 hi⟩
theorem Rw.ok.below {n i : Nat} {r : Rw} (h : r.ok n i) : ∀ p ∈ r.below, p < i := by
  cases r with
  | all ps => exact h.2.2
  | any ps => exact h.2.2
  | pick k lo hi =>
    intro p hp
    simp only [Rw.below, List.mem_cons, List.not_mem_nil, or_false] at hp
    rcases hp with rfl | rfl
    · exact h.2.1
    · exact h.2.2
  | _ => intro p hp; cases hp
theorem hvAt_app {f : List Bool} {a b : Wb} {i : Nat} (h : i < a.length) : hvAt f (a ++ b) i = hvAt f a i := by
  unfold hvAt hvW
  rw [scan_app]
  exact pre_get (scan_pre _ _) (by rw [scan_len]; simpa using h) _
theorem nmAt_app {a b : Wb} {i : Nat} (h : i < a.length) : nmAt (a ++ b) i = nmAt a i := by
  unfold nmAt nmW
  rw [scan_app]
  exact pre_get (scan_pre _ _) (by rw [scan_len]; simpa using h) _
theorem nm_cong {a b : List (List Int)} {r : Rw} (h : ∀ p ∈ r.below, a.getD p [] = b.getD p []) : r.nm a = r.nm b := by
  unfold Rw.nm
  rw [List.map_congr_left (g := fun p => b.getD p []) h]
theorem nmAt_row {n : Nat} {w : Wb} {i : Nat} {r : Rw} (o : WbOk n w) (h : w[i]? = some r) : nmAt w i = r.nm (nmW w) := by
  unfold nmAt
  have hi := (List.getElem?_eq_some_iff.mp h).1
  show (scan Rw.nm [] w).getD i [] = _
  rw [scan_at h]
  refine nm_cong fun p hp => ?_
  exact scan_take ((o i r h).below p hp) (by omega) _
theorem WbOk.nil {n : Nat} : WbOk n [] := fun i r h => by simp at h
theorem WbOk.snoc {n : Nat} {w : Wb} {r : Rw} (h : WbOk n w) (hr : r.ok n w.length) : WbOk n (w ++ [r]) := fun i q e => by
  by_cases hi : i < w.length
  · rw [List.getElem?_append_left hi] at e; exact h i q e
  · have hl := (List.getElem?_eq_some_iff.mp e).1
    simp at hl
    have : i = w.length := by omega
    subst this
    simp at e
    subst e; exact hr
theorem WbOk.pre {n : Nat} {a b : Wb} (h : WbOk n b) (p : a <+: b) : WbOk n a := fun i r e => by
  obtain ⟨t, rfl⟩ := p
  exact h i r (by rw [List.getElem?_append_left (List.getElem?_eq_some_iff.mp e).1]; exact e)
theorem pw_iff {α : Type} {P Q : α → α → Prop} : ∀ {l : List α}, (∀ a b, a ∈ l → b ∈ l → (P a b ↔ Q a b)) → (l.Pairwise P ↔ l.Pairwise Q)
  | [], _ => by simp
  | x :: l, h => by
    rw [List.pairwise_cons, List.pairwise_cons, pw_iff (l := l) fun a b ha hb => h a b (List.mem_cons_of_mem _ ha) (List.mem_cons_of_mem _ hb)]
    refine and_congr_left fun _ => forall_congr' fun y => ?_
    exact ⟨fun z hy => (h x y List.mem_cons_self (List.mem_cons_of_mem _ hy)).mp (z hy), fun z hy => (h x y List.mem_cons_self (List.mem_cons_of_mem _ hy)).mpr (z hy)⟩
theorem Rw.fm_app {n : Nat} {a b : Wb} {r : Rw} (o : r.ok n a.length) : r.fm (a ++ b) ↔ r.fm a := by
  have hb := o.below
  cases r with
  | all ps =>
    refine pw_iff ?_
    intro p q hp hq
    rw [nmAt_app (hb p hp), nmAt_app (hb q hq)]
  | any ps =>
    refine pw_iff ?_
    intro p q hp hq
    simp only [hvAt_app (hb p hp), hvAt_app (hb q hq)]
  | pick k lo hi =>
    simp only [Rw.fm]
    rw [nmAt_app (hb lo (by simp [Rw.below])), nmAt_app (hb hi (by simp [Rw.below]))]
  | _ => exact Iff.rfl
theorem WbFm.snoc {n : Nat} {w : Wb} {r : Rw} (o : WbOk n w) (hf : WbFm w) (hr : r.ok n w.length) (hrf : r.fm w) : WbFm (w ++ [r]) := fun i q e => by
  by_cases hi : i < w.length
  · rw [List.getElem?_append_left hi] at e
    exact (Rw.fm_app ((o i q e).mono (Nat.le_refl _) (Nat.le_of_lt hi))).mpr (hf i q e)
  · have hl := (List.getElem?_eq_some_iff.mp e).1
    simp at hl
    have : i = w.length := by omega
    subst this
    simp at e
    subst e
    exact (Rw.fm_app hr).mpr hrf
theorem WbFm.nil : WbFm [] := fun i r h => by simp at h
theorem WbFm.pre {n : Nat} {a b : Wb} (o : WbOk n b) (h : WbFm b) (p : a <+: b) : WbFm a := fun i r e => by
  obtain ⟨t, rfl⟩ := p
  have hi := (List.getElem?_eq_some_iff.mp e).1
  have e2 : (a ++ t)[i]? = some r := by rw [List.getElem?_append_left hi]; exact e
  exact (Rw.fm_app ((o i r e2).mono (Nat.le_refl _) (Nat.le_of_lt hi))).mp (h i r e2)
set_option maxHeartbeats 1000000
theorem rcv_2 {c d : Cell} {M : Mem} {a : List D} : rcv (c :: d :: .lst a :: M) (.ref 2) = some "list" := rfl
theorem rcv_3 {c d e : Cell} {M : Mem} {a : List D} : rcv (c :: d :: e :: .lst a :: M) (.ref 3) = some "list" := rfl
theorem rcv_b {M : Mem} {a : List D} : rcv M (.bor a) = some "list" := rfl
theorem lst_ref {M : Mem} {n : Nat} : lstD M (.ref n) = cellL M[n]? := rfl
theorem len_refI {M : Mem} {n : Nat} : lenD M [.ref n] = (lenOf M (.ref n)).map intS := rfl
theorem lenOf_ref {M : Mem} {n : Nat} : lenOf M (.ref n) = (match M[n]? with
    | some (.lst ds) => some (ds.length : Int)
    | some (.dk kvs) => some (kvs.length : Int)
    | _ => none) := rfl
theorem list_b {M : Mem} {a : List D} : listF M [.bor a] = some a := rfl
theorem list_r {M : Mem} {n : Nat} : listF M [.ref n] = cellL M[n]? := rfl
theorem laid_l {M : Mem} {a : List D} : laidD M (.d (.lst a)) = some a := rfl
theorem laid_b {M : Mem} {a : List D} : laidD M (.bor a) = some a := rfl
theorem laid_r {M : Mem} {n : Nat} : laidD M (.ref n) = cellL M[n]? := rfl
/-- data that == may look at, one level within a list -/
structure EqOk (d : D) : Prop where
  no : noR d = true
  la : (py d).canLay0 = true
  de : (py d).depth ≤ 60
theorem EqOk.all : ∀ {ds : List D}, (∀ d ∈ ds, EqOk d) → noRs ds = true ∧ PyData.canLayAll0 (pys ds) = true ∧ PyData.depthAll (pys ds) ≤ 60
  | [], _ => ⟨rfl, rfl, Nat.zero_le _⟩
  | d :: ds, h => by
    obtain ⟨h1, h2, h3⟩ := EqOk.all (ds := ds) fun x hx => h x (List.mem_cons_of_mem _ hx)
    have h0 := h d List.mem_cons_self
    refine ⟨?_, ?_, ?_⟩
    · simp only [noRs, h0.no, h1]; rfl
    · simp only [pys, PyData.canLayAll0, h0.la, h2]; rfl
    · simp only [pys, PyData.depthAll]; have := h0.de; omega
theorem EqOk.lst {ds : List D} (h : ∀ d ∈ ds, EqOk d) : VL.okE (.lst ds) = true := by
  obtain ⟨h1, h2, h3⟩ := EqOk.all h
  unfold VL.okE SeqAt.shaped
  simp only [noR, py, PyData.canLay0, PyData.depth, h1, h2]
  rw [decide_eq_true (show PyData.depthAll (pys ds) + 1 ≤ 64 by omega)]
  rfl
theorem EqOk.int {i : Int} : EqOk (.int i) := ⟨rfl, rfl, Nat.zero_le _⟩
theorem EqOk.non : EqOk .non := ⟨rfl, rfl, Nat.zero_le _⟩
theorem EqOk.bl {b : Bool} : EqOk (.bl b) := ⟨rfl, rfl, Nat.zero_le _⟩
/-- a list, lent or data -/
def LV (s : Sv) (xs : List D) : Prop := s = .d (.lst xs) ∨ s = .bor xs
local macro_rules
  | `(tactic| simp only [VLT]) => `(tactic| simp only [sSeq, sIf, sSet, sSub, sRet, sRetN, sNil, sDrop, sAsg, sPar, sParT, sAug, cP, bB, bTr, bNt, bAn, bOr, po1, po2, poN, pArgs, poIf, poAn, poOr, poNt, poTup, plLst, plN, pl2, pl1, pFz, pV, pC, eP, eo1, eo2, eoN, aP, aNil, aCons, eAn, eOr, eNt, eIf, eFz, eNw, fP, fN, f2, f1, tTupE, tLstF, tTr, tTb, tAn, tOrr, tNt, tYs, eSeal, eMt, poMt, mPure, eCh, pCh, ok_bind, ok_map, ok_some, ok_none, ok_gd, ok_ite, List.getElem?_cons_zero, List.getElem?_cons_succ, List.set_cons_zero, List.set_cons_succ, Option.join_some, Option.bind_some, Option.map_some, Option.bind_none, Option.map_none, ix_ref, ix_tup, ix_lst, ix_bor, ix_scr, add_int, add_str, add_tup, sub_int, mul_int, fdiv_int, mod_int, pow_int, neg_int, lt_int, le_int, gt_int, ge_int, eq_int, eq_str, eq_bl, ne_int, ne_str, ne_bl, is_bl, isnt_bl, is_non, isnt_non, len_tup, len_lst, len_ref, len_bor, len_scr, int_bl, int_int, abs_int, min_int, max_int, blD_bl, cell_lst, cellA_lst, cellA_dk, st_ref, at_0, at_1, at_2, at_3, at_4, ixN_10, ixN_20, ixN_21, ixN_30, ixN_31, ixN_32, dataS_d, datas_nil, datas_cons, truth_bl, notD, intS, blS, nonB, List.length_cons, List.length_nil, Nat.reduceAdd, endsF_rt, endsF_nx, rvQ_d, rvQ_new, rvQ_newK, rv_d, rv_ref, rv_cl, rv_ck, okRef_d, okRef_ref, List.not_mem_nil, List.nil_append, true_and, and_true, List.take_succ_cons, List.take_zero, Nat.zero_add, decide_eq_true_eq, Bool.false_eq_true, if_false, if_true, callS, handS_n, handS_tr, handS_fr, handS_fd, handS_fb, cellsAt_c, cellsAt_0, Option.getD_some, backS_0, backS_1, eCall, tup_lst, tup_tup, tup_ref, fLc, iRg, rng_1, rng_2, wipeS_c, wipeS_n, iPq, iSq, seq_tup, seq_lst, seq_bor, lst_lst, lst_bor, gdS_d, gdS_b, sFor, gNm, gcS_c, gcS_n, gcO_d, gcO_n, mapp, rcv_0, rcv_1, rcv_l, gcO_r0, gcO_r1, gcO_z, seal_d, eq_self, List.take_nil, List.cons_append, poSl, poI, poNo, slD_t, intO_i, list_t, list_l, in_str2, ofS_inj, String.reduceEq, or_false, false_or, or_true, true_or, or_self, decide_true, decide_false, Bool.not_true, Bool.not_false, at_m1_2, at_m1_3, cut_2, cut_3, all_bls, any_bls, count_bls])
  | `(tactic| simp only [VLT, $xs,*]) => `(tactic| simp only [sSeq, sIf, sSet, sSub, sRet, sRetN, sNil, sDrop, sAsg, sPar, sParT, sAug, cP, bB, bTr, bNt, bAn, bOr, po1, po2, poN, pArgs, poIf, poAn, poOr, poNt, poTup, plLst, plN, pl2, pl1, pFz, pV, pC, eP, eo1, eo2, eoN, aP, aNil, aCons, eAn, eOr, eNt, eIf, eFz, eNw, fP, fN, f2, f1, tTupE, tLstF, tTr, tTb, tAn, tOrr, tNt, tYs, eSeal, eMt, poMt, mPure, eCh, pCh, ok_bind, ok_map, ok_some, ok_none, ok_gd, ok_ite, List.getElem?_cons_zero, List.getElem?_cons_succ, List.set_cons_zero, List.set_cons_succ, Option.join_some, Option.bind_some, Option.map_some, Option.bind_none, Option.map_none, ix_ref, ix_tup, ix_lst, ix_bor, ix_scr, add_int, add_str, add_tup, sub_int, mul_int, fdiv_int, mod_int, pow_int, neg_int, lt_int, le_int, gt_int, ge_int, eq_int, eq_str, eq_bl, ne_int, ne_str, ne_bl, is_bl, isnt_bl, is_non, isnt_non, len_tup, len_lst, len_ref, len_bor, len_scr, int_bl, int_int, abs_int, min_int, max_int, blD_bl, cell_lst, cellA_lst, cellA_dk, st_ref, at_0, at_1, at_2, at_3, at_4, ixN_10, ixN_20, ixN_21, ixN_30, ixN_31, ixN_32, dataS_d, datas_nil, datas_cons, truth_bl, notD, intS, blS, nonB, List.length_cons, List.length_nil, Nat.reduceAdd, endsF_rt, endsF_nx, rvQ_d, rvQ_new, rvQ_newK, rv_d, rv_ref, rv_cl, rv_ck, okRef_d, okRef_ref, List.not_mem_nil, List.nil_append, true_and, and_true, List.take_succ_cons, List.take_zero, Nat.zero_add, decide_eq_true_eq, Bool.false_eq_true, if_false, if_true, callS, handS_n, handS_tr, handS_fr, handS_fd, handS_fb, cellsAt_c, cellsAt_0, Option.getD_some, backS_0, backS_1, eCall, tup_lst, tup_tup, tup_ref, fLc, iRg, rng_1, rng_2, wipeS_c, wipeS_n, iPq, iSq, seq_tup, seq_lst, seq_bor, lst_lst, lst_bor, gdS_d, gdS_b, sFor, gNm, gcS_c, gcS_n, gcO_d, gcO_n, mapp, rcv_0, rcv_1, rcv_l, gcO_r0, gcO_r1, gcO_z, seal_d, eq_self, List.take_nil, List.cons_append, poSl, poI, poNo, slD_t, intO_i, list_t, list_l, in_str2, ofS_inj, String.reduceEq, or_false, false_or, or_true, true_or, or_self, decide_true, decide_false, Bool.not_true, Bool.not_false, at_m1_2, at_m1_3, cut_2, cut_3, all_bls, any_bls, count_bls, $xs,*])
set_option maxHeartbeats 1000000
structure EqK (k : Nat) (d : D) : Prop where
  no : noR d = true
  la : (py d).canLay0 = true
  de : (py d).depth ≤ k
theorem EqK.ok {k : Nat} {d : D} (h : EqK k d) (hk : k ≤ 60) : EqOk d := ⟨h.no, h.la, Nat.le_trans h.de hk⟩
theorem EqK.mono {k j : Nat} {d : D} (h : EqK k d) (hk : k ≤ j) : EqK j d := ⟨h.no, h.la, Nat.le_trans h.de hk⟩
theorem EqK.int {i : Int} : EqK 0 (.int i) := ⟨rfl, rfl, Nat.le_refl _⟩
theorem EqK.bl {i : Bool} : EqK 0 (.bl i) := ⟨rfl, rfl, Nat.le_refl _⟩
theorem EqK.non : EqK 0 .non := ⟨rfl, rfl, Nat.le_refl _⟩
theorem EqK.str {s : Str} (h : PyData.canLay0 (.str s) = true) : EqK 0 (.str s) := ⟨rfl, h, Nat.le_refl _⟩
theorem EqK.alls {k : Nat} : ∀ {ds : List D}, (∀ d ∈ ds, EqK k d) → noRs ds = true ∧ PyData.canLayAll0 (pys ds) = true ∧ PyData.depthAll (pys ds) ≤ k
  | [], _ => ⟨rfl, rfl, Nat.zero_le _⟩
  | d :: ds, h => by
    obtain ⟨h1, h2, h3⟩ := EqK.alls (ds := ds) fun x hx => h x (List.mem_cons_of_mem _ hx)
    have h0 := h d List.mem_cons_self
    refine ⟨?_, ?_, ?_⟩
    · simp only [noRs, h0.no, h1]; rfl
    · simp only [pys, PyData.canLayAll0, h0.la, h2]; rfl
    · simp only [pys, PyData.depthAll]; have := h0.de; omega
theorem EqK.tup {k : Nat} {ds : List D} (h : ∀ d ∈ ds, EqK k d) : EqK (k + 1) (.tup ds) := by
  obtain ⟨h1, h2, h3⟩ := EqK.alls h
  exact ⟨h1, h2, by simp only [py, PyData.depth]; omega⟩
theorem EqK.lst {k : Nat} {ds : List D} (h : ∀ d ∈ ds, EqK k d) : EqK (k + 1) (.lst ds) := by
  obtain ⟨h1, h2, h3⟩ := EqK.alls h
  exact ⟨h1, h2, by simp only [py, PyData.depth]; omega⟩
set_option maxHeartbeats 1000000
theorem for_ix {k : Nat} {g : TG'} {b : TS'} {E : Ends'} {gd : Mem → Prop} : ∀ (ds : List D) (I : Nat → DS → Mem → Prop) (fin : ∀ δ M, I ds.length δ M → gd M ∧ E.nx δ M)
    (step : ∀ j d δ M (nx : DS → Mem → Prop), ds[j]? = some d → I j δ M → (∀ δ' M', I (j + 1) (gcS k δ') (M'.take k) → nx δ' M') → gd M ∧ g d δ M fun δ1 M1 => b ⟨nx, E.rt, E.nx, nx⟩ δ1 M1) (δ : DS) (M : Mem), I 0 δ M → forL k g b E gd ds δ M
  | [], I, fin, step, δ, M, h => fin δ M h
  | d :: ds, I, fin, step, δ, M, h => step 0 d δ M _ rfl h fun δ' M' h' => for_ix ds (fun j => I (j + 1)) (fun δ M h => fin δ M h) (fun j d' δ M nx e hI k => step (j + 1) d' δ M nx (by simpa using e) hI k) _ _ h'
theorem lc_ix {g : TG'} {tt : TT'} {te : TE'} {δw : DS} {gd : Mem → Prop} {Q : List D → Mem → Prop} : ∀ (ds : List D) (I : Nat → List D → Mem → Prop) (fin : ∀ acc M, I ds.length acc M → gd M ∧ Q acc M)
    (step : ∀ j d acc M (nx : List D → Mem → Prop), ds[j]? = some d → I j acc M → (∀ acc' M', I (j + 1) acc' M' → nx acc' M') → gd M ∧ g d δw M fun δ2 M2 => tt δ2 M2 fun b M3 => if b then te δ2 M3 fun s M4 => ok (dataS s) fun y => nx (acc ++ [y]) M4 else nx acc M3) (acc : List D) (M : Mem), I 0 acc M → lcL g tt te δw gd Q ds acc M
  | [], I, fin, step, acc, M, h => fin acc M h
  | d :: ds, I, fin, step, acc, M, h => step 0 d acc M _ rfl h fun acc' M' h' => lc_ix ds (fun j => I (j + 1)) (fun acc M h => fin acc M h) (fun j d' acc M nx e hI k => step (j + 1) d' acc M nx (by simpa using e) hI k) _ _ h'
theorem rg_at {lo : Int} {n j : Nat} {d : D} (h : (rgL lo n)[j]? = some d) : j < n ∧ d = .int (lo + (j : Nat)) := by
  unfold rgL at h
  rw [List.getElem?_map, Option.map_eq_some_iff] at h
  obtain ⟨i, hi, rfl⟩ := h
  obtain ⟨hl, e⟩ := List.getElem?_eq_some_iff.mp hi
  simp only [List.length_range] at hl
  simp only [List.getElem_range] at e
  subst e
  exact ⟨hl, rfl⟩
theorem lcg_nm {i : Nat} : (LcG.nm i).to = gNm i := rfl
theorem lcg_tp {is : List Nat} : (LcG.tp is).to = gTp is := rfl
theorem slF_l {M : Mem} {a : List D} {lo hi : Option Int} : slF M (.d (.lst a)) lo hi = some (cutD a lo hi) := rfl
theorem slF_b {M : Mem} {a : List D} {lo hi : Option Int} : slF M (.bor a) lo hi = some (cutD a lo hi) := rfl
theorem slF_r {M : Mem} {n : Nat} {lo hi : Option Int} : slF M (.ref n) lo hi = (cellL M[n]?).map fun ds => cutD ds lo hi := rfl
local macro_rules
  | `(tactic| simp only [VLU]) => `(tactic| simp only [sSeq, sIf, sSet, sSub, sRet, sRetN, sNil, sDrop, sAsg, sPar, sParT, sAug, cP, bB, bTr, bNt, bAn, bOr, po1, po2, poN, pArgs, poIf, poAn, poOr, poNt, poTup, plLst, plN, pl2, pl1, pFz, pV, pC, eP, eo1, eo2, eoN, aP, aNil, aCons, eAn, eOr, eNt, eIf, eFz, eNw, fP, fN, f2, f1, tTupE, tLstF, tTr, tTb, tAn, tOrr, tNt, tYs, eSeal, eMt, poMt, mPure, eCh, pCh, ok_bind, ok_map, ok_some, ok_none, ok_gd, ok_ite, List.getElem?_cons_zero, List.getElem?_cons_succ, List.set_cons_zero, List.set_cons_succ, Option.join_some, Option.bind_some, Option.map_some, Option.bind_none, Option.map_none, ix_ref, ix_tup, ix_lst, ix_bor, ix_scr, add_int, add_str, add_tup, sub_int, mul_int, fdiv_int, mod_int, pow_int, neg_int, lt_int, le_int, gt_int, ge_int, eq_int, eq_str, eq_bl, ne_int, ne_str, ne_bl, is_bl, isnt_bl, is_non, isnt_non, len_tup, len_lst, len_ref, len_bor, len_scr, int_bl, int_int, abs_int, min_int, max_int, blD_bl, cell_lst, cellA_lst, cellA_dk, st_ref, at_0, at_1, at_2, at_3, at_4, ixN_10, ixN_20, ixN_21, ixN_30, ixN_31, ixN_32, dataS_d, datas_nil, datas_cons, truth_bl, notD, intS, blS, nonB, List.length_cons, List.length_nil, Nat.reduceAdd, endsF_rt, endsF_nx, rvQ_d, rvQ_new, rvQ_newK, rv_d, rv_ref, rv_cl, rv_ck, okRef_d, okRef_ref, List.not_mem_nil, List.nil_append, true_and, and_true, List.take_succ_cons, List.take_zero, Nat.zero_add, decide_eq_true_eq, Bool.false_eq_true, if_false, if_true, callS, handS_n, handS_tr, handS_fr, handS_fd, handS_fb, cellsAt_c, cellsAt_0, Option.getD_some, backS_0, backS_1, eCall, tup_lst, tup_tup, tup_ref, fLc, iRg, rng_1, rng_2, wipeS_c, wipeS_n, iPq, iSq, seq_tup, seq_lst, seq_bor, lst_lst, lst_bor, gdS_d, gdS_b, sFor, gNm, gcS_c, gcS_n, gcO_d, gcO_n, mapp, rcv_0, rcv_1, rcv_l, gcO_r0, gcO_r1, gcO_z, seal_d, eq_self, List.take_nil, List.cons_append, poSl, poI, poNo, slD_t, intO_i, list_t, list_l, in_str2, ofS_inj, String.reduceEq, or_false, false_or, or_true, true_or, or_self, decide_true, decide_false, Bool.not_true, Bool.not_false, at_m1_2, at_m1_3, cut_2, cut_3, all_bls, any_bls, count_bls, lcg_nm, lcg_tp, lst_ref, laid_l, laid_b, laid_r, list_b, list_r, len_refI, lenOf_ref, rcv_2, rcv_3, rcv_b, slF_l, slF_b, slF_r, cat_l, repr_d, plSl])
  | `(tactic| simp only [VLU, $xs,*]) => `(tactic| simp only [sSeq, sIf, sSet, sSub, sRet, sRetN, sNil, sDrop, sAsg, sPar, sParT, sAug, cP, bB, bTr, bNt, bAn, bOr, po1, po2, poN, pArgs, poIf, poAn, poOr, poNt, poTup, plLst, plN, pl2, pl1, pFz, pV, pC, eP, eo1, eo2, eoN, aP, aNil, aCons, eAn, eOr, eNt, eIf, eFz, eNw, fP, fN, f2, f1, tTupE, tLstF, tTr, tTb, tAn, tOrr, tNt, tYs, eSeal, eMt, poMt, mPure, eCh, pCh, ok_bind, ok_map, ok_some, ok_none, ok_gd, ok_ite, List.getElem?_cons_zero, List.getElem?_cons_succ, List.set_cons_zero, List.set_cons_succ, Option.join_some, Option.bind_some, Option.map_some, Option.bind_none, Option.map_none, ix_ref, ix_tup, ix_lst, ix_bor, ix_scr, add_int, add_str, add_tup, sub_int, mul_int, fdiv_int, mod_int, pow_int, neg_int, lt_int, le_int, gt_int, ge_int, eq_int, eq_str, eq_bl, ne_int, ne_str, ne_bl, is_bl, isnt_bl, is_non, isnt_non, len_tup, len_lst, len_ref, len_bor, len_scr, int_bl, int_int, abs_int, min_int, max_int, blD_bl, cell_lst, cellA_lst, cellA_dk, st_ref, at_0, at_1, at_2, at_3, at_4, ixN_10, ixN_20, ixN_21, ixN_30, ixN_31, ixN_32, dataS_d, datas_nil, datas_cons, truth_bl, notD, intS, blS, nonB, List.length_cons, List.length_nil, Nat.reduceAdd, endsF_rt, endsF_nx, rvQ_d, rvQ_new, rvQ_newK, rv_d, rv_ref, rv_cl, rv_ck, okRef_d, okRef_ref, List.not_mem_nil, List.nil_append, true_and, and_true, List.take_succ_cons, List.take_zero, Nat.zero_add, decide_eq_true_eq, Bool.false_eq_true, if_false, if_true, callS, handS_n, handS_tr, handS_fr, handS_fd, handS_fb, cellsAt_c, cellsAt_0, Option.getD_some, backS_0, backS_1, eCall, tup_lst, tup_tup, tup_ref, fLc, iRg, rng_1, rng_2, wipeS_c, wipeS_n, iPq, iSq, seq_tup, seq_lst, seq_bor, lst_lst, lst_bor, gdS_d, gdS_b, sFor, gNm, gcS_c, gcS_n, gcO_d, gcO_n, mapp, rcv_0, rcv_1, rcv_l, gcO_r0, gcO_r1, gcO_z, seal_d, eq_self, List.take_nil, List.cons_append, poSl, poI, poNo, slD_t, intO_i, list_t, list_l, in_str2, ofS_inj, String.reduceEq, or_false, false_or, or_true, true_or, or_self, decide_true, decide_false, Bool.not_true, Bool.not_false, at_m1_2, at_m1_3, cut_2, cut_3, all_bls, any_bls, count_bls, lcg_nm, lcg_tp, lst_ref, laid_l, laid_b, laid_r, list_b, list_r, len_refI, lenOf_ref, rcv_2, rcv_3, rcv_b, slF_l, slF_b, slF_r, cat_l, repr_d, plSl, $xs,*])
set_option maxHeartbeats 1000000
structure PutOk (n : Nat) (w : Wb) (r : Rw) (i : Nat) (w' : Wb) : Prop where
  pre : w <+: w'
  at_ : w'[i]? = some r
  ok : WbOk n w'
  len : w'.length ≤ w.length + 1
  new : ∀ p, w.length ≤ p → p < w'.length → w'[p]? = some r
theorem PutOk.of {n : Nat} {w w' : Wb} {r : Rw} {i : Nat} (o : WbOk n w) (hr : r.ok n w.length) (h1 : w <+: w') (h2 : w'[i]? = some r) (h3 : w' = w ∨ w' = w ++ [r]) : PutOk n w r i w' := by
  refine ⟨h1, h2, ?_, ?_, fun p p1 p2 => ?_⟩
  · rcases h3 with rfl | rfl
    · exact o
    · exact o.snoc hr
  · rcases h3 with rfl | rfl <;> simp
  · rcases h3 with rfl | rfl
    · omega
    · have : p = w.length := by simp at p2; omega
      subst this
      simp
theorem PutOk.fm {n : Nat} {w w' : Wb} {r : Rw} {i : Nat} (o : WbOk n w) (f : WbFm w) (hr : r.ok n w.length) (hf : r.fm w) (h3 : w' = w ∨ w' = w ++ [r]) : WbFm w' := by
  rcases h3 with rfl | rfl
  · exact f
  · exact WbFm.snoc o f hr hf
theorem PutOk.nm {n : Nat} {w w' : Wb} {r : Rw} {i : Nat} (h : PutOk n w r i w') : nmAt w' i = r.nm (nmW w') := nmAt_row h.ok h.at_
set_option maxHeartbeats 2000000
theorem backS_2 {n m : Nat} {c d : Cell} {M : Mem} : backS [n, m] [c, d] M = (M.set n c).set m d := rfl
theorem one_ne : ((1 : Nat) = 0) = False := by simp
/-- how many picks and has a part brings, gone down by ands and ors -/
def Rw.bq (acc : List Nat) : Rw → Nat
  | .has _ _ => 1
  | .pick _ _ _ => 1
  | .all ps => (ps.map fun p => acc.getD p 0).sum
  | .any ps => (ps.map fun p => acc.getD p 0).sum
  | _ => 0
def bqW (w : Wb) : List Nat := scan Rw.bq [] w
def bqAt (w : Wb) (i : Nat) : Nat := (bqW w).getD i 0
theorem bqAt_app {a b : Wb} {i : Nat} (h : i < a.length) : bqAt (a ++ b) i = bqAt a i := by
  unfold bqAt bqW
  rw [scan_app]
  exact pre_get (scan_pre _ _) (by rw [scan_len]; simpa using h) _
theorem pre_bq {a b : Wb} (h : a <+: b) {i : Nat} (hi : i < a.length) : bqAt b i = bqAt a i := by
  obtain ⟨t, rfl⟩ := h
  exact bqAt_app hi
/-- how deep ands and ors lie -/
def Rw.ht (acc : List Nat) : Rw → Nat
  | .all ps => 1 + (ps.map fun p => acc.getD p 0).foldr max 0
  | .any ps => 1 + (ps.map fun p => acc.getD p 0).foldr max 0
  | _ => 0
def htW (w : Wb) : List Nat := scan Rw.ht [] w
def htAt (w : Wb) (i : Nat) : Nat := (htW w).getD i 0
theorem htAt_app {a b : Wb} {i : Nat} (h : i < a.length) : htAt (a ++ b) i = htAt a i := by
  unfold htAt htW
  rw [scan_app]
  exact pre_get (scan_pre _ _) (by rw [scan_len]; simpa using h) _
theorem pre_ht {a b : Wb} (h : a <+: b) {i : Nat} (hi : i < a.length) : htAt b i = htAt a i := by
  obtain ⟨t, rfl⟩ := h
  exact htAt_app hi
/-- a row that brings at most c picks and has, by ands and ors h deep -/
structure Cb (w : Wb) (p c h : Nat) : Prop where
  cn : bqAt w p ≤ c
  ht : htAt w p ≤ h
theorem Cb.mono {w : Wb} {p c h c' h' : Nat} (k : Cb w p c h) (hc : c ≤ c') (hh : h ≤ h') : Cb w p c' h' := ⟨Nat.le_trans k.cn hc, Nat.le_trans k.ht hh⟩
theorem Cb.pre {a b : Wb} {p c h : Nat} (k : Cb a p c h) (hp : a <+: b) (hi : p < a.length) : Cb b p c h := ⟨by rw [pre_bq hp hi]; exact k.cn, by rw [pre_ht hp hi]; exact k.ht⟩
/-- the new rows bring at most c -/
def CnN (w w' : Wb) (c h : Nat) : Prop := ∀ p, w.length ≤ p → p < w'.length → Cb w' p c h
theorem CnN.refl {w : Wb} {c h : Nat} : CnN w w c h := fun p h1 h2 => absurd h1 (by omega)
theorem CnN.mono {w w' : Wb} {c h c' h' : Nat} (k : CnN w w' c h) (hc : c ≤ c') (hh : h ≤ h') : CnN w w' c' h' := fun p h1 h2 => (k p h1 h2).mono hc hh
theorem CnN.trans {w w1 w2 : Wb} {c h : Nat} (h1 : CnN w w1 c h) (h2 : CnN w1 w2 c h) (pr : w1 <+: w2) : CnN w w2 c h := fun p p1 p2 => by
  by_cases h : p < w1.length
  · exact (h1 p p1 h).pre pr h
  · exact h2 p (by omega) p2
set_option maxHeartbeats 4000000
local macro_rules
  | `(tactic| simp only [VLV]) => `(tactic| simp only [sSeq, sIf, sSet, sSub, sRet, sRetN, sNil, sDrop, sAsg, sPar, sParT, sAug, cP, bB, bTr, bNt, bAn, bOr, po1, po2, poN, pArgs, poIf, poAn, poOr, poNt, poTup, plLst, plN, pl2, pl1, pFz, pV, pC, eP, eo1, eo2, eoN, aP, aNil, aCons, eAn, eOr, eNt, eIf, eFz, eNw, fP, fN, f2, f1, tTupE, tLstF, tTr, tTb, tAn, tOrr, tNt, tYs, eSeal, eMt, poMt, mPure, eCh, pCh, ok_bind, ok_map, ok_some, ok_none, ok_gd, ok_ite, List.getElem?_cons_zero, List.getElem?_cons_succ, List.set_cons_zero, List.set_cons_succ, Option.join_some, Option.bind_some, Option.map_some, Option.bind_none, Option.map_none, ix_ref, ix_tup, ix_lst, ix_bor, ix_scr, add_int, add_str, add_tup, sub_int, mul_int, fdiv_int, mod_int, pow_int, neg_int, lt_int, le_int, gt_int, ge_int, eq_int, eq_str, eq_bl, ne_int, ne_str, ne_bl, is_bl, isnt_bl, is_non, isnt_non, len_tup, len_lst, len_ref, len_bor, len_scr, int_bl, int_int, abs_int, min_int, max_int, blD_bl, cell_lst, cellA_lst, cellA_dk, st_ref, at_0, at_1, at_2, at_3, at_4, ixN_10, ixN_20, ixN_21, ixN_30, ixN_31, ixN_32, dataS_d, datas_nil, datas_cons, truth_bl, notD, intS, blS, nonB, List.length_cons, List.length_nil, Nat.reduceAdd, endsF_rt, endsF_nx, rvQ_d, rvQ_new, rvQ_newK, rv_d, rv_ref, rv_cl, rv_ck, okRef_d, okRef_ref, List.not_mem_nil, List.nil_append, true_and, and_true, List.take_succ_cons, List.take_zero, Nat.zero_add, decide_eq_true_eq, Bool.false_eq_true, if_false, if_true, callS, handS_n, handS_tr, handS_fr, handS_fd, handS_fb, cellsAt_c, cellsAt_0, Option.getD_some, backS_0, backS_1, eCall, tup_lst, tup_tup, tup_ref, fLc, iRg, rng_1, rng_2, wipeS_c, wipeS_n, iPq, iSq, seq_tup, seq_lst, seq_bor, lst_lst, lst_bor, gdS_d, gdS_b, sFor, gNm, gcS_c, gcS_n, gcO_d, gcO_n, mapp, rcv_0, rcv_1, rcv_l, gcO_r0, gcO_r1, gcO_z, seal_d, eq_self, List.take_nil, List.cons_append, poSl, poI, poNo, slD_t, intO_i, list_t, list_l, in_str2, ofS_inj, String.reduceEq, or_false, false_or, or_true, true_or, or_self, decide_true, decide_false, Bool.not_true, Bool.not_false, at_m1_2, at_m1_3, cut_2, cut_3, all_bls, any_bls, count_bls, lcg_nm, lcg_tp, lst_ref, laid_l, laid_b, laid_r, list_b, list_r, len_refI, lenOf_ref, rcv_2, rcv_3, rcv_b, slF_l, slF_b, slF_r, cat_l, repr_d, plSl, backS_2, List.mem_singleton, one_ne, if_false, callS, seal_r, Nat.le_refl])
  | `(tactic| simp only [VLV, $xs,*]) => `(tactic| simp only [sSeq, sIf, sSet, sSub, sRet, sRetN, sNil, sDrop, sAsg, sPar, sParT, sAug, cP, bB, bTr, bNt, bAn, bOr, po1, po2, poN, pArgs, poIf, poAn, poOr, poNt, poTup, plLst, plN, pl2, pl1, pFz, pV, pC, eP, eo1, eo2, eoN, aP, aNil, aCons, eAn, eOr, eNt, eIf, eFz, eNw, fP, fN, f2, f1, tTupE, tLstF, tTr, tTb, tAn, tOrr, tNt, tYs, eSeal, eMt, poMt, mPure, eCh, pCh, ok_bind, ok_map, ok_some, ok_none, ok_gd, ok_ite, List.getElem?_cons_zero, List.getElem?_cons_succ, List.set_cons_zero, List.set_cons_succ, Option.join_some, Option.bind_some, Option.map_some, Option.bind_none, Option.map_none, ix_ref, ix_tup, ix_lst, ix_bor, ix_scr, add_int, add_str, add_tup, sub_int, mul_int, fdiv_int, mod_int, pow_int, neg_int, lt_int, le_int, gt_int, ge_int, eq_int, eq_str, eq_bl, ne_int, ne_str, ne_bl, is_bl, isnt_bl, is_non, isnt_non, len_tup, len_lst, len_ref, len_bor, len_scr, int_bl, int_int, abs_int, min_int, max_int, blD_bl, cell_lst, cellA_lst, cellA_dk, st_ref, at_0, at_1, at_2, at_3, at_4, ixN_10, ixN_20, ixN_21, ixN_30, ixN_31, ixN_32, dataS_d, datas_nil, datas_cons, truth_bl, notD, intS, blS, nonB, List.length_cons, List.length_nil, Nat.reduceAdd, endsF_rt, endsF_nx, rvQ_d, rvQ_new, rvQ_newK, rv_d, rv_ref, rv_cl, rv_ck, okRef_d, okRef_ref, List.not_mem_nil, List.nil_append, true_and, and_true, List.take_succ_cons, List.take_zero, Nat.zero_add, decide_eq_true_eq, Bool.false_eq_true, if_false, if_true, callS, handS_n, handS_tr, handS_fr, handS_fd, handS_fb, cellsAt_c, cellsAt_0, Option.getD_some, backS_0, backS_1, eCall, tup_lst, tup_tup, tup_ref, fLc, iRg, rng_1, rng_2, wipeS_c, wipeS_n, iPq, iSq, seq_tup, seq_lst, seq_bor, lst_lst, lst_bor, gdS_d, gdS_b, sFor, gNm, gcS_c, gcS_n, gcO_d, gcO_n, mapp, rcv_0, rcv_1, rcv_l, gcO_r0, gcO_r1, gcO_z, seal_d, eq_self, List.take_nil, List.cons_append, poSl, poI, poNo, slD_t, intO_i, list_t, list_l, in_str2, ofS_inj, String.reduceEq, or_false, false_or, or_true, true_or, or_self, decide_true, decide_false, Bool.not_true, Bool.not_false, at_m1_2, at_m1_3, cut_2, cut_3, all_bls, any_bls, count_bls, lcg_nm, lcg_tp, lst_ref, laid_l, laid_b, laid_r, list_b, list_r, len_refI, lenOf_ref, rcv_2, rcv_3, rcv_b, slF_l, slF_b, slF_r, cat_l, repr_d, plSl, backS_2, List.mem_singleton, one_ne, if_false, callS, seal_r, Nat.le_refl, $xs,*])
set_option maxHeartbeats 4000000
set_option maxHeartbeats 2000000
section
variable {s : Sv} {xs : List D}
theorem LV.seq {M : Mem} (h : LV s xs) : seqD M s = some xs := by rcases h with rfl | rfl <;> rfl
theorem LV.lst {M : Mem} (h : LV s xs) : lstD M s = some xs := by rcases h with rfl | rfl <;> rfl
theorem LV.laid {M : Mem} (h : LV s xs) : laidD M s = some xs := by rcases h with rfl | rfl <;> rfl
theorem LV.gd {ys : List D} (h : LV s xs) : gdS s ys = fun _ => True := by rcases h with rfl | rfl <;> rfl
theorem LV.gc {k : Nat} (h : LV s xs) : gcO k (some s) = some s := by rcases h with rfl | rfl <;> rfl
theorem LV.len {M : Mem} (h : LV s xs) : lenD M [s] = some (.d (.int xs.length)) := by rcases h with rfl | rfl <;> rfl
end
theorem take_snoc {α : Type} {w : List α} {j : Nat} {r : α} (h : w[j]? = some r) : w.take (j + 1) = w.take j ++ [r] := by
  rw [List.take_add_one, h]; rfl
set_option maxHeartbeats 2000000
/-- data in which _law_same may look -/
inductive Sm : Nat → D → Prop
  | int {k i} : Sm k (.int i)
  | bl {k b} : Sm k (.bl b)
  | non {k} : Sm k .non
  | str {k s} : Sm k (.str s)
  | tup {k ds} : ds.length < 1000000 → (∀ d ∈ ds, Sm k d) → Sm (k + 1) (.tup ds)
  | lst {k ds} : ds.length < 1000000 → (∀ d ∈ ds, Sm k d) → Sm (k + 1) (.lst ds)
/-- a value that is this data, or this list lent -/
def DV (s : Sv) (x : D) : Prop := s = .d x ∨ ∃ xs, x = .lst xs ∧ s = .bor xs
def sp_same (e : Nat) : SpD := fun as M Q => ∃ (s1 s2 : Sv) (x : D), as = [s1, s2] ∧ DV s1 x ∧ DV s2 x ∧ M = [] ∧ Sm e x ∧ Q (.d (.bl true)) []
theorem isi1 {M : Mem} {s : Sv} {a t : String} {b : Bool} (h : tyN M s = some a) (hk : known t = true) (hb : subT a t = b) : isiD M [s, .d (.ty t)] = some (.d (.bl b)) := by
  have e : isiD M [s, .d (.ty t)] = (tyN M s).bind fun a => gd (known t = true) (.d (.bl (subT a t))) := rfl
  rw [e, h, Option.bind_some, gd_pos hk, hb]
theorem isi2 {M : Mem} {s : Sv} {a t u : String} {b : Bool} (h : tyN M s = some a) (hk : known t = true ∧ known u = true) (hb : (subT a t || subT a u) = b) : isiD M [s, .d (.tup [.ty t, .ty u])] = some (.d (.bl b)) := by
  have e : isiD M [s, .d (.tup [.ty t, .ty u])] = (tyN M s).bind fun a => gd (known t = true ∧ known u = true) (.d (.bl (subT a t || subT a u))) := rfl
  rw [e, h, Option.bind_some, gd_pos hk, hb]
def r_sameG (sp__law_same : SpD) : TS' :=
  (sSeq (sIf (cP (bTr (poN isiD [(pV 1), (poTup [(pC (.ty "list")), (pC (.ty "tuple"))])])))
  (sSeq (sIf (cP (bOr (bB (po2 neD (poN isiD [(pV 0), (pC (.ty "list"))]) (poN isiD [(pV 1), (pC (.ty "list"))]))) (bB (po2 neD (poN isiD [(pV 0), (pC (.ty "tuple"))]) (poN isiD [(pV 1), (pC (.ty "tuple"))])))))
  (sRet (eP (pC (.bl false))))
  sNil)
  (sSeq (sIf (cP (bB (po2 neD (poN lenD [(pV 0)]) (poN lenD [(pV 1)]))))
  (sRet (eP (pC (.bl false))))
  sNil)
  (sRet (eoN allD (aCons (eFz (fLc (iZq (aP [(pV 0), (pV 1)])) (.tp [2, 3]) tYs (eCall [false, false] sp__law_same (aP [(pV 2), (pV 3)])) [2, 3])) (aP []))))))
  sNil)
  (sSeq (sIf (cP (bOr (bB (po2 isD (pV 1) (pC .non))) (bTr (poN isiD [(pV 1), (pC (.ty "str"))]))))
  (sRet (eP (poAn (po2 eqD (pV 0) (pV 1)) (po2 eqD (poN isiD [(pV 0), (pC (.ty "str"))]) (poN isiD [(pV 1), (pC (.ty "str"))])))))
  sNil)
  (sSeq (sIf (cP (bTr (poN isiD [(pV 1), (pC (.ty "bool"))])))
  (sRet (eP (poAn (poN isiD [(pV 0), (pC (.ty "bool"))]) (po2 eqD (pV 0) (pV 1)))))
  sNil)
  (sRet (eP (poAn (poN isiD [(pV 0), (pC (.ty "int"))]) (poAn (poNt (poN isiD [(pV 0), (pC (.ty "bool"))])) (po2 eqD (pV 0) (pV 1)))))))))
theorem iZq_tt {as bs : List D} {δ : DS} {M : Mem} {i j : Nat} {Q : List D → (Mem → Prop) → Mem → Prop} (h1 : (δ[i]?).join = some (.d (.tup as))) (h2 : (δ[j]?).join = some (.d (.tup bs))) (q : Q (zipL as bs) gdT M) : iZq (aP [pV i, pV j]) δ M Q := by
  show aP [pV i, pV j] δ M _
  unfold aP pArgs pArgs pArgs pV
  rw [h1, h2]
  exact q
theorem iZq_ll {s1 s2 : Sv} {as bs : List D} {δ : DS} {M : Mem} {i j : Nat} {Q : List D → (Mem → Prop) → Mem → Prop} (h1 : (δ[i]?).join = some s1) (h2 : (δ[j]?).join = some s2) (l1 : LV s1 as) (l2 : LV s2 bs) (q : Q (zipL as bs) (fun M => gdS s1 as M ∧ gdS s2 bs M) M) : iZq (aP [pV i, pV j]) δ M Q := by
  show aP [pV i, pV j] δ M _
  unfold aP pArgs pArgs pArgs pV
  rw [h1, h2]
  rcases l1 with rfl | rfl <;> rcases l2 with rfl | rfl <;> exact q
theorem zip_self {as : List D} : zipL as as = as.map fun d => .tup [d, d] := by
  unfold zipL
  induction as with
  | nil => rfl
  | cons a l ih => simp only [List.zip_cons_cons, List.map_cons, ih]
theorem lc_pairs {te : TE'} {δw : DS} {gd : Mem → Prop} {Q : List D → Mem → Prop} {ds : List D} (hg : gd []) (h : ∀ d ∈ ds, ∀ R : QD, R (.d (.bl true)) [] → te ((δw.set 2 (some (.d d))).set 3 (some (.d d))) [] R) (q : Q (ds.map fun _ => .bl true) []) :
    lcL (LcG.tp [2, 3]).to tYs te δw gd Q (zipL ds ds) [] [] := by
  rw [zip_self]
  refine lc_ix _ (fun j acc M => acc = (ds.take j).map (fun _ => D.bl true) ∧ M = []) ?_ ?_ _ _ ⟨rfl, rfl⟩
  · rintro acc M ⟨rfl, rfl⟩
    rw [List.length_map, List.take_length]
    exact ⟨hg, q⟩
  · rintro j x acc M nx hx ⟨rfl, rfl⟩ k
    rw [List.getElem?_map, Option.map_eq_some_iff] at hx
    obtain ⟨d, hd, rfl⟩ := hx
    refine ⟨hg, ?_⟩
    show te ((δw.set 2 (some (.d d))).set 3 (some (.d d))) [] _
    refine h d (List.mem_of_getElem? hd) _ ?_
    refine k _ _ ⟨?_, rfl⟩
    rw [List.take_add_one, hd, List.map_append]; rfl
theorem ty_l {M : Mem} {s : Sv} {xs : List D} (h : LV s xs) : tyN M s = some "list" := by rcases h with rfl | rfl <;> rfl
theorem pure_same {d : Nat} (as : List Sv) (M : Mem) (Q : Rv → Mem → Prop) (h : spB sp_same (d + 1) as M Q) : r_sameG (spB sp_same d) (endsF M.length Q) (startD 4 as) M := by
  obtain ⟨e, he, s1, s2, x, rfl, h1, h2, rfl, hx, z⟩ := h
  show r_sameG (spB sp_same d) (endsF 0 Q) [some s1, some s2, none, none] []
  have lv : ∀ {s : Sv} {ds : List D}, DV s (.lst ds) → LV s ds := fun h => by
    rcases h with rfl | ⟨_, h, rfl⟩
    · exact .inl rfl
    · cases h; exact .inr rfl
  have nl : ∀ {s : Sv} {x : D}, (∀ ds, x ≠ .lst ds) → DV s x → s = .d x := fun hn h => by
    rcases h with rfl | ⟨xs, h, _⟩
    · rfl
    · exact absurd h (hn xs)
  cases hx with
  | int =>
    rename_i i
    cases nl (fun _ h => by cases h) h1
    cases nl (fun _ h => by cases h) h2
    have t0 : tyN [] (.d (.int i)) = some "int" := rfl
    simp only [r_sameG, sSeq]
    simp only [VLV, isi2 t0 (t := "list") (u := "tuple") ⟨rfl, rfl⟩ (b := false) (by decide), isi1 t0 (t := "str") rfl (b := false) (by decide), isi1 t0 (t := "bool") rfl (b := false) (by decide), isi1 t0 (t := "int") rfl (b := true) (by decide), truth_bl, decide_true]
    exact z
  | bl =>
    rename_i i
    cases nl (fun _ h => by cases h) h1
    cases nl (fun _ h => by cases h) h2
    have t0 : tyN [] (.d (.bl i)) = some "bool" := rfl
    simp only [r_sameG, sSeq]
    simp only [VLV, isi2 t0 (t := "list") (u := "tuple") ⟨rfl, rfl⟩ (b := false) (by decide), isi1 t0 (t := "str") rfl (b := false) (by decide), isi1 t0 (t := "bool") rfl (b := true) (by decide), truth_bl, decide_true]
    exact z
  | non =>
    cases nl (fun _ h => by cases h) h1
    cases nl (fun _ h => by cases h) h2
    have t0 : tyN [] (.d .non) = some "NoneType" := rfl
    have e0 : eqD [] (.d .non) (.d .non) = some (.d (.bl true)) := rfl
    simp only [r_sameG, sSeq]
    simp only [VLV, e0, isi2 t0 (t := "list") (u := "tuple") ⟨rfl, rfl⟩ (b := false) (by decide), isi1 t0 (t := "str") rfl (b := false) (by decide), truth_bl, decide_true]
    exact z
  | str =>
    rename_i i
    cases nl (fun _ h => by cases h) h1
    cases nl (fun _ h => by cases h) h2
    have t0 : tyN [] (.d (.str i)) = some "str" := rfl
    simp only [r_sameG, sSeq]
    simp only [VLV, isi2 t0 (t := "list") (u := "tuple") ⟨rfl, rfl⟩ (b := false) (by decide), isi1 t0 (t := "str") rfl (b := true) (by decide), truth_bl, decide_true]
    exact z
  | tup hl hd =>
    rename_i k ds
    cases nl (fun _ h => by cases h) h1
    cases nl (fun _ h => by cases h) h2
    have t0 : tyN [] (.d (.tup ds)) = some "tuple" := rfl
    simp only [r_sameG, sSeq]
    simp only [VLV, isi2 t0 (t := "list") (u := "tuple") ⟨rfl, rfl⟩ (b := true) (by decide), isi1 t0 (t := "list") rfl (b := false) (by decide), isi1 t0 (t := "tuple") rfl (b := true) (by decide), truth_bl, decide_true]
    refine iZq_tt rfl rfl ?_
    refine lc_pairs trivial (fun d hdm R hR => ?_) ?_
    · simp only [VLV]
      exact ⟨k, by omega, _, _, d, rfl, .inl rfl, .inl rfl, rfl, hd d hdm, hR⟩
    · simp only [VLV, all_true']
      exact z
  | lst hl hd =>
    rename_i k ds
    have l1 := lv h1
    have l2 := lv h2
    have t1 : tyN [] s1 = some "list" := ty_l l1
    have t2 : tyN [] s2 = some "list" := ty_l l2
    simp only [r_sameG, sSeq]
    simp only [VLV, isi2 t2 (t := "list") (u := "tuple") ⟨rfl, rfl⟩ (b := true) (by decide), isi1 t1 (t := "list") rfl (b := true) (by decide), isi1 t1 (t := "tuple") rfl (b := false) (by decide), isi1 t2 (t := "list") rfl (b := true) (by decide), isi1 t2 (t := "tuple") rfl (b := false) (by decide), truth_bl, decide_true, l1.len, l2.len]
    refine iZq_ll rfl rfl l1 l2 ?_
    refine lc_pairs (by rw [l1.gd, l2.gd]; exact ⟨trivial, trivial⟩) (fun d hdm R hR => ?_) ?_
    · simp only [VLV]
      exact ⟨k, by omega, _, _, d, rfl, .inl rfl, .inl rfl, rfl, hd d hdm, hR⟩
    · simp only [VLV, all_true']
      exact z
set_option maxHeartbeats 2000000
/-- data of small leaves -/
structure Pq (w dp : Nat) (d : D) : Prop where
  no : noR d = true
  sh : (py d).leavesShort 8 = true
  la : (py d).canLay0 = true
  sw : (py d).showable = true
  we : (py d).weight ≤ w
  de : (py d).depth ≤ dp
structure Pqs (w dp : Nat) (d : List D) : Prop where
  no : noRs d = true
  sh : PyData.leavesShortAll 8 (pys d) = true
  la : PyData.canLayAll0 (pys d) = true
  sw : PyData.showableAll (pys d) = true
  we : PyData.weightAll (pys d) ≤ w
  de : PyData.depthAll (pys d) ≤ dp
theorem Pq.mono {w dp w' dp' : Nat} {d : D} (h : Pq w dp d) (h1 : w ≤ w') (h2 : dp ≤ dp') : Pq w' dp' d := ⟨h.no, h.sh, h.la, h.sw, Nat.le_trans h.we h1, Nat.le_trans h.de h2⟩
theorem Pqs.mono {w dp w' dp' : Nat} {d : List D} (h : Pqs w dp d) (h1 : w ≤ w') (h2 : dp ≤ dp') : Pqs w' dp' d := ⟨h.no, h.sh, h.la, h.sw, Nat.le_trans h.we h1, Nat.le_trans h.de h2⟩
theorem Pq.nat {n : Nat} (h : n < 100000) : Pq 20 0 (.int n) := by
  have e0 : (n : Int).natAbs = n := by omega
  have hl2 : (n : Int).natAbs.log2 < 17 := by
    rw [e0]
    by_cases h0 : n = 0
    · rw [h0]; decide
    · exact (Nat.log2_lt h0).mpr (by omega)
  refine ⟨rfl, ?_, rfl, ?_, ?_, Nat.le_refl _⟩
  · show decide ((PyData.shown (.int n)).length ≤ 8) = true
    have e := int_text_length_le10 (a := (n : Int)) (k := 5) (by decide) (by rw [e0]; exact h)
    have : (Str.ofString (toString (n : Int))).length ≤ 8 := by rw [ofString_length]; omega
    exact decide_eq_true this
  · show decide ((n : Int).natAbs.log2 < 1920) = true
    exact decide_eq_true (by omega)
  · show (if (n : Int) == 0 then 0 else (n : Int).natAbs.log2 + 1) ≤ 20
    split <;> omega
theorem Pq.str {s : Str} {n : Nat} (h : (PyData.canLay0 (.str s) && (PyData.str s).leavesShort 8 && decide (s.cps.size ≤ n)) = true) : Pq n 0 (.str s) := by
  simp only [Bool.and_eq_true, decide_eq_true_eq] at h
  exact ⟨rfl, h.1.2, h.1.1, rfl, h.2, Nat.le_refl _⟩
theorem Pqs.nil {dp : Nat} : Pqs 0 dp [] := ⟨rfl, rfl, rfl, rfl, Nat.le_refl _, Nat.zero_le _⟩
theorem Pqs.cons {w1 w2 dp : Nat} {d : D} {ds : List D} (h : Pq w1 dp d) (h2 : Pqs w2 dp ds) : Pqs (w1 + 1 + w2) dp (d :: ds) := by
  refine ⟨?_, ?_, ?_, ?_, ?_, ?_⟩
  · simp only [noRs, h.no, h2.no]; rfl
  · simp only [pys, PyData.leavesShortAll, h.sh, h2.sh]; rfl
  · simp only [pys, PyData.canLayAll0, h.la, h2.la]; rfl
  · simp only [pys, PyData.showableAll, h.sw, h2.sw]; rfl
  · simp only [pys, PyData.weightAll]; have := h.we; have := h2.we; omega
  · simp only [pys, PyData.depthAll]; have := h.de; have := h2.de; omega
theorem Pq.tup {w dp : Nat} {ds : List D} (h : Pqs w dp ds) : Pq w (dp + 1) (.tup ds) := by
  refine ⟨h.no, ?_, ?_, ?_, ?_, ?_⟩
  · simp only [py, PyData.leavesShort]; exact h.sh
  · simp only [py, PyData.canLay0]; exact h.la
  · simp only [py, PyData.showable]; exact h.sw
  · simp only [py, PyData.weight]; exact h.we
  · simp only [py, PyData.depth]; have := h.de; omega
theorem Pq.lst {w dp : Nat} {ds : List D} (h : Pqs w dp ds) : Pq w (dp + 1) (.lst ds) := by
  refine ⟨h.no, ?_, ?_, ?_, ?_, ?_⟩
  · simp only [py, PyData.leavesShort]; exact h.sh
  · simp only [py, PyData.canLay0]; exact h.la
  · simp only [py, PyData.showable]; exact h.sw
  · simp only [py, PyData.weight]; exact h.we
  · simp only [py, PyData.depth]; have := h.de; omega
theorem Pq.okR {w dp : Nat} {d : D} (h : Pq w dp d) (hw : w ≤ 1600000) (hd : dp ≤ 150) : VL.okR d = true := by
  have h1 := PyData.shown_le 8 (by decide) _ h.sh
  have h2 : (8 + 2) * (py d).weight ≤ 10 * 1600000 := Nat.mul_le_mul (by decide) (Nat.le_trans h.we hw)
  have h3 : (PyData.shown (py d)).length ≤ sizeLine := by rw [sizeLine_eq]; omega
  have h4 := h.de
  unfold VL.okR
  rw [h.no, h.sw, decide_eq_true h3, decide_eq_true (show (py d).depth ≤ 150 by omega)]
  rfl
set_option maxHeartbeats 2000000
theorem cat_get {α : Type} {X : List α} {c : α} : (X ++ [c])[X.length]? = some c := by simp
theorem cat_set {α : Type} {X : List α} {c d : α} : (X ++ [c]).set X.length d = X ++ [d] := by
  rw [List.set_append_right _ _ (Nat.le_refl _), Nat.sub_self]; rfl
theorem at_ite {α : Type} {p : Prop} [Decidable p] {x y : α} : atI [x, y] (if p then 1 else 0) = some (if p then y else x) := by
  by_cases h : p
  · rw [if_pos h, if_pos h]; rfl
  · rw [if_neg h, if_neg h]; rfl
local macro_rules
  | `(tactic| simp only [VLY]) => `(tactic| simp only [sSeq, sIf, sSet, sSub, sRet, sRetN, sNil, sDrop, sAsg, sPar, sParT, sAug, cP, bB, bTr, bNt, bAn, bOr, po1, po2, poN, pArgs, poIf, poAn, poOr, poNt, poTup, plLst, plN, pl2, pl1, pFz, pV, pC, eP, eo1, eo2, eoN, aP, aNil, aCons, eAn, eOr, eNt, eIf, eFz, eNw, fP, fN, f2, f1, tTupE, tLstF, tTr, tTb, tAn, tOrr, tNt, tYs, eSeal, eMt, poMt, mPure, eCh, pCh, ok_bind, ok_map, ok_some, ok_none, ok_gd, ok_ite, List.getElem?_cons_zero, List.getElem?_cons_succ, List.set_cons_zero, List.set_cons_succ, Option.join_some, Option.bind_some, Option.map_some, Option.bind_none, Option.map_none, ix_ref, ix_tup, ix_lst, ix_bor, ix_scr, add_int, add_str, add_tup, sub_int, mul_int, fdiv_int, mod_int, pow_int, neg_int, lt_int, le_int, gt_int, ge_int, eq_int, eq_str, eq_bl, ne_int, ne_str, ne_bl, is_bl, isnt_bl, is_non, isnt_non, len_tup, len_lst, len_ref, len_bor, len_scr, int_bl, int_int, abs_int, min_int, max_int, blD_bl, cell_lst, cellA_lst, cellA_dk, st_ref, at_0, at_1, at_2, at_3, at_4, ixN_10, ixN_20, ixN_21, ixN_30, ixN_31, ixN_32, dataS_d, datas_nil, datas_cons, truth_bl, notD, intS, blS, nonB, List.length_cons, List.length_nil, Nat.reduceAdd, endsF_rt, endsF_nx, rvQ_d, rvQ_new, rvQ_newK, rv_d, rv_ref, rv_cl, rv_ck, okRef_d, okRef_ref, List.not_mem_nil, List.nil_append, true_and, and_true, List.take_succ_cons, List.take_zero, Nat.zero_add, decide_eq_true_eq, Bool.false_eq_true, if_false, if_true, callS, handS_n, handS_tr, handS_fr, handS_fd, handS_fb, cellsAt_c, cellsAt_0, Option.getD_some, backS_0, backS_1, eCall, tup_lst, tup_tup, tup_ref, fLc, iRg, rng_1, rng_2, wipeS_c, wipeS_n, iPq, iSq, seq_tup, seq_lst, seq_bor, lst_lst, lst_bor, gdS_d, gdS_b, sFor, gNm, gcS_c, gcS_n, gcO_d, gcO_n, mapp, rcv_0, rcv_1, rcv_l, gcO_r0, gcO_r1, gcO_z, seal_d, eq_self, List.take_nil, List.cons_append, poSl, poI, poNo, slD_t, intO_i, list_t, list_l, in_str2, ofS_inj, String.reduceEq, or_false, false_or, or_true, true_or, or_self, decide_true, decide_false, Bool.not_true, Bool.not_false, at_m1_2, at_m1_3, cut_2, cut_3, all_bls, any_bls, count_bls, lcg_nm, lcg_tp, lst_ref, laid_l, laid_b, laid_r, list_b, list_r, len_refI, lenOf_ref, rcv_2, rcv_3, rcv_b, slF_l, slF_b, slF_r, cat_l, repr_d, plSl, backS_2, List.mem_singleton, one_ne, if_false, callS, seal_r, Nat.le_refl, cat_get, cat_set, List.append_assoc, List.length_append, List.append_nil, at_ite, Nat.zero_le, iTq, tupD])
  | `(tactic| simp only [VLY, $xs,*]) => `(tactic| simp only [sSeq, sIf, sSet, sSub, sRet, sRetN, sNil, sDrop, sAsg, sPar, sParT, sAug, cP, bB, bTr, bNt, bAn, bOr, po1, po2, poN, pArgs, poIf, poAn, poOr, poNt, poTup, plLst, plN, pl2, pl1, pFz, pV, pC, eP, eo1, eo2, eoN, aP, aNil, aCons, eAn, eOr, eNt, eIf, eFz, eNw, fP, fN, f2, f1, tTupE, tLstF, tTr, tTb, tAn, tOrr, tNt, tYs, eSeal, eMt, poMt, mPure, eCh, pCh, ok_bind, ok_map, ok_some, ok_none, ok_gd, ok_ite, List.getElem?_cons_zero, List.getElem?_cons_succ, List.set_cons_zero, List.set_cons_succ, Option.join_some, Option.bind_some, Option.map_some, Option.bind_none, Option.map_none, ix_ref, ix_tup, ix_lst, ix_bor, ix_scr, add_int, add_str, add_tup, sub_int, mul_int, fdiv_int, mod_int, pow_int, neg_int, lt_int, le_int, gt_int, ge_int, eq_int, eq_str, eq_bl, ne_int, ne_str, ne_bl, is_bl, isnt_bl, is_non, isnt_non, len_tup, len_lst, len_ref, len_bor, len_scr, int_bl, int_int, abs_int, min_int, max_int, blD_bl, cell_lst, cellA_lst, cellA_dk, st_ref, at_0, at_1, at_2, at_3, at_4, ixN_10, ixN_20, ixN_21, ixN_30, ixN_31, ixN_32, dataS_d, datas_nil, datas_cons, truth_bl, notD, intS, blS, nonB, List.length_cons, List.length_nil, Nat.reduceAdd, endsF_rt, endsF_nx, rvQ_d, rvQ_new, rvQ_newK, rv_d, rv_ref, rv_cl, rv_ck, okRef_d, okRef_ref, List.not_mem_nil, List.nil_append, true_and, and_true, List.take_succ_cons, List.take_zero, Nat.zero_add, decide_eq_true_eq, Bool.false_eq_true, if_false, if_true, callS, handS_n, handS_tr, handS_fr, handS_fd, handS_fb, cellsAt_c, cellsAt_0, Option.getD_some, backS_0, backS_1, eCall, tup_lst, tup_tup, tup_ref, fLc, iRg, rng_1, rng_2, wipeS_c, wipeS_n, iPq, iSq, seq_tup, seq_lst, seq_bor, lst_lst, lst_bor, gdS_d, gdS_b, sFor, gNm, gcS_c, gcS_n, gcO_d, gcO_n, mapp, rcv_0, rcv_1, rcv_l, gcO_r0, gcO_r1, gcO_z, seal_d, eq_self, List.take_nil, List.cons_append, poSl, poI, poNo, slD_t, intO_i, list_t, list_l, in_str2, ofS_inj, String.reduceEq, or_false, false_or, or_true, true_or, or_self, decide_true, decide_false, Bool.not_true, Bool.not_false, at_m1_2, at_m1_3, cut_2, cut_3, all_bls, any_bls, count_bls, lcg_nm, lcg_tp, lst_ref, laid_l, laid_b, laid_r, list_b, list_r, len_refI, lenOf_ref, rcv_2, rcv_3, rcv_b, slF_l, slF_b, slF_r, cat_l, repr_d, plSl, backS_2, List.mem_singleton, one_ne, if_false, callS, seal_r, Nat.le_refl, cat_get, cat_set, List.append_assoc, List.length_append, List.append_nil, at_ite, Nat.zero_le, iTq, tupD, $xs,*])
theorem seal_new {m0 : Nat} {M : Mem} {ds : List D} (h : m0 ≤ M.length) : sealD m0 (M ++ [.lst ds]) (.ref M.length) = some (.d (.lst ds), M ++ [.gone]) := by
  rw [seal_r, if_pos h, cat_get]
  simp only [cellL, Option.map_some, cat_set]
set_option maxHeartbeats 2000000
set_option maxHeartbeats 2000000
def c_PARTED : D := .tup [.str "and", .str "or"]
set_option maxHeartbeats 2000000
set_option maxHeartbeats 2000000
set_option maxHeartbeats 2000000
set_option maxHeartbeats 2000000
def prodL (c : Nat → Nat) (ps : List Nat) : Nat := ps.foldr (fun p a => c p * a) 1
def sumL (c : Nat → Nat) (ps : List Nat) : Nat := ps.foldr (fun p a => c p + a) 0
def spr (nm : List (List Int)) (acc : List Nat) (more p : Nat) : Nat := acc.getD p 0 * 2 ^ ((nm.getD acc.length []).length - more - (nm.getD p []).length)
def Rw.cn (nm : List (List Int)) (acc : List Nat) : Rw → Nat
  | .yes => 1
  | .no => 0
  | .has _ _ => 1
  | .all ps => prodL (fun p => acc.getD p 0) ps
  | .any ps => sumL (spr nm acc 0) ps
  | .pick _ lo hi => sumL (spr nm acc 1) [lo, hi]
set_option maxHeartbeats 2000000
theorem cDs_map : ∀ cs : List Cm, cDs cs = cs.map cD
  | [] => rfl
  | c :: cs => by rw [cDs, cDs_map cs]; rfl
set_option maxHeartbeats 2000000
/-- a text that repr and == may look at, so long at most -/
structure StrOk (n : Nat) (s : Str) : Prop where
  la : PyData.canLay0 (.str s) = true
  sh : ∀ c ∈ s.cps.toList, c < 16 ^ 8
  sz : s.cps.size ≤ n
mutual
def nod : D → Nat
  | .tup ds => nods ds + 1
  | .lst ds => nods ds + 1
  | .non => 1
  | .bl _ => 1
  | .int _ => 1
  | .str _ => 1
  | .scr _ => 1
  | .fn _ => 1
  | .ty _ => 1
  | .dn _ _ => 1
  | .dk _ _ => 1
  | .cls _ => 1
  | .exc _ _ => 1
def nods : List D → Nat
  | [] => 0
  | d :: ds => nod d + nods ds
end
mutual
def dpt : D → Nat
  | .tup ds => dpts ds + 1
  | .lst ds => dpts ds + 1
  | .non => 0
  | .bl _ => 0
  | .int _ => 0
  | .str _ => 0
  | .scr _ => 0
  | .fn _ => 0
  | .ty _ => 0
  | .dn _ _ => 0
  | .dk _ _ => 0
  | .cls _ => 0
  | .exc _ _ => 0
def dpts : List D → Nat
  | [] => 0
  | d :: ds => max (dpt d) (dpts ds)
end
mutual
def lfo (r : Nat) : D → Prop
  | .tup ds => lfos r ds
  | .lst ds => lfos r ds
  | .int i => i.natAbs < 10 ^ (25 + r)
  | .str s => StrOk (30 + r) s
  | .non => True
  | .bl _ => True
  | .scr _ => False
  | .fn _ => False
  | .ty _ => False
  | .dn _ _ => False
  | .dk _ _ => False
  | .cls _ => False
  | .exc _ _ => False
def lfos (r : Nat) : List D → Prop
  | [] => True
  | d :: ds => lfo r d ∧ lfos r ds
end
theorem nod_pos (d : D) : 1 ≤ nod d := by cases d <;> simp [nod]
theorem StrOk.mono {n m : Nat} {s : Str} (h : StrOk n s) (e : n ≤ m) : StrOk m s := ⟨h.la, h.sh, Nat.le_trans h.sz e⟩
mutual
theorem lfo_mono {r q : Nat} (e : r ≤ q) : ∀ d : D, lfo r d → lfo q d
  | .tup ds, h => lfos_mono e ds h
  | .lst ds, h => lfos_mono e ds h
  | .int i, h => Nat.lt_of_lt_of_le (show i.natAbs < 10 ^ (25 + r) from h) (Nat.pow_le_pow_right (by decide) (by omega))
  | .str s, h => StrOk.mono (show StrOk (30 + r) s from h) (by omega)
  | .non, _ => trivial
  | .bl _, _ => trivial
  | .scr _, h => h
  | .fn _, h => h
  | .ty _, h => h
  | .dn _ _, h => h
  | .dk _ _, h => h
  | .cls _, h => h
  | .exc _ _, h => h
theorem lfos_mono {r q : Nat} (e : r ≤ q) : ∀ ds : List D, lfos r ds → lfos q ds
  | [], _ => trivial
  | d :: ds, h => ⟨lfo_mono e d h.1, lfos_mono e ds h.2⟩
end
mutual
theorem lfo_pl {r : Nat} (hr : r ≤ 10) : ∀ d : D, lfo r d → Pl (141 * nod d - 1) (dpt d) d
  | .tup ds, h => by
    have := lfos_pl hr ds h
    exact (Pl.tup this).mono (by simp only [nod]; omega) (by simp only [dpt]; omega)
  | .lst ds, h => by
    have := lfos_pl hr ds h
    exact (Pl.lst this).mono (by simp only [nod]; omega) (by simp only [dpt]; omega)
  | .int i, h => by
    have h1 : i.natAbs < 10 ^ 39 := Nat.lt_of_lt_of_le (show i.natAbs < 10 ^ (25 + r) from h) (Nat.pow_le_pow_right (by decide) (by omega))
    exact (Pl.int h1).mono (by simp [nod]) (Nat.zero_le _)
  | .str s, h => by
    have h1 : StrOk (30 + r) s := h
    refine (Pl.str (n := 30 + r) ?_).mono (by simp only [nod]; omega) (Nat.zero_le _)
    simp only [Bool.and_eq_true, decide_eq_true_eq, List.all_eq_true]
    exact ⟨⟨h1.la, h1.sh⟩, h1.sz⟩
  | .non, _ => Pl.non.mono (Nat.zero_le _) (Nat.zero_le _)
  | .bl _, _ => Pl.bl.mono (Nat.zero_le _) (Nat.zero_le _)
  | .scr _, h => h.elim
  | .fn _, h => h.elim
  | .ty _, h => h.elim
  | .dn _ _, h => h.elim
  | .dk _ _, h => h.elim
  | .cls _, h => h.elim
  | .exc _ _, h => h.elim
theorem lfos_pl {r : Nat} (hr : r ≤ 10) : ∀ ds : List D, lfos r ds → Pls (141 * nods ds) (dpts ds) ds
  | [], _ => Pls.nil
  | d :: ds, h => by
    have h1 := lfo_pl hr d h.1
    have h2 := lfos_pl hr ds h.2
    have := nod_pos d
    exact (Pls.cons (h1.mono (Nat.le_refl _) (Nat.le_max_left (dpt d) (dpts ds))) (h2.mono (Nat.le_refl _) (Nat.le_max_right (dpt d) (dpts ds)))).mono (by simp only [nods]; omega) (by simp only [dpts]; exact Nat.le_refl _)
end
/-- a thing: so many parts, so deep, its leaves so great -/
structure Th (n k r : Nat) (d : D) : Prop where
  nn : nod d ≤ n
  dp : dpt d ≤ k
  lf : lfo r d
theorem Th.mono {n k r n' k' r' : Nat} {d : D} (h : Th n k r d) (h1 : n ≤ n') (h2 : k ≤ k') (h3 : r ≤ r') : Th n' k' r' d := ⟨Nat.le_trans h.nn h1, Nat.le_trans h.dp h2, lfo_mono h3 d h.lf⟩
theorem Th.okR {n k r : Nat} {d : D} (h : Th n k r d) (hn : n ≤ 2700) (hk : k ≤ 100) (hr : r ≤ 10) : VL.okR d = true :=
  (lfo_pl hr d h.lf).okR (by have := h.nn; omega) (by have := h.dp; omega)
set_option maxHeartbeats 2000000
set_option maxHeartbeats 2000000
set_option maxHeartbeats 4000000
set_option maxHeartbeats 4000000
set_option maxHeartbeats 2000000
set_option maxHeartbeats 4000000
set_option maxHeartbeats 4000000
set_option maxHeartbeats 2000000
end VL
set_option Elab.async false
set_option linter.all false
set_option maxRecDepth 100000
set_option maxHeartbeats 2000000
namespace VL
open PySem PySem.Spec L2 TL
def nmT (n : Nat) : Str := Str.ofString (toString ((n : Nat) : Int))
def isDg (c : Nat) : Bool := decide (48 ≤ c) && decide (c ≤ 57)
/-- the number that a word writes -/
def numS (s : Str) : Option Nat :=
  if (1 ≤ (tl s).length ∧ (tl s).length ≤ 4) ∧ (tl s).all isDg = true ∧ ¬ ((tl s).head? = some 48 ∧ 1 < (tl s).length) then some (NumText.digitsVal (tl s)) else none
def onD : Option Nat → D
  | some n => .int (n : Int)
  | none => .non
def c_MOST_FIGURES : D := .int 4
def c_FIGURES : D := .str "0123456789"
def digD : D → D
  | .str s => .bl ((tl s).all isDg)
  | d => d
theorem in_digs (c : Nat) : (decide (c ∈ tl ("0123456789" : Str))) = isDg c := by
  rw [show tl ("0123456789" : Str) = [48, 49, 50, 51, 52, 53, 54, 55, 56, 57] from tl_ofString _]
  rw [Bool.eq_iff_iff]
  simp only [isDg, List.mem_cons, List.not_mem_nil, or_false, decide_eq_true_eq, Bool.and_eq_true]
  omega
theorem sg_tl (c : Nat) : tl (⟨#[c]⟩ : Str) = [c] := rfl
theorem len_s {M : Mem} {s : Str} (h : s.length ≤ sizeLine) : lenD M [.d (.str s)] = some (.d (.int (s.length : Int))) := by
  show (gd _ _).map intS = _
  rw [gd_pos h]; rfl
theorem in_sg {M : Mem} {c : Nat} {z : Str} : inSg M (.d (.str ⟨#[c]⟩)) (.d (.str z)) = some (.d (.bl (decide (c ∈ tl z)))) := rfl
theorem ix_s0 {M : Mem} {s : Str} {c : Nat} {r : List Nat} (h : s.length ≤ sizeLine) (e : tl s = c :: r) : ixD M (.d (.str s)) (.d (.int 0)) = some (.d (.str ⟨#[c]⟩)) := by
  show (gd _ _).bind _ = _
  rw [gd_pos h, Option.bind_some, show s.cps.toList = c :: r from e]
  have : atI (c :: r) 0 = some c := by
    unfold L2.atI ixN
    simp
  rw [this]; rfl
theorem sg_eq {c : Nat} : ((⟨#[c]⟩ : Str) = "0") = (c = 48) := by
  have e : tl ("0" : Str) = [48] := tl_ofString _
  refine propext ⟨fun h => ?_, fun h => ?_⟩
  · have := congrArg tl h
    rw [e] at this
    exact (List.cons.inj this).1
  · subst h; exact ext_tl e.symm
theorem intT_s {M : Mem} {s : Str} (h : (tl s).all isDg = true) (h1 : 1 ≤ (tl s).length) (h2 : (tl s).length ≤ 4) : intTD M [.d (.str s)] = some (.d (.int ((NumText.digitsVal (tl s) : Nat) : Int))) := by
  have hl : s.length ≤ 640 := by rw [len_tl]; omega
  show (gd _ _).bind _ = _
  rw [gd_pos hl, Option.bind_some, PySem.intText_digits (x := s) (fun c hc => by
    have := List.all_eq_true.mp h c hc
    simp only [isDg, Bool.and_eq_true, decide_eq_true_eq] at this
    exact this) (fun e => by rw [show tl s = [] from e] at h1; cases h1) (by rw [len_tl]; omega)]
  rfl
def sp_numin : SpD := fun as M Q => ∃ s : Str, as = [.d (.str s)] ∧ M = [] ∧ s.length ≤ sizeLine ∧ Q (.d (onD (numS s))) []
def r_numin  : TS' :=
  (sSeq (sIf (tOrr (cP (bNt (bB (pCh leD leD (pC (.int 1)) (poN lenD [(pV 0)]) (pC c_MOST_FIGURES))))) (tNt (tTr (eoN allD (aCons (eFz (fLc (iTx (eP (pV 0))) (.nm 1) tYs (eP (po2 inSg (pV 1) (pC c_FIGURES))) [1])) (aP []))))))
  (sRet (eP (pC .non)))
  sNil)
  (sSeq (sIf (cP (bAn (bB (po2 eqD (po2 ixD (pV 0) (pC (.int 0))) (pC (.str "0")))) (bB (po2 gtD (poN lenD [(pV 0)]) (pC (.int 1))))))
  (sRet (eP (pC .non)))
  sNil)
  (sRet (eP (poN intTD [(pV 0)])))))
local macro_rules
  | `(tactic| simp only [VLY]) => `(tactic| simp only [sSeq, sIf, sSet, sSub, sRet, sRetN, sNil, sDrop, sAsg, sPar, sParT, sAug, cP, bB, bTr, bNt, bAn, bOr, po1, po2, poN, pArgs, poIf, poAn, poOr, poNt, poTup, plLst, plN, pl2, pl1, pFz, pV, pC, eP, eo1, eo2, eoN, aP, aNil, aCons, eAn, eOr, eNt, eIf, eFz, eNw, fP, fN, f2, f1, tTupE, tLstF, tTr, tTb, tAn, tOrr, tNt, tYs, eSeal, eMt, poMt, mPure, eCh, pCh, ok_bind, ok_map, ok_some, ok_none, ok_gd, ok_ite, List.getElem?_cons_zero, List.getElem?_cons_succ, List.set_cons_zero, List.set_cons_succ, Option.join_some, Option.bind_some, Option.map_some, Option.bind_none, Option.map_none, ix_ref, ix_tup, ix_lst, ix_bor, ix_scr, add_int, add_str, add_tup, sub_int, mul_int, fdiv_int, mod_int, pow_int, neg_int, lt_int, le_int, gt_int, ge_int, eq_int, eq_str, eq_bl, ne_int, ne_str, ne_bl, is_bl, isnt_bl, is_non, isnt_non, len_tup, len_lst, len_ref, len_bor, len_scr, int_bl, int_int, abs_int, min_int, max_int, blD_bl, cell_lst, cellA_lst, cellA_dk, st_ref, at_0, at_1, at_2, at_3, at_4, ixN_10, ixN_20, ixN_21, ixN_30, ixN_31, ixN_32, dataS_d, datas_nil, datas_cons, truth_bl, notD, intS, blS, nonB, List.length_cons, List.length_nil, Nat.reduceAdd, endsF_rt, endsF_nx, rvQ_d, rvQ_new, rvQ_newK, rv_d, rv_ref, rv_cl, rv_ck, okRef_d, okRef_ref, List.not_mem_nil, List.nil_append, true_and, and_true, List.take_succ_cons, List.take_zero, Nat.zero_add, decide_eq_true_eq, Bool.false_eq_true, if_false, if_true, callS, handS_n, handS_tr, handS_fr, handS_fd, handS_fb, cellsAt_c, cellsAt_0, Option.getD_some, backS_0, backS_1, eCall, tup_lst, tup_tup, tup_ref, fLc, iRg, rng_1, rng_2, wipeS_c, wipeS_n, iPq, iSq, seq_tup, seq_lst, seq_bor, lst_lst, lst_bor, gdS_d, gdS_b, sFor, gNm, gcS_c, gcS_n, gcO_d, gcO_n, mapp, rcv_0, rcv_1, rcv_l, gcO_r0, gcO_r1, gcO_z, seal_d, eq_self, List.take_nil, List.cons_append, poSl, poI, poNo, slD_t, intO_i, list_t, list_l, in_str2, ofS_inj, String.reduceEq, or_false, false_or, or_true, true_or, or_self, decide_true, decide_false, Bool.not_true, Bool.not_false, at_m1_2, at_m1_3, cut_2, cut_3, all_bls, any_bls, count_bls, lcg_nm, lcg_tp, lst_ref, laid_l, laid_b, laid_r, list_b, list_r, len_refI, lenOf_ref, rcv_2, rcv_3, rcv_b, slF_l, slF_b, slF_r, cat_l, repr_d, plSl, backS_2, List.mem_singleton, one_ne, if_false, callS, seal_r, Nat.le_refl, cat_get, cat_set, List.append_assoc, List.length_append, List.append_nil, at_ite, Nat.zero_le, iTq, tupD])
  | `(tactic| simp only [VLY, $xs,*]) => `(tactic| simp only [sSeq, sIf, sSet, sSub, sRet, sRetN, sNil, sDrop, sAsg, sPar, sParT, sAug, cP, bB, bTr, bNt, bAn, bOr, po1, po2, poN, pArgs, poIf, poAn, poOr, poNt, poTup, plLst, plN, pl2, pl1, pFz, pV, pC, eP, eo1, eo2, eoN, aP, aNil, aCons, eAn, eOr, eNt, eIf, eFz, eNw, fP, fN, f2, f1, tTupE, tLstF, tTr, tTb, tAn, tOrr, tNt, tYs, eSeal, eMt, poMt, mPure, eCh, pCh, ok_bind, ok_map, ok_some, ok_none, ok_gd, ok_ite, List.getElem?_cons_zero, List.getElem?_cons_succ, List.set_cons_zero, List.set_cons_succ, Option.join_some, Option.bind_some, Option.map_some, Option.bind_none, Option.map_none, ix_ref, ix_tup, ix_lst, ix_bor, ix_scr, add_int, add_str, add_tup, sub_int, mul_int, fdiv_int, mod_int, pow_int, neg_int, lt_int, le_int, gt_int, ge_int, eq_int, eq_str, eq_bl, ne_int, ne_str, ne_bl, is_bl, isnt_bl, is_non, isnt_non, len_tup, len_lst, len_ref, len_bor, len_scr, int_bl, int_int, abs_int, min_int, max_int, blD_bl, cell_lst, cellA_lst, cellA_dk, st_ref, at_0, at_1, at_2, at_3, at_4, ixN_10, ixN_20, ixN_21, ixN_30, ixN_31, ixN_32, dataS_d, datas_nil, datas_cons, truth_bl, notD, intS, blS, nonB, List.length_cons, List.length_nil, Nat.reduceAdd, endsF_rt, endsF_nx, rvQ_d, rvQ_new, rvQ_newK, rv_d, rv_ref, rv_cl, rv_ck, okRef_d, okRef_ref, List.not_mem_nil, List.nil_append, true_and, and_true, List.take_succ_cons, List.take_zero, Nat.zero_add, decide_eq_true_eq, Bool.false_eq_true, if_false, if_true, callS, handS_n, handS_tr, handS_fr, handS_fd, handS_fb, cellsAt_c, cellsAt_0, Option.getD_some, backS_0, backS_1, eCall, tup_lst, tup_tup, tup_ref, fLc, iRg, rng_1, rng_2, wipeS_c, wipeS_n, iPq, iSq, seq_tup, seq_lst, seq_bor, lst_lst, lst_bor, gdS_d, gdS_b, sFor, gNm, gcS_c, gcS_n, gcO_d, gcO_n, mapp, rcv_0, rcv_1, rcv_l, gcO_r0, gcO_r1, gcO_z, seal_d, eq_self, List.take_nil, List.cons_append, poSl, poI, poNo, slD_t, intO_i, list_t, list_l, in_str2, ofS_inj, String.reduceEq, or_false, false_or, or_true, true_or, or_self, decide_true, decide_false, Bool.not_true, Bool.not_false, at_m1_2, at_m1_3, cut_2, cut_3, all_bls, any_bls, count_bls, lcg_nm, lcg_tp, lst_ref, laid_l, laid_b, laid_r, list_b, list_r, len_refI, lenOf_ref, rcv_2, rcv_3, rcv_b, slF_l, slF_b, slF_r, cat_l, repr_d, plSl, backS_2, List.mem_singleton, one_ne, if_false, callS, seal_r, Nat.le_refl, cat_get, cat_set, List.append_assoc, List.length_append, List.append_nil, at_ite, Nat.zero_le, iTq, tupD, $xs,*])
theorem pure_numin (as : List Sv) (M : Mem) (Q : Rv → Mem → Prop) (h : sp_numin as M Q) : r_numin (endsF M.length Q) (startD 2 as) M := by
  obtain ⟨s, rfl, rfl, hs, z⟩ := h
  show r_numin (endsF 0 Q) [some (.d (.str s)), none] []
  have hL := len_s (M := []) hs
  simp only [r_numin, sSeq]
  have lc : ∀ (R : List D → Mem → Prop), R (((tl s).map isDg).map D.bl) [] → lcL (gNm 1) tYs (eP (po2 inSg (pV 1) (pC c_FIGURES))) [some (.d (.str s)), none] (fun _ => True) R ((tl s).map sgD) [] [] := by
    intro R hR
    refine lc_map (M := []) (f := digD) trivial ?_ ?_
    · intro y hy R hR
      obtain ⟨c, hc, rfl⟩ := List.mem_map.mp hy
      simp only [digD, sgD, sg_tl, List.all_cons, List.all_nil, Bool.and_true] at hR
      simp only [VLY, sgD, c_FIGURES, in_sg, in_digs]
      exact hR
    · rw [show ((tl s).map sgD).map digD = ((tl s).map isDg).map D.bl by
        rw [List.map_map, List.map_map]
        refine List.map_congr_left fun c _ => ?_
        show D.bl ((tl (⟨#[c]⟩ : Str)).all isDg) = _
        rw [sg_tl]; simp only [List.all_cons, List.all_nil, Bool.and_true, Function.comp]]
      exact hR
  by_cases h1 : 1 ≤ (tl s).length ∧ (tl s).length ≤ 4
  · have e1 : ((1 : Int) ≤ (s.length : Int)) = True := eq_true (by rw [len_tl]; omega)
    have e2 : ((s.length : Int) ≤ 4) = True := eq_true (by rw [len_tl]; omega)
    simp only [VLY, c_MOST_FIGURES, hL, e1, e2, iTx]
    refine ⟨hs, ?_⟩
    refine lc _ ?_
    simp only [VLY, all_bls]
    rw [show ((tl s).map isDg).all id = (tl s).all isDg by rw [List.all_map]; rfl]
    cases h2 : (tl s).all isDg with
    | false =>
      simp only [VLY]
      rw [numS, if_neg (by rw [h2]; exact fun h => by cases h.2.1)] at z
      exact z
    | true =>
      obtain ⟨c, r, hcr⟩ : ∃ c r, tl s = c :: r := by
        cases hq : tl s with
        | nil => rw [hq] at h1; exact absurd h1.1 (by simp)
        | cons c r => exact ⟨c, r, rfl⟩
      have hi := ix_s0 (M := []) hs hcr
      simp only [VLY, hi, sg_eq, hL]
      have hI := intT_s (M := []) h2 h1.1 h1.2
      by_cases h3 : c = 48
      · by_cases h4 : (1 : Int) < (s.length : Int)
        · simp only [VLY, h3, h4]
          rw [numS, if_neg (by rw [hcr, h3]; exact fun h => h.2.2 ⟨rfl, by rw [← h3, ← hcr, ← len_tl]; omega⟩)] at z
          exact z
        · simp only [VLY, h3, h4, hI]
          rw [numS, if_pos ⟨h1, h2, fun h => h4 (by rw [len_tl]; omega)⟩] at z
          exact z
      · simp only [VLY, h3, hI]
        rw [numS, if_pos ⟨h1, h2, fun h => h3 (by rw [hcr] at h; exact Option.some.inj h.1)⟩] at z
        exact z
  · have hz : numS s = none := by rw [numS, if_neg (fun h => h1 h.1)]
    rw [hz] at z
    by_cases e1 : (1 : Int) ≤ (s.length : Int)
    · have e2 : ((s.length : Int) ≤ 4) = False := eq_false (fun h => h1 (by rw [len_tl] at e1 h; omega))
      simp only [VLY, c_MOST_FIGURES, hL, e1, e2]
      exact z
    · simp only [VLY, c_MOST_FIGURES, hL, e1]
      exact z
end VL
set_option Elab.async false
set_option linter.all false
set_option maxRecDepth 100000
set_option maxHeartbeats 2000000
namespace VL
open PySem PySem.Spec L2 TL
theorem tl_blank : tl (" " : Str) = [32] := tl_ofString _
def rwWs : Rw → List Str
  | .yes => ["yes"]
  | .no => ["no"]
  | .has k b => ["has", nmT k, nmT (if b then 1 else 0)]
  | .all ps => "and" :: ps.map nmT
  | .any ps => "or" :: ps.map nmT
  | .pick k lo hi => ["pick", nmT k, nmT lo, nmT hi]
theorem nmT_len {n : Nat} (h : n < 10000) : (nmT n).length ≤ 4 := by
  rw [len_tl]
  show (tl (Str.ofString (toString ((n : Nat) : Int)))).length ≤ 4
  rw [tl_num]
  exact numL_len (by decide) h
theorem nmT_free {n s : Nat} (h : s < 48 ∨ 57 < s) : s ∉ tl (nmT n) := by
  show s ∉ tl (Str.ofString (toString ((n : Nat) : Int)))
  rw [tl_num]
  exact numL_free h
theorem log_small {n : Nat} (h : n < 10000) : n.log2 < 1920 := by
  by_cases h0 : n = 0
  · subst h0; decide
  · exact Nat.lt_trans ((Nat.log2_lt h0).mpr (show n < 2 ^ 14 by omega)) (by decide)
theorem nm_str {M : Mem} {n : Nat} (h : n < 10000) : strD M [.d (.int (n : Int))] = some (.d (.str (nmT n))) := gd_pos (by
  show (n : Int).natAbs.log2 < 1920
  rw [Int.natAbs_natCast]; exact log_small h)
theorem joinL_len (S : List Nat) : ∀ ps : List (List Nat), (joinL S ps).length ≤ (ps.map List.length).sum + ps.length * S.length
  | [] => by simp [joinL]
  | [p] => by simp [joinL]
  | p :: q :: r => by
    have := joinL_len S (q :: r)
    simp only [joinL, List.length_append, List.map_cons, List.sum_cons, List.length_cons] at *
    rw [Nat.add_mul (r.length + 1) 1 S.length]
    omega
theorem join_len {y : Str} {ps : List Str} : (Txt.join y ps).length ≤ (ps.map (·.length)).sum + ps.length * y.length := by
  rw [len_tl, join_eq, tl_join, len_tl y]
  refine Nat.le_trans (joinL_len _ _) ?_
  rw [List.length_map, List.map_map]
  have : ps.map (List.length ∘ tl) = ps.map (·.length) := List.map_congr_left fun s _ => (len_tl s).symm
  rw [this]; exact Nat.le_refl _
theorem sumC_le {α : Type} {g : α → Nat} {c : Nat} : ∀ {l : List α}, (∀ x ∈ l, g x ≤ c) → (l.map g).sum ≤ l.length * c
  | [], _ => by simp
  | x :: l, h => by
    have h1 := h x List.mem_cons_self
    have h2 := sumC_le (l := l) fun y hy => h y (List.mem_cons_of_mem _ hy)
    simp only [List.map_cons, List.sum_cons, List.length_cons, Nat.add_mul, Nat.one_mul]
    omega
theorem ofS_len (s : String) : (Str.ofString s).length = s.length := by
  rw [len_tl, tl_ofString, List.length_map]; first | rfl | exact String.length_toList
theorem join_l {M : Mem} {a : Str} {ys : List Str} (h : (ys.map (·.length)).sum + ys.length * a.length ≤ 16777216) : joinD M (.d (.str a)) [.d (.lst (ys.map .str))] = some (.d (.str (Txt.join a ys))) := by
  show ((txtsOf (ys.map .str)).bind _) = _
  rw [txtsOf_map, Option.bind_some]
  exact gd_pos h
theorem rcv_s {M : Mem} {s : Str} : rcv M (.d (.str s)) = some "str" := rfl
local macro_rules
  | `(tactic| simp only [VLY]) => `(tactic| simp only [sSeq, sIf, sSet, sSub, sRet, sRetN, sNil, sDrop, sAsg, sPar, sParT, sAug, cP, bB, bTr, bNt, bAn, bOr, po1, po2, poN, pArgs, poIf, poAn, poOr, poNt, poTup, plLst, plN, pl2, pl1, pFz, pV, pC, eP, eo1, eo2, eoN, aP, aNil, aCons, eAn, eOr, eNt, eIf, eFz, eNw, fP, fN, f2, f1, tTupE, tLstF, tTr, tTb, tAn, tOrr, tNt, tYs, eSeal, eMt, poMt, mPure, eCh, pCh, ok_bind, ok_map, ok_some, ok_none, ok_gd, ok_ite, List.getElem?_cons_zero, List.getElem?_cons_succ, List.set_cons_zero, List.set_cons_succ, Option.join_some, Option.bind_some, Option.map_some, Option.bind_none, Option.map_none, ix_ref, ix_tup, ix_lst, ix_bor, ix_scr, add_int, add_str, add_tup, sub_int, mul_int, fdiv_int, mod_int, pow_int, neg_int, lt_int, le_int, gt_int, ge_int, eq_int, eq_str, eq_bl, ne_int, ne_str, ne_bl, is_bl, isnt_bl, is_non, isnt_non, len_tup, len_lst, len_ref, len_bor, len_scr, int_bl, int_int, abs_int, min_int, max_int, blD_bl, cell_lst, cellA_lst, cellA_dk, st_ref, at_0, at_1, at_2, at_3, at_4, ixN_10, ixN_20, ixN_21, ixN_30, ixN_31, ixN_32, dataS_d, datas_nil, datas_cons, truth_bl, notD, intS, blS, nonB, List.length_cons, List.length_nil, Nat.reduceAdd, endsF_rt, endsF_nx, rvQ_d, rvQ_new, rvQ_newK, rv_d, rv_ref, rv_cl, rv_ck, okRef_d, okRef_ref, List.not_mem_nil, List.nil_append, true_and, and_true, List.take_succ_cons, List.take_zero, Nat.zero_add, decide_eq_true_eq, Bool.false_eq_true, if_false, if_true, callS, handS_n, handS_tr, handS_fr, handS_fd, handS_fb, cellsAt_c, cellsAt_0, Option.getD_some, backS_0, backS_1, eCall, tup_lst, tup_tup, tup_ref, fLc, iRg, rng_1, rng_2, wipeS_c, wipeS_n, iPq, iSq, seq_tup, seq_lst, seq_bor, lst_lst, lst_bor, gdS_d, gdS_b, sFor, gNm, gcS_c, gcS_n, gcO_d, gcO_n, mapp, rcv_0, rcv_1, rcv_l, gcO_r0, gcO_r1, gcO_z, seal_d, eq_self, List.take_nil, List.cons_append, poSl, poI, poNo, slD_t, intO_i, list_t, list_l, in_str2, ofS_inj, String.reduceEq, or_false, false_or, or_true, true_or, or_self, decide_true, decide_false, Bool.not_true, Bool.not_false, at_m1_2, at_m1_3, cut_2, cut_3, all_bls, any_bls, count_bls, lcg_nm, lcg_tp, lst_ref, laid_l, laid_b, laid_r, list_b, list_r, len_refI, lenOf_ref, rcv_2, rcv_3, rcv_b, slF_l, slF_b, slF_r, cat_l, repr_d, plSl, backS_2, List.mem_singleton, one_ne, if_false, callS, seal_r, Nat.le_refl, cat_get, cat_set, List.append_assoc, List.length_append, List.append_nil, at_ite, Nat.zero_le, iTq, tupD])
  | `(tactic| simp only [VLY, $xs,*]) => `(tactic| simp only [sSeq, sIf, sSet, sSub, sRet, sRetN, sNil, sDrop, sAsg, sPar, sParT, sAug, cP, bB, bTr, bNt, bAn, bOr, po1, po2, poN, pArgs, poIf, poAn, poOr, poNt, poTup, plLst, plN, pl2, pl1, pFz, pV, pC, eP, eo1, eo2, eoN, aP, aNil, aCons, eAn, eOr, eNt, eIf, eFz, eNw, fP, fN, f2, f1, tTupE, tLstF, tTr, tTb, tAn, tOrr, tNt, tYs, eSeal, eMt, poMt, mPure, eCh, pCh, ok_bind, ok_map, ok_some, ok_none, ok_gd, ok_ite, List.getElem?_cons_zero, List.getElem?_cons_succ, List.set_cons_zero, List.set_cons_succ, Option.join_some, Option.bind_some, Option.map_some, Option.bind_none, Option.map_none, ix_ref, ix_tup, ix_lst, ix_bor, ix_scr, add_int, add_str, add_tup, sub_int, mul_int, fdiv_int, mod_int, pow_int, neg_int, lt_int, le_int, gt_int, ge_int, eq_int, eq_str, eq_bl, ne_int, ne_str, ne_bl, is_bl, isnt_bl, is_non, isnt_non, len_tup, len_lst, len_ref, len_bor, len_scr, int_bl, int_int, abs_int, min_int, max_int, blD_bl, cell_lst, cellA_lst, cellA_dk, st_ref, at_0, at_1, at_2, at_3, at_4, ixN_10, ixN_20, ixN_21, ixN_30, ixN_31, ixN_32, dataS_d, datas_nil, datas_cons, truth_bl, notD, intS, blS, nonB, List.length_cons, List.length_nil, Nat.reduceAdd, endsF_rt, endsF_nx, rvQ_d, rvQ_new, rvQ_newK, rv_d, rv_ref, rv_cl, rv_ck, okRef_d, okRef_ref, List.not_mem_nil, List.nil_append, true_and, and_true, List.take_succ_cons, List.take_zero, Nat.zero_add, decide_eq_true_eq, Bool.false_eq_true, if_false, if_true, callS, handS_n, handS_tr, handS_fr, handS_fd, handS_fb, cellsAt_c, cellsAt_0, Option.getD_some, backS_0, backS_1, eCall, tup_lst, tup_tup, tup_ref, fLc, iRg, rng_1, rng_2, wipeS_c, wipeS_n, iPq, iSq, seq_tup, seq_lst, seq_bor, lst_lst, lst_bor, gdS_d, gdS_b, sFor, gNm, gcS_c, gcS_n, gcO_d, gcO_n, mapp, rcv_0, rcv_1, rcv_l, gcO_r0, gcO_r1, gcO_z, seal_d, eq_self, List.take_nil, List.cons_append, poSl, poI, poNo, slD_t, intO_i, list_t, list_l, in_str2, ofS_inj, String.reduceEq, or_false, false_or, or_true, true_or, or_self, decide_true, decide_false, Bool.not_true, Bool.not_false, at_m1_2, at_m1_3, cut_2, cut_3, all_bls, any_bls, count_bls, lcg_nm, lcg_tp, lst_ref, laid_l, laid_b, laid_r, list_b, list_r, len_refI, lenOf_ref, rcv_2, rcv_3, rcv_b, slF_l, slF_b, slF_r, cat_l, repr_d, plSl, backS_2, List.mem_singleton, one_ne, if_false, callS, seal_r, Nat.le_refl, cat_get, cat_set, List.append_assoc, List.length_append, List.append_nil, at_ite, Nat.zero_le, iTq, tupD, $xs,*])
end VL
set_option Elab.async false
set_option linter.all false
set_option maxRecDepth 100000
set_option maxHeartbeats 2000000
namespace VL
open PySem PySem.Spec L2 TL
local macro_rules
  | `(tactic| simp only [VLY]) => `(tactic| simp only [sSeq, sIf, sSet, sSub, sRet, sRetN, sNil, sDrop, sAsg, sPar, sParT, sAug, cP, bB, bTr, bNt, bAn, bOr, po1, po2, poN, pArgs, poIf, poAn, poOr, poNt, poTup, plLst, plN, pl2, pl1, pFz, pV, pC, eP, eo1, eo2, eoN, aP, aNil, aCons, eAn, eOr, eNt, eIf, eFz, eNw, fP, fN, f2, f1, tTupE, tLstF, tTr, tTb, tAn, tOrr, tNt, tYs, eSeal, eMt, poMt, mPure, eCh, pCh, ok_bind, ok_map, ok_some, ok_none, ok_gd, ok_ite, List.getElem?_cons_zero, List.getElem?_cons_succ, List.set_cons_zero, List.set_cons_succ, Option.join_some, Option.bind_some, Option.map_some, Option.bind_none, Option.map_none, ix_ref, ix_tup, ix_lst, ix_bor, ix_scr, add_int, add_str, add_tup, sub_int, mul_int, fdiv_int, mod_int, pow_int, neg_int, lt_int, le_int, gt_int, ge_int, eq_int, eq_str, eq_bl, ne_int, ne_str, ne_bl, is_bl, isnt_bl, is_non, isnt_non, len_tup, len_lst, len_ref, len_bor, len_scr, int_bl, int_int, abs_int, min_int, max_int, blD_bl, cell_lst, cellA_lst, cellA_dk, st_ref, at_0, at_1, at_2, at_3, at_4, ixN_10, ixN_20, ixN_21, ixN_30, ixN_31, ixN_32, dataS_d, datas_nil, datas_cons, truth_bl, notD, intS, blS, nonB, List.length_cons, List.length_nil, Nat.reduceAdd, endsF_rt, endsF_nx, rvQ_d, rvQ_new, rvQ_newK, rv_d, rv_ref, rv_cl, rv_ck, okRef_d, okRef_ref, List.not_mem_nil, List.nil_append, true_and, and_true, List.take_succ_cons, List.take_zero, Nat.zero_add, decide_eq_true_eq, Bool.false_eq_true, if_false, if_true, callS, handS_n, handS_tr, handS_fr, handS_fd, handS_fb, cellsAt_c, cellsAt_0, Option.getD_some, backS_0, backS_1, eCall, tup_lst, tup_tup, tup_ref, fLc, iRg, rng_1, rng_2, wipeS_c, wipeS_n, iPq, iSq, seq_tup, seq_lst, seq_bor, lst_lst, lst_bor, gdS_d, gdS_b, sFor, gNm, gcS_c, gcS_n, gcO_d, gcO_n, mapp, rcv_0, rcv_1, rcv_l, gcO_r0, gcO_r1, gcO_z, seal_d, eq_self, List.take_nil, List.cons_append, poSl, poI, poNo, slD_t, intO_i, list_t, list_l, in_str2, ofS_inj, String.reduceEq, or_false, false_or, or_true, true_or, or_self, decide_true, decide_false, Bool.not_true, Bool.not_false, at_m1_2, at_m1_3, cut_2, cut_3, all_bls, any_bls, count_bls, lcg_nm, lcg_tp, lst_ref, laid_l, laid_b, laid_r, list_b, list_r, len_refI, lenOf_ref, rcv_2, rcv_3, rcv_b, slF_l, slF_b, slF_r, cat_l, repr_d, plSl, backS_2, List.mem_singleton, one_ne, if_false, callS, seal_r, Nat.le_refl, cat_get, cat_set, List.append_assoc, List.length_append, List.append_nil, at_ite, Nat.zero_le, iTq, tupD])
  | `(tactic| simp only [VLY, $xs,*]) => `(tactic| simp only [sSeq, sIf, sSet, sSub, sRet, sRetN, sNil, sDrop, sAsg, sPar, sParT, sAug, cP, bB, bTr, bNt, bAn, bOr, po1, po2, poN, pArgs, poIf, poAn, poOr, poNt, poTup, plLst, plN, pl2, pl1, pFz, pV, pC, eP, eo1, eo2, eoN, aP, aNil, aCons, eAn, eOr, eNt, eIf, eFz, eNw, fP, fN, f2, f1, tTupE, tLstF, tTr, tTb, tAn, tOrr, tNt, tYs, eSeal, eMt, poMt, mPure, eCh, pCh, ok_bind, ok_map, ok_some, ok_none, ok_gd, ok_ite, List.getElem?_cons_zero, List.getElem?_cons_succ, List.set_cons_zero, List.set_cons_succ, Option.join_some, Option.bind_some, Option.map_some, Option.bind_none, Option.map_none, ix_ref, ix_tup, ix_lst, ix_bor, ix_scr, add_int, add_str, add_tup, sub_int, mul_int, fdiv_int, mod_int, pow_int, neg_int, lt_int, le_int, gt_int, ge_int, eq_int, eq_str, eq_bl, ne_int, ne_str, ne_bl, is_bl, isnt_bl, is_non, isnt_non, len_tup, len_lst, len_ref, len_bor, len_scr, int_bl, int_int, abs_int, min_int, max_int, blD_bl, cell_lst, cellA_lst, cellA_dk, st_ref, at_0, at_1, at_2, at_3, at_4, ixN_10, ixN_20, ixN_21, ixN_30, ixN_31, ixN_32, dataS_d, datas_nil, datas_cons, truth_bl, notD, intS, blS, nonB, List.length_cons, List.length_nil, Nat.reduceAdd, endsF_rt, endsF_nx, rvQ_d, rvQ_new, rvQ_newK, rv_d, rv_ref, rv_cl, rv_ck, okRef_d, okRef_ref, List.not_mem_nil, List.nil_append, true_and, and_true, List.take_succ_cons, List.take_zero, Nat.zero_add, decide_eq_true_eq, Bool.false_eq_true, if_false, if_true, callS, handS_n, handS_tr, handS_fr, handS_fd, handS_fb, cellsAt_c, cellsAt_0, Option.getD_some, backS_0, backS_1, eCall, tup_lst, tup_tup, tup_ref, fLc, iRg, rng_1, rng_2, wipeS_c, wipeS_n, iPq, iSq, seq_tup, seq_lst, seq_bor, lst_lst, lst_bor, gdS_d, gdS_b, sFor, gNm, gcS_c, gcS_n, gcO_d, gcO_n, mapp, rcv_0, rcv_1, rcv_l, gcO_r0, gcO_r1, gcO_z, seal_d, eq_self, List.take_nil, List.cons_append, poSl, poI, poNo, slD_t, intO_i, list_t, list_l, in_str2, ofS_inj, String.reduceEq, or_false, false_or, or_true, true_or, or_self, decide_true, decide_false, Bool.not_true, Bool.not_false, at_m1_2, at_m1_3, cut_2, cut_3, all_bls, any_bls, count_bls, lcg_nm, lcg_tp, lst_ref, laid_l, laid_b, laid_r, list_b, list_r, len_refI, lenOf_ref, rcv_2, rcv_3, rcv_b, slF_l, slF_b, slF_r, cat_l, repr_d, plSl, backS_2, List.mem_singleton, one_ne, if_false, callS, seal_r, Nat.le_refl, cat_get, cat_set, List.append_assoc, List.length_append, List.append_nil, at_ite, Nat.zero_le, iTq, tupD, $xs,*])
end VL
set_option Elab.async false
set_option linter.all false
set_option maxRecDepth 100000
set_option maxHeartbeats 2000000
namespace VL
open PySem PySem.Spec L2 TL
theorem numL_head : ∀ n : Nat, 1 < (numL n).length → (numL n).head? ≠ some 48 := by
  intro n
  induction n using Nat.strongRecOn with
  | _ n ih =>
    intro h
    by_cases hn : n < 10
    · rw [numL_lt hn] at h; exact absurd h (by simp)
    · rw [numL_step (by omega)]
      have hne := numL_ne (n / 10)
      obtain ⟨c, r, e⟩ := List.exists_cons_of_ne_nil hne
      rw [e, List.cons_append, List.head?_cons]
      intro h48
      cases h48
      by_cases h2 : n / 10 < 10
      · rw [numL_lt h2] at e
        have := (List.cons.inj e).1
        omega
      · have := ih (n / 10) (by omega) (by rw [numL_step (by omega)]; have := List.length_pos_iff.mpr (numL_ne (n / 10 / 10)); simp; omega)
        rw [e] at this
        exact this rfl
theorem tl_nmT (n : Nat) : tl (nmT n) = numL n := tl_num n
theorem numS_nmT {n : Nat} (h : n < 10000) : numS (nmT n) = some n := by
  unfold numS
  rw [tl_nmT, if_pos, numL_val]
  have h1 : 1 ≤ (numL n).length := List.length_pos_iff.mpr (numL_ne n)
  have h2 : (numL n).length ≤ 4 := numL_len (by decide) h
  refine ⟨⟨h1, h2⟩, List.all_eq_true.mpr fun c hc => ?_, fun hh => numL_head n hh.2 hh.1⟩
  have := numL_digits n c hc
  simp only [isDg, Bool.and_eq_true, decide_eq_true_eq]
  exact this
def rwW0 : Rw → Str
  | .yes => "yes"
  | .no => "no"
  | .has _ _ => "has"
  | .all _ => "and"
  | .any _ => "or"
  | .pick _ _ _ => "pick"
def rwN : Rw → List Nat
  | .has k b => [k, if b then 1 else 0]
  | .all ps => ps
  | .any ps => ps
  | .pick k lo hi => [k, lo, hi]
  | _ => []
theorem rwWs_eq (r : Rw) : rwWs r = rwW0 r :: (rwN r).map nmT := by cases r <;> rfl
theorem w0_free (r : Rw) : 32 ∉ tl (rwW0 r) ∧ 10 ∉ tl (rwW0 r) := by
  have W : ∀ s : String, 32 ∉ s.toList.map Char.toNat → 10 ∉ s.toList.map Char.toNat → 32 ∉ tl (Str.ofString s) ∧ 10 ∉ tl (Str.ofString s) := fun s h1 h2 => by
    rw [tl_ofString]; exact ⟨h1, h2⟩
  cases r
  · exact W "yes" (by decide) (by decide)
  · exact W "no" (by decide) (by decide)
  · exact W "has" (by decide) (by decide)
  · exact W "and" (by decide) (by decide)
  · exact W "or" (by decide) (by decide)
  · exact W "pick" (by decide) (by decide)
theorem rwWs_free (r : Rw) : ∀ s ∈ rwWs r, 32 ∉ tl s ∧ 10 ∉ tl s := by
  rw [rwWs_eq]
  intro s hs
  rcases List.mem_cons.mp hs with rfl | hs
  · exact w0_free r
  · obtain ⟨n, _, rfl⟩ := List.mem_map.mp hs
    exact ⟨nmT_free (.inl (by decide)), nmT_free (.inl (by decide))⟩
theorem asc_one {y : Str} {c : Nat} (ey : tl y = [c]) (hc : c < 256) : y.cps.all (· < 256) = true := by
  have : y.cps.toList = [c] := ey
  rw [Array.all_eq_true']
  intro x hx
  have hx : x ∈ y.cps.toList := by simpa using hx
  rw [this] at hx
  rw [List.mem_singleton.mp hx]; exact decide_eq_true hc
theorem asc_blank : (" " : Str).cps.all (· < 256) = true := asc_one tl_blank (by decide)
end VL
set_option Elab.async false
set_option linter.all false
set_option maxRecDepth 100000
namespace VL
open PySem PySem.Spec L2
theorem q_sSeq (t u : TS') (E : _) (δ : _) (M : _) : sSeq t u E δ M = t { E with nx := fun δ' M' => u E δ' M' } δ M := rfl
theorem q_sIf (c : TT') (t u : TS') (E : _) (δ : _) (M : _) : sIf c t u E δ M = c δ M fun b M' => if b then t E δ M' else u E δ M' := rfl
theorem q_sSet (i : Nat) (t : TE') (E : _) (δ : _) (M : _) : sSet i t E δ M = t δ M fun d M' => E.nx (δ.set i (some d)) M' := rfl
theorem q_sSub (te to ti : TE') (E : _) (δ : _) (M : _) : sSub te to ti E δ M = te δ M fun s M1 => ok (dataS s) fun d => to δ M1 fun o M2 => ti δ M2 fun i M3 => stD o i d M3 fun M4 => E.nx δ M4 := rfl
theorem q_sRet (t : TE') (E : _) (δ : _) (M : _) : sRet t E δ M = t δ M fun d M' => E.rt d M' := rfl
theorem q_sRetN  (E : _) (δ : _) (M : _) : sRetN E δ M = E.rt (.d .non) M := rfl
theorem q_sNil  (E : _) (δ : _) (M : _) : sNil E δ M = E.nx δ M := rfl
theorem q_sDrop (t : TE') (E : _) (δ : _) (M : _) : sDrop t E δ M = t δ M fun _ M' => E.nx δ M' := rfl
theorem q_sAsg (t : TE') (g : TG') (E : _) (δ : _) (M : _) : sAsg t g E δ M = t δ M fun s M' => ok (dataS s) fun d => g d δ M' E.nx := rfl
theorem q_sParT (is : List Nat) (tA : TA') (E : _) (δ : _) (M : _) : sParT is tA E δ M = tA δ M fun xs M1 => ok (setAllS is xs δ) fun δ' => E.nx δ' M1 := rfl
theorem q_sAug (i : Nat) (f : Mem → Sv → Sv → Option Sv) (te : TE') (E : _) (δ : _) (M : _) : sAug i f te E δ M = ok (δ[i]?).join fun x => te δ M fun y M1 => ok (f M1 x y) fun z => E.nx (δ.set i (some z)) M1 := rfl
theorem q_cP (p : PB) (δ : _) (M : _) (Q : _) : cP p δ M Q = ok (p δ M) fun b => Q b M := rfl
theorem q_bB (p : PV) (δ : _) (M : _) : bB p δ M = (p δ M).bind blD := rfl
theorem q_bTr (p : PV) (δ : _) (M : _) : bTr p δ M = (p δ M).bind (truth M) := rfl
theorem q_bNt (p : PB) (δ : _) (M : _) : bNt p δ M = (p δ M).map fun b => !b := rfl
theorem q_bAn (p q : PB) (δ : _) (M : _) : bAn p q δ M = (p δ M).bind fun b => if b then q δ M else some false := rfl
theorem q_bOr (p q : PB) (δ : _) (M : _) : bOr p q δ M = (p δ M).bind fun b => if b then some true else q δ M := rfl
theorem q_po1 (f : Mem → Sv → Option Sv) (a : PV) (δ : _) (M : _) : po1 f a δ M = (a δ M).bind (f M) := rfl
theorem q_po2 (f : Mem → Sv → Sv → Option Sv) (a b : PV) (δ : _) (M : _) : po2 f a b δ M = (a δ M).bind fun x => (b δ M).bind fun y => f M x y := rfl
theorem q_poN (f : Mem → List Sv → Option Sv) (ps : List PV) (δ : _) (M : _) : poN f ps δ M = (pArgs ps δ M).bind (f M) := rfl
theorem q_poIf (t : PB) (a b : PV) (δ : _) (M : _) : poIf t a b δ M = (t δ M).bind fun k => if k then a δ M else b δ M := rfl
theorem q_poAn (a b : PV) (δ : _) (M : _) : poAn a b δ M = (a δ M).bind fun x => (truth M x).bind fun k => if k then b δ M else some x := rfl
theorem q_poOr (a b : PV) (δ : _) (M : _) : poOr a b δ M = (a δ M).bind fun x => (truth M x).bind fun k => if k then some x else b δ M := rfl
theorem q_poNt (a : PV) (δ : _) (M : _) : poNt a δ M = (a δ M).bind fun x => (truth M x).map fun k => blS (!k) := rfl
theorem q_poTup (ps : List PV) (δ : _) (M : _) : poTup ps δ M = ((pArgs ps δ M).bind datas).map fun ds => .d (.tup ds) := rfl
theorem q_plLst (ps : List PV) (δ : _) (M : _) : plLst ps δ M = (pArgs ps δ M).bind datas := rfl
theorem q_plN (f : Mem → List Sv → Option (List D)) (ps : List PV) (δ : _) (M : _) : plN f ps δ M = (pArgs ps δ M).bind (f M) := rfl
theorem q_pl2 (f : Mem → Sv → Sv → Option (List D)) (a b : PV) (δ : _) (M : _) : pl2 f a b δ M = (a δ M).bind fun x => (b δ M).bind fun y => f M x y := rfl
theorem q_pl1 (f : Mem → Sv → Option (List D)) (a : PV) (δ : _) (M : _) : pl1 f a δ M = (a δ M).bind (f M) := rfl
theorem q_pFz (p : PL) (δ : _) (M : _) : pFz p δ M = (p δ M).map fun ds => .d (.lst ds) := rfl
theorem q_pV (i : Nat) (δ : _) (z1 : _) : pV i δ z1 = (δ[i]?).join := rfl
theorem q_pC (d : D) (z1 : _) (z2 : _) : pC d z1 z2 = some (.d d) := rfl
theorem q_eP (p : PV) (δ : _) (M : _) (Q : _) : eP p δ M Q = ok (p δ M) fun d => Q d M := rfl
theorem q_eo1 (f : Mem → Sv → Option Sv) (ta : TE') (δ : _) (M : _) (Q : _) : eo1 f ta δ M Q = ta δ M fun x M1 => ok (f M1 x) fun d => Q d M1 := rfl
theorem q_eo2 (f : Mem → Sv → Sv → Option Sv) (ta tb : TE') (δ : _) (M : _) (Q : _) : eo2 f ta tb δ M Q = ta δ M fun x M1 => tb δ M1 fun y M2 => ok (f M2 x y) fun d => Q d M2 := rfl
theorem q_eoN (f : Mem → List Sv → Option Sv) (t : TA') (δ : _) (M : _) (Q : _) : eoN f t δ M Q = t δ M fun xs M1 => ok (f M1 xs) fun d => Q d M1 := rfl
theorem q_aP (ps : List PV) (δ : _) (M : _) (Q : _) : aP ps δ M Q = ok (pArgs ps δ M) fun ds => Q ds M := rfl
theorem q_aNil  (z1 : _) (M : _) (Q : _) : aNil z1 M Q = Q [] M := rfl
theorem q_aCons (t : TE') (r : TA') (δ : _) (M : _) (Q : _) : aCons t r δ M Q = t δ M fun d M1 => r δ M1 fun ds M2 => Q (d :: ds) M2 := rfl
theorem q_eAn (ta tb : TE') (δ : _) (M : _) (Q : _) : eAn ta tb δ M Q = ta δ M fun x M1 => ok (truth M1 x) fun k => if k then tb δ M1 Q else Q x M1 := rfl
theorem q_eOr (ta tb : TE') (δ : _) (M : _) (Q : _) : eOr ta tb δ M Q = ta δ M fun x M1 => ok (truth M1 x) fun k => if k then Q x M1 else tb δ M1 Q := rfl
theorem q_eNt (ta : TE') (δ : _) (M : _) (Q : _) : eNt ta δ M Q = ta δ M fun x M1 => ok (truth M1 x) fun k => Q (blS (!k)) M1 := rfl
theorem q_eIf (t : TT') (ta tb : TE') (δ : _) (M : _) (Q : _) : eIf t ta tb δ M Q = t δ M fun b M1 => if b then ta δ M1 Q else tb δ M1 Q := rfl
theorem q_eFz (t : TF') (δ : _) (M : _) (Q : _) : eFz t δ M Q = t δ M fun ds M' => Q (.d (.lst ds)) M' := rfl
theorem q_eNw (t : TF') (δ : _) (M : _) (Q : _) : eNw t δ M Q = t δ M fun ds M' => Q (.ref M'.length) (M' ++ [.lst ds]) := rfl
theorem q_fP (p : PL) (δ : _) (M : _) (Q : _) : fP p δ M Q = ok (p δ M) fun ds => Q ds M := rfl
theorem q_fN (f : Mem → List Sv → Option (List D)) (t : TA') (δ : _) (M : _) (Q : _) : fN f t δ M Q = t δ M fun xs M1 => ok (f M1 xs) fun ds => Q ds M1 := rfl
theorem q_f2 (f : Mem → Sv → Sv → Option (List D)) (ta tb : TE') (δ : _) (M : _) (Q : _) : f2 f ta tb δ M Q = ta δ M fun x M1 => tb δ M1 fun y M2 => ok (f M2 x y) fun ds => Q ds M2 := rfl
theorem q_f1 (f : Mem → Sv → Option (List D)) (ta : TE') (δ : _) (M : _) (Q : _) : f1 f ta δ M Q = ta δ M fun x M1 => ok (f M1 x) fun ds => Q ds M1 := rfl
theorem q_tTupE (t : TA') (δ : _) (M : _) (Q : _) : tTupE t δ M Q = t δ M fun xs M1 => ok (datas xs) fun ds => Q (.d (.tup ds)) M1 := rfl
theorem q_tLstF (t : TA') (δ : _) (M : _) (Q : _) : tLstF t δ M Q = t δ M fun xs M1 => ok (datas xs) fun ds => Q ds M1 := rfl
theorem q_tTr (t : TE') (δ : _) (M : _) (Q : _) : tTr t δ M Q = t δ M fun d M' => ok (truth M' d) fun b => Q b M' := rfl
theorem q_tTb (t : TE') (δ : _) (M : _) (Q : _) : tTb t δ M Q = t δ M fun d M' => ok (blD d) fun b => Q b M' := rfl
theorem q_tAn (t u : TT') (δ : _) (M : _) (Q : _) : tAn t u δ M Q = t δ M fun b M' => if b then u δ M' Q else Q false M' := rfl
theorem q_tOrr (t u : TT') (δ : _) (M : _) (Q : _) : tOrr t u δ M Q = t δ M fun b M' => if b then Q true M' else u δ M' Q := rfl
theorem q_tNt (t : TT') (δ : _) (M : _) (Q : _) : tNt t δ M Q = t δ M fun b M' => Q (!b) M' := rfl
theorem q_tYs  (z1 : _) (M : _) (Q : _) : tYs z1 M Q = Q true M := rfl
theorem q_eSeal (m0 : Nat) (t : TE') (δ : _) (M : _) (Q : _) : eSeal m0 t δ M Q = t δ M fun d M1 => ok (sealD m0 M1 d) fun r => Q r.1 r.2 := rfl
theorem q_eMt (T : String) (f : Mt) (to : TE') (tA : TA') (δ : _) (M : _) (Q : _) : eMt T f to tA δ M Q = to δ M fun o M1 => rcv M1 o = some T ∧ tA δ M1 fun xs M2 => f o xs M2 Q := rfl
theorem q_poMt (T : String) (f : Mem → Sv → List Sv → Option Sv) (a : PV) (ps : List PV) (δ : _) (M : _) : poMt T f a ps δ M = (a δ M).bind fun o => (gd (rcv M o = some T) ()).bind fun _ => (pArgs ps δ M).bind fun xs => f M o xs := rfl
theorem q_mPure (f : Mem → Sv → List Sv → Option Sv) (o : _) (xs : _) (M : _) (Q : _) : mPure f o xs M Q = ok (f M o xs) fun d => Q d M := rfl
theorem q_eCh (f g : Mem → Sv → Sv → Option Sv) (ta tb tc : TE') (δ : _) (M : _) (Q : _) : eCh f g ta tb tc δ M Q = ta δ M fun x M1 => tb δ M1 fun y M2 => ok ((f M2 x y).bind blD) fun k => if k then tc δ M2 fun z M3 => ok (g M3 y z) fun d => Q d M3 else Q (.d (.bl false)) M2 := rfl
theorem q_pCh (f g : Mem → Sv → Sv → Option Sv) (a b c : PV) (δ : _) (M : _) : pCh f g a b c δ M = (a δ M).bind fun x => (b δ M).bind fun y => ((f M x y).bind blD).bind fun k => if k then (c δ M).bind fun z => g M y z else some (.d (.bl false)) := rfl
theorem q_eCall (ms : List Bool) (sp : SpD) (tA : TA') (δ : _) (M : _) (Q : _) : eCall ms sp tA δ M Q = tA δ M fun xs M1 => callS ms sp M1 xs (rvQ Q) := rfl
theorem q_fLc (it : TI') (g : LcG) (tt : TT') (te : TE') (vs : List Nat) (δ : _) (M : _) (Q : _) : fLc it g tt te vs δ M Q = it δ M fun ds gd M1 => lcL g.to tt te (wipeS δ vs) gd Q ds [] M1 := rfl
theorem q_iRg (bd : Bool) (t : TA') (δ : _) (M : _) (Q : _) : iRg bd t δ M Q = t δ M fun xs M1 => rngD xs fun ds => (bd = true → ds.length ≤ sizeLine) ∧ Q ds gdT M1 := rfl
theorem q_iPq (p : PV) (δ : _) (M : _) (Q : _) : iPq p δ M Q = ok (p δ M) fun s => ok (seqD M s) fun ds => Q ds (gdS s ds) M := rfl
theorem q_iSq (t : TE') (δ : _) (M : _) (Q : _) : iSq t δ M Q = t δ M fun s M1 => ok (lstD M1 s) fun ds => Q ds (gdS s ds) M1 := rfl
theorem q_sFor (it : TI') (g : TG') (b : TS') (E : _) (δ : _) (M : _) : sFor it g b E δ M = it δ M fun ds gd M' => forL M'.length g b E gd ds δ M' := rfl
theorem q_gNm (i : Nat) (d : _) (δ : _) (M : _) (Q : _) : gNm i d δ M Q = Q (δ.set i (some (.d d))) M := rfl
theorem q_poSl (a : PV) (lo hi : PO') (δ : _) (M : _) : poSl a lo hi δ M = (a δ M).bind fun s => (lo δ M).bind fun l => (hi δ M).bind fun h => slD M s l h := rfl
theorem q_poI (p : PV) (δ : _) (M : _) : poI p δ M = (p δ M).bind intO := rfl
theorem q_poNo  (z1 : _) (z2 : _) : poNo z1 z2 = some none := rfl
theorem q_plSl (a : PV) (lo hi : PO') (δ : _) (M : _) : plSl a lo hi δ M = (a δ M).bind fun s => (lo δ M).bind fun l => (hi δ M).bind fun h => slF M s l h := rfl
theorem q_iTq (t : TE') (δ : _) (M : _) (Q : _) : iTq t δ M Q = t δ M fun s M1 => ok (tupD s) fun ds => Q ds gdT M1 := rfl
end VL
set_option Elab.async false
set_option linter.all false
set_option maxRecDepth 100000
set_option maxHeartbeats 2000000
namespace VL
open PySem PySem.Spec L2
def tab_INNER : List (Str × Int) := [("yes", 0), ("no", 0), ("not", 1), ("same", 2)]
mutual
def wtC : Cm → List Str
  | .yes => ["yes"]
  | .no => ["no"]
  | .name k => [nmT k]
  | .neg c => "not" :: wtC c
  | .same a b => "same" :: (wtC a ++ wtC b)
  | .all cs => "and" :: nmT cs.length :: wtCs cs
  | .any cs => "or" :: nmT cs.length :: wtCs cs
  | .least m cs => "least" :: nmT m :: nmT cs.length :: wtCs cs
def wtCs : List Cm → List Str
  | [] => []
  | c :: cs => wtC c ++ wtCs cs
end
theorem wtCs_flat : ∀ cs : List Cm, wtCs cs = cs.flatMap wtC
  | [] => rfl
  | c :: cs => by rw [wtCs, wtCs_flat cs]; rfl
/-- the words ahead of the inner claims' -/
def hdC : Cm → List Str
  | .yes => ["yes"]
  | .no => ["no"]
  | .name k => [nmT k]
  | .neg _ => ["not"]
  | .same _ _ => ["same"]
  | .all cs => ["and", nmT cs.length]
  | .any cs => ["or", nmT cs.length]
  | .least m cs => ["least", nmT m, nmT cs.length]
theorem wtC_eq (c : Cm) : wtC c = hdC c ++ c.subs.flatMap wtC := by
  cases c <;> simp [wtC, hdC, Cm.subs, wtCs_flat]
mutual
/-- claims of names less than n, at most d deep, their numbers of four figures at most -/
def Cm.tk (n : Nat) : Nat → Cm → Prop
  | _, .yes => True
  | _, .no => True
  | _, .name k => k < n
  | d + 1, .neg c => Cm.tk n d c
  | d + 1, .same a b => Cm.tk n d a ∧ Cm.tk n d b
  | d + 1, .all cs => cs.length < 10000 ∧ Cm.tks n d cs
  | d + 1, .any cs => cs.length < 10000 ∧ Cm.tks n d cs
  | d + 1, .least m cs => (m < 10000 ∧ cs.length < 10000) ∧ Cm.tks n d cs
  | 0, _ => False
def Cm.tks (n : Nat) : Nat → List Cm → Prop
  | _, [] => True
  | d, c :: cs => Cm.tk n d c ∧ Cm.tks n d cs
end
theorem tks_all {n d : Nat} : ∀ {cs : List Cm}, Cm.tks n d cs ↔ ∀ c ∈ cs, c.tk n d
  | [] => by simp [Cm.tks]
  | c :: cs => by simp [Cm.tks, tks_all (cs := cs)]
theorem tk_subs {n d : Nat} {c : Cm} (h : c.tk n d) : c.subs = [] ∨ ∃ e, d = e + 1 ∧ ∀ x ∈ c.subs, x.tk n e := by
  cases c with
  | yes => exact .inl rfl
  | no => exact .inl rfl
  | name k => exact .inl rfl
  | neg c => cases d with
    | zero => exact h.elim
    | succ d => exact .inr ⟨d, rfl, fun x hx => by rw [List.mem_singleton.mp hx]; exact h⟩
  | same a b => cases d with
    | zero => exact h.elim
    | succ d => exact .inr ⟨d, rfl, fun x hx => by
        have hx : x ∈ [a, b] := hx
        simp only [List.mem_cons, List.not_mem_nil, or_false] at hx
        rcases hx with rfl | rfl
        · exact h.1
        · exact h.2⟩
  | all cs => cases d with
    | zero => exact h.elim
    | succ d => exact .inr ⟨d, rfl, tks_all.mp h.2⟩
  | any cs => cases d with
    | zero => exact h.elim
    | succ d => exact .inr ⟨d, rfl, tks_all.mp h.2⟩
  | least m cs => cases d with
    | zero => exact h.elim
    | succ d => exact .inr ⟨d, rfl, tks_all.mp h.2⟩
def t_cw (sp_claim_words : SpD) : TS' :=
  (sSeq (sFor (iPq (pV 4)) (gNm 2)
  (sDrop (eMt "list" mExt (eP (pV 3)) (aCons (eSeal 0 (eCall [false] sp_claim_words (aP [(pV 2)]))) (aP [])))))
  (sRet (eP (pV 3))))
def r_cwords (sp_claim_words : SpD) : TS' :=
  (sSeq (sSet 1 (eP (po2 ixD (pV 0) (pC (.int 0)))))
  (sSeq (sIf (cP (bB (po2 eqD (pV 1) (pC (.str "name")))))
  (sRet (eNw (fP (plLst [(poN strD [(po2 ixD (pV 0) (pC (.int 1)))])]))))
  sNil)
  (sSeq (sIf (cP (bB (po1 (inTab tab_INNER) (pV 1))))
  (sPar 3 4 (aCons (eNw (fP (plLst [(pV 1)]))) (aP [(pFz (plN listF [(poSl (pV 0) (poI (pC (.int 1))) poNo)]))])))
  (sPar 3 4 (aCons (eNw (fP (plLst [(pV 1), (poN strD [(poN lenD [(po2 ixD (pV 0) (po1 negD (pC (.int 1))))])])]))) (aP [(pFz (plN listF [(po2 ixD (pV 0) (po1 negD (pC (.int 1))))]))]))))
  (sSeq (sIf (cP (bB (po2 eqD (pV 1) (pC (.str "least")))))
  (sSet 3 (eNw (fP (plLst [(pV 1), (poN strD [(po2 ixD (pV 0) (pC (.int 1)))]), (poN strD [(poN lenD [(po2 ixD (pV 0) (pC (.int 2)))])])]))))
  sNil)
  (t_cw sp_claim_words)))))
def sp_cwords (d : Nat) : SpD := fun as M Q => ∃ (c : Cm) (n : Nat), as = [.d (cD c)] ∧ M = [] ∧ c.tk n d ∧ n ≤ 10000 ∧ (wtC c).length ≤ 100000 ∧ Q (.new ((wtC c).map .str)) []
local macro_rules
  | `(tactic| simp only [VLQ]) => `(tactic| simp -implicitDefEqProofs only [q_sSeq, q_sIf, q_sSet, q_sSub, q_sRet, q_sRetN, q_sNil, q_sDrop, q_sAsg, sPar, q_sParT, q_sAug, q_cP, q_bB, q_bTr, q_bNt, q_bAn, q_bOr, q_po1, q_po2, q_poN, pArgs, q_poIf, q_poAn, q_poOr, q_poNt, q_poTup, q_plLst, q_plN, q_pl2, q_pl1, q_pFz, q_pV, q_pC, q_eP, q_eo1, q_eo2, q_eoN, q_aP, q_aNil, q_aCons, q_eAn, q_eOr, q_eNt, q_eIf, q_eFz, q_eNw, q_fP, q_fN, q_f2, q_f1, q_tTupE, q_tLstF, q_tTr, q_tTb, q_tAn, q_tOrr, q_tNt, q_tYs, q_eSeal, q_eMt, q_poMt, q_mPure, q_eCh, q_pCh, ok_bind, ok_map, ok_some, ok_none, ok_gd, ok_ite, List.getElem?_cons_zero, List.getElem?_cons_succ, List.set_cons_zero, List.set_cons_succ, Option.join_some, Option.bind_some, Option.map_some, Option.bind_none, Option.map_none, ix_ref, ix_tup, ix_lst, ix_bor, ix_scr, add_int, add_str, add_tup, sub_int, mul_int, fdiv_int, mod_int, pow_int, neg_int, lt_int, le_int, gt_int, ge_int, eq_int, eq_str, eq_bl, ne_int, ne_str, ne_bl, is_bl, isnt_bl, is_non, isnt_non, len_tup, len_lst, len_ref, len_bor, len_scr, int_bl, int_int, abs_int, min_int, max_int, blD_bl, cell_lst, cellA_lst, cellA_dk, st_ref, at_0, at_1, at_2, at_3, at_4, ixN_10, ixN_20, ixN_21, ixN_30, ixN_31, ixN_32, dataS_d, datas_nil, datas_cons, truth_bl, notD, intS, blS, nonB, List.length_cons, List.length_nil, Nat.reduceAdd, endsF_rt, endsF_nx, rvQ_d, rvQ_new, rvQ_newK, rv_d, rv_ref, rv_cl, rv_ck, okRef_d, okRef_ref, List.not_mem_nil, List.nil_append, true_and, and_true, List.take_succ_cons, List.take_zero, Nat.zero_add, decide_eq_true_eq, Bool.false_eq_true, if_false, if_true, callS, handS_n, handS_tr, handS_fr, handS_fd, handS_fb, cellsAt_c, cellsAt_0, Option.getD_some, backS_0, backS_1, q_eCall, tup_lst, tup_tup, tup_ref, q_fLc, q_iRg, rng_1, rng_2, wipeS_c, wipeS_n, q_iPq, q_iSq, seq_tup, seq_lst, seq_bor, lst_lst, lst_bor, gdS_d, gdS_b, q_sFor, q_gNm, gcS_c, gcS_n, gcO_d, gcO_n, mapp, rcv_0, rcv_1, rcv_l, gcO_r0, gcO_r1, gcO_z, seal_d, eq_self, List.take_nil, List.cons_append, q_poSl, q_poI, q_poNo, slD_t, intO_i, list_t, list_l, in_str2, ofS_inj, String.reduceEq, or_false, false_or, or_true, true_or, or_self, decide_true, decide_false, Bool.not_true, Bool.not_false, at_m1_2, at_m1_3, cut_2, cut_3, all_bls, any_bls, count_bls, lcg_nm, lcg_tp, lst_ref, laid_l, laid_b, laid_r, list_b, list_r, len_refI, lenOf_ref, rcv_2, rcv_3, rcv_b, slF_l, slF_b, slF_r, cat_l, repr_d, q_plSl, backS_2, List.mem_singleton, one_ne, if_false, callS, seal_r, Nat.le_refl, cat_get, cat_set, List.append_assoc, List.length_append, List.append_nil, at_ite, Nat.zero_le, q_iTq, tupD])
  | `(tactic| simp only [VLQ, $xs,*]) => `(tactic| simp -implicitDefEqProofs only [q_sSeq, q_sIf, q_sSet, q_sSub, q_sRet, q_sRetN, q_sNil, q_sDrop, q_sAsg, sPar, q_sParT, q_sAug, q_cP, q_bB, q_bTr, q_bNt, q_bAn, q_bOr, q_po1, q_po2, q_poN, pArgs, q_poIf, q_poAn, q_poOr, q_poNt, q_poTup, q_plLst, q_plN, q_pl2, q_pl1, q_pFz, q_pV, q_pC, q_eP, q_eo1, q_eo2, q_eoN, q_aP, q_aNil, q_aCons, q_eAn, q_eOr, q_eNt, q_eIf, q_eFz, q_eNw, q_fP, q_fN, q_f2, q_f1, q_tTupE, q_tLstF, q_tTr, q_tTb, q_tAn, q_tOrr, q_tNt, q_tYs, q_eSeal, q_eMt, q_poMt, q_mPure, q_eCh, q_pCh, ok_bind, ok_map, ok_some, ok_none, ok_gd, ok_ite, List.getElem?_cons_zero, List.getElem?_cons_succ, List.set_cons_zero, List.set_cons_succ, Option.join_some, Option.bind_some, Option.map_some, Option.bind_none, Option.map_none, ix_ref, ix_tup, ix_lst, ix_bor, ix_scr, add_int, add_str, add_tup, sub_int, mul_int, fdiv_int, mod_int, pow_int, neg_int, lt_int, le_int, gt_int, ge_int, eq_int, eq_str, eq_bl, ne_int, ne_str, ne_bl, is_bl, isnt_bl, is_non, isnt_non, len_tup, len_lst, len_ref, len_bor, len_scr, int_bl, int_int, abs_int, min_int, max_int, blD_bl, cell_lst, cellA_lst, cellA_dk, st_ref, at_0, at_1, at_2, at_3, at_4, ixN_10, ixN_20, ixN_21, ixN_30, ixN_31, ixN_32, dataS_d, datas_nil, datas_cons, truth_bl, notD, intS, blS, nonB, List.length_cons, List.length_nil, Nat.reduceAdd, endsF_rt, endsF_nx, rvQ_d, rvQ_new, rvQ_newK, rv_d, rv_ref, rv_cl, rv_ck, okRef_d, okRef_ref, List.not_mem_nil, List.nil_append, true_and, and_true, List.take_succ_cons, List.take_zero, Nat.zero_add, decide_eq_true_eq, Bool.false_eq_true, if_false, if_true, callS, handS_n, handS_tr, handS_fr, handS_fd, handS_fb, cellsAt_c, cellsAt_0, Option.getD_some, backS_0, backS_1, q_eCall, tup_lst, tup_tup, tup_ref, q_fLc, q_iRg, rng_1, rng_2, wipeS_c, wipeS_n, q_iPq, q_iSq, seq_tup, seq_lst, seq_bor, lst_lst, lst_bor, gdS_d, gdS_b, q_sFor, q_gNm, gcS_c, gcS_n, gcO_d, gcO_n, mapp, rcv_0, rcv_1, rcv_l, gcO_r0, gcO_r1, gcO_z, seal_d, eq_self, List.take_nil, List.cons_append, q_poSl, q_poI, q_poNo, slD_t, intO_i, list_t, list_l, in_str2, ofS_inj, String.reduceEq, or_false, false_or, or_true, true_or, or_self, decide_true, decide_false, Bool.not_true, Bool.not_false, at_m1_2, at_m1_3, cut_2, cut_3, all_bls, any_bls, count_bls, lcg_nm, lcg_tp, lst_ref, laid_l, laid_b, laid_r, list_b, list_r, len_refI, lenOf_ref, rcv_2, rcv_3, rcv_b, slF_l, slF_b, slF_r, cat_l, repr_d, q_plSl, backS_2, List.mem_singleton, one_ne, if_false, callS, seal_r, Nat.le_refl, cat_get, cat_set, List.append_assoc, List.length_append, List.append_nil, at_ite, Nat.zero_le, q_iTq, tupD, $xs,*])
theorem cw_rest {d : Nat} {r : Nat} {n : Nat} {c : Cm} {Q : Rv → Mem → Prop} {h : List Str} {cs : List Cm} {M0 : Mem} {x1 : Option Sv} (hx1 : ∀ k, gcO k x1 = x1) (hs : ∀ x ∈ cs, ∃ e, e < d ∧ x.tk n e) (hn : n ≤ 10000) (hl : (h ++ cs.flatMap wtC).length ≤ 100000) (hr : M0 = [.lst (h.map .str)] ∧ r = 0 ∨ ∃ y, M0 = [.lst y, .lst (h.map .str)] ∧ r = 1)
    (z : Q (.new ((h ++ cs.flatMap wtC).map .str)) []) :
    t_cw (spB sp_cwords d) (endsF 0 Q) [some (.d (cD c)), x1, none, some (.ref r), some (.d (.lst (cs.map cD)))] M0 := by
  have hbd : ∀ (j : Nat) (c' : Cm), cs[j]? = some c' → (h ++ (cs.take j).flatMap wtC).length + (wtC c').length ≤ 100000 := fun j c' hj => by
    have h1 := List.getElem?_eq_some_iff.mp hj
    obtain ⟨hjl, e⟩ := h1
    have e2 : cs.flatMap wtC = (cs.take j).flatMap wtC ++ (wtC c' ++ (cs.drop (j + 1)).flatMap wtC) := by
      conv => lhs; rw [← List.take_append_drop j cs, List.drop_eq_getElem_cons hjl, e, List.flatMap_append, List.flatMap_cons]
    rw [e2] at hl
    simp only [List.length_append] at hl ⊢
    omega
  rcases hr with ⟨rfl, rfl⟩ | ⟨y, rfl, rfl⟩
  · unfold t_cw
    rw [sSeq_app]
    simp only [VLQ]
    refine for_ix _ (fun j δ M => ∃ o2, δ = [some (.d (cD c)), x1, gcO 1 o2, some (.ref 0), some (.d (.lst (cs.map cD)))] ∧ M = [.lst ((h ++ (cs.take j).flatMap wtC).map .str)]) ?_ ?_ _ _ ⟨none, rfl, by simp⟩
    · rintro δ M ⟨o2, rfl, rfl⟩
      rw [List.length_map, List.take_length]
      refine ⟨trivial, ?_⟩
      simp only [VLQ]
      exact z
    · rintro j x δ M nx hx ⟨o2, rfl, rfl⟩ k
      rw [List.getElem?_map] at hx
      obtain ⟨c', hj, rfl⟩ := Option.map_eq_some_iff.mp hx
      obtain ⟨e', he', hk⟩ := hs c' (List.mem_of_getElem? hj)
      have hlen := hbd j c' hj
      refine ⟨trivial, ?_⟩
      simp only [gNm, List.set_cons_succ, List.set_cons_zero]
      simp only [VLQ]
      refine ⟨e', he', c', n, rfl, rfl, hk, hn, by omega, ?_⟩
      simp only [VLQ, mExt, laidD]
      have et : (cs.take (j + 1)).flatMap wtC = (cs.take j).flatMap wtC ++ wtC c' := by
        rw [take_snoc hj, List.flatMap_append, List.flatMap_cons, List.flatMap_nil, List.append_nil]
      refine ⟨by rw [List.length_map, List.length_map, sizeLine_eq]; omega, ?_⟩
      refine k _ _ ⟨some (.d (cD c')), by simp only [gcS_c, gcS_n, gcO_d, hx1, gcO_r (show 0 < 1 by decide)], ?_⟩
      rw [et, ← List.append_assoc]; simp only [List.map_append]; rfl
  · unfold t_cw
    rw [sSeq_app]
    simp only [VLQ]
    refine for_ix _ (fun j δ M => ∃ o2, δ = [some (.d (cD c)), x1, gcO 2 o2, some (.ref 1), some (.d (.lst (cs.map cD)))] ∧ M = [.lst y, .lst ((h ++ (cs.take j).flatMap wtC).map .str)]) ?_ ?_ _ _ ⟨none, rfl, by simp⟩
    · rintro δ M ⟨o2, rfl, rfl⟩
      rw [List.length_map, List.take_length]
      refine ⟨trivial, ?_⟩
      simp only [VLQ]
      exact z
    · rintro j x δ M nx hx ⟨o2, rfl, rfl⟩ k
      rw [List.getElem?_map] at hx
      obtain ⟨c', hj, rfl⟩ := Option.map_eq_some_iff.mp hx
      obtain ⟨e', he', hk⟩ := hs c' (List.mem_of_getElem? hj)
      have hlen := hbd j c' hj
      refine ⟨trivial, ?_⟩
      simp only [gNm, List.set_cons_succ, List.set_cons_zero]
      simp only [VLQ]
      refine ⟨e', he', c', n, rfl, rfl, hk, hn, by omega, ?_⟩
      simp only [VLQ, mExt, laidD]
      have et : (cs.take (j + 1)).flatMap wtC = (cs.take j).flatMap wtC ++ wtC c' := by
        rw [take_snoc hj, List.flatMap_append, List.flatMap_cons, List.flatMap_nil, List.append_nil]
      refine ⟨by rw [List.length_map, List.length_map, sizeLine_eq]; omega, ?_⟩
      refine k _ _ ⟨some (.d (cD c')), by simp only [gcS_c, gcS_n, gcO_d, hx1, gcO_r (show 1 < 2 by decide)], ?_⟩
      rw [et, ← List.append_assoc]; simp only [List.map_append]; rfl
theorem nmT_str {M : Mem} {n : Nat} (h : n < 10000) : strD M [.d (.int (n : Int))] = some (.d (.str (nmT n))) := nm_str h
theorem pure_cwords {d : Nat} (as : List Sv) (M : Mem) (Q : Rv → Mem → Prop) (h : spB sp_cwords (d + 1) as M Q) : r_cwords (spB sp_cwords d) (endsF M.length Q) (startD 5 as) M := by
  obtain ⟨e, he, c, n, rfl, rfl, hk, hn, hl, z⟩ := h
  show r_cwords (spB sp_cwords d) (endsF 0 Q) [some (.d (cD c)), none, none, none, none] []
  rw [wtC_eq] at hl z
  have hs : ∀ x ∈ c.subs, ∃ e', e' < d ∧ x.tk n e' := fun x hx => by
    rcases tk_subs hk with h | ⟨e', rfl, h⟩
    · rw [h] at hx; cases hx
    · exact ⟨e', by omega, h x hx⟩
  have one : ∀ (x1 : Option Sv), (∀ k, gcO k x1 = x1) → t_cw (spB sp_cwords d) (endsF 0 Q) [some (.d (cD c)), x1, none, some (.ref 0), some (.d (.lst (c.subs.map cD)))] [.lst ((hdC c).map .str)] := fun x1 h1 => cw_rest h1 hs hn hl (.inl ⟨rfl, rfl⟩) z
  have two : ∀ (y : List D) (x1 : Option Sv), (∀ k, gcO k x1 = x1) → t_cw (spB sp_cwords d) (endsF 0 Q) [some (.d (cD c)), x1, none, some (.ref 1), some (.d (.lst (c.subs.map cD)))] [.lst y, .lst ((hdC c).map .str)] := fun y x1 h1 => cw_rest h1 hs hn hl (.inr ⟨y, rfl, rfl⟩) z
  generalize hT : t_cw (spB sp_cwords d) = T at one two
  unfold r_cwords
  rw [hT]
  have it : ∀ (x : Str) M, inTab tab_INNER M (.d (.str x)) = some (.d (.bl (lookT x tab_INNER).isSome)) := fun _ _ => rfl
  have l1 : (lookT "yes" tab_INNER).isSome = true := rfl
  have l2 : (lookT "no" tab_INNER).isSome = true := rfl
  have l3 : (lookT "not" tab_INNER).isSome = true := rfl
  have l4 : (lookT "same" tab_INNER).isSome = true := rfl
  have l5 : (lookT "and" tab_INNER).isSome = false := rfl
  have l6 : (lookT "or" tab_INNER).isSome = false := rfl
  have l7 : (lookT "least" tab_INNER).isSome = false := rfl
  rw [sSeq_app]
  cases c with
  | name k =>
    have hk : k < n := by cases e <;> exact hk
    have hs1 : ∀ M, strD M [.d (.int (k : Int))] = some (.d (.str (nmT k))) := fun M => nm_str (by omega)
    simp only [cD]
    simp only [VLQ, hs1]
    exact z
  | yes =>
    simp only [cD] at one ⊢
    simp only [VLQ, it, l1]
    exact one _ fun _ => rfl
  | no =>
    simp only [cD] at one ⊢
    simp only [VLQ, it, l2]
    exact one _ fun _ => rfl
  | neg c =>
    simp only [cD] at one ⊢
    simp only [VLQ, it, l3]
    exact one _ fun _ => rfl
  | same a b =>
    simp only [cD] at one ⊢
    simp only [VLQ, it, l4]
    exact one _ fun _ => rfl
  | all cs =>
    have hc : cs.length < 10000 := by
      cases e with
      | zero => exact hk.elim
      | succ e => exact hk.1
    have hs1 : ∀ M, strD M [.d (.int ((cs.map cD).length : Int))] = some (.d (.str (nmT cs.length))) := fun M => by
      rw [List.length_map]; exact nm_str hc
    simp only [cD, cDs_map] at one ⊢
    simp only [VLQ, it, l5, hs1]
    exact one _ fun _ => rfl
  | any cs =>
    have hc : cs.length < 10000 := by
      cases e with
      | zero => exact hk.elim
      | succ e => exact hk.1
    have hs1 : ∀ M, strD M [.d (.int ((cs.map cD).length : Int))] = some (.d (.str (nmT cs.length))) := fun M => by
      rw [List.length_map]; exact nm_str hc
    simp only [cD, cDs_map] at one ⊢
    simp only [VLQ, it, l6, hs1]
    exact one _ fun _ => rfl
  | least m cs =>
    have hc : m < 10000 ∧ cs.length < 10000 := by
      cases e with
      | zero => exact hk.elim
      | succ e => exact hk.1
    have hs1 : ∀ M, strD M [.d (.int ((cs.map cD).length : Int))] = some (.d (.str (nmT cs.length))) := fun M => by
      rw [List.length_map]; exact nm_str hc.2
    have hs2 : ∀ M, strD M [.d (.int (m : Int))] = some (.d (.str (nmT m))) := fun M => nm_str hc.1
    simp only [cD, cDs_map] at two ⊢
    simp only [VLQ, it, l7, hs1, hs2]
    exact two _ _ fun _ => rfl
end VL
set_option Elab.async false
set_option linter.all false
set_option maxRecDepth 100000
set_option maxHeartbeats 2000000
namespace VL
open PySem PySem.Spec L2 TL
theorem joinL_app {S : List Nat} : ∀ {a b : List (List Nat)}, a ≠ [] → b ≠ [] → joinL S (a ++ b) = joinL S a ++ (S ++ joinL S b)
  | [], _, h, _ => absurd rfl h
  | [p], q :: r, _, _ => rfl
  | [p], [], _, h => absurd rfl h
  | p :: q :: r, b, _, h => by
    show p ++ (S ++ joinL S (q :: r ++ b)) = (p ++ (S ++ joinL S (q :: r))) ++ (S ++ joinL S b)
    rw [joinL_app (by simp) h]
    simp only [List.append_assoc]
theorem joinL_flat {S : List Nat} : ∀ {ps : List (List (List Nat))}, (∀ p ∈ ps, p ≠ []) → joinL S (ps.map (joinL S)) = joinL S ps.flatten
  | [], _ => rfl
  | [p], _ => by simp [joinL]
  | p :: q :: r, h => by
    have ih := joinL_flat (S := S) (ps := q :: r) fun x hx => h x (List.mem_cons_of_mem _ hx)
    have hp := h p List.mem_cons_self
    have hq := h q (List.mem_cons_of_mem _ List.mem_cons_self)
    have hne : (q :: r).flatten ≠ [] := fun e => by
      rw [List.flatten_cons] at e
      exact hq (List.append_eq_nil_iff.mp e).1
    rw [List.flatten_cons, joinL_app hp hne, ← ih]; rfl
theorem join_flat {y : Str} {hd : List Str} {ps : List (List Str)} (h0 : hd ≠ []) (h : ∀ p ∈ ps, p ≠ []) : Txt.join y (hd ++ ps.map (Txt.join y)) = Txt.join y (hd ++ ps.flatten) := by
  refine ext_tl ?_
  rw [join_eq, join_eq, tl_join, tl_join]
  have e : (hd ++ ps.map (Txt.join y)).map tl = hd.map tl ++ (ps.map (List.map tl)).map (joinL (tl y)) := by
    rw [List.map_append, List.map_map, List.map_map]
    congr 1
    refine List.map_congr_left fun p _ => ?_
    show tl (Txt.join y p) = joinL (tl y) (p.map tl)
    rw [join_eq, tl_join]
  rw [e, List.map_append, List.map_flatten]
  by_cases hps : ps = []
  · subst hps; rfl
  have h1 : hd.map tl ≠ [] := fun e => h0 (List.map_eq_nil_iff.mp e)
  have hn : ∀ p ∈ ps.map (List.map tl), p ≠ [] := fun p hp => by
    obtain ⟨q, hq, rfl⟩ := List.mem_map.mp hp
    exact fun e => h q hq (List.map_eq_nil_iff.mp e)
  have h2 : (ps.map (List.map tl)).map (joinL (tl y)) ≠ [] := fun e => hps (List.map_eq_nil_iff.mp (List.map_eq_nil_iff.mp e))
  have h3 : (ps.map (List.map tl)).flatten ≠ [] := fun e => by
    cases ps with
    | nil => exact hps rfl
    | cons p r =>
      rw [List.map_cons, List.flatten_cons] at e
      exact hn _ (by simp) (List.append_eq_nil_iff.mp e).1
  rw [joinL_app h1 h2, joinL_app h1 h3, joinL_flat hn]
theorem wtC_ne (c : Cm) : wtC c ≠ [] := by cases c <;> simp [wtC]
/-- what is true of the words -/
theorem wt_all {P : Str → Prop} {n : Nat} (h0 : ∀ s ∈ (["yes", "no", "not", "same", "and", "or", "least"] : List Str), P s) (hn : ∀ k, k < 10000 → P (nmT k)) (hn2 : n ≤ 10000) : ∀ (d : Nat) (c : Cm), c.tk n d → ∀ s ∈ wtC c, P s := by
  have hd : ∀ (d : Nat) (c : Cm), c.tk n d → ∀ s ∈ hdC c, P s := fun d c hk s hs => by
    cases c with
    | yes => exact h0 s (by rw [List.mem_singleton.mp hs]; simp)
    | no => exact h0 s (by rw [List.mem_singleton.mp hs]; simp)
    | name k =>
      have hk : k < n := by cases d <;> exact hk
      rw [List.mem_singleton.mp hs]; exact hn k (by omega)
    | neg c => exact h0 s (by rw [List.mem_singleton.mp hs]; simp)
    | same a b => exact h0 s (by rw [List.mem_singleton.mp hs]; simp)
    | all cs =>
      cases d with
      | zero => exact hk.elim
      | succ d =>
        have hs : s ∈ (["and", nmT cs.length] : List Str) := hs
        simp only [List.mem_cons, List.not_mem_nil, or_false] at hs
        rcases hs with rfl | rfl
        · exact h0 _ (by simp)
        · exact hn _ hk.1
    | any cs =>
      cases d with
      | zero => exact hk.elim
      | succ d =>
        have hs : s ∈ (["or", nmT cs.length] : List Str) := hs
        simp only [List.mem_cons, List.not_mem_nil, or_false] at hs
        rcases hs with rfl | rfl
        · exact h0 _ (by simp)
        · exact hn _ hk.1
    | least m cs =>
      cases d with
      | zero => exact hk.elim
      | succ d =>
        have hs : s ∈ (["least", nmT m, nmT cs.length] : List Str) := hs
        simp only [List.mem_cons, List.not_mem_nil, or_false] at hs
        rcases hs with rfl | rfl | rfl
        · exact h0 _ (by simp)
        · exact hn _ hk.1.1
        · exact hn _ hk.1.2
  intro d
  induction d with
  | zero =>
    intro c hk s hs
    rw [wtC_eq] at hs
    rcases List.mem_append.mp hs with h | h
    · exact hd 0 c hk s h
    · rcases tk_subs hk with e | ⟨e, h2, _⟩
      · rw [e] at h; cases h
      · cases h2
  | succ d ih =>
    intro c hk s hs
    rw [wtC_eq] at hs
    rcases List.mem_append.mp hs with h | h
    · exact hd _ c hk s h
    · rcases tk_subs hk with e | ⟨e, h2, h3⟩
      · rw [e] at h; cases h
      · cases h2
        obtain ⟨x, hx, hs⟩ := List.mem_flatMap.mp h
        exact ih x (h3 x hx) s hs
theorem wt_len {n d : Nat} {c : Cm} (hk : c.tk n d) (hn : n ≤ 10000) : ∀ s ∈ wtC c, s.length ≤ 5 := wt_all (by
  intro s hs
  simp only [List.mem_cons, List.not_mem_nil, or_false] at hs
  rcases hs with rfl | rfl | rfl | rfl | rfl | rfl | rfl <;> decide) (fun k hk => Nat.le_trans (nmT_len hk) (by decide)) hn d c hk
def ctT (c : Cm) : Str := Txt.join " " (wtC c)
theorem wt_sum {n d : Nat} {c : Cm} (hk : c.tk n d) (hn : n ≤ 10000) (hl : (wtC c).length ≤ 100000) : ((wtC c).map (·.length)).sum + (wtC c).length * (" " : Str).length ≤ 16777216 := by
  have h := sumC_le (g := fun s : Str => s.length) (c := 5) (l := wtC c) (wt_len hk hn)
  have e : (" " : Str).length = 1 := ofS_len " "
  rw [e]; omega
def r_ctext (sp_claim_words : SpD) : TS' :=
  (sRet (eMt "str" (mPure joinD) (eP (pC (.str " "))) (aCons (eSeal 0 (eCall [false] sp_claim_words (aP [(pV 0)]))) (aP []))))
def sp_ctext (d : Nat) : SpD := fun as M Q => ∃ (c : Cm) (n e : Nat), as = [.d (cD c)] ∧ M = [] ∧ c.tk n e ∧ e < d ∧ n ≤ 10000 ∧ (wtC c).length ≤ 100000 ∧ Q (.d (.str (ctT c))) []
local macro_rules
  | `(tactic| simp only [VLQ]) => `(tactic| simp -implicitDefEqProofs only [q_sSeq, q_sIf, q_sSet, q_sSub, q_sRet, q_sRetN, q_sNil, q_sDrop, q_sAsg, sPar, q_sParT, q_sAug, q_cP, q_bB, q_bTr, q_bNt, q_bAn, q_bOr, q_po1, q_po2, q_poN, pArgs, q_poIf, q_poAn, q_poOr, q_poNt, q_poTup, q_plLst, q_plN, q_pl2, q_pl1, q_pFz, q_pV, q_pC, q_eP, q_eo1, q_eo2, q_eoN, q_aP, q_aNil, q_aCons, q_eAn, q_eOr, q_eNt, q_eIf, q_eFz, q_eNw, q_fP, q_fN, q_f2, q_f1, q_tTupE, q_tLstF, q_tTr, q_tTb, q_tAn, q_tOrr, q_tNt, q_tYs, q_eSeal, q_eMt, q_poMt, q_mPure, q_eCh, q_pCh, ok_bind, ok_map, ok_some, ok_none, ok_gd, ok_ite, List.getElem?_cons_zero, List.getElem?_cons_succ, List.set_cons_zero, List.set_cons_succ, Option.join_some, Option.bind_some, Option.map_some, Option.bind_none, Option.map_none, ix_ref, ix_tup, ix_lst, ix_bor, ix_scr, add_int, add_str, add_tup, sub_int, mul_int, fdiv_int, mod_int, pow_int, neg_int, lt_int, le_int, gt_int, ge_int, eq_int, eq_str, eq_bl, ne_int, ne_str, ne_bl, is_bl, isnt_bl, is_non, isnt_non, len_tup, len_lst, len_ref, len_bor, len_scr, int_bl, int_int, abs_int, min_int, max_int, blD_bl, cell_lst, cellA_lst, cellA_dk, st_ref, at_0, at_1, at_2, at_3, at_4, ixN_10, ixN_20, ixN_21, ixN_30, ixN_31, ixN_32, dataS_d, datas_nil, datas_cons, truth_bl, notD, intS, blS, nonB, List.length_cons, List.length_nil, Nat.reduceAdd, endsF_rt, endsF_nx, rvQ_d, rvQ_new, rvQ_newK, rv_d, rv_ref, rv_cl, rv_ck, okRef_d, okRef_ref, List.not_mem_nil, List.nil_append, true_and, and_true, List.take_succ_cons, List.take_zero, Nat.zero_add, decide_eq_true_eq, Bool.false_eq_true, if_false, if_true, callS, handS_n, handS_tr, handS_fr, handS_fd, handS_fb, cellsAt_c, cellsAt_0, Option.getD_some, backS_0, backS_1, q_eCall, tup_lst, tup_tup, tup_ref, q_fLc, q_iRg, rng_1, rng_2, wipeS_c, wipeS_n, q_iPq, q_iSq, seq_tup, seq_lst, seq_bor, lst_lst, lst_bor, gdS_d, gdS_b, q_sFor, q_gNm, gcS_c, gcS_n, gcO_d, gcO_n, mapp, rcv_0, rcv_1, rcv_l, gcO_r0, gcO_r1, gcO_z, seal_d, eq_self, List.take_nil, List.cons_append, q_poSl, q_poI, q_poNo, slD_t, intO_i, list_t, list_l, in_str2, ofS_inj, String.reduceEq, or_false, false_or, or_true, true_or, or_self, decide_true, decide_false, Bool.not_true, Bool.not_false, at_m1_2, at_m1_3, cut_2, cut_3, all_bls, any_bls, count_bls, lcg_nm, lcg_tp, lst_ref, laid_l, laid_b, laid_r, list_b, list_r, len_refI, lenOf_ref, rcv_2, rcv_3, rcv_b, slF_l, slF_b, slF_r, cat_l, repr_d, q_plSl, backS_2, List.mem_singleton, one_ne, if_false, callS, seal_r, Nat.le_refl, cat_get, cat_set, List.append_assoc, List.length_append, List.append_nil, at_ite, Nat.zero_le, q_iTq, tupD])
  | `(tactic| simp only [VLQ, $xs,*]) => `(tactic| simp -implicitDefEqProofs only [q_sSeq, q_sIf, q_sSet, q_sSub, q_sRet, q_sRetN, q_sNil, q_sDrop, q_sAsg, sPar, q_sParT, q_sAug, q_cP, q_bB, q_bTr, q_bNt, q_bAn, q_bOr, q_po1, q_po2, q_poN, pArgs, q_poIf, q_poAn, q_poOr, q_poNt, q_poTup, q_plLst, q_plN, q_pl2, q_pl1, q_pFz, q_pV, q_pC, q_eP, q_eo1, q_eo2, q_eoN, q_aP, q_aNil, q_aCons, q_eAn, q_eOr, q_eNt, q_eIf, q_eFz, q_eNw, q_fP, q_fN, q_f2, q_f1, q_tTupE, q_tLstF, q_tTr, q_tTb, q_tAn, q_tOrr, q_tNt, q_tYs, q_eSeal, q_eMt, q_poMt, q_mPure, q_eCh, q_pCh, ok_bind, ok_map, ok_some, ok_none, ok_gd, ok_ite, List.getElem?_cons_zero, List.getElem?_cons_succ, List.set_cons_zero, List.set_cons_succ, Option.join_some, Option.bind_some, Option.map_some, Option.bind_none, Option.map_none, ix_ref, ix_tup, ix_lst, ix_bor, ix_scr, add_int, add_str, add_tup, sub_int, mul_int, fdiv_int, mod_int, pow_int, neg_int, lt_int, le_int, gt_int, ge_int, eq_int, eq_str, eq_bl, ne_int, ne_str, ne_bl, is_bl, isnt_bl, is_non, isnt_non, len_tup, len_lst, len_ref, len_bor, len_scr, int_bl, int_int, abs_int, min_int, max_int, blD_bl, cell_lst, cellA_lst, cellA_dk, st_ref, at_0, at_1, at_2, at_3, at_4, ixN_10, ixN_20, ixN_21, ixN_30, ixN_31, ixN_32, dataS_d, datas_nil, datas_cons, truth_bl, notD, intS, blS, nonB, List.length_cons, List.length_nil, Nat.reduceAdd, endsF_rt, endsF_nx, rvQ_d, rvQ_new, rvQ_newK, rv_d, rv_ref, rv_cl, rv_ck, okRef_d, okRef_ref, List.not_mem_nil, List.nil_append, true_and, and_true, List.take_succ_cons, List.take_zero, Nat.zero_add, decide_eq_true_eq, Bool.false_eq_true, if_false, if_true, callS, handS_n, handS_tr, handS_fr, handS_fd, handS_fb, cellsAt_c, cellsAt_0, Option.getD_some, backS_0, backS_1, q_eCall, tup_lst, tup_tup, tup_ref, q_fLc, q_iRg, rng_1, rng_2, wipeS_c, wipeS_n, q_iPq, q_iSq, seq_tup, seq_lst, seq_bor, lst_lst, lst_bor, gdS_d, gdS_b, q_sFor, q_gNm, gcS_c, gcS_n, gcO_d, gcO_n, mapp, rcv_0, rcv_1, rcv_l, gcO_r0, gcO_r1, gcO_z, seal_d, eq_self, List.take_nil, List.cons_append, q_poSl, q_poI, q_poNo, slD_t, intO_i, list_t, list_l, in_str2, ofS_inj, String.reduceEq, or_false, false_or, or_true, true_or, or_self, decide_true, decide_false, Bool.not_true, Bool.not_false, at_m1_2, at_m1_3, cut_2, cut_3, all_bls, any_bls, count_bls, lcg_nm, lcg_tp, lst_ref, laid_l, laid_b, laid_r, list_b, list_r, len_refI, lenOf_ref, rcv_2, rcv_3, rcv_b, slF_l, slF_b, slF_r, cat_l, repr_d, q_plSl, backS_2, List.mem_singleton, one_ne, if_false, callS, seal_r, Nat.le_refl, cat_get, cat_set, List.append_assoc, List.length_append, List.append_nil, at_ite, Nat.zero_le, q_iTq, tupD, $xs,*])
theorem pure_ctext {d : Nat} (as : List Sv) (M : Mem) (Q : Rv → Mem → Prop) (h : sp_ctext d as M Q) : r_ctext (spB sp_cwords d) (endsF M.length Q) (startD 1 as) M := by
  obtain ⟨c, n, e, rfl, rfl, hk, he, hn, hl, z⟩ := h
  show r_ctext (spB sp_cwords d) (endsF 0 Q) [some (.d (cD c))] []
  have hj : ∀ M, joinD M (.d (.str " ")) [.d (.lst ((wtC c).map .str))] = some (.d (.str (ctT c))) := fun M => join_l (wt_sum hk hn hl)
  unfold r_ctext
  simp only [VLQ]
  refine ⟨rcv_s, e, he, c, n, rfl, rfl, hk, hn, hl, ?_⟩
  simp only [rvQ_new, backS_0, seal_new (Nat.zero_le _), ok_some]
  simp only [VLQ, hj]
  exact z
end VL
set_option Elab.async false
set_option linter.all false
set_option maxRecDepth 100000
set_option maxHeartbeats 1000000
namespace VL
open PySem PySem.Spec L2 RT RZ PyProof.Rows
end VL
set_option Elab.async false
set_option linter.all false
set_option maxRecDepth 100000
set_option maxHeartbeats 4000000
namespace VL
open PySem PySem.Spec L2 RT RZ PyProof.Rows
end VL
set_option Elab.async false
set_option linter.all false
set_option maxRecDepth 100000
set_option maxHeartbeats 4000000
namespace VL
open PySem PySem.Spec L2 RT RZ PyProof.Rows
end VL
set_option Elab.async false
set_option linter.all false
set_option maxRecDepth 100000
set_option maxHeartbeats 4000000
namespace VL
open PySem PySem.Spec L2 RT RZ PyProof.Rows HT
open L2.DX (itemsO itemsO_ok takeT)
section
variable {X : Cx}
/-- pairs of an int and something -/
def IsIP (h : Heap) (v : Value) (n : Int) : Prop := ∃ a o t u k, v = .ref a ∧ h.get? a = some o ∧ o.cls = .type "tuple" ∧ o.data = .seq #[.int n t, u] k
theorem IsIP.keeps {h h' : Heap} {v : Value} {n : Int} (p : IsIP h v n) (k : ∀ b o, h.get? b = some o → o.cls = .type "tuple" → h'.get? b = some o) : IsIP h' v n := by
  obtain ⟨a, o, t, u, m, e, ho, hc, hd⟩ := p
  exact ⟨a, o, t, u, m, e, k _ _ ho hc, hc, hd⟩
end
end VL
set_option Elab.async false
set_option linter.all false
set_option maxRecDepth 100000
set_option maxHeartbeats 4000000
namespace VL
open PySem PySem.Spec L2 RT RZ
/-- a list that was not there at the start -/
abbrev NF (H : Hp) (ι : Ix) : Bool → Addr → Prop := fun b a => b = true → ∀ o, H a = some o → some a ∈ ι
section
variable {K : PySem.W.Frag} {G : Gd} {δ : DS} {M : Mem} {ι : Ix} {σ : L2.St} {H : Hp}
theorem NF.to {ι' : Ix} {H' : Hp} (k : Kp ι H ι' H') {b : Bool} {a : Addr} (h : NF H' ι' b a) : NF H ι b a := fun hb o e => by
  by_cases hi : some a ∈ ι
  · exact hi
  · obtain ⟨q, n⟩ := k a o e hi
    exact absurd (h hb o q) n
mutual
/-- what is known of the lists' places may be told otherwise -/
theorem RD.nn {N N' : Bool → Addr → Prop} (h : ∀ a xs, H a = some (.lst xs) → some a ∉ ι → N true a → N' true a) : ∀ (d : D) (v : V), RD K N H ι d v → RD K N' H ι d v := RD.go (fun a xs q n => ⟨q, n⟩) (fun a o l q n => ⟨q, n⟩) (fun a xs q n z => ⟨q, n, h a xs q n z⟩)
theorem RDs.nn {N N' : Bool → Addr → Prop} (h : ∀ a xs, H a = some (.lst xs) → some a ∉ ι → N true a → N' true a) : ∀ (d : List D) (v : List V), RDs K N H ι d v → RDs K N' H ι d v := RDs.go (fun a xs q n => ⟨q, n⟩) (fun a o l q n => ⟨q, n⟩) (fun a xs q n z => ⟨q, n, h a xs q n z⟩)
end
end
end VL
set_option Elab.async false
set_option linter.all false
set_option maxRecDepth 100000
set_option maxHeartbeats 2000000
namespace VL
open PySem PySem.Spec L2 RT RZ PyProof.Rows HT
open L2.DX (itemsO)
end VL
set_option Elab.async false
set_option linter.all false
set_option maxRecDepth 100000
set_option maxHeartbeats 2000000
namespace VL
open PySem PySem.Spec L2 RT RZ PyProof.Rows HT
end VL
set_option Elab.async false
set_option linter.all false
set_option maxRecDepth 100000
set_option maxHeartbeats 2000000
namespace VL
open PySem PySem.Spec L2 RT RZ PyProof.Rows HT
end VL
set_option Elab.async false
set_option linter.all false
set_option maxRecDepth 100000
set_option maxHeartbeats 4000000
namespace VL
open PySem PySem.Spec L2 RT RZ PyProof.Rows HT
end VL
set_option Elab.async false
set_option linter.all false
set_option maxRecDepth 100000
set_option maxHeartbeats 4000000
namespace VL
open PySem PySem.Spec L2 RT RZ PyProof.Rows
end VL
set_option Elab.async false
set_option linter.all false
set_option maxRecDepth 100000
set_option maxHeartbeats 2000000
namespace VL
open PySem PySem.Spec L2
local macro_rules
  | `(tactic| simp only [VLY]) => `(tactic| simp only [sSeq, sIf, sSet, sSub, sRet, sRetN, sNil, sDrop, sAsg, sPar, sParT, sAug, cP, bB, bTr, bNt, bAn, bOr, po1, po2, poN, pArgs, poIf, poAn, poOr, poNt, poTup, plLst, plN, pl2, pl1, pFz, pV, pC, eP, eo1, eo2, eoN, aP, aNil, aCons, eAn, eOr, eNt, eIf, eFz, eNw, fP, fN, f2, f1, tTupE, tLstF, tTr, tTb, tAn, tOrr, tNt, tYs, eSeal, eMt, poMt, mPure, eCh, pCh, ok_bind, ok_map, ok_some, ok_none, ok_gd, ok_ite, List.getElem?_cons_zero, List.getElem?_cons_succ, List.set_cons_zero, List.set_cons_succ, Option.join_some, Option.bind_some, Option.map_some, Option.bind_none, Option.map_none, ix_ref, ix_tup, ix_lst, ix_bor, ix_scr, add_int, add_str, add_tup, sub_int, mul_int, fdiv_int, mod_int, pow_int, neg_int, lt_int, le_int, gt_int, ge_int, eq_int, eq_str, eq_bl, ne_int, ne_str, ne_bl, is_bl, isnt_bl, is_non, isnt_non, len_tup, len_lst, len_ref, len_bor, len_scr, int_bl, int_int, abs_int, min_int, max_int, blD_bl, cell_lst, cellA_lst, cellA_dk, st_ref, at_0, at_1, at_2, at_3, at_4, ixN_10, ixN_20, ixN_21, ixN_30, ixN_31, ixN_32, dataS_d, datas_nil, datas_cons, truth_bl, notD, intS, blS, nonB, List.length_cons, List.length_nil, Nat.reduceAdd, endsF_rt, endsF_nx, rvQ_d, rvQ_new, rvQ_newK, rv_d, rv_ref, rv_cl, rv_ck, okRef_d, okRef_ref, List.not_mem_nil, List.nil_append, true_and, and_true, List.take_succ_cons, List.take_zero, Nat.zero_add, decide_eq_true_eq, Bool.false_eq_true, if_false, if_true, callS, handS_n, handS_tr, handS_fr, handS_fd, handS_fb, cellsAt_c, cellsAt_0, Option.getD_some, backS_0, backS_1, eCall, tup_lst, tup_tup, tup_ref, fLc, iRg, rng_1, rng_2, wipeS_c, wipeS_n, iPq, iSq, seq_tup, seq_lst, seq_bor, lst_lst, lst_bor, gdS_d, gdS_b, sFor, gNm, gcS_c, gcS_n, gcO_d, gcO_n, mapp, rcv_0, rcv_1, rcv_l, gcO_r0, gcO_r1, gcO_z, seal_d, eq_self, List.take_nil, List.cons_append, poSl, poI, poNo, slD_t, intO_i, list_t, list_l, in_str2, ofS_inj, String.reduceEq, or_false, false_or, or_true, true_or, or_self, decide_true, decide_false, Bool.not_true, Bool.not_false, at_m1_2, at_m1_3, cut_2, cut_3, all_bls, any_bls, count_bls, lcg_nm, lcg_tp, lst_ref, laid_l, laid_b, laid_r, list_b, list_r, len_refI, lenOf_ref, rcv_2, rcv_3, rcv_b, slF_l, slF_b, slF_r, cat_l, repr_d, plSl, backS_2, List.mem_singleton, one_ne, if_false, callS, seal_r, Nat.le_refl, cat_get, cat_set, List.append_assoc, List.length_append, List.append_nil, at_ite, Nat.zero_le, iTq, tupD])
  | `(tactic| simp only [VLY, $xs,*]) => `(tactic| simp only [sSeq, sIf, sSet, sSub, sRet, sRetN, sNil, sDrop, sAsg, sPar, sParT, sAug, cP, bB, bTr, bNt, bAn, bOr, po1, po2, poN, pArgs, poIf, poAn, poOr, poNt, poTup, plLst, plN, pl2, pl1, pFz, pV, pC, eP, eo1, eo2, eoN, aP, aNil, aCons, eAn, eOr, eNt, eIf, eFz, eNw, fP, fN, f2, f1, tTupE, tLstF, tTr, tTb, tAn, tOrr, tNt, tYs, eSeal, eMt, poMt, mPure, eCh, pCh, ok_bind, ok_map, ok_some, ok_none, ok_gd, ok_ite, List.getElem?_cons_zero, List.getElem?_cons_succ, List.set_cons_zero, List.set_cons_succ, Option.join_some, Option.bind_some, Option.map_some, Option.bind_none, Option.map_none, ix_ref, ix_tup, ix_lst, ix_bor, ix_scr, add_int, add_str, add_tup, sub_int, mul_int, fdiv_int, mod_int, pow_int, neg_int, lt_int, le_int, gt_int, ge_int, eq_int, eq_str, eq_bl, ne_int, ne_str, ne_bl, is_bl, isnt_bl, is_non, isnt_non, len_tup, len_lst, len_ref, len_bor, len_scr, int_bl, int_int, abs_int, min_int, max_int, blD_bl, cell_lst, cellA_lst, cellA_dk, st_ref, at_0, at_1, at_2, at_3, at_4, ixN_10, ixN_20, ixN_21, ixN_30, ixN_31, ixN_32, dataS_d, datas_nil, datas_cons, truth_bl, notD, intS, blS, nonB, List.length_cons, List.length_nil, Nat.reduceAdd, endsF_rt, endsF_nx, rvQ_d, rvQ_new, rvQ_newK, rv_d, rv_ref, rv_cl, rv_ck, okRef_d, okRef_ref, List.not_mem_nil, List.nil_append, true_and, and_true, List.take_succ_cons, List.take_zero, Nat.zero_add, decide_eq_true_eq, Bool.false_eq_true, if_false, if_true, callS, handS_n, handS_tr, handS_fr, handS_fd, handS_fb, cellsAt_c, cellsAt_0, Option.getD_some, backS_0, backS_1, eCall, tup_lst, tup_tup, tup_ref, fLc, iRg, rng_1, rng_2, wipeS_c, wipeS_n, iPq, iSq, seq_tup, seq_lst, seq_bor, lst_lst, lst_bor, gdS_d, gdS_b, sFor, gNm, gcS_c, gcS_n, gcO_d, gcO_n, mapp, rcv_0, rcv_1, rcv_l, gcO_r0, gcO_r1, gcO_z, seal_d, eq_self, List.take_nil, List.cons_append, poSl, poI, poNo, slD_t, intO_i, list_t, list_l, in_str2, ofS_inj, String.reduceEq, or_false, false_or, or_true, true_or, or_self, decide_true, decide_false, Bool.not_true, Bool.not_false, at_m1_2, at_m1_3, cut_2, cut_3, all_bls, any_bls, count_bls, lcg_nm, lcg_tp, lst_ref, laid_l, laid_b, laid_r, list_b, list_r, len_refI, lenOf_ref, rcv_2, rcv_3, rcv_b, slF_l, slF_b, slF_r, cat_l, repr_d, plSl, backS_2, List.mem_singleton, one_ne, if_false, callS, seal_r, Nat.le_refl, cat_get, cat_set, List.append_assoc, List.length_append, List.append_nil, at_ite, Nat.zero_le, iTq, tupD, $xs,*])
set_option maxHeartbeats 2000000
set_option maxHeartbeats 2000000
set_option maxHeartbeats 2000000
set_option maxHeartbeats 2000000
set_option maxHeartbeats 2000000
set_option maxHeartbeats 2000000
set_option maxHeartbeats 2000000
set_option maxHeartbeats 2000000
set_option maxHeartbeats 2000000
set_option maxHeartbeats 2000000
set_option maxHeartbeats 2000000
set_option maxHeartbeats 2000000
set_option maxHeartbeats 2000000
set_option maxHeartbeats 2000000
set_option maxHeartbeats 2000000
set_option maxHeartbeats 2000000
set_option maxHeartbeats 2000000
set_option maxHeartbeats 2000000
set_option maxHeartbeats 2000000
set_option maxHeartbeats 2000000
set_option maxHeartbeats 2000000
set_option maxHeartbeats 2000000
set_option maxHeartbeats 2000000
set_option maxHeartbeats 2000000
set_option maxHeartbeats 2000000
set_option maxHeartbeats 2000000
theorem lc_gf {α : Type} {g : TG'} {tt : TT'} {te : TE'} {δw : DS} {gd : Mem → Prop} {Q : List D → Mem → Prop} {e f : α → D} {p : α → Bool} {M : Mem} (hg : gd M) : ∀ {l : List α} {acc : List D},
    (∀ x ∈ l, ∀ (R1 : QD) (R2 : Mem → Prop), (p x = true → R1 (.d (f x)) M) → (p x = false → R2 M) → g (e x) δw M fun δ2 M2 => tt δ2 M2 fun b M3 => if b then te δ2 M3 R1 else R2 M3) → Q (acc ++ (l.filter p).map f) M → lcL g tt te δw gd Q (l.map e) acc M
  | [], acc, h, q => ⟨hg, by simpa using q⟩
  | d :: ds, acc, h, q => by
    refine ⟨hg, h d List.mem_cons_self _ _ (fun e => ?_) (fun e => ?_)⟩
    · show ok (some (f d)) _
      rw [ok_some]
      refine lc_gf hg (fun x hx => h x (List.mem_cons_of_mem _ hx)) ?_
      rw [List.filter_cons_of_pos e, List.map_cons] at q
      rw [List.append_assoc]; exact q
    · refine lc_gf hg (fun x hx => h x (List.mem_cons_of_mem _ hx)) ?_
      rw [List.filter_cons_of_neg (by rw [e]; decide)] at q
      exact q
theorem lc_gm {α : Type} {g : TG'} {te : TE'} {δw : DS} {gd : Mem → Prop} {Q : List D → Mem → Prop} {e f : α → D} {M : Mem} (hg : gd M) : ∀ {l : List α} {acc : List D},
    (∀ x ∈ l, ∀ R : QD, R (.d (f x)) M → g (e x) δw M fun δ2 M2 => te δ2 M2 R) → Q (acc ++ l.map f) M → lcL g tYs te δw gd Q (l.map e) acc M
  | [], acc, h, q => ⟨hg, by simpa using q⟩
  | d :: ds, acc, h, q => by
    refine ⟨hg, h d List.mem_cons_self _ ?_⟩
    show ok (some (f d)) _
    rw [ok_some]
    refine lc_gm hg (fun x hx => h x (List.mem_cons_of_mem _ hx)) ?_
    rw [List.map_cons] at q
    rw [List.append_assoc]; exact q
end VL
set_option Elab.async false
set_option linter.all false
set_option maxRecDepth 100000
set_option maxHeartbeats 2000000
namespace VL
open PySem PySem.Spec L2 TL
theorem wtC_pos (c : Cm) : 1 ≤ (wtC c).length := by
  have := wtC_ne c
  cases h : wtC c with
  | nil => exact absurd h this
  | cons _ _ => exact Nat.succ_le_succ (Nat.zero_le _)
mutual
theorem tk_pq {n : Nat} (hn : n ≤ 10000) : ∀ (d : Nat) (c : Cm), c.tk n d → Pq (50 * (wtC c).length - 1) (2 * d + 1) (cD c)
  | d, .yes, _ => (Pq.tup (Pqs.cons (Pq.str (n := 10) (by decide +kernel)) Pqs.nil)).mono (by simp only [wtC, List.length_cons, List.length_nil]; omega) (by omega)
  | d, .no, _ => (Pq.tup (Pqs.cons (Pq.str (n := 10) (by decide +kernel)) Pqs.nil)).mono (by simp only [wtC, List.length_cons, List.length_nil]; omega) (by omega)
  | d, .name k, o => by
    have hk : k < n := by cases d <;> exact o
    exact (Pq.tup (Pqs.cons (Pq.str (n := 10) (by decide +kernel)) (Pqs.cons (Pq.nat (by omega)) Pqs.nil))).mono (by simp only [wtC, List.length_cons, List.length_nil]; omega) (by omega)
  | d + 1, .neg c, o => by
    have h := tk_pq hn d c o
    exact (Pq.tup (Pqs.cons ((Pq.str (n := 10) (by decide +kernel)).mono (Nat.le_refl _) (Nat.zero_le _)) (Pqs.cons h Pqs.nil))).mono (by simp only [wtC, List.length_cons]; omega) (by omega)
  | d + 1, .same a b, o => by
    have h := tk_pq hn d a o.1
    have h' := tk_pq hn d b o.2
    have := wtC_pos a; have := wtC_pos b
    exact (Pq.tup (Pqs.cons ((Pq.str (n := 10) (by decide +kernel)).mono (Nat.le_refl _) (Nat.zero_le _)) (Pqs.cons h (Pqs.cons h' Pqs.nil)))).mono (by simp only [wtC, List.length_cons, List.length_append]; omega) (by omega)
  | d + 1, .all cs, o => by
    have h := tks_pq hn d cs o.2
    exact (Pq.tup (Pqs.cons ((Pq.str (n := 10) (by decide +kernel)).mono (Nat.le_refl _) (Nat.zero_le _)) (Pqs.cons (Pq.tup h) Pqs.nil))).mono (by simp only [wtC, List.length_cons]; omega) (by omega)
  | d + 1, .any cs, o => by
    have h := tks_pq hn d cs o.2
    exact (Pq.tup (Pqs.cons ((Pq.str (n := 10) (by decide +kernel)).mono (Nat.le_refl _) (Nat.zero_le _)) (Pqs.cons (Pq.tup h) Pqs.nil))).mono (by simp only [wtC, List.length_cons]; omega) (by omega)
  | d + 1, .least m cs, o => by
    have h := tks_pq hn d cs o.2
    have hm := o.1.1
    exact (Pq.tup (Pqs.cons ((Pq.str (n := 10) (by decide +kernel)).mono (Nat.le_refl _) (Nat.zero_le _)) (Pqs.cons ((Pq.nat (n := m) (by omega)).mono (Nat.le_refl _) (Nat.zero_le _)) (Pqs.cons (Pq.tup h) Pqs.nil)))).mono (by simp only [wtC, List.length_cons]; omega) (by omega)
  | 0, .neg _, o => o.elim
  | 0, .same _ _, o => o.elim
  | 0, .all _, o => o.elim
  | 0, .any _, o => o.elim
  | 0, .least _ _, o => o.elim
theorem tks_pq {n : Nat} (hn : n ≤ 10000) : ∀ (d : Nat) (cs : List Cm), Cm.tks n d cs → Pqs (50 * (wtCs cs).length) (2 * d + 1) (cDs cs)
  | d, [], _ => Pqs.nil
  | d, c :: cs, o => by
    have h := tk_pq hn d c o.1
    have h2 := tks_pq hn d cs o.2
    have := wtC_pos c
    exact (Pqs.cons h h2).mono (by simp only [wtCs, List.length_append]; omega) (Nat.le_refl _)
end
theorem ct_len {n d : Nat} {c : Cm} (hk : c.tk n d) (hn : n ≤ 10000) : (ctT c).length ≤ 6 * (wtC c).length := by
  have h := sumC_le (g := fun s : Str => s.length) (c := 5) (l := wtC c) (wt_len hk hn)
  have h2 := join_len (y := " ") (ps := wtC c)
  have e : (" " : Str).length = 1 := ofS_len " "
  rw [e] at h2
  show (Txt.join " " (wtC c)).length ≤ _
  omega
theorem ct_sums {n d : Nat} (hn : n ≤ 10000) : ∀ {cs : List Cm}, Cm.tks n d cs → (cs.map fun c => (ctT c).length).sum ≤ 6 * (wtCs cs).length ∧ cs.length ≤ (wtCs cs).length
  | [], _ => ⟨Nat.le_refl _, Nat.le_refl _⟩
  | c :: cs, o => by
    have h := ct_sums hn o.2
    have h2 := ct_len o.1 hn
    have := wtC_pos c
    simp only [List.map_cons, List.sum_cons, wtCs, List.length_append, List.length_cons]
    omega
theorem sumC_mem {α : Type} {g : α → Nat} : ∀ {l : List α} {x : α}, x ∈ l → g x ≤ (l.map g).sum
  | a :: l, x, h => by
    rw [List.map_cons, List.sum_cons]
    rcases List.mem_cons.mp h with rfl | h
    · omega
    · have := sumC_mem (g := g) h; omega
theorem hd_len (c : Cm) : (hdC c).length ≤ 3 := by cases c <;> simp [hdC]
theorem hd_ne (c : Cm) : hdC c ≠ [] := by cases c <;> simp [hdC]
theorem hd_len5 {n d : Nat} {c : Cm} (hk : c.tk n d) (hn : n ≤ 10000) : ∀ s ∈ hdC c, s.length ≤ 5 := fun s hs => wt_len hk hn s (by rw [wtC_eq]; exact List.mem_append_left _ hs)
theorem ct_join {c : Cm} : Txt.join " " (hdC c ++ c.subs.map ctT) = ctT c := by
  have h := join_flat (y := " ") (hd := hdC c) (ps := c.subs.map wtC) (hd_ne c) fun p hp => by
    obtain ⟨x, _, rfl⟩ := List.mem_map.mp hp
    exact wtC_ne x
  rw [List.map_map] at h
  show Txt.join " " (hdC c ++ c.subs.map fun x => Txt.join " " (wtC x)) = Txt.join " " (wtC c)
  rw [wtC_eq, List.flatMap_def]
  exact h
theorem in3 {M : Mem} {s a b c : Str} : inD M (.d (.str s)) (.d (.tup [.str a, .str b, .str c])) = some (.d (.bl (decide (a = s ∨ b = s ∨ c = s)))) := by
  rw [in_tup]
  have h : (atomD (.str s) = true ∧ [D.str a, D.str b, D.str c].all atomD = true) ∨ (okE (.str s) = true ∧ isTupD (.d (.tup [D.str a, D.str b, D.str c])) = false ∧ okE (.lst [D.str a, D.str b, D.str c]) = true) := .inl ⟨rfl, rfl⟩
  rw [gd_pos h]
  simp only [Option.map_some, blS, List.any_cons, List.any_nil, eqvD, Bool.or_false]
  congr 3
  rw [Bool.eq_iff_iff]
  simp [beq_iff_eq]
theorem rep_intX {M : Mem} {as : List D} {k : Int} : repF M (.d (.lst as)) (.d (.int k)) = gd (-(2 ^ 63) ≤ k ∧ k < 2 ^ 63 ∧ as.length * k.toNat ≤ sizeLine) (List.replicate k.toNat as).flatten := rfl
theorem repz {M : Mem} {x : D} : repF M (.d (.lst [x])) (.d (.int 0)) = some [] := by
  rw [rep_intX, gd_pos (by rw [sizeLine_eq]; refine ⟨by decide, by decide, ?_⟩; show [x].length * 0 ≤ _; simp)]; rfl
theorem repo {M : Mem} {x : D} : repF M (.d (.lst [x])) (.d (.int 1)) = some [x] := by
  rw [rep_intX, gd_pos (by rw [sizeLine_eq]; refine ⟨by decide, by decide, ?_⟩; show [x].length * 1 ≤ _; simp)]; rfl
theorem strT_i {M : Mem} {n : Nat} (h : n < 10000) : strTD M [.d (.int (n : Int))] = some (.d (.str (nmT n))) := (show strTD M [.d (.int (n : Int))] = strD M [.d (.int (n : Int))] from rfl).trans (nmT_str h)
theorem cat_r0' {M : Mem} {a b : List D} : catF (.lst a :: M) (.ref 0) (.d (.lst b)) = gd (a.length + b.length ≤ sizeLine) (a ++ b) := rfl
theorem catr {M : Mem} {i : Nat} {a b : List D} (h : M[i]? = some (.lst a)) (hl : a.length + b.length ≤ 1000000) : catF M (.ref i) (.d (.lst b)) = some (a ++ b) := by
  have e : laidD M (.ref i) = some a := by
    show cellL M[i]? = _
    rw [h]; rfl
  unfold catF
  rw [e]
  show gd _ _ = _
  rw [gd, if_pos (by rw [sizeLine_eq]; omega)]
def t_lct (sp__law_claim_text : SpD) : TS' :=
  (sRet (eMt "str" (mPure joinD) (eP (pC (.str " "))) (aCons (eFz (f2 catF (eP (pV 1)) (eFz (fLc (iPq (pV 2)) (.nm 3) tYs (eCall [false] sp__law_claim_text (aP [(pV 3)])) [3])))) (aP []))))
def r_lctext (sp__law_claim_text : SpD) : TS' :=
  (sSeq (sIf (cP (bB (po2 eqD (po2 ixD (pV 0) (pC (.int 0))) (pC (.str "name")))))
  (sRet (eP (poN strTD [(po2 ixD (pV 0) (pC (.int 1)))])))
  sNil)
  (sSeq (sPar 1 2 (aCons (eNw (fP (plLst [(po2 ixD (pV 0) (pC (.int 0)))]))) (aP [(pFz (plN listF [(poSl (pV 0) (poI (pC (.int 1))) poNo)]))])))
  (sSeq (sIf (cP (bB (po2 inD (po2 ixD (pV 0) (pC (.int 0))) (poTup [(pC (.str "and")), (pC (.str "or")), (pC (.str "least"))]))))
  (sSeq (sSet 2 (eP (pFz (plN listF [(po2 ixD (pV 0) (po1 negD (pC (.int 1))))]))))
  (sSeq (sSet 1 (eNw (fP (pl2 catF (pV 1) (pFz (pl2 repF (pFz (plLst [(poN strTD [(po2 ixD (pV 0) (pC (.int 1)))])])) (poN intD [(po2 eqD (po2 ixD (pV 0) (pC (.int 0))) (pC (.str "least")))])))))))
  (sDrop (eMt "list" mApp (eP (pV 1)) (aP [(poN strTD [(poN lenD [(pV 2)])])])))))
  sNil)
  (t_lct sp__law_claim_text))))
def sp_lctext (d : Nat) : SpD := fun as M Q => ∃ (c : Cm) (n : Nat), as = [.d (cD c)] ∧ M = [] ∧ c.tk n d ∧ d ≤ 60 ∧ n ≤ 10000 ∧ (wtC c).length ≤ 30000 ∧ Q (.d (.str (ctT c))) []
local macro_rules
  | `(tactic| simp only [VLQ]) => `(tactic| simp -implicitDefEqProofs only [sSeq, sIf, sSet, sSub, sRet, sRetN, sNil, sDrop, sAsg, sPar, sParT, sAug, cP, bB, bTr, bNt, bAn, bOr, po1, po2, poN, pArgs, poIf, poAn, poOr, poNt, poTup, plLst, plN, pl2, pl1, pFz, pV, pC, eP, eo1, eo2, eoN, aP, aNil, aCons, eAn, eOr, eNt, eIf, eFz, eNw, fP, fN, f2, f1, tTupE, tLstF, tTr, tTb, tAn, tOrr, tNt, tYs, eSeal, eMt, poMt, mPure, eCh, pCh, ok_bind, ok_map, ok_some, ok_none, ok_gd, ok_ite, List.getElem?_cons_zero, List.getElem?_cons_succ, List.set_cons_zero, List.set_cons_succ, Option.join_some, Option.bind_some, Option.map_some, Option.bind_none, Option.map_none, ix_ref, ix_tup, ix_lst, ix_bor, ix_scr, add_int, add_str, add_tup, sub_int, mul_int, fdiv_int, mod_int, pow_int, neg_int, lt_int, le_int, gt_int, ge_int, eq_int, eq_str, eq_bl, ne_int, ne_str, ne_bl, is_bl, isnt_bl, is_non, isnt_non, len_tup, len_lst, len_ref, len_bor, len_scr, int_bl, int_int, abs_int, min_int, max_int, blD_bl, cell_lst, cellA_lst, cellA_dk, st_ref, at_0, at_1, at_2, at_3, at_4, ixN_10, ixN_20, ixN_21, ixN_30, ixN_31, ixN_32, dataS_d, datas_nil, datas_cons, truth_bl, notD, intS, blS, nonB, List.length_cons, List.length_nil, Nat.reduceAdd, endsF_rt, endsF_nx, rvQ_d, rvQ_new, rvQ_newK, rv_d, rv_ref, rv_cl, rv_ck, okRef_d, okRef_ref, List.not_mem_nil, List.nil_append, true_and, and_true, List.take_succ_cons, List.take_zero, Nat.zero_add, decide_eq_true_eq, Bool.false_eq_true, if_false, if_true, callS, handS_n, handS_tr, handS_fr, handS_fd, handS_fb, cellsAt_c, cellsAt_0, Option.getD_some, backS_0, backS_1, eCall, tup_lst, tup_tup, tup_ref, fLc, iRg, rng_1, rng_2, wipeS_c, wipeS_n, iPq, iSq, seq_tup, seq_lst, seq_bor, lst_lst, lst_bor, gdS_d, gdS_b, sFor, gNm, gcS_c, gcS_n, gcO_d, gcO_n, mapp, rcv_0, rcv_1, rcv_l, gcO_r0, gcO_r1, gcO_z, seal_d, eq_self, List.take_nil, List.cons_append, poSl, poI, poNo, slD_t, intO_i, list_t, list_l, in_str2, ofS_inj, String.reduceEq, or_false, false_or, or_true, true_or, or_self, decide_true, decide_false, Bool.not_true, Bool.not_false, at_m1_2, at_m1_3, cut_2, cut_3, all_bls, any_bls, count_bls, lcg_nm, lcg_tp, lst_ref, laid_l, laid_b, laid_r, list_b, list_r, len_refI, lenOf_ref, rcv_2, rcv_3, rcv_b, slF_l, slF_b, slF_r, cat_l, repr_d, plSl, backS_2, List.mem_singleton, one_ne, if_false, callS, seal_r, Nat.le_refl, cat_get, cat_set, List.append_assoc, List.length_append, List.append_nil, at_ite, Nat.zero_le, iTq, tupD])
  | `(tactic| simp only [VLQ, $xs,*]) => `(tactic| simp -implicitDefEqProofs only [sSeq, sIf, sSet, sSub, sRet, sRetN, sNil, sDrop, sAsg, sPar, sParT, sAug, cP, bB, bTr, bNt, bAn, bOr, po1, po2, poN, pArgs, poIf, poAn, poOr, poNt, poTup, plLst, plN, pl2, pl1, pFz, pV, pC, eP, eo1, eo2, eoN, aP, aNil, aCons, eAn, eOr, eNt, eIf, eFz, eNw, fP, fN, f2, f1, tTupE, tLstF, tTr, tTb, tAn, tOrr, tNt, tYs, eSeal, eMt, poMt, mPure, eCh, pCh, ok_bind, ok_map, ok_some, ok_none, ok_gd, ok_ite, List.getElem?_cons_zero, List.getElem?_cons_succ, List.set_cons_zero, List.set_cons_succ, Option.join_some, Option.bind_some, Option.map_some, Option.bind_none, Option.map_none, ix_ref, ix_tup, ix_lst, ix_bor, ix_scr, add_int, add_str, add_tup, sub_int, mul_int, fdiv_int, mod_int, pow_int, neg_int, lt_int, le_int, gt_int, ge_int, eq_int, eq_str, eq_bl, ne_int, ne_str, ne_bl, is_bl, isnt_bl, is_non, isnt_non, len_tup, len_lst, len_ref, len_bor, len_scr, int_bl, int_int, abs_int, min_int, max_int, blD_bl, cell_lst, cellA_lst, cellA_dk, st_ref, at_0, at_1, at_2, at_3, at_4, ixN_10, ixN_20, ixN_21, ixN_30, ixN_31, ixN_32, dataS_d, datas_nil, datas_cons, truth_bl, notD, intS, blS, nonB, List.length_cons, List.length_nil, Nat.reduceAdd, endsF_rt, endsF_nx, rvQ_d, rvQ_new, rvQ_newK, rv_d, rv_ref, rv_cl, rv_ck, okRef_d, okRef_ref, List.not_mem_nil, List.nil_append, true_and, and_true, List.take_succ_cons, List.take_zero, Nat.zero_add, decide_eq_true_eq, Bool.false_eq_true, if_false, if_true, callS, handS_n, handS_tr, handS_fr, handS_fd, handS_fb, cellsAt_c, cellsAt_0, Option.getD_some, backS_0, backS_1, eCall, tup_lst, tup_tup, tup_ref, fLc, iRg, rng_1, rng_2, wipeS_c, wipeS_n, iPq, iSq, seq_tup, seq_lst, seq_bor, lst_lst, lst_bor, gdS_d, gdS_b, sFor, gNm, gcS_c, gcS_n, gcO_d, gcO_n, mapp, rcv_0, rcv_1, rcv_l, gcO_r0, gcO_r1, gcO_z, seal_d, eq_self, List.take_nil, List.cons_append, poSl, poI, poNo, slD_t, intO_i, list_t, list_l, in_str2, ofS_inj, String.reduceEq, or_false, false_or, or_true, true_or, or_self, decide_true, decide_false, Bool.not_true, Bool.not_false, at_m1_2, at_m1_3, cut_2, cut_3, all_bls, any_bls, count_bls, lcg_nm, lcg_tp, lst_ref, laid_l, laid_b, laid_r, list_b, list_r, len_refI, lenOf_ref, rcv_2, rcv_3, rcv_b, slF_l, slF_b, slF_r, cat_l, repr_d, plSl, backS_2, List.mem_singleton, one_ne, if_false, callS, seal_r, Nat.le_refl, cat_get, cat_set, List.append_assoc, List.length_append, List.append_nil, at_ite, Nat.zero_le, iTq, tupD, $xs,*])
theorem lct_rest {d e : Nat} {n : Nat} {c : Cm} {Q : Rv → Mem → Prop} {M0 : Mem} {r : Nat} (hk : c.tk n e) (he : e ≤ d) (he6 : e ≤ 60) (hn : n ≤ 10000) (hl : (wtC c).length ≤ 30000) (hr : M0[r]? = some (.lst ((hdC c).map .str)))
    (z : Q (.d (.str (ctT c))) []) :
    t_lct (spB sp_lctext d) (endsF 0 Q) [some (.d (cD c)), some (.ref r), some (.d (.lst (c.subs.map cD))), none] M0 := by
  have hsub : ∀ x ∈ c.subs, ∃ e', e' < d ∧ e' ≤ 60 ∧ x.tk n e' ∧ (wtC x).length ≤ 30000 := fun x hx => by
    have hw : (wtC x).length ≤ (wtC c).length := by
      rw [wtC_eq c, List.length_append, List.flatMap_def, List.length_flatten, List.map_map]
      have := sumC_mem (l := c.subs) (g := fun x => (wtC x).length) hx
      show _ ≤ (hdC c).length + (c.subs.map fun x => (wtC x).length).sum
      omega
    rcases tk_subs hk with h | ⟨e', rfl, h⟩
    · rw [h] at hx; cases hx
    · exact ⟨e', by omega, by omega, h x hx, by omega⟩
  have hj : ∀ M, joinD M (.d (.str " ")) [.d (.lst ((hdC c ++ c.subs.map ctT).map .str))] = some (.d (.str (ctT c))) := fun M => by
    rw [join_l, ct_join]
    have e1 : (" " : Str).length = 1 := ofS_len " "
    have h1 := sumC_le (g := fun s : Str => s.length) (c := 5) (l := hdC c) (hd_len5 hk hn)
    have h2 := hd_len c
    have h3 : (c.subs.map fun c => (ctT c).length).sum ≤ 6 * (wtCs c.subs).length ∧ c.subs.length ≤ (wtCs c.subs).length := by
      rcases tk_subs hk with h | ⟨e', rfl, h⟩
      · rw [h]; exact ⟨Nat.le_refl _, Nat.le_refl _⟩
      · exact ct_sums hn (tks_all.mpr h)
    have h4 : (wtCs c.subs).length ≤ (wtC c).length := by rw [wtC_eq c, wtCs_flat, List.length_append]; omega
    have h5 : ((c.subs.map ctT).map (·.length)).sum = (c.subs.map fun c => (ctT c).length).sum := by rw [List.map_map]; rfl
    rw [e1, List.map_append, List.sum_append_nat, h5, List.length_append, List.length_map]
    omega
  unfold t_lct
  simp only [VLQ, hr]
  refine ⟨rcv_s, ?_⟩
  refine lc_gm (e := cD) (f := fun x => .str (ctT x)) trivial ?_ ?_
  · intro x hx R hR
    obtain ⟨e', h1, h2, h3, h4⟩ := hsub x hx
    simp only [gNm, List.set_cons_succ, List.set_cons_zero]
    simp only [VLQ]
    refine ⟨e', h1, x, n, rfl, rfl, h3, h2, hn, h4, ?_⟩
    simp only [VLQ]
    exact hR
  · have e : (hdC c).map D.str ++ (c.subs.map fun x => D.str (ctT x)) = (hdC c ++ c.subs.map ctT).map .str := by rw [List.map_append, List.map_map]; rfl
    have hll : ((hdC c).map D.str).length + (c.subs.map fun x => D.str (ctT x)).length ≤ 1000000 := by
      rw [List.length_map, List.length_map]
      have := hd_len c
      have h3 : c.subs.length ≤ (wtCs c.subs).length := by
        rcases tk_subs hk with h | ⟨e', rfl, h⟩
        · rw [h]; exact Nat.le_refl _
        · exact (ct_sums hn (tks_all.mpr h)).2
      have h4 : (wtCs c.subs).length ≤ (wtC c).length := by rw [wtC_eq c, wtCs_flat, List.length_append]; omega
      omega
    rw [List.nil_append, catr hr hll, ok_some, e, hj]
    simp only [VLQ]
    exact z
theorem pure_lctext {d : Nat} (as : List Sv) (M : Mem) (Q : Rv → Mem → Prop) (h : spB sp_lctext (d + 1) as M Q) : r_lctext (spB sp_lctext d) (endsF M.length Q) (startD 4 as) M := by
  obtain ⟨e, he, c, n, rfl, rfl, hk, he6, hn, hl, z⟩ := h
  show r_lctext (spB sp_lctext d) (endsF 0 Q) [some (.d (cD c)), none, none, none] []
  have rest : ∀ (M0 : Mem) (r : Nat), M0[r]? = some (.lst ((hdC c).map .str)) → t_lct (spB sp_lctext d) (endsF 0 Q) [some (.d (cD c)), some (.ref r), some (.d (.lst (c.subs.map cD))), none] M0 := fun M0 r hr => lct_rest hk (by omega) he6 hn hl hr z
  have hq := (tk_pq hn e c hk)
  generalize hT : t_lct (spB sp_lctext d) = T at rest
  unfold r_lctext
  rw [hT]
  cases c with
  | name k =>
    have hk : k < n := by cases e <;> exact hk
    have hs1 : ∀ M, strTD M [.d (.int (k : Int))] = some (.d (.str (nmT k))) := fun M => strT_i (by omega)
    simp only [cD]
    simp only [VLQ, hs1]
    exact z
  | yes =>
    simp only [cD] at rest ⊢
    simp only [VLQ]
    exact rest _ _ rfl
  | no =>
    simp only [cD] at rest ⊢
    simp only [VLQ]
    exact rest _ _ rfl
  | neg c =>
    simp only [cD] at rest ⊢
    simp only [VLQ]
    exact rest _ _ rfl
  | same a b =>
    simp only [cD] at rest ⊢
    simp only [VLQ]
    exact rest _ _ rfl
  | all cs =>
    obtain ⟨e, rfl⟩ : ∃ e', e = e' + 1 := by
      cases e with
      | zero => exact hk.elim
      | succ e => exact ⟨e, rfl⟩
    have hc := hk.1
    have hw : (wtCs cs).length ≤ 30000 := by simp only [wtC, List.length_cons] at hl; omega
    have hok : okR (.tup (cs.map cD)) = true := by
      rw [← cDs_map]
      exact (Pq.tup (tks_pq hn e cs hk.2)).okR (by omega) (by omega)
    have hs0 : ∀ M, strTD M [.d (.tup (cs.map cD))] = some (.d (.str (PyData.shown (py (.tup (cs.map cD)))))) := fun M => by
      show gd _ _ = _
      rw [hok]; rfl
    have hs1 : ∀ M, strTD M [.d (.int ((cs.map cD).length : Int))] = some (.d (.str (nmT cs.length))) := fun M => by
      rw [List.length_map]; exact strT_i hc
    simp only [cD, cDs_map] at rest ⊢
    simp only [VLQ, hs0, hs1, in3, repz, cat_r0']
    exact ⟨by rw [sizeLine_eq]; omega, by rw [sizeLine_eq]; omega, rest _ _ rfl⟩
  | any cs =>
    obtain ⟨e, rfl⟩ : ∃ e', e = e' + 1 := by
      cases e with
      | zero => exact hk.elim
      | succ e => exact ⟨e, rfl⟩
    have hc := hk.1
    have hw : (wtCs cs).length ≤ 30000 := by simp only [wtC, List.length_cons] at hl; omega
    have hok : okR (.tup (cs.map cD)) = true := by
      rw [← cDs_map]
      exact (Pq.tup (tks_pq hn e cs hk.2)).okR (by omega) (by omega)
    have hs0 : ∀ M, strTD M [.d (.tup (cs.map cD))] = some (.d (.str (PyData.shown (py (.tup (cs.map cD)))))) := fun M => by
      show gd _ _ = _
      rw [hok]; rfl
    have hs1 : ∀ M, strTD M [.d (.int ((cs.map cD).length : Int))] = some (.d (.str (nmT cs.length))) := fun M => by
      rw [List.length_map]; exact strT_i hc
    simp only [cD, cDs_map] at rest ⊢
    simp only [VLQ, hs0, hs1, in3, repz, cat_r0']
    exact ⟨by rw [sizeLine_eq]; omega, by rw [sizeLine_eq]; omega, rest _ _ rfl⟩
  | least m cs =>
    obtain ⟨e, rfl⟩ : ∃ e', e = e' + 1 := by
      cases e with
      | zero => exact hk.elim
      | succ e => exact ⟨e, rfl⟩
    have hc := hk.1
    have hs1 : ∀ M, strTD M [.d (.int ((cs.map cD).length : Int))] = some (.d (.str (nmT cs.length))) := fun M => by
      rw [List.length_map]; exact strT_i hc.2
    have hs2 : ∀ M, strTD M [.d (.int (m : Int))] = some (.d (.str (nmT m))) := fun M => strT_i hc.1
    simp only [cD, cDs_map] at rest ⊢
    simp only [VLQ, hs1, hs2, in3, repo, cat_r0']
    exact ⟨by rw [sizeLine_eq]; omega, by rw [sizeLine_eq]; omega, rest _ _ rfl⟩
end VL
set_option Elab.async false
set_option linter.all false
set_option maxRecDepth 100000
set_option maxHeartbeats 2000000
namespace VL
open PySem PySem.Spec L2
def obR (n : Nat) (ws : List Str) (p : Nat) : Cell := .nd (.ob "Reader" ["many", "words", "place"]) [.inl (.int (n : Int)), .inl (.lst (ws.map .str)), .inl (.int (p : Int))]
section
variable {n p : Nat} {ws : List Str} {G : Mem} {sp : SpD} {a : D} {R : Rv → Mem → Prop}
theorem fr_many : fldD clsT "many" (obR n ws p :: G) (.ref 0) = some (.d (.int (n : Int))) := rfl
theorem fr_words : fldD clsT "words" (obR n ws p :: G) (.ref 0) = some (.d (.lst (ws.map .str))) := rfl
theorem fr_place : fldD clsT "place" (obR n ws p :: G) (.ref 0) = some (.d (.int (p : Int))) := rfl
theorem or_word : isOb "Reader" "next_word" (obR n ws p :: G) (.ref 0) = true := rfl
theorem or_num : isOb "Reader" "next_number" (obR n ws p :: G) (.ref 0) = true := rfl
theorem or_cls : isOb "Reader" "next_claims" (obR n ws p :: G) (.ref 0) = true := rfl
theorem or_cl : isOb "Reader" "next_claim" (obR n ws p :: G) (.ref 0) = true := rfl
theorem callR1 : callO [true] sp (obR n ws p :: G) [.ref 0] R = sp [.ref 0] [obR n ws p] fun v Mc => R v (backO [0] Mc (obR n ws p :: G)) := rfl
theorem callR2 : callO [true, false] sp (obR n ws p :: G) [.ref 0, .d a] R = sp [.ref 0, .d a] [obR n ws p] fun v Mc => R v (backO [0] Mc (obR n ws p :: G)) := rfl
theorem backR {q : Nat} : backO [0] [obR n ws q] (obR n ws p :: G) = obR n ws q :: G := rfl
theorem putR : fldPut clsT "place" (obR n ws p :: G) (.d (.int ((p : Int) + 1))) (.ref 0) = some (obR n ws (p + 1) :: G) := rfl
end
def r_nword  : TS' :=
  (sSeq (sIf (cP (bB (po2 eqD (poFld clsT "place" (pV 0)) (poN lenD [(poFld clsT "words" (pV 0))]))))
  sStop
  sNil)
  (sSeq (sFldA clsT "place" 1 (eP (pV 0)))
  (sRet (eP (po2 ixD (poFld clsT "words" (pV 0)) (po2 subD (poFld clsT "place" (pV 0)) (pC (.int 1))))))))
def sp_nword : SpD := fun as M Q => ∃ (n : Nat) (ws : List Str) (p : Nat) (s : Str) (r : List Str), as = [.ref 0] ∧ M = [obR n ws p] ∧ ws.drop p = s :: r ∧ Q (.d (.str s)) [obR n ws (p + 1)]
theorem drop_atR {ws : List Str} {p : Nat} {s : Str} {r : List Str} (h : ws.drop p = s :: r) : p < ws.length ∧ ws[p]? = some s ∧ ws.drop (p + 1) = r := by
  have h1 : p < ws.length := by
    by_cases h1 : p < ws.length
    · exact h1
    · rw [List.drop_eq_nil_of_le (by omega)] at h; cases h
  have h2 := List.drop_eq_getElem_cons h1
  rw [h] at h2
  injection h2 with e1 e2
  exact ⟨h1, by rw [List.getElem?_eq_getElem h1, ← e1], e2.symm⟩
local macro_rules
  | `(tactic| simp only [VLY]) => `(tactic| simp only [sSeq, sIf, sSet, sSub, sRet, sRetN, sNil, sDrop, sAsg, sPar, sParT, sAug, cP, bB, bTr, bNt, bAn, bOr, po1, po2, poN, pArgs, poIf, poAn, poOr, poNt, poTup, plLst, plN, pl2, pl1, pFz, pV, pC, eP, eo1, eo2, eoN, aP, aNil, aCons, eAn, eOr, eNt, eIf, eFz, eNw, fP, fN, f2, f1, tTupE, tLstF, tTr, tTb, tAn, tOrr, tNt, tYs, eSeal, eMt, poMt, mPure, eCh, pCh, ok_bind, ok_map, ok_some, ok_none, ok_gd, ok_ite, List.getElem?_cons_zero, List.getElem?_cons_succ, List.set_cons_zero, List.set_cons_succ, Option.join_some, Option.bind_some, Option.map_some, Option.bind_none, Option.map_none, ix_ref, ix_tup, ix_lst, ix_bor, ix_scr, add_int, add_str, add_tup, sub_int, mul_int, fdiv_int, mod_int, pow_int, neg_int, lt_int, le_int, gt_int, ge_int, eq_int, eq_str, eq_bl, ne_int, ne_str, ne_bl, is_bl, isnt_bl, is_non, isnt_non, len_tup, len_lst, len_ref, len_bor, len_scr, int_bl, int_int, abs_int, min_int, max_int, blD_bl, cell_lst, cellA_lst, cellA_dk, st_ref, at_0, at_1, at_2, at_3, at_4, ixN_10, ixN_20, ixN_21, ixN_30, ixN_31, ixN_32, dataS_d, datas_nil, datas_cons, truth_bl, notD, intS, blS, nonB, List.length_cons, List.length_nil, Nat.reduceAdd, endsF_rt, endsF_nx, rvQ_d, rvQ_new, rvQ_newK, rv_d, rv_ref, rv_cl, rv_ck, okRef_d, okRef_ref, List.not_mem_nil, List.nil_append, true_and, and_true, List.take_succ_cons, List.take_zero, Nat.zero_add, decide_eq_true_eq, Bool.false_eq_true, if_false, if_true, callS, handS_n, handS_tr, handS_fr, handS_fd, handS_fb, cellsAt_c, cellsAt_0, Option.getD_some, backS_0, backS_1, eCall, tup_lst, tup_tup, tup_ref, fLc, iRg, rng_1, rng_2, wipeS_c, wipeS_n, iPq, iSq, seq_tup, seq_lst, seq_bor, lst_lst, lst_bor, gdS_d, gdS_b, sFor, gNm, gcS_c, gcS_n, gcO_d, gcO_n, mapp, rcv_0, rcv_1, rcv_l, gcO_r0, gcO_r1, gcO_z, seal_d, eq_self, List.take_nil, List.cons_append, poSl, poI, poNo, slD_t, intO_i, list_t, list_l, in_str2, ofS_inj, String.reduceEq, or_false, false_or, or_true, true_or, or_self, decide_true, decide_false, Bool.not_true, Bool.not_false, at_m1_2, at_m1_3, cut_2, cut_3, all_bls, any_bls, count_bls, lcg_nm, lcg_tp, lst_ref, laid_l, laid_b, laid_r, list_b, list_r, len_refI, lenOf_ref, rcv_2, rcv_3, rcv_b, slF_l, slF_b, slF_r, cat_l, repr_d, plSl, backS_2, List.mem_singleton, one_ne, if_false, callS, seal_r, Nat.le_refl, cat_get, cat_set, List.append_assoc, List.length_append, List.append_nil, at_ite, Nat.zero_le, iTq, tupD])
  | `(tactic| simp only [VLY, $xs,*]) => `(tactic| simp only [sSeq, sIf, sSet, sSub, sRet, sRetN, sNil, sDrop, sAsg, sPar, sParT, sAug, cP, bB, bTr, bNt, bAn, bOr, po1, po2, poN, pArgs, poIf, poAn, poOr, poNt, poTup, plLst, plN, pl2, pl1, pFz, pV, pC, eP, eo1, eo2, eoN, aP, aNil, aCons, eAn, eOr, eNt, eIf, eFz, eNw, fP, fN, f2, f1, tTupE, tLstF, tTr, tTb, tAn, tOrr, tNt, tYs, eSeal, eMt, poMt, mPure, eCh, pCh, ok_bind, ok_map, ok_some, ok_none, ok_gd, ok_ite, List.getElem?_cons_zero, List.getElem?_cons_succ, List.set_cons_zero, List.set_cons_succ, Option.join_some, Option.bind_some, Option.map_some, Option.bind_none, Option.map_none, ix_ref, ix_tup, ix_lst, ix_bor, ix_scr, add_int, add_str, add_tup, sub_int, mul_int, fdiv_int, mod_int, pow_int, neg_int, lt_int, le_int, gt_int, ge_int, eq_int, eq_str, eq_bl, ne_int, ne_str, ne_bl, is_bl, isnt_bl, is_non, isnt_non, len_tup, len_lst, len_ref, len_bor, len_scr, int_bl, int_int, abs_int, min_int, max_int, blD_bl, cell_lst, cellA_lst, cellA_dk, st_ref, at_0, at_1, at_2, at_3, at_4, ixN_10, ixN_20, ixN_21, ixN_30, ixN_31, ixN_32, dataS_d, datas_nil, datas_cons, truth_bl, notD, intS, blS, nonB, List.length_cons, List.length_nil, Nat.reduceAdd, endsF_rt, endsF_nx, rvQ_d, rvQ_new, rvQ_newK, rv_d, rv_ref, rv_cl, rv_ck, okRef_d, okRef_ref, List.not_mem_nil, List.nil_append, true_and, and_true, List.take_succ_cons, List.take_zero, Nat.zero_add, decide_eq_true_eq, Bool.false_eq_true, if_false, if_true, callS, handS_n, handS_tr, handS_fr, handS_fd, handS_fb, cellsAt_c, cellsAt_0, Option.getD_some, backS_0, backS_1, eCall, tup_lst, tup_tup, tup_ref, fLc, iRg, rng_1, rng_2, wipeS_c, wipeS_n, iPq, iSq, seq_tup, seq_lst, seq_bor, lst_lst, lst_bor, gdS_d, gdS_b, sFor, gNm, gcS_c, gcS_n, gcO_d, gcO_n, mapp, rcv_0, rcv_1, rcv_l, gcO_r0, gcO_r1, gcO_z, seal_d, eq_self, List.take_nil, List.cons_append, poSl, poI, poNo, slD_t, intO_i, list_t, list_l, in_str2, ofS_inj, String.reduceEq, or_false, false_or, or_true, true_or, or_self, decide_true, decide_false, Bool.not_true, Bool.not_false, at_m1_2, at_m1_3, cut_2, cut_3, all_bls, any_bls, count_bls, lcg_nm, lcg_tp, lst_ref, laid_l, laid_b, laid_r, list_b, list_r, len_refI, lenOf_ref, rcv_2, rcv_3, rcv_b, slF_l, slF_b, slF_r, cat_l, repr_d, plSl, backS_2, List.mem_singleton, one_ne, if_false, callS, seal_r, Nat.le_refl, cat_get, cat_set, List.append_assoc, List.length_append, List.append_nil, at_ite, Nat.zero_le, iTq, tupD, $xs,*])
theorem pure_nword (as : List Sv) (M : Mem) (Q : Rv → Mem → Prop) (h : sp_nword as M Q) : r_nword (endsF M.length Q) (startD 1 as) M := by
  obtain ⟨n, ws, p, s, r, rfl, rfl, hd, z⟩ := h
  show r_nword (endsF 1 Q) [some (.ref 0)] [obR n ws p]
  obtain ⟨h1, h2, h3⟩ := drop_atR hd
  have e1 : ((p : Int) = ((ws.map D.str).length : Int)) = False := eq_false (by rw [List.length_map]; omega)
  have e2 : ∀ M : Mem, ixD M (.d (.lst (ws.map D.str))) (.d (.int (((p + 1 : Nat) : Int) - 1))) = some (.d (.str s)) := fun M => by
    rw [show (((p + 1 : Nat) : Int) - 1) = (p : Int) by omega, ix_lst, at_nat, List.getElem?_map, h2]; rfl
  unfold r_nword
  simp only [VLY, poFld, fr_place, fr_words, e1, decide_false]
  unfold sFldA
  simp only [VLY, fr_place, putR, fr_words, e2]
  exact z
def r_nnum (sp_number_in : SpD) (sp_Reader__next_word : SpD) : TS' :=
  (sSeq (sSet 1 (eCall [false] sp_number_in (aCons (eMeth "Reader" "next_word" [true] sp_Reader__next_word (eP (pV 0)) (aP [])) (aP []))))
  (sSeq (sIf (cP (bB (po2 isD (pV 1) (pC .non))))
  sStop
  sNil)
  (sRet (eP (pV 1)))))
def sp_nnum : SpD := fun as M Q => ∃ (n : Nat) (ws : List Str) (p k : Nat) (r : List Str), as = [.ref 0] ∧ M = [obR n ws p] ∧ ws.drop p = nmT k :: r ∧ k < 10000 ∧ Q (.d (.int (k : Int))) [obR n ws (p + 1)]
theorem nmT_sz {k : Nat} (h : k < 10000) : (nmT k).length ≤ sizeLine := by
  have := nmT_len h
  rw [sizeLine_eq]; omega
theorem pure_nnum (as : List Sv) (M : Mem) (Q : Rv → Mem → Prop) (h : sp_nnum as M Q) : r_nnum sp_numin sp_nword (endsF M.length Q) (startD 2 as) M := by
  obtain ⟨n, ws, p, k, r, rfl, rfl, hd, hk, z⟩ := h
  show r_nnum sp_numin sp_nword (endsF 1 Q) [some (.ref 0), none] [obR n ws p]
  unfold r_nnum eMeth
  simp only [VLY, or_word, callR1]
  refine ⟨n, ws, p, nmT k, r, rfl, rfl, hd, ?_⟩
  simp only [VLY, backR]
  refine ⟨nmT k, rfl, rfl, nmT_sz hk, ?_⟩
  rw [numS_nmT hk]
  simp only [VLY, onD]
  exact z
def r_ncls (sp_Reader__next_claim : SpD) : TS' :=
  (sRet (eo1 tupC (eFz (fLc (iRg true (aP [(pV 1)])) (.nm 2) tYs (eMeth "Reader" "next_claim" [true] sp_Reader__next_claim (eP (pV 0)) (aP [])) [2]))))
def sp_ncl (d : Nat) : SpD := fun as M Q => ∃ (c : Cm) (n : Nat) (ws : List Str) (p : Nat) (r : List Str), as = [.ref 0] ∧ M = [obR n ws p] ∧ c.tk n d ∧ n ≤ 10000 ∧ ws.drop p = wtC c ++ r ∧ Q (.d (cD c)) [obR n ws (p + (wtC c).length)]
def sp_ncls (d : Nat) : SpD := fun as M Q => ∃ (cs : List Cm) (n : Nat) (ws : List Str) (p : Nat) (r : List Str) (e : Nat), as = [.ref 0, .d (.int (cs.length : Int))] ∧ M = [obR n ws p] ∧ (∀ c ∈ cs, c.tk n e ∧ e < d) ∧ n ≤ 10000 ∧ cs.length < 10000 ∧ ws.drop p = wtCs cs ++ r ∧ Q (.d (.tup (cs.map cD))) [obR n ws (p + (wtCs cs).length)]
local macro_rules
  | `(tactic| simp only [VLQ]) => `(tactic| simp -implicitDefEqProofs only [sSeq, sIf, sSet, sSub, sRet, sRetN, sNil, sDrop, sAsg, sPar, sParT, sAug, cP, bB, bTr, bNt, bAn, bOr, po1, po2, poN, pArgs, poIf, poAn, poOr, poNt, poTup, plLst, plN, pl2, pl1, pFz, pV, pC, eP, eo1, eo2, eoN, aP, aNil, aCons, eAn, eOr, eNt, eIf, eFz, eNw, fP, fN, f2, f1, tTupE, tLstF, tTr, tTb, tAn, tOrr, tNt, tYs, eSeal, eMt, poMt, mPure, eCh, pCh, ok_bind, ok_map, ok_some, ok_none, ok_gd, ok_ite, List.getElem?_cons_zero, List.getElem?_cons_succ, List.set_cons_zero, List.set_cons_succ, Option.join_some, Option.bind_some, Option.map_some, Option.bind_none, Option.map_none, ix_ref, ix_tup, ix_lst, ix_bor, ix_scr, add_int, add_str, add_tup, sub_int, mul_int, fdiv_int, mod_int, pow_int, neg_int, lt_int, le_int, gt_int, ge_int, eq_int, eq_str, eq_bl, ne_int, ne_str, ne_bl, is_bl, isnt_bl, is_non, isnt_non, len_tup, len_lst, len_ref, len_bor, len_scr, int_bl, int_int, abs_int, min_int, max_int, blD_bl, cell_lst, cellA_lst, cellA_dk, st_ref, at_0, at_1, at_2, at_3, at_4, ixN_10, ixN_20, ixN_21, ixN_30, ixN_31, ixN_32, dataS_d, datas_nil, datas_cons, truth_bl, notD, intS, blS, nonB, List.length_cons, List.length_nil, Nat.reduceAdd, endsF_rt, endsF_nx, rvQ_d, rvQ_new, rvQ_newK, rv_d, rv_ref, rv_cl, rv_ck, okRef_d, okRef_ref, List.not_mem_nil, List.nil_append, true_and, and_true, List.take_succ_cons, List.take_zero, Nat.zero_add, decide_eq_true_eq, Bool.false_eq_true, if_false, if_true, callS, handS_n, handS_tr, handS_fr, handS_fd, handS_fb, cellsAt_c, cellsAt_0, Option.getD_some, backS_0, backS_1, eCall, tup_lst, tup_tup, tup_ref, fLc, iRg, rng_1, rng_2, wipeS_c, wipeS_n, iPq, iSq, seq_tup, seq_lst, seq_bor, lst_lst, lst_bor, gdS_d, gdS_b, sFor, gNm, gcS_c, gcS_n, gcO_d, gcO_n, mapp, rcv_0, rcv_1, rcv_l, gcO_r0, gcO_r1, gcO_z, seal_d, eq_self, List.take_nil, List.cons_append, poSl, poI, poNo, slD_t, intO_i, list_t, list_l, in_str2, ofS_inj, String.reduceEq, or_false, false_or, or_true, true_or, or_self, decide_true, decide_false, Bool.not_true, Bool.not_false, at_m1_2, at_m1_3, cut_2, cut_3, all_bls, any_bls, count_bls, lcg_nm, lcg_tp, lst_ref, laid_l, laid_b, laid_r, list_b, list_r, len_refI, lenOf_ref, rcv_2, rcv_3, rcv_b, slF_l, slF_b, slF_r, cat_l, repr_d, plSl, backS_2, List.mem_singleton, one_ne, if_false, callS, seal_r, Nat.le_refl, cat_get, cat_set, List.append_assoc, List.length_append, List.append_nil, at_ite, Nat.zero_le, iTq, tupD])
  | `(tactic| simp only [VLQ, $xs,*]) => `(tactic| simp -implicitDefEqProofs only [sSeq, sIf, sSet, sSub, sRet, sRetN, sNil, sDrop, sAsg, sPar, sParT, sAug, cP, bB, bTr, bNt, bAn, bOr, po1, po2, poN, pArgs, poIf, poAn, poOr, poNt, poTup, plLst, plN, pl2, pl1, pFz, pV, pC, eP, eo1, eo2, eoN, aP, aNil, aCons, eAn, eOr, eNt, eIf, eFz, eNw, fP, fN, f2, f1, tTupE, tLstF, tTr, tTb, tAn, tOrr, tNt, tYs, eSeal, eMt, poMt, mPure, eCh, pCh, ok_bind, ok_map, ok_some, ok_none, ok_gd, ok_ite, List.getElem?_cons_zero, List.getElem?_cons_succ, List.set_cons_zero, List.set_cons_succ, Option.join_some, Option.bind_some, Option.map_some, Option.bind_none, Option.map_none, ix_ref, ix_tup, ix_lst, ix_bor, ix_scr, add_int, add_str, add_tup, sub_int, mul_int, fdiv_int, mod_int, pow_int, neg_int, lt_int, le_int, gt_int, ge_int, eq_int, eq_str, eq_bl, ne_int, ne_str, ne_bl, is_bl, isnt_bl, is_non, isnt_non, len_tup, len_lst, len_ref, len_bor, len_scr, int_bl, int_int, abs_int, min_int, max_int, blD_bl, cell_lst, cellA_lst, cellA_dk, st_ref, at_0, at_1, at_2, at_3, at_4, ixN_10, ixN_20, ixN_21, ixN_30, ixN_31, ixN_32, dataS_d, datas_nil, datas_cons, truth_bl, notD, intS, blS, nonB, List.length_cons, List.length_nil, Nat.reduceAdd, endsF_rt, endsF_nx, rvQ_d, rvQ_new, rvQ_newK, rv_d, rv_ref, rv_cl, rv_ck, okRef_d, okRef_ref, List.not_mem_nil, List.nil_append, true_and, and_true, List.take_succ_cons, List.take_zero, Nat.zero_add, decide_eq_true_eq, Bool.false_eq_true, if_false, if_true, callS, handS_n, handS_tr, handS_fr, handS_fd, handS_fb, cellsAt_c, cellsAt_0, Option.getD_some, backS_0, backS_1, eCall, tup_lst, tup_tup, tup_ref, fLc, iRg, rng_1, rng_2, wipeS_c, wipeS_n, iPq, iSq, seq_tup, seq_lst, seq_bor, lst_lst, lst_bor, gdS_d, gdS_b, sFor, gNm, gcS_c, gcS_n, gcO_d, gcO_n, mapp, rcv_0, rcv_1, rcv_l, gcO_r0, gcO_r1, gcO_z, seal_d, eq_self, List.take_nil, List.cons_append, poSl, poI, poNo, slD_t, intO_i, list_t, list_l, in_str2, ofS_inj, String.reduceEq, or_false, false_or, or_true, true_or, or_self, decide_true, decide_false, Bool.not_true, Bool.not_false, at_m1_2, at_m1_3, cut_2, cut_3, all_bls, any_bls, count_bls, lcg_nm, lcg_tp, lst_ref, laid_l, laid_b, laid_r, list_b, list_r, len_refI, lenOf_ref, rcv_2, rcv_3, rcv_b, slF_l, slF_b, slF_r, cat_l, repr_d, plSl, backS_2, List.mem_singleton, one_ne, if_false, callS, seal_r, Nat.le_refl, cat_get, cat_set, List.append_assoc, List.length_append, List.append_nil, at_ite, Nat.zero_le, iTq, tupD, $xs,*])
theorem pure_ncls {d : Nat} (as : List Sv) (M : Mem) (Q : Rv → Mem → Prop) (h : sp_ncls d as M Q) : r_ncls (spB sp_ncl d) (endsF M.length Q) (startD 3 as) M := by
  obtain ⟨cs, n, ws, p, r, e, rfl, rfl, hk, hn, hl, hd, z⟩ := h
  show r_ncls (spB sp_ncl d) (endsF 1 Q) [some (.ref 0), some (.d (.int (cs.length : Int))), none] [obR n ws p]
  unfold r_ncls eMeth
  simp only [VLQ]
  have hrl : (rgL 0 ((cs.length : Int)).toNat).length = cs.length := by rw [rgL, List.length_map, List.length_range]; omega
  refine ⟨by unfold I62; omega, fun _ => by rw [hrl, sizeLine_eq]; omega, ?_⟩
  refine lc_ix _ (fun j acc M => acc = (cs.take j).map cD ∧ M = [obR n ws (p + (wtCs (cs.take j)).length)]) ?_ ?_ _ _ ⟨rfl, rfl⟩
  · rintro acc M ⟨rfl, rfl⟩
    refine ⟨trivial, ?_⟩
    rw [hrl, List.take_length]
    exact z
  · rintro j x acc M nx hx ⟨rfl, rfl⟩ k
    refine ⟨trivial, ?_⟩
    obtain ⟨hj, rfl⟩ := rg_at hx
    have hj : j < cs.length := by omega
    have et : cs.take (j + 1) = cs.take j ++ [cs[j]] := take_snoc (List.getElem?_eq_getElem hj)
    have ew : wtCs (cs.take (j + 1)) = wtCs (cs.take j) ++ wtC cs[j] := by
      rw [et, wtCs_flat, wtCs_flat, List.flatMap_append, List.flatMap_cons, List.flatMap_nil, List.append_nil]
    have ed : wtCs cs = wtCs (cs.take j) ++ (wtC cs[j] ++ wtCs (cs.drop (j + 1))) := by
      conv => lhs; rw [← List.take_append_drop j cs, List.drop_eq_getElem_cons hj]
      simp only [wtCs_flat, List.flatMap_append, List.flatMap_cons]
    have ep : ws.drop (p + (wtCs (cs.take j)).length) = wtC cs[j] ++ (wtCs (cs.drop (j + 1)) ++ r) := by
      rw [← List.drop_drop, hd, ed, List.append_assoc, List.drop_left, List.append_assoc]
    simp only [gNm, List.set_cons_succ, List.set_cons_zero]
    simp only [VLQ, or_cl, callR1]
    refine ⟨e, (hk _ (List.getElem_mem hj)).2, cs[j], n, ws, p + (wtCs (cs.take j)).length, _, rfl, rfl, (hk _ (List.getElem_mem hj)).1, hn, ep, ?_⟩
    simp only [VLQ, backR]
    refine k _ _ ⟨?_, ?_⟩
    · rw [et, List.map_append]; rfl
    · rw [ew, List.length_append, Nat.add_assoc]
def r_ncl (sp_Reader__next_word : SpD) (sp_Reader__next_claims : SpD) (sp_Reader__next_number : SpD) (sp_number_in : SpD) : TS' :=
  (sSeq (sSet 1 (eMeth "Reader" "next_word" [true] sp_Reader__next_word (eP (pV 0)) (aP [])))
  (sSeq (sIf (cP (bB (po1 (inTab tab_INNER) (pV 1))))
  (sRet (eo2 addD (eP (poTup [(pV 1)])) (eMeth "Reader" "next_claims" [true, false] sp_Reader__next_claims (eP (pV 0)) (aP [(po1 (atTab tab_INNER) (pV 1))]))))
  sNil)
  (sSeq (sIf (cP (bB (po2 inD (pV 1) (pC c_PARTED))))
  (sRet (tTupE (aCons (eP (pV 1)) (aCons (eMeth "Reader" "next_claims" [true, false] sp_Reader__next_claims (eP (pV 0)) (aCons (eMeth "Reader" "next_number" [true] sp_Reader__next_number (eP (pV 0)) (aP [])) (aP []))) (aP [])))))
  sNil)
  (sSeq (sIf (cP (bB (po2 eqD (pV 1) (pC (.str "least")))))
  (sSeq (sSet 3 (eMeth "Reader" "next_number" [true] sp_Reader__next_number (eP (pV 0)) (aP [])))
  (sRet (tTupE (aCons (eP (pV 1)) (aCons (eP (pV 3)) (aCons (eMeth "Reader" "next_claims" [true, false] sp_Reader__next_claims (eP (pV 0)) (aCons (eMeth "Reader" "next_number" [true] sp_Reader__next_number (eP (pV 0)) (aP [])) (aP []))) (aP [])))))))
  sNil)
  (sSeq (sSet 2 (eCall [false] sp_number_in (aP [(pV 1)])))
  (sSeq (sIf (cP (bOr (bB (po2 isD (pV 2) (pC .non))) (bB (po2 geD (pV 2) (poFld clsT "many" (pV 0))))))
  sStop
  sNil)
  (sRet (eP (poTup [(pC (.str "name")), (pV 2)])))))))))
theorem nmT_neS {k : Nat} {s : Str} (h : k < 10000) (hs : numS s = none) : nmT k ≠ s := fun e => by
  have := numS_nmT h
  rw [e, hs] at this
  cases this
theorem in2 {M : Mem} {s : Str} : inD M (.d (.str s)) (.d c_PARTED) = some (.d (.bl (decide (("and" : Str) = s ∨ ("or" : Str) = s)))) := in_str2
theorem pure_ncl {d : Nat} (as : List Sv) (M : Mem) (Q : Rv → Mem → Prop) (h : spB sp_ncl (d + 1) as M Q) : r_ncl sp_nword (sp_ncls d) sp_nnum sp_numin (endsF M.length Q) (startD 4 as) M := by
  obtain ⟨e, he, c, n, ws, p, r, rfl, rfl, hk, hn, hd, z⟩ := h
  show r_ncl sp_nword (sp_ncls d) sp_nnum sp_numin (endsF 1 Q) [some (.ref 0), none, none, none] [obR n ws p]
  have it : ∀ (x : Str) M, inTab tab_INNER M (.d (.str x)) = some (.d (.bl (lookT x tab_INNER).isSome)) := fun _ _ => rfl
  have ia : ∀ (x : Str) M, atTab tab_INNER M (.d (.str x)) = (lookT x tab_INNER).map fun i => .d (.int i) := fun _ _ => rfl
  have l1 : lookT "yes" tab_INNER = some 0 := rfl
  have l2 : lookT "no" tab_INNER = some 0 := rfl
  have l3 : lookT "not" tab_INNER = some 1 := rfl
  have l4 : lookT "same" tab_INNER = some 2 := rfl
  have l5 : lookT "and" tab_INNER = none := rfl
  have l6 : lookT "or" tab_INNER = none := rfl
  have l7 : lookT "least" tab_INNER = none := rfl
  have fin : ∀ {x : D} {q : Nat}, x = cD c → q = p + (wtC c).length → Q (.d x) [obR n ws q] := fun h1 h2 => by rw [h1, h2]; exact z
  unfold r_ncl eMeth
  simp only [VLQ, or_word, callR1]
  cases c with
  | name k =>
    have hk : k < n := by cases e <;> exact hk
    have hk2 : k < 10000 := by omega
    have hw : ws.drop p = nmT k :: r := hd
    refine ⟨n, ws, p, nmT k, r, rfl, rfl, hw, ?_⟩
    have n1 : ("yes" : Str) ≠ nmT k := Ne.symm (nmT_neS hk2 (by decide +kernel))
    have n2 : ("no" : Str) ≠ nmT k := Ne.symm (nmT_neS hk2 (by decide +kernel))
    have n3 : ("not" : Str) ≠ nmT k := Ne.symm (nmT_neS hk2 (by decide +kernel))
    have n4 : ("same" : Str) ≠ nmT k := Ne.symm (nmT_neS hk2 (by decide +kernel))
    have n5 : ("and" : Str) ≠ nmT k := Ne.symm (nmT_neS hk2 (by decide +kernel))
    have n6 : ("or" : Str) ≠ nmT k := Ne.symm (nmT_neS hk2 (by decide +kernel))
    have n7 : nmT k ≠ ("least" : Str) := nmT_neS hk2 (by decide +kernel)
    have l8 : lookT (nmT k) tab_INNER = none := by
      simp only [tab_INNER, lookT, if_neg n1, if_neg n2, if_neg n3, if_neg n4]
    simp only [VLQ, backR, it, l8, in2, eq_false n5, eq_false n6, eq_false n7, Option.isSome_none]
    refine ⟨nmT k, rfl, rfl, nmT_sz hk2, ?_⟩
    rw [numS_nmT hk2]
    have ge : decide ((n : Int) ≤ (k : Int)) = false := decide_eq_false (by omega)
    simp only [VLQ, onD, poFld, fr_many, ge]
    exact fin rfl rfl
  | yes =>
    refine ⟨n, ws, p, "yes", r, rfl, rfl, hd, ?_⟩
    simp only [VLQ, backR, it, ia, l1, Option.isSome_some, or_cls, callR2]
    refine ⟨[], n, ws, p + 1, r, e, rfl, rfl, fun _ h => absurd h List.not_mem_nil, hn, by decide, (drop_atR hd).2.2, ?_⟩
    simp only [VLQ, backR]
    exact ⟨by rw [sizeLine_eq]; decide, fin rfl rfl⟩
  | no =>
    refine ⟨n, ws, p, "no", r, rfl, rfl, hd, ?_⟩
    simp only [VLQ, backR, it, ia, l2, Option.isSome_some, or_cls, callR2]
    refine ⟨[], n, ws, p + 1, r, e, rfl, rfl, fun _ h => absurd h List.not_mem_nil, hn, by decide, (drop_atR hd).2.2, ?_⟩
    simp only [VLQ, backR]
    exact ⟨by rw [sizeLine_eq]; decide, fin rfl rfl⟩
  | neg c =>
    obtain ⟨e, rfl⟩ : ∃ e', e = e' + 1 := by
      cases e with
      | zero => exact hk.elim
      | succ e => exact ⟨e, rfl⟩
    have hd : ws.drop p = ("not" : Str) :: (wtC c ++ r) := hd
    refine ⟨n, ws, p, "not", _, rfl, rfl, hd, ?_⟩
    simp only [VLQ, backR, it, ia, l3, Option.isSome_some, or_cls, callR2]
    refine ⟨[c], n, ws, p + 1, r, e, rfl, rfl, fun x h => by rw [List.mem_singleton.mp h]; exact ⟨hk, by omega⟩, hn, by simp, by rw [(drop_atR hd).2.2]; simp [wtCs], ?_⟩
    simp only [VLQ, backR]
    refine ⟨by rw [sizeLine_eq, List.length_map]; simp only [List.length_cons, List.length_nil]; omega, fin rfl ?_⟩
    simp only [wtC, wtCs, List.append_nil, List.length_cons]; omega
  | same a b =>
    obtain ⟨e, rfl⟩ : ∃ e', e = e' + 1 := by
      cases e with
      | zero => exact hk.elim
      | succ e => exact ⟨e, rfl⟩
    have hd : ws.drop p = ("same" : Str) :: ((wtC a ++ wtC b) ++ r) := hd
    refine ⟨n, ws, p, "same", _, rfl, rfl, hd, ?_⟩
    simp only [VLQ, backR, it, ia, l4, Option.isSome_some, or_cls, callR2]
    refine ⟨[a, b], n, ws, p + 1, r, e, rfl, rfl, fun x h => by
      simp only [List.mem_cons, List.not_mem_nil, or_false] at h
      rcases h with rfl | rfl
      · exact ⟨hk.1, by omega⟩
      · exact ⟨hk.2, by omega⟩, hn, by simp, by rw [(drop_atR hd).2.2]; simp [wtCs], ?_⟩
    simp only [VLQ, backR]
    refine ⟨by rw [sizeLine_eq, List.length_map]; simp only [List.length_cons, List.length_nil]; omega, fin rfl ?_⟩
    simp only [wtC, wtCs, List.append_nil, List.length_cons]; omega
  | all cs =>
    obtain ⟨e, rfl⟩ : ∃ e', e = e' + 1 := by
      cases e with
      | zero => exact hk.elim
      | succ e => exact ⟨e, rfl⟩
    have hd : ws.drop p = ("and" : Str) :: nmT cs.length :: (wtCs cs ++ r) := hd
    refine ⟨n, ws, p, "and", _, rfl, rfl, hd, ?_⟩
    have hd2 := (drop_atR hd).2.2
    simp only [VLQ, backR, it, ia, l5, in2, Option.isSome_none, or_cls, or_num, callR1]
    refine ⟨n, ws, p + 1, cs.length, _, rfl, rfl, hd2, hk.1, ?_⟩
    simp only [VLQ, backR, or_cls, callR2]
    refine ⟨cs, n, ws, p + 1 + 1, r, e, rfl, rfl, fun x h => ⟨tks_all.mp hk.2 x h, by omega⟩, hn, hk.1, (drop_atR hd2).2.2, ?_⟩
    simp only [VLQ, backR]
    refine fin (by rw [cD, cDs_map]) ?_
    simp only [wtC, List.length_cons]; omega
  | any cs =>
    obtain ⟨e, rfl⟩ : ∃ e', e = e' + 1 := by
      cases e with
      | zero => exact hk.elim
      | succ e => exact ⟨e, rfl⟩
    have hd : ws.drop p = ("or" : Str) :: nmT cs.length :: (wtCs cs ++ r) := hd
    refine ⟨n, ws, p, "or", _, rfl, rfl, hd, ?_⟩
    have hd2 := (drop_atR hd).2.2
    simp only [VLQ, backR, it, ia, l6, in2, Option.isSome_none, or_cls, or_num, callR1]
    refine ⟨n, ws, p + 1, cs.length, _, rfl, rfl, hd2, hk.1, ?_⟩
    simp only [VLQ, backR, or_cls, callR2]
    refine ⟨cs, n, ws, p + 1 + 1, r, e, rfl, rfl, fun x h => ⟨tks_all.mp hk.2 x h, by omega⟩, hn, hk.1, (drop_atR hd2).2.2, ?_⟩
    simp only [VLQ, backR]
    refine fin (by rw [cD, cDs_map]) ?_
    simp only [wtC, List.length_cons]; omega
  | least m cs =>
    obtain ⟨e, rfl⟩ : ∃ e', e = e' + 1 := by
      cases e with
      | zero => exact hk.elim
      | succ e => exact ⟨e, rfl⟩
    have hd : ws.drop p = ("least" : Str) :: nmT m :: nmT cs.length :: (wtCs cs ++ r) := hd
    refine ⟨n, ws, p, "least", _, rfl, rfl, hd, ?_⟩
    have hd2 := (drop_atR hd).2.2
    have hd3 := (drop_atR hd2).2.2
    simp only [VLQ, backR, it, ia, l7, in2, Option.isSome_none, or_cls, or_num, callR1]
    refine ⟨n, ws, p + 1, m, _, rfl, rfl, hd2, hk.1.1, ?_⟩
    simp only [VLQ, backR, or_cls, or_num, callR1]
    refine ⟨n, ws, p + 1 + 1, cs.length, _, rfl, rfl, hd3, hk.1.2, ?_⟩
    simp only [VLQ, backR, or_cls, callR2]
    refine ⟨cs, n, ws, p + 1 + 1 + 1, r, e, rfl, rfl, fun x h => ⟨tks_all.mp hk.2 x h, by omega⟩, hn, hk.1.2, (drop_atR hd3).2.2, ?_⟩
    simp only [VLQ, backR]
    refine fin (by rw [cD, cDs_map]) ?_
    simp only [wtC, List.length_cons]; omega
end VL
set_option Elab.async false
set_option linter.all false
set_option maxRecDepth 100000
set_option maxHeartbeats 2000000
namespace VL
open PySem PySem.Spec L2 TL
def r_rinit  : NS' :=
  (nSeq (nSet "many" (eP (pV 1)))
  (nSeq (nSet "words" (eP (pV 2)))
  (nSet "place" (eP (pC (.int 0))))))
def sp_rinit : SpI := fun as M Q0 => ∃ (n : Nat) (ws : List Str), as = [.d (.int (n : Int)), .d (.lst (ws.map .str))] ∧ M = [] ∧ Q0 [] ["many", "words", "place"] [.inl (.int (n : Int)), .inl (.lst (ws.map .str)), .inl (.int 0)]
local macro_rules
  | `(tactic| simp only [VLQ]) => `(tactic| simp -implicitDefEqProofs only [q_sSeq, q_sIf, q_sSet, q_sSub, q_sRet, q_sRetN, q_sNil, q_sDrop, q_sAsg, sPar, q_sParT, q_sAug, q_cP, q_bB, q_bTr, q_bNt, q_bAn, q_bOr, q_po1, q_po2, q_poN, pArgs, q_poIf, q_poAn, q_poOr, q_poNt, q_poTup, q_plLst, q_plN, q_pl2, q_pl1, q_pFz, q_pV, q_pC, q_eP, q_eo1, q_eo2, q_eoN, q_aP, q_aNil, q_aCons, q_eAn, q_eOr, q_eNt, q_eIf, q_eFz, q_eNw, q_fP, q_fN, q_f2, q_f1, q_tTupE, q_tLstF, q_tTr, q_tTb, q_tAn, q_tOrr, q_tNt, q_tYs, q_eSeal, q_eMt, q_poMt, q_mPure, q_eCh, q_pCh, ok_bind, ok_map, ok_some, ok_none, ok_gd, ok_ite, List.getElem?_cons_zero, List.getElem?_cons_succ, List.set_cons_zero, List.set_cons_succ, Option.join_some, Option.bind_some, Option.map_some, Option.bind_none, Option.map_none, ix_ref, ix_tup, ix_lst, ix_bor, ix_scr, add_int, add_str, add_tup, sub_int, mul_int, fdiv_int, mod_int, pow_int, neg_int, lt_int, le_int, gt_int, ge_int, eq_int, eq_str, eq_bl, ne_int, ne_str, ne_bl, is_bl, isnt_bl, is_non, isnt_non, len_tup, len_lst, len_ref, len_bor, len_scr, int_bl, int_int, abs_int, min_int, max_int, blD_bl, cell_lst, cellA_lst, cellA_dk, st_ref, at_0, at_1, at_2, at_3, at_4, ixN_10, ixN_20, ixN_21, ixN_30, ixN_31, ixN_32, dataS_d, datas_nil, datas_cons, truth_bl, notD, intS, blS, nonB, List.length_cons, List.length_nil, Nat.reduceAdd, endsF_rt, endsF_nx, rvQ_d, rvQ_new, rvQ_newK, rv_d, rv_ref, rv_cl, rv_ck, okRef_d, okRef_ref, List.not_mem_nil, List.nil_append, true_and, and_true, List.take_succ_cons, List.take_zero, Nat.zero_add, decide_eq_true_eq, Bool.false_eq_true, if_false, if_true, callS, handS_n, handS_tr, handS_fr, handS_fd, handS_fb, cellsAt_c, cellsAt_0, Option.getD_some, backS_0, backS_1, q_eCall, tup_lst, tup_tup, tup_ref, q_fLc, q_iRg, rng_1, rng_2, wipeS_c, wipeS_n, q_iPq, q_iSq, seq_tup, seq_lst, seq_bor, lst_lst, lst_bor, gdS_d, gdS_b, q_sFor, q_gNm, gcS_c, gcS_n, gcO_d, gcO_n, mapp, rcv_0, rcv_1, rcv_l, gcO_r0, gcO_r1, gcO_z, seal_d, eq_self, List.take_nil, List.cons_append, q_poSl, q_poI, q_poNo, slD_t, intO_i, list_t, list_l, in_str2, ofS_inj, String.reduceEq, or_false, false_or, or_true, true_or, or_self, decide_true, decide_false, Bool.not_true, Bool.not_false, at_m1_2, at_m1_3, cut_2, cut_3, all_bls, any_bls, count_bls, lcg_nm, lcg_tp, lst_ref, laid_l, laid_b, laid_r, list_b, list_r, len_refI, lenOf_ref, rcv_2, rcv_3, rcv_b, slF_l, slF_b, slF_r, cat_l, repr_d, q_plSl, backS_2, List.mem_singleton, one_ne, if_false, callS, seal_r, Nat.le_refl, cat_get, cat_set, List.append_assoc, List.length_append, List.append_nil, at_ite, Nat.zero_le, q_iTq, tupD])
  | `(tactic| simp only [VLQ, $xs,*]) => `(tactic| simp -implicitDefEqProofs only [q_sSeq, q_sIf, q_sSet, q_sSub, q_sRet, q_sRetN, q_sNil, q_sDrop, q_sAsg, sPar, q_sParT, q_sAug, q_cP, q_bB, q_bTr, q_bNt, q_bAn, q_bOr, q_po1, q_po2, q_poN, pArgs, q_poIf, q_poAn, q_poOr, q_poNt, q_poTup, q_plLst, q_plN, q_pl2, q_pl1, q_pFz, q_pV, q_pC, q_eP, q_eo1, q_eo2, q_eoN, q_aP, q_aNil, q_aCons, q_eAn, q_eOr, q_eNt, q_eIf, q_eFz, q_eNw, q_fP, q_fN, q_f2, q_f1, q_tTupE, q_tLstF, q_tTr, q_tTb, q_tAn, q_tOrr, q_tNt, q_tYs, q_eSeal, q_eMt, q_poMt, q_mPure, q_eCh, q_pCh, ok_bind, ok_map, ok_some, ok_none, ok_gd, ok_ite, List.getElem?_cons_zero, List.getElem?_cons_succ, List.set_cons_zero, List.set_cons_succ, Option.join_some, Option.bind_some, Option.map_some, Option.bind_none, Option.map_none, ix_ref, ix_tup, ix_lst, ix_bor, ix_scr, add_int, add_str, add_tup, sub_int, mul_int, fdiv_int, mod_int, pow_int, neg_int, lt_int, le_int, gt_int, ge_int, eq_int, eq_str, eq_bl, ne_int, ne_str, ne_bl, is_bl, isnt_bl, is_non, isnt_non, len_tup, len_lst, len_ref, len_bor, len_scr, int_bl, int_int, abs_int, min_int, max_int, blD_bl, cell_lst, cellA_lst, cellA_dk, st_ref, at_0, at_1, at_2, at_3, at_4, ixN_10, ixN_20, ixN_21, ixN_30, ixN_31, ixN_32, dataS_d, datas_nil, datas_cons, truth_bl, notD, intS, blS, nonB, List.length_cons, List.length_nil, Nat.reduceAdd, endsF_rt, endsF_nx, rvQ_d, rvQ_new, rvQ_newK, rv_d, rv_ref, rv_cl, rv_ck, okRef_d, okRef_ref, List.not_mem_nil, List.nil_append, true_and, and_true, List.take_succ_cons, List.take_zero, Nat.zero_add, decide_eq_true_eq, Bool.false_eq_true, if_false, if_true, callS, handS_n, handS_tr, handS_fr, handS_fd, handS_fb, cellsAt_c, cellsAt_0, Option.getD_some, backS_0, backS_1, q_eCall, tup_lst, tup_tup, tup_ref, q_fLc, q_iRg, rng_1, rng_2, wipeS_c, wipeS_n, q_iPq, q_iSq, seq_tup, seq_lst, seq_bor, lst_lst, lst_bor, gdS_d, gdS_b, q_sFor, q_gNm, gcS_c, gcS_n, gcO_d, gcO_n, mapp, rcv_0, rcv_1, rcv_l, gcO_r0, gcO_r1, gcO_z, seal_d, eq_self, List.take_nil, List.cons_append, q_poSl, q_poI, q_poNo, slD_t, intO_i, list_t, list_l, in_str2, ofS_inj, String.reduceEq, or_false, false_or, or_true, true_or, or_self, decide_true, decide_false, Bool.not_true, Bool.not_false, at_m1_2, at_m1_3, cut_2, cut_3, all_bls, any_bls, count_bls, lcg_nm, lcg_tp, lst_ref, laid_l, laid_b, laid_r, list_b, list_r, len_refI, lenOf_ref, rcv_2, rcv_3, rcv_b, slF_l, slF_b, slF_r, cat_l, repr_d, q_plSl, backS_2, List.mem_singleton, one_ne, if_false, callS, seal_r, Nat.le_refl, cat_get, cat_set, List.append_assoc, List.length_append, List.append_nil, at_ite, Nat.zero_le, q_iTq, tupD, $xs,*])
theorem pure_rinit (as : List Sv) (M : Mem) (Q0 : Mem → List Str → List (D ⊕ Nat) → Prop) (h : sp_rinit as M Q0) : r_rinit Q0 (startI 3 as) M [] [] := by
  obtain ⟨n, ws, rfl, rfl, z⟩ := h
  show r_rinit Q0 [none, some (.d (.int (n : Int))), some (.d (.lst (ws.map .str)))] [] [] []
  unfold r_rinit nSeq nSet
  simp only [VLQ]
  exact ⟨⟨fun h => h, by decide⟩, ⟨by decide, by decide⟩, ⟨by decide, by decide⟩, z⟩
theorem make_R {Q : QD} {n : Nat} {ws : List Str} (q : Q (.ref 0) [obR n ws 0]) : makeO "Reader" [false, false] sp_rinit [] [.d (.int (n : Int)), .d (.lst (ws.map .str))] Q := by
  refine ⟨n, ws, rfl, rfl, ⟨?_, ?_, ?_⟩, q⟩
  · intro j hj
    simp only [List.mem_cons, List.not_mem_nil, or_false, reduceCtorEq, false_or] at hj
  · rw [sizeLine_eq]; show 3 ≤ 16777216; decide
  · intro cc hcc kd it e
    cases hcc
theorem wt_free {n d : Nat} {c : Cm} (hk : c.tk n d) (hn : n ≤ 10000) : ∀ s ∈ wtC c, 32 ∉ tl s ∧ 10 ∉ tl s := wt_all (by
  intro s hs
  simp only [List.mem_cons, List.not_mem_nil, or_false] at hs
  rcases hs with rfl | rfl | rfl | rfl | rfl | rfl | rfl <;> decide +kernel) (fun k hk => rwWs_free (.all [k]) _ (by rw [rwWs_eq]; simp [rwN])) hn d c hk
theorem split_ct {n d : Nat} {c : Cm} (hk : c.tk n d) (hn : n ≤ 10000) : Txt.split (ctT c) " " = wtC c := split_join tl_blank asc_blank (wtC_ne c) fun p hp => (wt_free hk hn p hp).1
def r_cfrom (sp_Reader____init__ : SpI) (sp_Reader__next_claim : SpD) : TS' :=
  (sSeq (sSet 2 (eMake "Reader" [false, false] sp_Reader____init__ (aP [(pV 0), (poMt "str" splitD (pV 1) [(pC (.str " "))])])))
  (sSeq (sSet 3 (eMeth "Reader" "next_claim" [true] sp_Reader__next_claim (eP (pV 2)) (aP [])))
  (sSeq (sIf (cP (bB (po2 ltD (poFld clsT "place" (pV 2)) (poN lenD [(poFld clsT "words" (pV 2))]))))
  sStop
  sNil)
  (sRet (eP (pV 3))))))
def sp_cfrom (d : Nat) : SpD := fun as M Q => ∃ (c : Cm) (n e : Nat), as = [.d (.int (n : Int)), .d (.str (ctT c))] ∧ M = [] ∧ c.tk n e ∧ e < d ∧ n ≤ 10000 ∧ (wtC c).length ≤ 30000 ∧ Q (.d (cD c)) []
theorem pure_cfrom {d : Nat} (as : List Sv) (M : Mem) (Q : Rv → Mem → Prop) (h : sp_cfrom d as M Q) : r_cfrom sp_rinit (spB sp_ncl d) (endsF M.length Q) (startD 4 as) M := by
  obtain ⟨c, n, e, rfl, rfl, hk, he, hn, hl, z⟩ := h
  show r_cfrom sp_rinit (spB sp_ncl d) (endsF 0 Q) [some (.d (.int (n : Int))), some (.d (.str (ctT c))), none, none] []
  have hsp : ∀ M, splitD M (.d (.str (ctT c))) [.d (.str " ")] = some (.d (.lst ((wtC c).map .str))) := fun M => by
    have h1 := ct_len hk hn
    show gd _ _ = _
    rw [gd_pos ⟨by decide +kernel, by rw [sizeLine_eq]; omega⟩, split_ct hk hn]
  unfold r_cfrom eMake eMeth
  simp only [VLQ, hsp]
  refine ⟨rcv_s, make_R ?_⟩
  simp only [VLQ, or_cl, callR1]
  refine ⟨e, he, c, n, wtC c, 0, [], rfl, rfl, hk, hn, by simp, ?_⟩
  have lt : ¬ (((wtC c).length : Int) < (((wtC c).map D.str).length : Int)) := by rw [List.length_map]; omega
  simp only [VLQ, backR, poFld, fr_place, fr_words]
  rw [if_neg lt]
  exact z
end VL
set_option Elab.async false
set_option linter.all false
set_option maxRecDepth 100000
set_option maxHeartbeats 2000000
namespace VL
open PySem PySem.Spec L2 TL
def t_longE (sp__law_take : SpD) (sp__law_claim_text : SpD) : TS' :=
  (sSeq (sSet 5 (eo2 addD (eo2 addD (eP (pV 5)) (eoN lenD (aCons (eCall [false] sp__law_claim_text (aP [(pV 7)])) (aP [])))) (eP (pC (.int 1)))))
  (sIf (cP (bB (po2 ltD (pV 5) (pC (.int 400)))))
  (sDrop (eMt "list" mApp (eP (pV 4)) (aP [(pV 7)])))
  sNil))
def b_long (sp__law_take : SpD) (sp__law_claim_text : SpD) : TS' :=
  (sSeq (sSet 6 (eOr (eP (po2 eqD (pV 1) (pC (.int 0)))) (eo2 eqD (eCall [true, false] sp__law_take (aP [(pV 0), (pC (.int 20))])) (eP (pC (.int 0))))))
  (sSeq (sSet 7 (eIf (cP (bTr (pV 6))) (eo2 ixD (eP (pFz (plLst [(poTup [(pC (.str "yes"))]), (poTup [(pC (.str "no"))])]))) (eCall [true, false] sp__law_take (aP [(pV 0), (pC (.int 2))]))) (tTupE (aCons (eP (pC (.str "name"))) (aCons (eCall [true, false] sp__law_take (aP [(pV 0), (poN minD [(pV 1), (pC (.int 10))])])) (aP []))))))
  (t_longE sp__law_take sp__law_claim_text)))
def t_long (sp__law_take : SpD) (sp__law_claim_text : SpD) : TS' :=
  (sSeq (sSet 3 (eFz (tLstF (aCons (eP (poTup [(pC (.str "and")), (po1 tupC (pV 4))])) (aCons (eP (poTup [(pC (.str "or")), (po1 tupC (pV 4))])) (aCons (tTupE (aCons (eP (pC (.str "least"))) (aCons (eCall [true, false] sp__law_take (aP [(pV 0), (pC (.int 200))])) (aP [(po1 tupC (pV 4))])))) (aP [])))))))
  (sRet (eo2 ixD (eP (pV 3)) (eCall [true, false] sp__law_take (aP [(pV 0), (pC (.int 3))])))))
def r_long (sp__law_take : SpD) (sp__law_claim_text : SpD) : TS' :=
  (sSeq (sPar 4 5 (aCons (eNw (fP (plLst []))) (aP [(pC (.int 16))])))
  (sSeq (sFor (iRg false (aCons (eIf (tTb (eo2 eqD (eCall [true, false] sp__law_take (aP [(pV 0), (pC (.int 2))])) (eP (pC (.int 0))))) (eP (pC (.int 190))) (eo2 addD (eP (pC (.int 60))) (eCall [true, false] sp__law_take (aP [(pV 0), (pC (.int 131))])))) (aP []))) (gNm 2)
  (b_long sp__law_take sp__law_claim_text))
  (t_long sp__law_take sp__law_claim_text)))
def sp_long : SpD := fun as M Q => ∃ (ds : List D) (n b : Nat), as = [.ref 0, .d (.int (n : Int))] ∧ M = [.lst ds] ∧ Tp b ds ∧ b + 1000 < 1099511627776 ∧ n ≤ 40 ∧
  ∀ (c : Cm) (ds' : List D), c.tk n 1 → (wtC c).length ≤ 200 → Tp (b + 1000) ds' → Q (.d (cD c)) [.lst ds']
local macro_rules
  | `(tactic| simp only [VLQ]) => `(tactic| simp -implicitDefEqProofs only [sSeq, sIf, sSet, sSub, sRet, sRetN, sNil, sDrop, sAsg, sPar, sParT, sAug, cP, bB, bTr, bNt, bAn, bOr, po1, po2, poN, pArgs, poIf, poAn, poOr, poNt, poTup, plLst, plN, pl2, pl1, pFz, pV, pC, eP, eo1, eo2, eoN, aP, aNil, aCons, eAn, eOr, eNt, eIf, eFz, eNw, fP, fN, f2, f1, tTupE, tLstF, tTr, tTb, tAn, tOrr, tNt, tYs, eSeal, eMt, poMt, mPure, eCh, pCh, ok_bind, ok_map, ok_some, ok_none, ok_gd, ok_ite, List.getElem?_cons_zero, List.getElem?_cons_succ, List.set_cons_zero, List.set_cons_succ, Option.join_some, Option.bind_some, Option.map_some, Option.bind_none, Option.map_none, ix_ref, ix_tup, ix_lst, ix_bor, ix_scr, add_int, add_str, add_tup, sub_int, mul_int, fdiv_int, mod_int, pow_int, neg_int, lt_int, le_int, gt_int, ge_int, eq_int, eq_str, eq_bl, ne_int, ne_str, ne_bl, is_bl, isnt_bl, is_non, isnt_non, len_tup, len_lst, len_ref, len_bor, len_scr, int_bl, int_int, abs_int, min_int, max_int, blD_bl, cell_lst, cellA_lst, cellA_dk, st_ref, at_0, at_1, at_2, at_3, at_4, ixN_10, ixN_20, ixN_21, ixN_30, ixN_31, ixN_32, dataS_d, datas_nil, datas_cons, truth_bl, notD, intS, blS, nonB, List.length_cons, List.length_nil, Nat.reduceAdd, endsF_rt, endsF_nx, rvQ_d, rvQ_new, rvQ_newK, rv_d, rv_ref, rv_cl, rv_ck, okRef_d, okRef_ref, List.not_mem_nil, List.nil_append, true_and, and_true, List.take_succ_cons, List.take_zero, Nat.zero_add, decide_eq_true_eq, Bool.false_eq_true, if_false, if_true, callS, handS_n, handS_tr, handS_fr, handS_fd, handS_fb, cellsAt_c, cellsAt_0, Option.getD_some, backS_0, backS_1, eCall, tup_lst, tup_tup, tup_ref, fLc, iRg, rng_1, rng_2, wipeS_c, wipeS_n, iPq, iSq, seq_tup, seq_lst, seq_bor, lst_lst, lst_bor, gdS_d, gdS_b, sFor, gNm, gcS_c, gcS_n, gcO_d, gcO_n, mapp, rcv_0, rcv_1, rcv_l, gcO_r0, gcO_r1, gcO_z, seal_d, eq_self, List.take_nil, List.cons_append, poSl, poI, poNo, slD_t, intO_i, list_t, list_l, in_str2, ofS_inj, String.reduceEq, or_false, false_or, or_true, true_or, or_self, decide_true, decide_false, Bool.not_true, Bool.not_false, at_m1_2, at_m1_3, cut_2, cut_3, all_bls, any_bls, count_bls, lcg_nm, lcg_tp, lst_ref, laid_l, laid_b, laid_r, list_b, list_r, len_refI, lenOf_ref, rcv_2, rcv_3, rcv_b, slF_l, slF_b, slF_r, cat_l, repr_d, plSl, backS_2, List.mem_singleton, one_ne, if_false, callS, seal_r, Nat.le_refl, cat_get, cat_set, List.append_assoc, List.length_append, List.append_nil, at_ite, Nat.zero_le, iTq, tupD])
  | `(tactic| simp only [VLQ, $xs,*]) => `(tactic| simp -implicitDefEqProofs only [sSeq, sIf, sSet, sSub, sRet, sRetN, sNil, sDrop, sAsg, sPar, sParT, sAug, cP, bB, bTr, bNt, bAn, bOr, po1, po2, poN, pArgs, poIf, poAn, poOr, poNt, poTup, plLst, plN, pl2, pl1, pFz, pV, pC, eP, eo1, eo2, eoN, aP, aNil, aCons, eAn, eOr, eNt, eIf, eFz, eNw, fP, fN, f2, f1, tTupE, tLstF, tTr, tTb, tAn, tOrr, tNt, tYs, eSeal, eMt, poMt, mPure, eCh, pCh, ok_bind, ok_map, ok_some, ok_none, ok_gd, ok_ite, List.getElem?_cons_zero, List.getElem?_cons_succ, List.set_cons_zero, List.set_cons_succ, Option.join_some, Option.bind_some, Option.map_some, Option.bind_none, Option.map_none, ix_ref, ix_tup, ix_lst, ix_bor, ix_scr, add_int, add_str, add_tup, sub_int, mul_int, fdiv_int, mod_int, pow_int, neg_int, lt_int, le_int, gt_int, ge_int, eq_int, eq_str, eq_bl, ne_int, ne_str, ne_bl, is_bl, isnt_bl, is_non, isnt_non, len_tup, len_lst, len_ref, len_bor, len_scr, int_bl, int_int, abs_int, min_int, max_int, blD_bl, cell_lst, cellA_lst, cellA_dk, st_ref, at_0, at_1, at_2, at_3, at_4, ixN_10, ixN_20, ixN_21, ixN_30, ixN_31, ixN_32, dataS_d, datas_nil, datas_cons, truth_bl, notD, intS, blS, nonB, List.length_cons, List.length_nil, Nat.reduceAdd, endsF_rt, endsF_nx, rvQ_d, rvQ_new, rvQ_newK, rv_d, rv_ref, rv_cl, rv_ck, okRef_d, okRef_ref, List.not_mem_nil, List.nil_append, true_and, and_true, List.take_succ_cons, List.take_zero, Nat.zero_add, decide_eq_true_eq, Bool.false_eq_true, if_false, if_true, callS, handS_n, handS_tr, handS_fr, handS_fd, handS_fb, cellsAt_c, cellsAt_0, Option.getD_some, backS_0, backS_1, eCall, tup_lst, tup_tup, tup_ref, fLc, iRg, rng_1, rng_2, wipeS_c, wipeS_n, iPq, iSq, seq_tup, seq_lst, seq_bor, lst_lst, lst_bor, gdS_d, gdS_b, sFor, gNm, gcS_c, gcS_n, gcO_d, gcO_n, mapp, rcv_0, rcv_1, rcv_l, gcO_r0, gcO_r1, gcO_z, seal_d, eq_self, List.take_nil, List.cons_append, poSl, poI, poNo, slD_t, intO_i, list_t, list_l, in_str2, ofS_inj, String.reduceEq, or_false, false_or, or_true, true_or, or_self, decide_true, decide_false, Bool.not_true, Bool.not_false, at_m1_2, at_m1_3, cut_2, cut_3, all_bls, any_bls, count_bls, lcg_nm, lcg_tp, lst_ref, laid_l, laid_b, laid_r, list_b, list_r, len_refI, lenOf_ref, rcv_2, rcv_3, rcv_b, slF_l, slF_b, slF_r, cat_l, repr_d, plSl, backS_2, List.mem_singleton, one_ne, if_false, callS, seal_r, Nat.le_refl, cat_get, cat_set, List.append_assoc, List.length_append, List.append_nil, at_ite, Nat.zero_le, iTq, tupD, $xs,*])
theorem long_tail {Q : Rv → Mem → Prop} {dt : List D} {cs : List Cm} {n b : Nat} {x2 x5 x6 x7 : Option Sv} (ht : Tp (b + 500) dt) (hb : b + 1000 < 1099511627776) (hl : cs.length ≤ 190) (hc : ∀ c ∈ cs, c.tk n 0 ∧ (wtC c).length = 1)
    (z : ∀ (c : Cm) (ds' : List D), c.tk n 1 → (wtC c).length ≤ 200 → Tp (b + 1000) ds' → Q (.d (cD c)) [.lst ds']) :
    t_long sp_take (spB sp_lctext 20) (endsF 1 Q) [some (.ref 0), some (.d (.int (n : Int))), x2, none, some (.ref 1), x5, x6, x7] [.lst dt, .lst (cs.map cD)] := by
  have hw : (wtCs cs).length = cs.length := by
    have : ∀ {l : List Cm}, (∀ c ∈ l, (wtC c).length = 1) → (wtCs l).length = l.length := fun {l} => by
      induction l with
      | nil => exact fun _ => rfl
      | cons c l ih => exact fun h => by rw [wtCs, List.length_append, h c List.mem_cons_self, ih fun x hx => h x (List.mem_cons_of_mem _ hx), List.length_cons]; omega
    exact this fun c h => (hc c h).2
  have ht1 : Cm.tks n 0 cs := tks_all.mpr fun c h => (hc c h).1
  unfold t_long
  simp only [VLQ]
  refine ⟨dt, 200, b + 500, rfl, rfl, ht, by omega, by decide, by decide, fun v dt2 h0 h1 t2 => ?_⟩
  simp only [VLQ]
  obtain ⟨m, rfl⟩ := Int.eq_ofNat_of_zero_le h0
  refine ⟨dt2, 3, b + 501, rfl, rfl, t2, by omega, by decide, by decide, fun u dt3 g0 g1 t3 => ?_⟩
  simp only [VLQ]
  have hwl : (wtCs cs).length ≤ 190 := by omega
  have hu : u = 0 ∨ u = 1 ∨ u = 2 := by omega
  have t3' : Tp (b + 1000) dt3 := t3.mono (by omega)
  rcases hu with rfl | rfl | rfl
  · simp only [VLQ]
    have := z (.all cs) dt3 ⟨by omega, ht1⟩ (by simp only [wtC, List.length_cons]; omega) t3'
    simp only [cD, cDs_map] at this
    exact this
  · simp only [VLQ]
    have := z (.any cs) dt3 ⟨by omega, ht1⟩ (by simp only [wtC, List.length_cons]; omega) t3'
    simp only [cD, cDs_map] at this
    exact this
  · simp only [VLQ]
    have := z (.least m cs) dt3 ⟨⟨by omega, by omega⟩, ht1⟩ (by simp only [wtC, List.length_cons]; omega) t3'
    simp only [cD, cDs_map] at this
    exact this
theorem long_body {nx : DS → Mem → Prop} {rt : Sv → Mem → Prop} {bk ct : DS → Mem → Prop} {dt : List D} {cs : List Cm} {n b : Nat} {z : Int} {x2 x6 x7 : Option Sv} (ht : Tp b dt) (hb : b + 10 < 1099511627776) (hn : n ≤ 40) (hl : cs.length < 190)
    (hnx : ∀ (cs' : List Cm) (dt' : List D) (z' : Int) (d6 d7 : D), cs'.length ≤ cs.length + 1 → (∀ c ∈ cs', c ∈ cs ∨ c.tk n 0 ∧ (wtC c).length = 1) → Tp (b + 2) dt' → nx [some (.ref 0), some (.d (.int (n : Int))), x2, none, some (.ref 1), some (.d (.int z')), some (.d d6), some (.d d7)] [.lst dt', .lst (cs'.map cD)]) :
    b_long sp_take (spB sp_lctext 20) ⟨nx, rt, bk, ct⟩ [some (.ref 0), some (.d (.int (n : Int))), x2, none, some (.ref 1), some (.d (.int z)), x6, x7] [.lst dt, .lst (cs.map cD)] := by
  have fin : ∀ (c : Cm) (dt' : List D) (d6 : D), c.tk n 0 → (wtC c).length = 1 → Tp (b + 2) dt' → t_longE sp_take (spB sp_lctext 20) ⟨nx, rt, bk, ct⟩ [some (.ref 0), some (.d (.int (n : Int))), x2, none, some (.ref 1), some (.d (.int z)), some (.d d6), some (.d (cD c))] [.lst dt', .lst (cs.map cD)] := fun c dt' d6 hc h1 t' => by
    unfold t_longE
    simp only [VLQ]
    refine ⟨0, by decide, c, n, rfl, rfl, hc, by decide, by omega, by omega, ?_⟩
    have hlen : ∀ M, lenD M [.d (.str (ctT c))] = some (.d (.int ((ctT c).length : Int))) := fun M => len_s (by have := ct_len hc (by omega); rw [sizeLine_eq]; omega)
    simp only [VLQ, hlen]
    by_cases h4 : z + ((ctT c).length : Int) + 1 < 400
    · simp only [h4, if_true]
      refine ⟨by rw [sizeLine_eq, List.length_map]; omega, ?_⟩
      have := hnx (cs ++ [c]) dt' (z + ((ctT c).length : Int) + 1) d6 (cD c) (by rw [List.length_append]; exact Nat.le_refl _) (fun x hx => by
        rcases List.mem_append.mp hx with h | h
        · exact .inl h
        · rw [List.mem_singleton.mp h]; exact .inr ⟨hc, h1⟩) t'
      rw [List.map_append] at this
      exact this
    · simp only [h4, if_false]
      exact hnx cs dt' (z + ((ctT c).length : Int) + 1) d6 (cD c) (Nat.le_succ _) (fun x hx => .inl hx) t'
  generalize hT : t_longE sp_take (spB sp_lctext 20) = T at fin
  have yn : ∀ (dt1 : List D) (d6 : D), Tp (b + 1) dt1 → sp_take [.ref 0, .d (.int 2)] [.lst dt1] (fun v Mc => rvQ (fun y M2 => ok (ixD M2 (.d (.lst [.tup [.str "yes"], .tup [.str "no"]])) y) fun d => T ⟨nx, rt, bk, ct⟩ [some (.ref 0), some (.d (.int (n : Int))), x2, none, some (.ref 1), some (.d (.int z)), some (.d d6), some d] M2) v (backS [0] Mc [.lst dt1, .lst (cs.map cD)])) := fun dt1 d6 t1 => by
    refine ⟨dt1, 2, b + 1, rfl, rfl, t1, by omega, by decide, by decide, fun v dt2 g0 g1 t2 => ?_⟩
    simp only [VLQ]
    have hv : v = 0 ∨ v = 1 := by omega
    rcases hv with rfl | rfl
    · simp only [VLQ]
      have := fin .yes dt2 d6 trivial rfl t2
      simp only [cD] at this
      exact this
    · simp only [VLQ]
      have := fin .no dt2 d6 trivial rfl t2
      simp only [cD] at this
      exact this
  unfold b_long
  rw [hT]
  simp only [VLQ]
  by_cases h0 : n = 0
  · rw [if_pos (by omega), if_pos (by omega)]
    exact yn _ _ (ht.mono (by omega))
  · rw [if_neg (by omega)]
    refine ⟨dt, 20, b, rfl, rfl, ht, by omega, by decide, by decide, fun v dt2 g0 g1 t2 => ?_⟩
    simp only [VLQ]
    by_cases hv : v = 0
    · rw [if_pos hv]
      exact yn _ _ t2
    · rw [if_neg hv]
      refine ⟨dt2, (if (10 : Int) < (n : Int) then 10 else (n : Int)), b + 1, rfl, rfl, t2, by omega, by split <;> omega, by split <;> omega, fun u dt3 e0 e1 t3 => ?_⟩
      obtain ⟨k, rfl⟩ := Int.eq_ofNat_of_zero_le e0
      have hk : k < n := by split at e1 <;> omega
      simp only [VLQ]
      have := fin (.name k) dt3 (.bl (decide (v = 0))) hk rfl t3
      simp only [cD] at this
      exact this
theorem pure_long (as : List Sv) (M : Mem) (Q : Rv → Mem → Prop) (h : sp_long as M Q) : r_long sp_take (spB sp_lctext 20) (endsF M.length Q) (startD 8 as) M := by
  obtain ⟨dt, n, b, rfl, rfl, ht, hb, hn, z⟩ := h
  show r_long sp_take (spB sp_lctext 20) (endsF 1 Q) [some (.ref 0), some (.d (.int (n : Int))), none, none, none, none, none, none] [.lst dt]
  have loop : ∀ (t : Int) (dt1 : List D), 0 ≤ t → t ≤ 190 → Tp (b + 2) dt1 → forL 2 (gNm 2) (b_long sp_take (spB sp_lctext 20)) ⟨fun δ M => t_long sp_take (spB sp_lctext 20) (endsF 1 Q) δ M, (endsF 1 Q).rt, (endsF 1 Q).bk, (endsF 1 Q).ct⟩ gdT (rgL 0 t.toNat) [some (.ref 0), some (.d (.int (n : Int))), none, none, some (.ref 1), some (.d (.int 16)), none, none] [.lst dt1, .lst []] := fun t dt1 h0 h1 t1 => by
    refine for_ix _ (fun j δ M => ∃ (cs : List Cm) (dt' : List D) (y : Int) (o2 o6 o7 : Option Sv), (∀ k, gcO k o2 = o2) ∧ (∀ k, gcO k o6 = o6) ∧ (∀ k, gcO k o7 = o7) ∧ δ = [some (.ref 0), some (.d (.int (n : Int))), o2, none, some (.ref 1), some (.d (.int y)), o6, o7] ∧ M = [.lst dt', .lst (cs.map cD)] ∧ cs.length ≤ j ∧ (∀ c ∈ cs, c.tk n 0 ∧ (wtC c).length = 1) ∧ Tp (b + 2 + 2 * j) dt') ?_ ?_ _ _ ⟨[], dt1, 16, none, none, none, fun _ => rfl, fun _ => rfl, fun _ => rfl, rfl, rfl, Nat.le_refl _, fun _ h => absurd h List.not_mem_nil, t1⟩
    · rintro δ M ⟨cs, dt', y, o2, o6, o7, e2, e6, e7, rfl, rfl, hl, hc, t'⟩
      rw [rgL_len] at hl t'
      exact ⟨trivial, long_tail (t'.mono (by omega)) hb (by omega) hc z⟩
    · rintro j x δ M nx hx ⟨cs, dt', y, o2, o6, o7, e2, e6, e7, rfl, rfl, hl, hc, t'⟩ k
      obtain ⟨hj, rfl⟩ := rg_at hx
      refine ⟨trivial, ?_⟩
      simp only [gNm, List.set_cons_succ, List.set_cons_zero]
      refine long_body t' (by omega) hn (by omega) fun cs' dt2 z' d6 d7 hl' hc' t2 => k _ _ ⟨cs', dt2, z', some (.d (.int (0 + ((j : Nat) : Int)))), some (.d d6), some (.d d7), fun _ => rfl, fun _ => rfl, fun _ => rfl, ?_, rfl, by omega, fun c h => ?_, t2.mono (by omega)⟩
      · simp only [gcS_c, gcS_n, gcO_d, gcO_r (show 0 < 2 by decide), gcO_r (show 1 < 2 by decide)]; rfl
      · rcases hc' c h with h | h
        · exact hc c h
        · exact h
  unfold r_long
  simp only [VLQ]
  refine ⟨dt, 2, b, rfl, rfl, ht, by omega, by decide, by decide, fun v dt2 g0 g1 t2 => ?_⟩
  simp only [VLQ]
  by_cases hv : v = 0
  · rw [if_pos hv]
    exact ⟨by unfold I62; omega, fun h => h.elim, loop 190 dt2 (by decide) (by decide) (t2.mono (by omega))⟩
  · rw [if_neg hv]
    refine ⟨dt2, 131, b + 1, rfl, rfl, t2, by omega, by decide, by decide, fun u dt3 e0 e1 t3 => ?_⟩
    simp only [VLQ]
    exact ⟨by unfold I62; omega, fun h => h.elim, loop (60 + u) dt3 (by omega) (by omega) (t3.mono (by omega))⟩
end VL
set_option Elab.async false
set_option linter.all false
set_option maxRecDepth 100000
set_option maxHeartbeats 2000000
namespace VL
open PySem PySem.Spec L2 TL
mutual
theorem tk_mono {n : Nat} : ∀ (d d' : Nat) (c : Cm), d ≤ d' → c.tk n d → c.tk n d'
  | d, d', .yes, _, _ => by cases d' <;> trivial
  | d, d', .no, _, _ => by cases d' <;> trivial
  | d, d', .name k, _, o => by
    have hk : k < n := by cases d <;> exact o
    cases d' <;> exact hk
  | d + 1, d' + 1, .neg c, h, o => tk_mono d d' c (by omega) o
  | d + 1, d' + 1, .same a b, h, o => ⟨tk_mono d d' a (by omega) o.1, tk_mono d d' b (by omega) o.2⟩
  | d + 1, d' + 1, .all cs, h, o => ⟨o.1, tks_mono d d' cs (by omega) o.2⟩
  | d + 1, d' + 1, .any cs, h, o => ⟨o.1, tks_mono d d' cs (by omega) o.2⟩
  | d + 1, d' + 1, .least m cs, h, o => ⟨o.1, tks_mono d d' cs (by omega) o.2⟩
  | _ + 1, 0, .neg _, h, _ => by omega
  | _ + 1, 0, .same _ _, h, _ => by omega
  | _ + 1, 0, .all _, h, _ => by omega
  | _ + 1, 0, .any _, h, _ => by omega
  | _ + 1, 0, .least _ _, h, _ => by omega
  | 0, _, .neg _, _, o => o.elim
  | 0, _, .same _ _, _, o => o.elim
  | 0, _, .all _, _, o => o.elim
  | 0, _, .any _, _, o => o.elim
  | 0, _, .least _ _, _, o => o.elim
theorem tks_mono {n : Nat} : ∀ (d d' : Nat) (cs : List Cm), d ≤ d' → Cm.tks n d cs → Cm.tks n d' cs
  | _, _, [], _, _ => trivial
  | d, d', c :: cs, h, o => ⟨tk_mono d d' c h o.1, tks_mono d d' cs h o.2⟩
end
mutual
/-- the law's own claims -/
theorem ok_tk {n : Nat} : ∀ (d : Nat) (c : Cm), c.ok n d → c.sz ≤ 9000 → c.tk n d ∧ (wtC c).length ≤ 3 * c.sz
  | d, .yes, _, _ => ⟨by cases d <;> trivial, by simp [wtC, Cm.sz]⟩
  | d, .no, _, _ => ⟨by cases d <;> trivial, by simp [wtC, Cm.sz]⟩
  | d, .name k, o, _ => by
    have hk : k < n := by cases d <;> exact o
    exact ⟨by cases d <;> exact hk, by simp [wtC, Cm.sz]⟩
  | d + 1, .neg c, o, s => by
    simp only [Cm.sz] at s
    have h := ok_tk d c o (by omega)
    exact ⟨h.1, by simp only [wtC, Cm.sz, List.length_cons]; omega⟩
  | d + 1, .same a b, o, s => by
    simp only [Cm.sz] at s
    have h := ok_tk d a o.1 (by omega)
    have h' := ok_tk d b o.2 (by omega)
    exact ⟨⟨h.1, h'.1⟩, by simp only [wtC, Cm.sz, List.length_cons, List.length_append]; omega⟩
  | d + 1, .all cs, o, s => by
    simp only [Cm.sz] at s
    have h := oks_tk d cs o (by omega)
    have hl := cs_len cs
    exact ⟨⟨by omega, h.1⟩, by simp only [wtC, Cm.sz, List.length_cons]; omega⟩
  | d + 1, .any cs, o, s => by
    simp only [Cm.sz] at s
    have h := oks_tk d cs o (by omega)
    have hl := cs_len cs
    exact ⟨⟨by omega, h.1⟩, by simp only [wtC, Cm.sz, List.length_cons]; omega⟩
  | d + 1, .least m cs, o, s => by
    simp only [Cm.sz] at s
    have h := oks_tk d cs o.2 (by omega)
    have hl := cs_len cs
    have hm := o.1
    exact ⟨⟨⟨by omega, by omega⟩, h.1⟩, by simp only [wtC, Cm.sz, List.length_cons]; omega⟩
  | 0, .neg _, o, _ => o.elim
  | 0, .same _ _, o, _ => o.elim
  | 0, .all _, o, _ => o.elim
  | 0, .any _, o, _ => o.elim
  | 0, .least _ _, o, _ => o.elim
theorem oks_tk {n : Nat} : ∀ (d : Nat) (cs : List Cm), Cm.oks n d cs → Cm.szs cs ≤ 9000 → Cm.tks n d cs ∧ (wtCs cs).length ≤ 3 * Cm.szs cs
  | _, [], _, _ => ⟨trivial, Nat.zero_le _⟩
  | d, c :: cs, o, s => by
    simp only [Cm.szs] at s
    have h := ok_tk d c o.1 (by omega)
    have h' := oks_tk d cs o.2 (by omega)
    exact ⟨⟨h.1, h'.1⟩, by simp only [wtCs, Cm.szs, List.length_append]; omega⟩
end
theorem sm_cD {n : Nat} : ∀ (d : Nat) (c : Cm), c.tk n d → ∀ k, 2 * d + 1 ≤ k → Sm k (cD c) := by
  have base : ∀ {k : Nat} {l : List D}, 1 ≤ k → l.length < 1000000 → (∀ x ∈ l, ∀ j, Sm j x) → Sm k (.tup l) := fun {k l} hk hl h => by
    obtain ⟨j, rfl⟩ : ∃ j, k = j + 1 := ⟨k - 1, by omega⟩
    exact Sm.tup hl fun x hx => h x hx j
  have leaf : ∀ {k : Nat} (c : Cm), c.subs = [] → 1 ≤ k → (∀ cs, c ≠ .all cs) → (∀ cs, c ≠ .any cs) → (∀ m cs, c ≠ .least m cs) → Sm k (cD c) := fun {k} c h hk h1 h2 h3 => by
    cases c with
    | yes => exact base hk (by decide) fun x hx j => by rw [List.mem_singleton.mp hx]; exact .str
    | no => exact base hk (by decide) fun x hx j => by rw [List.mem_singleton.mp hx]; exact .str
    | name k =>
      exact base hk (by simp) fun x hx j => by
        simp only [List.mem_cons, List.not_mem_nil, or_false] at hx
        rcases hx with rfl | rfl
        · exact .str
        · exact .int
    | neg c => cases h
    | same a b => cases h
    | all cs => exact absurd rfl (h1 cs)
    | any cs => exact absurd rfl (h2 cs)
    | least m cs => exact absurd rfl (h3 m cs)
  intro d
  induction d with
  | zero =>
    intro c hk k h
    cases c with
    | yes => exact leaf _ rfl (by omega) (fun _ => nofun) (fun _ => nofun) (fun _ _ => nofun)
    | no => exact leaf _ rfl (by omega) (fun _ => nofun) (fun _ => nofun) (fun _ _ => nofun)
    | name k => exact leaf _ rfl (by omega) (fun _ => nofun) (fun _ => nofun) (fun _ _ => nofun)
    | neg c => exact hk.elim
    | same a b => exact hk.elim
    | all cs => exact hk.elim
    | any cs => exact hk.elim
    | least m cs => exact hk.elim
  | succ d ih =>
    intro c hk k h
    obtain ⟨j, rfl⟩ : ∃ j, k = j + 2 := ⟨k - 2, by omega⟩
    have many : ∀ cs : List Cm, cs.length < 10000 → Cm.tks n d cs → Sm (j + 1) (.tup (cDs cs)) := fun cs hl ht => Sm.tup (by rw [cDs_map, List.length_map]; omega) fun x hx => by
      rw [cDs_map] at hx
      obtain ⟨c, hc, rfl⟩ := List.mem_map.mp hx
      exact ih c (tks_all.mp ht c hc) j (by omega)
    cases c with
    | yes => exact leaf _ rfl (by omega) (fun _ => nofun) (fun _ => nofun) (fun _ _ => nofun)
    | no => exact leaf _ rfl (by omega) (fun _ => nofun) (fun _ => nofun) (fun _ _ => nofun)
    | name k => exact leaf _ rfl (by omega) (fun _ => nofun) (fun _ => nofun) (fun _ _ => nofun)
    | neg c =>
      exact Sm.tup (by simp) fun x hx => by
        simp only [List.mem_cons, List.not_mem_nil, or_false] at hx
        rcases hx with rfl | rfl
        · exact .str
        · exact ih c hk _ (by omega)
    | same a b =>
      exact Sm.tup (by simp) fun x hx => by
        simp only [List.mem_cons, List.not_mem_nil, or_false] at hx
        rcases hx with rfl | rfl | rfl
        · exact .str
        · exact ih a hk.1 _ (by omega)
        · exact ih b hk.2 _ (by omega)
    | all cs =>
      exact Sm.tup (by simp) fun x hx => by
        simp only [List.mem_cons, List.not_mem_nil, or_false] at hx
        rcases hx with rfl | rfl
        · exact .str
        · exact many cs hk.1 hk.2
    | any cs =>
      exact Sm.tup (by simp) fun x hx => by
        simp only [List.mem_cons, List.not_mem_nil, or_false] at hx
        rcases hx with rfl | rfl
        · exact .str
        · exact many cs hk.1 hk.2
    | least m cs =>
      exact Sm.tup (by simp) fun x hx => by
        simp only [List.mem_cons, List.not_mem_nil, or_false] at hx
        rcases hx with rfl | rfl | rfl
        · exact .str
        · exact .int
        · exact many cs hk.1.2 hk.2
/-- claims that the law asks -/
def Gk (n : Nat) (c : Cm) : Prop := c.tk n 15 ∧ (wtC c).length ≤ 3000
def c_60 (sp__law_tape : SpD) (sp__law_take : SpD) (sp__law_many : SpD) (sp__law_any_claim : SpD) (sp__law_claim_text : SpD) (sp__law_claim : SpD) (sp__law_long : SpD) (sp__law_same : SpD) (sp_claim_text : SpD) (sp_claim_from : SpD) : TS' :=
  (sIf (tOrr (tNt (tTr (eCall [false, false] sp__law_same (aCons (eCall [false] sp_claim_text (aP [(pV 7)])) (aP [(pV 10)]))))) (tNt (tTr (eCall [false, false] sp__law_same (aCons (eCall [false, false] sp_claim_from (aP [(pV 6), (pV 10)])) (aP [(pV 7)]))))))
  (sRet (eP (pC (.bl false))))
  sNil)
def b_60 (sp__law_tape : SpD) (sp__law_take : SpD) (sp__law_many : SpD) (sp__law_any_claim : SpD) (sp__law_claim_text : SpD) (sp__law_claim : SpD) (sp__law_long : SpD) (sp__law_same : SpD) (sp_claim_text : SpD) (sp_claim_from : SpD) : TS' :=
  (sSeq (sSet 10 (eCall [false] sp__law_claim_text (aP [(pV 7)])))
  (sFor (iRg false (aP [(pC (.int 2))])) (gNm 2)
  (c_60 sp__law_tape sp__law_take sp__law_many sp__law_any_claim sp__law_claim_text sp__law_claim sp__law_long sp__law_same sp_claim_text sp_claim_from)))
def e_60 (sp__law_tape : SpD) (sp__law_take : SpD) (sp__law_many : SpD) (sp__law_any_claim : SpD) (sp__law_claim_text : SpD) (sp__law_claim : SpD) (sp__law_long : SpD) (sp__law_same : SpD) (sp_claim_text : SpD) (sp_claim_from : SpD) : TS' :=
  (sFor (iSq (eFz (f2 catF (eP (pV 9)) (eFz (tLstF (aCons (tTupE (aCons (eP (pC (.str "least"))) (aCons (eCall [true, false] sp__law_take (aP [(pV 5), (pC (.int 10000))])) (aP [(poTup [(po2 ixD (pV 9) (pC (.int 0)))])])))) (aP []))))))) (gNm 7)
  (b_60 sp__law_tape sp__law_take sp__law_many sp__law_any_claim sp__law_claim_text sp__law_claim sp__law_long sp__law_same sp_claim_text sp_claim_from))
def f_60 (sp__law_tape : SpD) (sp__law_take : SpD) (sp__law_many : SpD) (sp__law_any_claim : SpD) (sp__law_claim_text : SpD) (sp__law_claim : SpD) (sp__law_long : SpD) (sp__law_same : SpD) (sp_claim_text : SpD) (sp_claim_from : SpD) : TS' :=
  (sSeq (sSet 9 (eFz (f2 catF (eFz (f2 catF (eP (pV 9)) (eFz (fLc (iPq (pV 8)) (.nm 12) (tTb (eo2 ltD (eoN lenD (aCons (eCall [false] sp__law_claim_text (aP [(pV 12)])) (aP []))) (eP (pC (.int 380))))) (eP (pV 12)) [12])))) (eFz (tLstF (aCons (eCall [true, false] sp__law_long (aP [(pV 5), (pV 6)])) (aP [])))))))
  (e_60 sp__law_tape sp__law_take sp__law_many sp__law_any_claim sp__law_claim_text sp__law_claim sp__law_long sp__law_same sp_claim_text sp_claim_from))
def g_60 (sp__law_tape : SpD) (sp__law_take : SpD) (sp__law_many : SpD) (sp__law_any_claim : SpD) (sp__law_claim_text : SpD) (sp__law_claim : SpD) (sp__law_long : SpD) (sp__law_same : SpD) (sp_claim_text : SpD) (sp_claim_from : SpD) : TS' :=
  (sSeq (sSet 9 (eP (pFz (pl2 catF (pFz (plLst [(pV 7)])) (pFz (plSl (pV 3) (poI (poN intD [(po2 eqD (pV 6) (pC (.int 0)))])) poNo))))))
  (f_60 sp__law_tape sp__law_take sp__law_many sp__law_any_claim sp__law_claim_text sp__law_claim sp__law_long sp__law_same sp_claim_text sp_claim_from))
def h_60 (sp__law_tape : SpD) (sp__law_take : SpD) (sp__law_many : SpD) (sp__law_any_claim : SpD) (sp__law_claim_text : SpD) (sp__law_claim : SpD) (sp__law_long : SpD) (sp__law_same : SpD) (sp_claim_text : SpD) (sp_claim_from : SpD) : TS' :=
  (sSeq (sSet 8 (eo1 tupC (eFz (fLc (iRg true (aCons (eo2 addD (eP (pC (.int 10))) (eCall [true, false] sp__law_take (aP [(pV 5), (pC (.int 11))]))) (aP []))) (.nm 11) tYs (eCall [true, false, false] sp__law_claim (aP [(pV 5), (pV 6), (po2 subD (pC (.int 1)) (poN intD [(po2 gtD (pV 11) (pC (.int 4)))]))])) [11]))))
  (sSeq (sSet 8 (eFz (tLstF (aCons (eP (poTup [(pC (.str "and")), (pV 8)])) (aCons (eP (poTup [(pC (.str "or")), (pV 8)])) (aCons (tTupE (aCons (eP (pC (.str "least"))) (aCons (eCall [true, false] sp__law_take (aP [(pV 5), (pC (.int 30))])) (aP [(pV 8)])))) (aP [])))))))
  (g_60 sp__law_tape sp__law_take sp__law_many sp__law_any_claim sp__law_claim_text sp__law_claim sp__law_long sp__law_same sp_claim_text sp_claim_from)))
def i_60 (sp__law_tape : SpD) (sp__law_take : SpD) (sp__law_many : SpD) (sp__law_any_claim : SpD) (sp__law_claim_text : SpD) (sp__law_claim : SpD) (sp__law_long : SpD) (sp__law_same : SpD) (sp_claim_text : SpD) (sp_claim_from : SpD) : TS' :=
  (sSeq (sIf (tTb (eo2 gtD (eoN lenD (aCons (eCall [false] sp__law_claim_text (aP [(pV 7)])) (aP []))) (eP (pC (.int 380)))))
  (sSet 7 (eCall [true, false, false] sp__law_claim (aP [(pV 5), (pV 6), (pC (.int 1))])))
  sNil)
  (h_60 sp__law_tape sp__law_take sp__law_many sp__law_any_claim sp__law_claim_text sp__law_claim sp__law_long sp__law_same sp_claim_text sp_claim_from))
def j_60 (sp__law_tape : SpD) (sp__law_take : SpD) (sp__law_many : SpD) (sp__law_any_claim : SpD) (sp__law_claim_text : SpD) (sp__law_claim : SpD) (sp__law_long : SpD) (sp__law_same : SpD) (sp_claim_text : SpD) (sp_claim_from : SpD) : TS' :=
  (sSeq (sSet 5 (eCall [false, false] sp__law_tape (aP [(pV 0), (pV 4)])))
  (sSeq (sSet 6 (eIf (tTb (eo2 eqD (eCall [true, false] sp__law_take (aP [(pV 5), (pC (.int 4))])) (eP (pC (.int 0))))) (eo2 addD (eP (pC (.int 9))) (eCall [true, false] sp__law_take (aP [(pV 5), (pC (.int 22))]))) (eCall [true] sp__law_many (aP [(pV 5)]))))
  (sSeq (sSet 7 (eCall [true, false] sp__law_any_claim (aP [(pV 5), (pV 6)])))
  (i_60 sp__law_tape sp__law_take sp__law_many sp__law_any_claim sp__law_claim_text sp__law_claim sp__law_long sp__law_same sp_claim_text sp_claim_from))))
def t_60 (sp__law_tape : SpD) (sp__law_take : SpD) (sp__law_many : SpD) (sp__law_any_claim : SpD) (sp__law_claim_text : SpD) (sp__law_claim : SpD) (sp__law_long : SpD) (sp__law_same : SpD) (sp_claim_text : SpD) (sp_claim_from : SpD) : TS' :=
  (sSeq (sSet 3 (eP (pFz (plLst [(pV 1), (poTup [(pC (.str "least")), (pC (.int 9999)), (poTup [])]), (poTup [(pC (.str "least")), (pC (.int 0)), (poTup [(poTup [(pC (.str "no"))])])]), (poTup [(pC (.str "and")), (poTup [])]), (poTup [(pC (.str "or")), (poTup [(poTup [(pC (.str "and")), (poTup [])])])]), (poTup [(pC (.str "yes"))])]))))
  (sSeq (sFor (iRg false (aP [(po2 addD (pC (.int 1)) (poN minD [(pC (.int 8)), (poN lenD [(pV 0)])]))])) (gNm 4)
  (j_60 sp__law_tape sp__law_take sp__law_many sp__law_any_claim sp__law_claim_text sp__law_claim sp__law_long sp__law_same sp_claim_text sp_claim_from))
  (sRet (eP (pC (.bl true))))))
def r_law60 (sp__law_tape : SpD) (sp__law_take : SpD) (sp__law_many : SpD) (sp__law_any_claim : SpD) (sp__law_claim_text : SpD) (sp__law_claim : SpD) (sp__law_long : SpD) (sp__law_same : SpD) (sp_claim_text : SpD) (sp_claim_from : SpD) : TS' :=
  (sSeq (sSet 1 (eP (poTup [(pC (.str "name")), (pC (.int 0))])))
  (sSeq (sFor (iRg false (aP [(pC (.int 11))])) (gNm 2)
  (sSet 1 (eP (poTup [(pC (.str "not")), (pV 1)]))))
  (t_60 sp__law_tape sp__law_take sp__law_many sp__law_any_claim sp__law_claim_text sp__law_claim sp__law_long sp__law_same sp_claim_text sp_claim_from)))
end VL
set_option Elab.async false
set_option linter.all false
set_option maxRecDepth 100000
set_option maxHeartbeats 2000000
namespace VL
open PySem PySem.Spec L2 TL
section
variable {spt spk spm spy spl spc sp8 : SpD} {c : Cm} {n : Nat} {ns : List Int} {d1 d3 d4 d8 d9 : D} {dt : List D} {x2 x10 x11 x12 : Option Sv} {nx : DS → Mem → Prop} {rt : Sv → Mem → Prop} {bk ct : DS → Mem → Prop}
theorem same_s {s : Str} {R : Rv → Mem → Prop} (h : R (.d (.bl true)) []) : spB sp_same 40 [.d (.str s), .d (.str s)] [] R := ⟨0, by decide, _, _, _, rfl, .inl rfl, .inl rfl, rfl, .str, h⟩
theorem same_c {R : Rv → Mem → Prop} (g : Gk n c) (h : R (.d (.bl true)) []) : spB sp_same 40 [.d (cD c), .d (cD c)] [] R := ⟨31, by decide, _, _, _, rfl, .inl rfl, .inl rfl, rfl, sm_cD 15 c g.1 31 (by omega), h⟩
local macro_rules
  | `(tactic| simp only [VLQ]) => `(tactic| simp -implicitDefEqProofs only [sSeq, sIf, sSet, sSub, sRet, sRetN, sNil, sDrop, sAsg, sPar, sParT, sAug, cP, bB, bTr, bNt, bAn, bOr, po1, po2, poN, pArgs, poIf, poAn, poOr, poNt, poTup, plLst, plN, pl2, pl1, pFz, pV, pC, eP, eo1, eo2, eoN, aP, aNil, aCons, eAn, eOr, eNt, eIf, eFz, eNw, fP, fN, f2, f1, tTupE, tLstF, tTr, tTb, tAn, tOrr, tNt, tYs, eSeal, eMt, poMt, mPure, eCh, pCh, ok_bind, ok_map, ok_some, ok_none, ok_gd, ok_ite, List.getElem?_cons_zero, List.getElem?_cons_succ, List.set_cons_zero, List.set_cons_succ, Option.join_some, Option.bind_some, Option.map_some, Option.bind_none, Option.map_none, ix_ref, ix_tup, ix_lst, ix_bor, ix_scr, add_int, add_str, add_tup, sub_int, mul_int, fdiv_int, mod_int, pow_int, neg_int, lt_int, le_int, gt_int, ge_int, eq_int, eq_str, eq_bl, ne_int, ne_str, ne_bl, is_bl, isnt_bl, is_non, isnt_non, len_tup, len_lst, len_ref, len_bor, len_scr, int_bl, int_int, abs_int, min_int, max_int, blD_bl, cell_lst, cellA_lst, cellA_dk, st_ref, at_0, at_1, at_2, at_3, at_4, ixN_10, ixN_20, ixN_21, ixN_30, ixN_31, ixN_32, dataS_d, datas_nil, datas_cons, truth_bl, notD, intS, blS, nonB, List.length_cons, List.length_nil, Nat.reduceAdd, endsF_rt, endsF_nx, rvQ_d, rvQ_new, rvQ_newK, rv_d, rv_ref, rv_cl, rv_ck, okRef_d, okRef_ref, List.not_mem_nil, List.nil_append, true_and, and_true, List.take_succ_cons, List.take_zero, Nat.zero_add, decide_eq_true_eq, Bool.false_eq_true, if_false, if_true, callS, handS_n, handS_tr, handS_fr, handS_fd, handS_fb, cellsAt_c, cellsAt_0, Option.getD_some, backS_0, backS_1, eCall, tup_lst, tup_tup, tup_ref, fLc, iRg, rng_1, rng_2, wipeS_c, wipeS_n, iPq, iSq, seq_tup, seq_lst, seq_bor, lst_lst, lst_bor, gdS_d, gdS_b, sFor, gNm, gcS_c, gcS_n, gcO_d, gcO_n, mapp, rcv_0, rcv_1, rcv_l, gcO_r0, gcO_r1, gcO_z, seal_d, eq_self, List.take_nil, List.cons_append, poSl, poI, poNo, slD_t, intO_i, list_t, list_l, in_str2, ofS_inj, String.reduceEq, or_false, false_or, or_true, true_or, or_self, decide_true, decide_false, Bool.not_true, Bool.not_false, at_m1_2, at_m1_3, cut_2, cut_3, all_bls, any_bls, count_bls, lcg_nm, lcg_tp, lst_ref, laid_l, laid_b, laid_r, list_b, list_r, len_refI, lenOf_ref, rcv_2, rcv_3, rcv_b, slF_l, slF_b, slF_r, cat_l, repr_d, plSl, backS_2, List.mem_singleton, one_ne, if_false, callS, seal_r, Nat.le_refl, cat_get, cat_set, List.append_assoc, List.length_append, List.append_nil, at_ite, Nat.zero_le, iTq, tupD])
  | `(tactic| simp only [VLQ, $xs,*]) => `(tactic| simp -implicitDefEqProofs only [sSeq, sIf, sSet, sSub, sRet, sRetN, sNil, sDrop, sAsg, sPar, sParT, sAug, cP, bB, bTr, bNt, bAn, bOr, po1, po2, poN, pArgs, poIf, poAn, poOr, poNt, poTup, plLst, plN, pl2, pl1, pFz, pV, pC, eP, eo1, eo2, eoN, aP, aNil, aCons, eAn, eOr, eNt, eIf, eFz, eNw, fP, fN, f2, f1, tTupE, tLstF, tTr, tTb, tAn, tOrr, tNt, tYs, eSeal, eMt, poMt, mPure, eCh, pCh, ok_bind, ok_map, ok_some, ok_none, ok_gd, ok_ite, List.getElem?_cons_zero, List.getElem?_cons_succ, List.set_cons_zero, List.set_cons_succ, Option.join_some, Option.bind_some, Option.map_some, Option.bind_none, Option.map_none, ix_ref, ix_tup, ix_lst, ix_bor, ix_scr, add_int, add_str, add_tup, sub_int, mul_int, fdiv_int, mod_int, pow_int, neg_int, lt_int, le_int, gt_int, ge_int, eq_int, eq_str, eq_bl, ne_int, ne_str, ne_bl, is_bl, isnt_bl, is_non, isnt_non, len_tup, len_lst, len_ref, len_bor, len_scr, int_bl, int_int, abs_int, min_int, max_int, blD_bl, cell_lst, cellA_lst, cellA_dk, st_ref, at_0, at_1, at_2, at_3, at_4, ixN_10, ixN_20, ixN_21, ixN_30, ixN_31, ixN_32, dataS_d, datas_nil, datas_cons, truth_bl, notD, intS, blS, nonB, List.length_cons, List.length_nil, Nat.reduceAdd, endsF_rt, endsF_nx, rvQ_d, rvQ_new, rvQ_newK, rv_d, rv_ref, rv_cl, rv_ck, okRef_d, okRef_ref, List.not_mem_nil, List.nil_append, true_and, and_true, List.take_succ_cons, List.take_zero, Nat.zero_add, decide_eq_true_eq, Bool.false_eq_true, if_false, if_true, callS, handS_n, handS_tr, handS_fr, handS_fd, handS_fb, cellsAt_c, cellsAt_0, Option.getD_some, backS_0, backS_1, eCall, tup_lst, tup_tup, tup_ref, fLc, iRg, rng_1, rng_2, wipeS_c, wipeS_n, iPq, iSq, seq_tup, seq_lst, seq_bor, lst_lst, lst_bor, gdS_d, gdS_b, sFor, gNm, gcS_c, gcS_n, gcO_d, gcO_n, mapp, rcv_0, rcv_1, rcv_l, gcO_r0, gcO_r1, gcO_z, seal_d, eq_self, List.take_nil, List.cons_append, poSl, poI, poNo, slD_t, intO_i, list_t, list_l, in_str2, ofS_inj, String.reduceEq, or_false, false_or, or_true, true_or, or_self, decide_true, decide_false, Bool.not_true, Bool.not_false, at_m1_2, at_m1_3, cut_2, cut_3, all_bls, any_bls, count_bls, lcg_nm, lcg_tp, lst_ref, laid_l, laid_b, laid_r, list_b, list_r, len_refI, lenOf_ref, rcv_2, rcv_3, rcv_b, slF_l, slF_b, slF_r, cat_l, repr_d, plSl, backS_2, List.mem_singleton, one_ne, if_false, callS, seal_r, Nat.le_refl, cat_get, cat_set, List.append_assoc, List.length_append, List.append_nil, at_ite, Nat.zero_le, iTq, tupD, $xs,*])
theorem one60 (g : Gk n c) (hn : n ≤ 10000) (k : nx [some (.d (.scr ns)), some (.d d1), x2, some (.d d3), some (.d d4), some (.ref 0), some (.d (.int (n : Int))), some (.d (cD c)), some (.d d8), some (.d d9), some (.d (.str (ctT c))), x11, x12] [.lst dt]) :
    c_60 spt spk spm spy spl spc sp8 (spB sp_same 40) (sp_ctext 20) (sp_cfrom 20) ⟨nx, rt, bk, ct⟩ [some (.d (.scr ns)), some (.d d1), x2, some (.d d3), some (.d d4), some (.ref 0), some (.d (.int (n : Int))), some (.d (cD c)), some (.d d8), some (.d d9), some (.d (.str (ctT c))), x11, x12] [.lst dt] := by
  unfold c_60
  simp only [VLQ]
  refine ⟨c, n, 15, rfl, rfl, g.1, by decide, hn, by have := g.2; omega, ?_⟩
  simp only [VLQ]
  refine same_s ?_
  simp only [VLQ]
  refine ⟨c, n, 15, rfl, rfl, g.1, by decide, hn, by have := g.2; omega, ?_⟩
  simp only [VLQ]
  refine same_c g ?_
  simp only [VLQ]
  exact k
theorem turn60 (g : Gk n c) (hn : n ≤ 10000) (h11 : ∀ k, gcO k x11 = x11) (h12 : ∀ k, gcO k x12 = x12) (h2 : ∀ k, gcO k x2 = x2)
    (k : ∀ o2, (∀ k, gcO k o2 = o2) → nx [some (.d (.scr ns)), some (.d d1), o2, some (.d d3), some (.d d4), some (.ref 0), some (.d (.int (n : Int))), some (.d (cD c)), some (.d d8), some (.d d9), some (.d (.str (ctT c))), x11, x12] [.lst dt]) :
    b_60 spt spk spm spy (spB sp_lctext 20) spc sp8 (spB sp_same 40) (sp_ctext 20) (sp_cfrom 20) ⟨nx, rt, bk, ct⟩ [some (.d (.scr ns)), some (.d d1), x2, some (.d d3), some (.d d4), some (.ref 0), some (.d (.int (n : Int))), some (.d (cD c)), some (.d d8), some (.d d9), x10, x11, x12] [.lst dt] := by
  unfold b_60
  simp only [VLQ]
  refine ⟨15, by decide, c, n, rfl, rfl, g.1, by decide, hn, by have := g.2; omega, ?_⟩
  simp only [VLQ]
  refine ⟨by unfold I62; omega, fun h => h.elim, ?_⟩
  refine for_ix _ (fun j δ M => ∃ o2, (∀ k, gcO k o2 = o2) ∧ δ = [some (.d (.scr ns)), some (.d d1), o2, some (.d d3), some (.d d4), some (.ref 0), some (.d (.int (n : Int))), some (.d (cD c)), some (.d d8), some (.d d9), some (.d (.str (ctT c))), x11, x12] ∧ M = [.lst dt]) ?_ ?_ _ _ ⟨x2, h2, rfl, rfl⟩
  · rintro δ M ⟨o2, e2, rfl, rfl⟩
    exact ⟨trivial, k o2 e2⟩
  · rintro j x δ M nx hx ⟨o2, e2, rfl, rfl⟩ k
    refine ⟨trivial, ?_⟩
    simp only [gNm, List.set_cons_succ, List.set_cons_zero]
    refine one60 g hn (k _ _ ⟨some (.d x), fun _ => rfl, ?_, rfl⟩)
    simp only [gcS_c, gcS_n, gcO_d, gcO_r (show 0 < 1 by decide), h11, h12]
theorem all60 {cs : List Cm} {x7 : Option Sv} (g : ∀ c ∈ cs, Gk n c) (hn : n ≤ 10000) (h11 : ∀ k, gcO k x11 = x11) (h12 : ∀ k, gcO k x12 = x12) (h2 : ∀ k, gcO k x2 = x2) (h10 : ∀ k, gcO k x10 = x10) (h7 : ∀ k, gcO k x7 = x7)
    (k : ∀ o2 o7 o10, nx [some (.d (.scr ns)), some (.d d1), o2, some (.d d3), some (.d d4), some (.ref 0), some (.d (.int (n : Int))), o7, some (.d d8), some (.d d9), o10, x11, x12] [.lst dt]) :
    forL 1 (gNm 7) (b_60 spt spk spm spy (spB sp_lctext 20) spc sp8 (spB sp_same 40) (sp_ctext 20) (sp_cfrom 20)) ⟨nx, rt, bk, ct⟩ gdT (cs.map cD) [some (.d (.scr ns)), some (.d d1), x2, some (.d d3), some (.d d4), some (.ref 0), some (.d (.int (n : Int))), x7, some (.d d8), some (.d d9), x10, x11, x12] [.lst dt] := by
  refine for_ix _ (fun j δ M => ∃ o2 o7 o10, (∀ k, gcO k o2 = o2) ∧ (∀ k, gcO k o10 = o10) ∧ δ = [some (.d (.scr ns)), some (.d d1), o2, some (.d d3), some (.d d4), some (.ref 0), some (.d (.int (n : Int))), o7, some (.d d8), some (.d d9), o10, x11, x12] ∧ M = [.lst dt]) ?_ ?_ _ _ ⟨x2, x7, x10, h2, h10, rfl, rfl⟩
  · rintro δ M ⟨o2, o7, o10, _, _, rfl, rfl⟩
    exact ⟨trivial, k o2 o7 o10⟩
  · rintro j x δ M nx hx ⟨o2, o7, o10, e2, e10, rfl, rfl⟩ k
    rw [List.getElem?_map] at hx
    obtain ⟨c, hc, rfl⟩ := Option.map_eq_some_iff.mp hx
    refine ⟨trivial, ?_⟩
    simp only [gNm, List.set_cons_succ, List.set_cons_zero]
    refine turn60 (g c (List.mem_of_getElem? hc)) hn h11 h12 e2 fun p2 hp2 => k _ _ ⟨p2, some (.d (cD c)), some (.d (.str (ctT c))), hp2, fun _ => rfl, ?_, rfl⟩
    simp only [gcS_c, gcS_n, gcO_d, gcO_r (show 0 < 1 by decide), h11, h12, hp2]
end
end VL
set_option Elab.async false
set_option linter.all false
set_option maxRecDepth 100000
set_option maxHeartbeats 2000000
namespace VL
open PySem PySem.Spec L2 TL
/-- claims within the law's own -/
def Gi (n : Nat) (c : Cm) : Prop := c.tk n 14 ∧ (wtC c).length ≤ 2900
theorem Gi.gk {n : Nat} {c : Cm} (g : Gi n c) : Gk n c := ⟨tk_mono 14 15 c (by omega) g.1, by have := g.2; omega⟩
section
variable {spt spm spy spc sp8 : SpD} {n b : Nat} {ns : List Int} {d1 d3 d4 d8 : D} {dt : List D} {x2 x7 x10 x11 x12 : Option Sv} {nx : DS → Mem → Prop} {rt : Sv → Mem → Prop} {bk ct : DS → Mem → Prop}
local macro_rules
  | `(tactic| simp only [VLQ]) => `(tactic| simp -implicitDefEqProofs only [sSeq, sIf, sSet, sSub, sRet, sRetN, sNil, sDrop, sAsg, sPar, sParT, sAug, cP, bB, bTr, bNt, bAn, bOr, po1, po2, poN, pArgs, poIf, poAn, poOr, poNt, poTup, plLst, plN, pl2, pl1, pFz, pV, pC, eP, eo1, eo2, eoN, aP, aNil, aCons, eAn, eOr, eNt, eIf, eFz, eNw, fP, fN, f2, f1, tTupE, tLstF, tTr, tTb, tAn, tOrr, tNt, tYs, eSeal, eMt, poMt, mPure, eCh, pCh, ok_bind, ok_map, ok_some, ok_none, ok_gd, ok_ite, List.getElem?_cons_zero, List.getElem?_cons_succ, List.set_cons_zero, List.set_cons_succ, Option.join_some, Option.bind_some, Option.map_some, Option.bind_none, Option.map_none, ix_ref, ix_tup, ix_lst, ix_bor, ix_scr, add_int, add_str, add_tup, sub_int, mul_int, fdiv_int, mod_int, pow_int, neg_int, lt_int, le_int, gt_int, ge_int, eq_int, eq_str, eq_bl, ne_int, ne_str, ne_bl, is_bl, isnt_bl, is_non, isnt_non, len_tup, len_lst, len_ref, len_bor, len_scr, int_bl, int_int, abs_int, min_int, max_int, blD_bl, cell_lst, cellA_lst, cellA_dk, st_ref, at_0, at_1, at_2, at_3, at_4, ixN_10, ixN_20, ixN_21, ixN_30, ixN_31, ixN_32, dataS_d, datas_nil, datas_cons, truth_bl, notD, intS, blS, nonB, List.length_cons, List.length_nil, Nat.reduceAdd, endsF_rt, endsF_nx, rvQ_d, rvQ_new, rvQ_newK, rv_d, rv_ref, rv_cl, rv_ck, okRef_d, okRef_ref, List.not_mem_nil, List.nil_append, true_and, and_true, List.take_succ_cons, List.take_zero, Nat.zero_add, decide_eq_true_eq, Bool.false_eq_true, if_false, if_true, callS, handS_n, handS_tr, handS_fr, handS_fd, handS_fb, cellsAt_c, cellsAt_0, Option.getD_some, backS_0, backS_1, eCall, tup_lst, tup_tup, tup_ref, fLc, iRg, rng_1, rng_2, wipeS_c, wipeS_n, iPq, iSq, seq_tup, seq_lst, seq_bor, lst_lst, lst_bor, gdS_d, gdS_b, sFor, gNm, gcS_c, gcS_n, gcO_d, gcO_n, mapp, rcv_0, rcv_1, rcv_l, gcO_r0, gcO_r1, gcO_z, seal_d, eq_self, List.take_nil, List.cons_append, poSl, poI, poNo, slD_t, intO_i, list_t, list_l, in_str2, ofS_inj, String.reduceEq, or_false, false_or, or_true, true_or, or_self, decide_true, decide_false, Bool.not_true, Bool.not_false, at_m1_2, at_m1_3, cut_2, cut_3, all_bls, any_bls, count_bls, lcg_nm, lcg_tp, lst_ref, laid_l, laid_b, laid_r, list_b, list_r, len_refI, lenOf_ref, rcv_2, rcv_3, rcv_b, slF_l, slF_b, slF_r, cat_l, repr_d, plSl, backS_2, List.mem_singleton, one_ne, if_false, callS, seal_r, Nat.le_refl, cat_get, cat_set, List.append_assoc, List.length_append, List.append_nil, at_ite, Nat.zero_le, iTq, tupD])
  | `(tactic| simp only [VLQ, $xs,*]) => `(tactic| simp -implicitDefEqProofs only [sSeq, sIf, sSet, sSub, sRet, sRetN, sNil, sDrop, sAsg, sPar, sParT, sAug, cP, bB, bTr, bNt, bAn, bOr, po1, po2, poN, pArgs, poIf, poAn, poOr, poNt, poTup, plLst, plN, pl2, pl1, pFz, pV, pC, eP, eo1, eo2, eoN, aP, aNil, aCons, eAn, eOr, eNt, eIf, eFz, eNw, fP, fN, f2, f1, tTupE, tLstF, tTr, tTb, tAn, tOrr, tNt, tYs, eSeal, eMt, poMt, mPure, eCh, pCh, ok_bind, ok_map, ok_some, ok_none, ok_gd, ok_ite, List.getElem?_cons_zero, List.getElem?_cons_succ, List.set_cons_zero, List.set_cons_succ, Option.join_some, Option.bind_some, Option.map_some, Option.bind_none, Option.map_none, ix_ref, ix_tup, ix_lst, ix_bor, ix_scr, add_int, add_str, add_tup, sub_int, mul_int, fdiv_int, mod_int, pow_int, neg_int, lt_int, le_int, gt_int, ge_int, eq_int, eq_str, eq_bl, ne_int, ne_str, ne_bl, is_bl, isnt_bl, is_non, isnt_non, len_tup, len_lst, len_ref, len_bor, len_scr, int_bl, int_int, abs_int, min_int, max_int, blD_bl, cell_lst, cellA_lst, cellA_dk, st_ref, at_0, at_1, at_2, at_3, at_4, ixN_10, ixN_20, ixN_21, ixN_30, ixN_31, ixN_32, dataS_d, datas_nil, datas_cons, truth_bl, notD, intS, blS, nonB, List.length_cons, List.length_nil, Nat.reduceAdd, endsF_rt, endsF_nx, rvQ_d, rvQ_new, rvQ_newK, rv_d, rv_ref, rv_cl, rv_ck, okRef_d, okRef_ref, List.not_mem_nil, List.nil_append, true_and, and_true, List.take_succ_cons, List.take_zero, Nat.zero_add, decide_eq_true_eq, Bool.false_eq_true, if_false, if_true, callS, handS_n, handS_tr, handS_fr, handS_fd, handS_fb, cellsAt_c, cellsAt_0, Option.getD_some, backS_0, backS_1, eCall, tup_lst, tup_tup, tup_ref, fLc, iRg, rng_1, rng_2, wipeS_c, wipeS_n, iPq, iSq, seq_tup, seq_lst, seq_bor, lst_lst, lst_bor, gdS_d, gdS_b, sFor, gNm, gcS_c, gcS_n, gcO_d, gcO_n, mapp, rcv_0, rcv_1, rcv_l, gcO_r0, gcO_r1, gcO_z, seal_d, eq_self, List.take_nil, List.cons_append, poSl, poI, poNo, slD_t, intO_i, list_t, list_l, in_str2, ofS_inj, String.reduceEq, or_false, false_or, or_true, true_or, or_self, decide_true, decide_false, Bool.not_true, Bool.not_false, at_m1_2, at_m1_3, cut_2, cut_3, all_bls, any_bls, count_bls, lcg_nm, lcg_tp, lst_ref, laid_l, laid_b, laid_r, list_b, list_r, len_refI, lenOf_ref, rcv_2, rcv_3, rcv_b, slF_l, slF_b, slF_r, cat_l, repr_d, plSl, backS_2, List.mem_singleton, one_ne, if_false, callS, seal_r, Nat.le_refl, cat_get, cat_set, List.append_assoc, List.length_append, List.append_nil, at_ite, Nat.zero_le, iTq, tupD, $xs,*])
theorem e60 {c0 : Cm} {cs : List Cm} (g0 : Gi n c0) (g : ∀ c ∈ cs, Gi n c) (hn : n ≤ 40) (hl : cs.length ≤ 100) (t : Tp b dt) (hb : b + 10 < 1099511627776)
    (h11 : ∀ k, gcO k x11 = x11) (h12 : ∀ k, gcO k x12 = x12) (h2 : ∀ k, gcO k x2 = x2) (h10 : ∀ k, gcO k x10 = x10) (h7 : ∀ k, gcO k x7 = x7)
    (k : ∀ o2 o7 o10 dt', nx [some (.d (.scr ns)), some (.d d1), o2, some (.d d3), some (.d d4), some (.ref 0), some (.d (.int (n : Int))), o7, some (.d d8), some (.d (.lst (cD c0 :: cs.map cD))), o10, x11, x12] [.lst dt']) :
    e_60 spt sp_take spm spy (spB sp_lctext 20) spc sp8 (spB sp_same 40) (sp_ctext 20) (sp_cfrom 20) ⟨nx, rt, bk, ct⟩ [some (.d (.scr ns)), some (.d d1), x2, some (.d d3), some (.d d4), some (.ref 0), some (.d (.int (n : Int))), x7, some (.d d8), some (.d (.lst (cD c0 :: cs.map cD))), x10, x11, x12] [.lst dt] := by
  unfold e_60
  generalize hB : b_60 spt sp_take spm spy (spB sp_lctext 20) spc sp8 (spB sp_same 40) (sp_ctext 20) (sp_cfrom 20) = B
  simp only [VLQ]
  refine ⟨dt, 10000, b, rfl, rfl, t, by omega, by decide, by decide, fun v dt2 v0 v1 t2 => ?_⟩
  obtain ⟨m, rfl⟩ := Int.eq_ofNat_of_zero_le v0
  simp only [VLQ]
  refine ⟨by rw [sizeLine_eq, List.length_map]; omega, ?_⟩
  subst hB
  have e : cD c0 :: (cs.map cD ++ [D.tup [D.str "least", D.int (m : Int), D.tup [cD c0]]]) = (c0 :: (cs ++ [.least m [c0]])).map cD := by
    rw [List.map_cons, List.map_append]; rfl
  rw [e]
  refine all60 (fun c hc => ?_) (by omega) h11 h12 h2 h10 h7 fun o2 o7 o10 => k o2 o7 o10 dt2
  rcases List.mem_cons.mp hc with rfl | hc
  · exact g0.gk
  · rcases List.mem_append.mp hc with h | h
    · exact (g c h).gk
    · rw [List.mem_singleton.mp h]
      refine ⟨⟨⟨by omega, by simp⟩, g0.1, trivial⟩, ?_⟩
      have := g0.2
      simp only [wtC, wtCs, List.length_cons, List.append_nil]; omega
theorem f60 {c0 : Cm} {cs ws : List Cm} (g0 : Gi n c0) (g : ∀ c ∈ cs, Gi n c) (gw : ∀ c ∈ ws, Gi n c) (hn : n ≤ 40) (hl : cs.length ≤ 50) (hw : ws.length ≤ 10) (t : Tp b dt) (hb : b + 2000 < 1099511627776)
    (h11 : ∀ k, gcO k x11 = x11) (h12 : ∀ k, gcO k x12 = x12) (h2 : ∀ k, gcO k x2 = x2) (h10 : ∀ k, gcO k x10 = x10) (h7 : ∀ k, gcO k x7 = x7)
    (k : ∀ o2 o7 d9 o10 dt', nx [some (.d (.scr ns)), some (.d d1), o2, some (.d d3), some (.d d4), some (.ref 0), some (.d (.int (n : Int))), o7, some (.d (.lst (ws.map cD))), some (.d d9), o10, x11, x12] [.lst dt']) :
    f_60 spt sp_take spm spy (spB sp_lctext 20) spc sp_long (spB sp_same 40) (sp_ctext 20) (sp_cfrom 20) ⟨nx, rt, bk, ct⟩ [some (.d (.scr ns)), some (.d d1), x2, some (.d d3), some (.d d4), some (.ref 0), some (.d (.int (n : Int))), x7, some (.d (.lst (ws.map cD))), some (.d (.lst (cD c0 :: cs.map cD))), x10, x11, x12] [.lst dt] := by
  unfold f_60
  generalize hB : e_60 spt sp_take spm spy (spB sp_lctext 20) spc sp_long (spB sp_same 40) (sp_ctext 20) (sp_cfrom 20) = B
  simp only [VLQ]
  refine lc_gf (e := cD) (f := cD) (p := fun c => decide ((ctT c).length < 380)) trivial ?_ ?_
  · intro c hc R1 R2 hR1 hR2
    have gc := gw c hc
    simp only [gNm, List.set_cons_succ, List.set_cons_zero]
    simp only [VLQ]
    refine ⟨14, by decide, c, n, rfl, rfl, gc.1, by decide, by omega, by have := gc.2; omega, ?_⟩
    have hlen : ∀ M, lenD M [.d (.str (ctT c))] = some (.d (.int ((ctT c).length : Int))) := fun M => len_s (by have := ct_len gc.1 (by omega); have := gc.2; rw [sizeLine_eq]; omega)
    simp only [VLQ, hlen]
    by_cases h : (ctT c).length < 380
    · rw [if_pos (by omega)]; exact hR1 (decide_eq_true h)
    · rw [if_neg (by omega)]; exact hR2 (decide_eq_false h)
  · have hf : (ws.filter fun c => decide ((ctT c).length < 380)).length ≤ 10 := Nat.le_trans (List.length_filter_le _ _) hw
    have gf : ∀ c ∈ ws.filter fun c => decide ((ctT c).length < 380), Gi n c := fun c hc => gw c (List.mem_filter.mp hc).1
    generalize (ws.filter fun c => decide ((ctT c).length < 380)) = vs at hf gf
    simp only [VLQ]
    refine ⟨by rw [sizeLine_eq, List.length_map, List.length_map]; omega, dt, n, b, rfl, rfl, t, by omega, hn, fun c dt' hc hwc t' => ?_⟩
    simp only [VLQ]
    refine ⟨by rw [sizeLine_eq, List.length_map, List.length_map]; show _ + 1 ≤ _; omega, ?_⟩
    subst hB
    have e : cs.map cD ++ (vs.map cD ++ [cD c]) = (cs ++ (vs ++ [c])).map cD := by simp only [List.map_append]; rfl
    rw [e]
    refine e60 (b := b + 1000) g0 (fun x hx => ?_) hn (by simp only [List.length_append, List.length_cons, List.length_nil]; omega) t' (by omega) h11 h12 h2 h10 h7 fun o2 o7 o10 dt2 => k o2 o7 _ o10 dt2
    rcases List.mem_append.mp hx with h | h
    · exact g x h
    · rcases List.mem_append.mp h with h | h
      · exact gf x h
      · rw [List.mem_singleton.mp h]
        exact ⟨tk_mono 1 14 c (by omega) hc, by omega⟩
end
end VL
set_option Elab.async false
set_option linter.all false
set_option maxRecDepth 100000
set_option maxHeartbeats 2000000
namespace VL
open PySem PySem.Spec L2 TL
def nt0 : Nat → Cm
  | 0 => .name 0
  | k + 1 => .neg (nt0 k)
theorem nt0_tk {n : Nat} (h : 0 < n) : ∀ k, (nt0 k).tk n k
  | 0 => h
  | k + 1 => nt0_tk h k
theorem nt0_len : ∀ k, (wtC (nt0 k)).length = k + 1
  | 0 => rfl
  | k + 1 => by rw [nt0, wtC, List.length_cons, nt0_len k]
/-- the law's small claims -/
def smC : List Cm := [.least 9999 [], .least 0 [.no], .all [], .any [.all []], .yes]
theorem smC_gi {n : Nat} : ∀ c ∈ smC, Gi n c := fun c hc => by
  simp only [smC, List.mem_cons, List.not_mem_nil, or_false] at hc
  rcases hc with rfl | rfl | rfl | rfl | rfl
  · exact ⟨⟨⟨by decide, by decide⟩, trivial⟩, by decide⟩
  · exact ⟨⟨⟨by decide, by decide⟩, trivial, trivial⟩, by decide⟩
  · exact ⟨⟨by decide, trivial⟩, by decide⟩
  · exact ⟨⟨by decide, ⟨by decide, trivial⟩, trivial⟩, by decide⟩
  · exact ⟨trivial, by decide⟩
section
variable {spt spm spy spc : SpD} {n b : Nat} {ns : List Int} {d1 d4 : D} {dt : List D} {x2 x7 x9 x10 x11 x12 : Option Sv} {nx : DS → Mem → Prop} {rt : Sv → Mem → Prop} {bk ct : DS → Mem → Prop}
local macro_rules
  | `(tactic| simp only [VLQ]) => `(tactic| simp -implicitDefEqProofs only [sSeq, sIf, sSet, sSub, sRet, sRetN, sNil, sDrop, sAsg, sPar, sParT, sAug, cP, bB, bTr, bNt, bAn, bOr, po1, po2, poN, pArgs, poIf, poAn, poOr, poNt, poTup, plLst, plN, pl2, pl1, pFz, pV, pC, eP, eo1, eo2, eoN, aP, aNil, aCons, eAn, eOr, eNt, eIf, eFz, eNw, fP, fN, f2, f1, tTupE, tLstF, tTr, tTb, tAn, tOrr, tNt, tYs, eSeal, eMt, poMt, mPure, eCh, pCh, ok_bind, ok_map, ok_some, ok_none, ok_gd, ok_ite, List.getElem?_cons_zero, List.getElem?_cons_succ, List.set_cons_zero, List.set_cons_succ, Option.join_some, Option.bind_some, Option.map_some, Option.bind_none, Option.map_none, ix_ref, ix_tup, ix_lst, ix_bor, ix_scr, add_int, add_str, add_tup, sub_int, mul_int, fdiv_int, mod_int, pow_int, neg_int, lt_int, le_int, gt_int, ge_int, eq_int, eq_str, eq_bl, ne_int, ne_str, ne_bl, is_bl, isnt_bl, is_non, isnt_non, len_tup, len_lst, len_ref, len_bor, len_scr, int_bl, int_int, abs_int, min_int, max_int, blD_bl, cell_lst, cellA_lst, cellA_dk, st_ref, at_0, at_1, at_2, at_3, at_4, ixN_10, ixN_20, ixN_21, ixN_30, ixN_31, ixN_32, dataS_d, datas_nil, datas_cons, truth_bl, notD, intS, blS, nonB, List.length_cons, List.length_nil, Nat.reduceAdd, endsF_rt, endsF_nx, rvQ_d, rvQ_new, rvQ_newK, rv_d, rv_ref, rv_cl, rv_ck, okRef_d, okRef_ref, List.not_mem_nil, List.nil_append, true_and, and_true, List.take_succ_cons, List.take_zero, Nat.zero_add, decide_eq_true_eq, Bool.false_eq_true, if_false, if_true, callS, handS_n, handS_tr, handS_fr, handS_fd, handS_fb, cellsAt_c, cellsAt_0, Option.getD_some, backS_0, backS_1, eCall, tup_lst, tup_tup, tup_ref, fLc, iRg, rng_1, rng_2, wipeS_c, wipeS_n, iPq, iSq, seq_tup, seq_lst, seq_bor, lst_lst, lst_bor, gdS_d, gdS_b, sFor, gNm, gcS_c, gcS_n, gcO_d, gcO_n, mapp, rcv_0, rcv_1, rcv_l, gcO_r0, gcO_r1, gcO_z, seal_d, eq_self, List.take_nil, List.cons_append, poSl, poI, poNo, slD_t, intO_i, list_t, list_l, in_str2, ofS_inj, String.reduceEq, or_false, false_or, or_true, true_or, or_self, decide_true, decide_false, Bool.not_true, Bool.not_false, at_m1_2, at_m1_3, cut_2, cut_3, all_bls, any_bls, count_bls, lcg_nm, lcg_tp, lst_ref, laid_l, laid_b, laid_r, list_b, list_r, len_refI, lenOf_ref, rcv_2, rcv_3, rcv_b, slF_l, slF_b, slF_r, cat_l, repr_d, plSl, backS_2, List.mem_singleton, one_ne, if_false, callS, seal_r, Nat.le_refl, cat_get, cat_set, List.append_assoc, List.length_append, List.append_nil, at_ite, Nat.zero_le, iTq, tupD])
  | `(tactic| simp only [VLQ, $xs,*]) => `(tactic| simp -implicitDefEqProofs only [sSeq, sIf, sSet, sSub, sRet, sRetN, sNil, sDrop, sAsg, sPar, sParT, sAug, cP, bB, bTr, bNt, bAn, bOr, po1, po2, poN, pArgs, poIf, poAn, poOr, poNt, poTup, plLst, plN, pl2, pl1, pFz, pV, pC, eP, eo1, eo2, eoN, aP, aNil, aCons, eAn, eOr, eNt, eIf, eFz, eNw, fP, fN, f2, f1, tTupE, tLstF, tTr, tTb, tAn, tOrr, tNt, tYs, eSeal, eMt, poMt, mPure, eCh, pCh, ok_bind, ok_map, ok_some, ok_none, ok_gd, ok_ite, List.getElem?_cons_zero, List.getElem?_cons_succ, List.set_cons_zero, List.set_cons_succ, Option.join_some, Option.bind_some, Option.map_some, Option.bind_none, Option.map_none, ix_ref, ix_tup, ix_lst, ix_bor, ix_scr, add_int, add_str, add_tup, sub_int, mul_int, fdiv_int, mod_int, pow_int, neg_int, lt_int, le_int, gt_int, ge_int, eq_int, eq_str, eq_bl, ne_int, ne_str, ne_bl, is_bl, isnt_bl, is_non, isnt_non, len_tup, len_lst, len_ref, len_bor, len_scr, int_bl, int_int, abs_int, min_int, max_int, blD_bl, cell_lst, cellA_lst, cellA_dk, st_ref, at_0, at_1, at_2, at_3, at_4, ixN_10, ixN_20, ixN_21, ixN_30, ixN_31, ixN_32, dataS_d, datas_nil, datas_cons, truth_bl, notD, intS, blS, nonB, List.length_cons, List.length_nil, Nat.reduceAdd, endsF_rt, endsF_nx, rvQ_d, rvQ_new, rvQ_newK, rv_d, rv_ref, rv_cl, rv_ck, okRef_d, okRef_ref, List.not_mem_nil, List.nil_append, true_and, and_true, List.take_succ_cons, List.take_zero, Nat.zero_add, decide_eq_true_eq, Bool.false_eq_true, if_false, if_true, callS, handS_n, handS_tr, handS_fr, handS_fd, handS_fb, cellsAt_c, cellsAt_0, Option.getD_some, backS_0, backS_1, eCall, tup_lst, tup_tup, tup_ref, fLc, iRg, rng_1, rng_2, wipeS_c, wipeS_n, iPq, iSq, seq_tup, seq_lst, seq_bor, lst_lst, lst_bor, gdS_d, gdS_b, sFor, gNm, gcS_c, gcS_n, gcO_d, gcO_n, mapp, rcv_0, rcv_1, rcv_l, gcO_r0, gcO_r1, gcO_z, seal_d, eq_self, List.take_nil, List.cons_append, poSl, poI, poNo, slD_t, intO_i, list_t, list_l, in_str2, ofS_inj, String.reduceEq, or_false, false_or, or_true, true_or, or_self, decide_true, decide_false, Bool.not_true, Bool.not_false, at_m1_2, at_m1_3, cut_2, cut_3, all_bls, any_bls, count_bls, lcg_nm, lcg_tp, lst_ref, laid_l, laid_b, laid_r, list_b, list_r, len_refI, lenOf_ref, rcv_2, rcv_3, rcv_b, slF_l, slF_b, slF_r, cat_l, repr_d, plSl, backS_2, List.mem_singleton, one_ne, if_false, callS, seal_r, Nat.le_refl, cat_get, cat_set, List.append_assoc, List.length_append, List.append_nil, at_ite, Nat.zero_le, iTq, tupD, $xs,*])
theorem g60 {c0 : Cm} {ws : List Cm} (g0 : Gi n c0) (gw : ∀ c ∈ ws, Gi n c) (hn : n ≤ 40) (hw : ws.length ≤ 10) (t : Tp b dt) (hb : b + 2000 < 1099511627776)
    (h11 : ∀ k, gcO k x11 = x11) (h12 : ∀ k, gcO k x12 = x12) (h2 : ∀ k, gcO k x2 = x2) (h10 : ∀ k, gcO k x10 = x10)
    (k : ∀ o2 o7 d9 o10 dt', nx [some (.d (.scr ns)), some (.d d1), o2, some (.d (.lst ((nt0 11 :: smC).map cD))), some (.d d4), some (.ref 0), some (.d (.int (n : Int))), o7, some (.d (.lst (ws.map cD))), some (.d d9), o10, x11, x12] [.lst dt']) :
    g_60 spt sp_take spm spy (spB sp_lctext 20) spc sp_long (spB sp_same 40) (sp_ctext 20) (sp_cfrom 20) ⟨nx, rt, bk, ct⟩ [some (.d (.scr ns)), some (.d d1), x2, some (.d (.lst ((nt0 11 :: smC).map cD))), some (.d d4), some (.ref 0), some (.d (.int (n : Int))), some (.d (cD c0)), some (.d (.lst (ws.map cD))), x9, x10, x11, x12] [.lst dt] := by
  have fin : ∀ cs : List Cm, (∀ c ∈ cs, Gi n c) → cs.length ≤ 50 → _ := fun cs g hl => f60 (spt := spt) (spm := spm) (spy := spy) (spc := spc) (rt := rt) (bk := bk) (ct := ct) (x7 := some (.d (cD c0))) (nx := nx) (d1 := d1) (d4 := d4) (d3 := .lst ((nt0 11 :: smC).map cD)) (ns := ns) g0 g gw hn hl hw t hb h11 h12 h2 h10 (fun _ => rfl) k
  generalize hL : (nt0 11 :: smC).map cD = L at fin ⊢
  generalize hB : f_60 spt sp_take spm spy (spB sp_lctext 20) spc sp_long (spB sp_same 40) (sp_ctext 20) (sp_cfrom 20) = B at fin
  unfold g_60
  rw [hB]
  by_cases h0 : n = 0
  · have e0 : decide ((n : Int) = 0) = true := decide_eq_true (by omega)
    have ec : cutD L (some 1) none = smC.map cD := by rw [← hL]; rfl
    simp only [VLQ, e0, ec]
    exact ⟨by rw [sizeLine_eq]; decide, fin smC smC_gi (by decide)⟩
  · have e0 : decide ((n : Int) = 0) = false := decide_eq_false (by omega)
    have ec : cutD L (some 0) none = (nt0 11 :: smC).map cD := by rw [← hL]; rfl
    simp only [VLQ, e0, ec]
    refine ⟨by rw [sizeLine_eq]; decide, fin (nt0 11 :: smC) (fun c hc => ?_) (by decide)⟩
    rcases List.mem_cons.mp hc with rfl | hc
    · exact ⟨tk_mono 11 14 _ (by decide) (nt0_tk (by omega) 11), by rw [nt0_len]; decide⟩
    · exact smC_gi c hc
end
end VL
set_option Elab.async false
set_option linter.all false
set_option maxRecDepth 100000
set_option maxHeartbeats 2000000
namespace VL
open PySem PySem.Spec L2 TL
section
variable {spt spm spy : SpD} {n b : Nat} {ns : List Int} {d1 d4 : D} {dt : List D} {x2 x8 x9 x10 x11 x12 : Option Sv} {nx : DS → Mem → Prop} {rt : Sv → Mem → Prop} {bk ct : DS → Mem → Prop}
local macro_rules
  | `(tactic| simp only [VLQ]) => `(tactic| simp -implicitDefEqProofs only [sSeq, sIf, sSet, sSub, sRet, sRetN, sNil, sDrop, sAsg, sPar, sParT, sAug, cP, bB, bTr, bNt, bAn, bOr, po1, po2, poN, pArgs, poIf, poAn, poOr, poNt, poTup, plLst, plN, pl2, pl1, pFz, pV, pC, eP, eo1, eo2, eoN, aP, aNil, aCons, eAn, eOr, eNt, eIf, eFz, eNw, fP, fN, f2, f1, tTupE, tLstF, tTr, tTb, tAn, tOrr, tNt, tYs, eSeal, eMt, poMt, mPure, eCh, pCh, ok_bind, ok_map, ok_some, ok_none, ok_gd, ok_ite, List.getElem?_cons_zero, List.getElem?_cons_succ, List.set_cons_zero, List.set_cons_succ, Option.join_some, Option.bind_some, Option.map_some, Option.bind_none, Option.map_none, ix_ref, ix_tup, ix_lst, ix_bor, ix_scr, add_int, add_str, add_tup, sub_int, mul_int, fdiv_int, mod_int, pow_int, neg_int, lt_int, le_int, gt_int, ge_int, eq_int, eq_str, eq_bl, ne_int, ne_str, ne_bl, is_bl, isnt_bl, is_non, isnt_non, len_tup, len_lst, len_ref, len_bor, len_scr, int_bl, int_int, abs_int, min_int, max_int, blD_bl, cell_lst, cellA_lst, cellA_dk, st_ref, at_0, at_1, at_2, at_3, at_4, ixN_10, ixN_20, ixN_21, ixN_30, ixN_31, ixN_32, dataS_d, datas_nil, datas_cons, truth_bl, notD, intS, blS, nonB, List.length_cons, List.length_nil, Nat.reduceAdd, endsF_rt, endsF_nx, rvQ_d, rvQ_new, rvQ_newK, rv_d, rv_ref, rv_cl, rv_ck, okRef_d, okRef_ref, List.not_mem_nil, List.nil_append, true_and, and_true, List.take_succ_cons, List.take_zero, Nat.zero_add, decide_eq_true_eq, Bool.false_eq_true, if_false, if_true, callS, handS_n, handS_tr, handS_fr, handS_fd, handS_fb, cellsAt_c, cellsAt_0, Option.getD_some, backS_0, backS_1, eCall, tup_lst, tup_tup, tup_ref, fLc, iRg, rng_1, rng_2, wipeS_c, wipeS_n, iPq, iSq, seq_tup, seq_lst, seq_bor, lst_lst, lst_bor, gdS_d, gdS_b, sFor, gNm, gcS_c, gcS_n, gcO_d, gcO_n, mapp, rcv_0, rcv_1, rcv_l, gcO_r0, gcO_r1, gcO_z, seal_d, eq_self, List.take_nil, List.cons_append, poSl, poI, poNo, slD_t, intO_i, list_t, list_l, in_str2, ofS_inj, String.reduceEq, or_false, false_or, or_true, true_or, or_self, decide_true, decide_false, Bool.not_true, Bool.not_false, at_m1_2, at_m1_3, cut_2, cut_3, all_bls, any_bls, count_bls, lcg_nm, lcg_tp, lst_ref, laid_l, laid_b, laid_r, list_b, list_r, len_refI, lenOf_ref, rcv_2, rcv_3, rcv_b, slF_l, slF_b, slF_r, cat_l, repr_d, plSl, backS_2, List.mem_singleton, one_ne, if_false, callS, seal_r, Nat.le_refl, cat_get, cat_set, List.append_assoc, List.length_append, List.append_nil, at_ite, Nat.zero_le, iTq, tupD])
  | `(tactic| simp only [VLQ, $xs,*]) => `(tactic| simp -implicitDefEqProofs only [sSeq, sIf, sSet, sSub, sRet, sRetN, sNil, sDrop, sAsg, sPar, sParT, sAug, cP, bB, bTr, bNt, bAn, bOr, po1, po2, poN, pArgs, poIf, poAn, poOr, poNt, poTup, plLst, plN, pl2, pl1, pFz, pV, pC, eP, eo1, eo2, eoN, aP, aNil, aCons, eAn, eOr, eNt, eIf, eFz, eNw, fP, fN, f2, f1, tTupE, tLstF, tTr, tTb, tAn, tOrr, tNt, tYs, eSeal, eMt, poMt, mPure, eCh, pCh, ok_bind, ok_map, ok_some, ok_none, ok_gd, ok_ite, List.getElem?_cons_zero, List.getElem?_cons_succ, List.set_cons_zero, List.set_cons_succ, Option.join_some, Option.bind_some, Option.map_some, Option.bind_none, Option.map_none, ix_ref, ix_tup, ix_lst, ix_bor, ix_scr, add_int, add_str, add_tup, sub_int, mul_int, fdiv_int, mod_int, pow_int, neg_int, lt_int, le_int, gt_int, ge_int, eq_int, eq_str, eq_bl, ne_int, ne_str, ne_bl, is_bl, isnt_bl, is_non, isnt_non, len_tup, len_lst, len_ref, len_bor, len_scr, int_bl, int_int, abs_int, min_int, max_int, blD_bl, cell_lst, cellA_lst, cellA_dk, st_ref, at_0, at_1, at_2, at_3, at_4, ixN_10, ixN_20, ixN_21, ixN_30, ixN_31, ixN_32, dataS_d, datas_nil, datas_cons, truth_bl, notD, intS, blS, nonB, List.length_cons, List.length_nil, Nat.reduceAdd, endsF_rt, endsF_nx, rvQ_d, rvQ_new, rvQ_newK, rv_d, rv_ref, rv_cl, rv_ck, okRef_d, okRef_ref, List.not_mem_nil, List.nil_append, true_and, and_true, List.take_succ_cons, List.take_zero, Nat.zero_add, decide_eq_true_eq, Bool.false_eq_true, if_false, if_true, callS, handS_n, handS_tr, handS_fr, handS_fd, handS_fb, cellsAt_c, cellsAt_0, Option.getD_some, backS_0, backS_1, eCall, tup_lst, tup_tup, tup_ref, fLc, iRg, rng_1, rng_2, wipeS_c, wipeS_n, iPq, iSq, seq_tup, seq_lst, seq_bor, lst_lst, lst_bor, gdS_d, gdS_b, sFor, gNm, gcS_c, gcS_n, gcO_d, gcO_n, mapp, rcv_0, rcv_1, rcv_l, gcO_r0, gcO_r1, gcO_z, seal_d, eq_self, List.take_nil, List.cons_append, poSl, poI, poNo, slD_t, intO_i, list_t, list_l, in_str2, ofS_inj, String.reduceEq, or_false, false_or, or_true, true_or, or_self, decide_true, decide_false, Bool.not_true, Bool.not_false, at_m1_2, at_m1_3, cut_2, cut_3, all_bls, any_bls, count_bls, lcg_nm, lcg_tp, lst_ref, laid_l, laid_b, laid_r, list_b, list_r, len_refI, lenOf_ref, rcv_2, rcv_3, rcv_b, slF_l, slF_b, slF_r, cat_l, repr_d, plSl, backS_2, List.mem_singleton, one_ne, if_false, callS, seal_r, Nat.le_refl, cat_get, cat_set, List.append_assoc, List.length_append, List.append_nil, at_ite, Nat.zero_le, iTq, tupD, $xs,*])
theorem h60 {c0 : Cm} (g0 : Gi n c0) (hn : n ≤ 40) (t : Tp b dt) (hb : b + 5000 < 1099511627776)
    (h11 : ∀ k, gcO k x11 = x11) (h12 : ∀ k, gcO k x12 = x12) (h2 : ∀ k, gcO k x2 = x2) (h10 : ∀ k, gcO k x10 = x10)
    (k : ∀ o2 o7 d8 d9 o10 o11 dt', (∀ k, gcO k o11 = o11) → nx [some (.d (.scr ns)), some (.d d1), o2, some (.d (.lst ((nt0 11 :: smC).map cD))), some (.d d4), some (.ref 0), some (.d (.int (n : Int))), o7, some (.d d8), some (.d d9), o10, o11, x12] [.lst dt']) :
    h_60 spt sp_take spm spy (spB sp_lctext 20) (spB sp_claim 4) sp_long (spB sp_same 40) (sp_ctext 20) (sp_cfrom 20) ⟨nx, rt, bk, ct⟩ [some (.d (.scr ns)), some (.d d1), x2, some (.d (.lst ((nt0 11 :: smC).map cD))), some (.d d4), some (.ref 0), some (.d (.int (n : Int))), some (.d (cD c0)), x8, x9, x10, x11, x12] [.lst dt] := by
  have fin : ∀ (us : List Cm) (m : Nat) (dt' : List D) (o11 : Option Sv), (∀ k, gcO k o11 = o11) → us.length ≤ 20 → (∀ c ∈ us, c.tk n 1 ∧ (wtC c).length ≤ 15) → m < 30 → Tp (b + 1000) dt' → _ := fun us m dt' o11 h11 hl hu hm t' =>
    g60 (ws := [.all us, .any us, .least m us]) (spt := spt) (spm := spm) (spy := spy) (spc := spB sp_claim 4) (rt := rt) (bk := bk) (ct := ct) (nx := nx) (d1 := d1) (d4 := d4) (ns := ns) (x9 := x9) g0 (fun c hc => by
      have hw : ∀ l : List Cm, (∀ c ∈ l, (wtC c).length ≤ 15) → (wtCs l).length ≤ 15 * l.length := fun l => by
        induction l with
        | nil => exact fun _ => Nat.le_refl _
        | cons c l ih =>
          intro h
          have h1 := h c List.mem_cons_self
          have h2 := ih fun x hx => h x (List.mem_cons_of_mem _ hx)
          rw [wtCs, List.length_append, List.length_cons]; omega
      have h1 := hw us fun c hc => (hu c hc).2
      have h2 : Cm.tks n 13 us := tks_mono 1 13 us (by decide) (tks_all.mpr fun c hc => (hu c hc).1)
      simp only [List.mem_cons, List.not_mem_nil, or_false] at hc
      rcases hc with rfl | rfl | rfl
      · exact ⟨⟨by omega, h2⟩, by simp only [wtC, List.length_cons]; omega⟩
      · exact ⟨⟨by omega, h2⟩, by simp only [wtC, List.length_cons]; omega⟩
      · exact ⟨⟨⟨by omega, by omega⟩, h2⟩, by simp only [wtC, List.length_cons]; omega⟩) hn (by simp) t' (by omega) h11 h12 h2 h10 fun o2 o7 d9 o10 dt' => k o2 o7 _ d9 o10 o11 dt' h11
  generalize (D.lst ((nt0 11 :: smC).map cD)) = L at fin ⊢
  generalize hB : g_60 spt sp_take spm spy (spB sp_lctext 20) (spB sp_claim 4) sp_long (spB sp_same 40) (sp_ctext 20) (sp_cfrom 20) = B at fin
  unfold h_60
  rw [hB]
  simp only [VLQ]
  refine ⟨dt, 11, b, rfl, rfl, t, by omega, by decide, by decide, fun v dt2 v0 v1 t2 => ?_⟩
  simp only [VLQ]
  have hrl : (rgL 0 (10 + v).toNat).length = (10 + v).toNat := rgL_len _ _
  refine ⟨by unfold I62; omega, fun _ => by rw [hrl, sizeLine_eq]; omega, ?_⟩
  refine lc_ix _ (fun j acc M => ∃ (us : List Cm) (dt' : List D), acc = us.map cD ∧ us.length = j ∧ (∀ c ∈ us, c.tk n 1 ∧ (wtC c).length ≤ 15) ∧ M = [.lst dt'] ∧ Tp (b + 1 + 15 * j) dt') ?_ ?_ _ _ ⟨[], dt2, rfl, rfl, fun _ h => absurd h List.not_mem_nil, rfl, t2⟩
  · rintro acc M ⟨us, dt', rfl, hl, hu, rfl, t'⟩
    rw [hrl] at hl
    refine ⟨trivial, ?_⟩
    simp only [VLQ]
    refine ⟨dt', 30, b + 400, rfl, rfl, t'.mono (by rw [hrl]; omega), by omega, by decide, by decide, fun w dt3 w0 w1 t3 => ?_⟩
    obtain ⟨m, rfl⟩ := Int.eq_ofNat_of_zero_le w0
    simp only [VLQ]
    have := fin us m dt3 x11 h11 (by omega) hu (by omega) (t3.mono (by omega))
    simp only [List.map_cons, List.map_nil, cD, cDs_map] at this
    exact this
  · rintro j x acc M nx' hx ⟨us, dt', rfl, hl, hu, rfl, t'⟩ k'
    refine ⟨trivial, ?_⟩
    obtain ⟨hj, rfl⟩ := rg_at hx
    simp only [gNm, List.set_cons_succ, List.set_cons_zero]
    simp only [VLQ]
    have cS0 : cS 0 = 1 := rfl
    have cS1 : cS 1 = 5 := rfl
    have cC0 : cC 0 = 3 := rfl
    have cC1 : cC 1 = 15 := rfl
    have nxt : ∀ (c : Cm) (ds' : List D), c.tk n 1 → (wtC c).length ≤ 15 → Tp (b + 1 + 15 * (j + 1)) ds' → nx' (us.map cD ++ [cD c]) [.lst ds'] := fun c ds' hc hw td => k' _ _ ⟨us ++ [c], ds', by rw [List.map_append]; rfl, by rw [List.length_append]; show _ + 1 = _; omega, fun x hx => by
      rcases List.mem_append.mp hx with h | h
      · exact hu x h
      · rw [List.mem_singleton.mp h]; exact ⟨hc, hw⟩, rfl, td⟩
    by_cases h4 : (4 : Int) < 0 + (j : Int)
    · have e : (1 - if (4 : Int) < 0 + (j : Int) then 1 else 0 : Int) = ((0 : Nat) : Int) := by rw [if_pos h4]; rfl
      rw [e]
      refine ⟨0, by decide, dt', n, b + 1 + 15 * j, rfl, rfl, t', by omega, by omega, fun c ds' hc hs td => ?_⟩
      have h := ok_tk 0 c hc (by omega)
      simp only [VLQ]
      exact nxt c ds' (tk_mono 0 1 c (by decide) h.1) (by omega) (td.mono (by omega))
    · have e : (1 - if (4 : Int) < 0 + (j : Int) then 1 else 0 : Int) = ((1 : Nat) : Int) := by rw [if_neg h4]; rfl
      rw [e]
      refine ⟨1, by decide, dt', n, b + 1 + 15 * j, rfl, rfl, t', by omega, by omega, fun c ds' hc hs td => ?_⟩
      have h := ok_tk 1 c hc (by omega)
      simp only [VLQ]
      exact nxt c ds' h.1 (by omega) (td.mono (by omega))
theorem i60 {c0 : Cm} (g0 : Gi n c0) (hn : n ≤ 40) (t : Tp b dt) (hb : b + 6000 < 1099511627776)
    (h11 : ∀ k, gcO k x11 = x11) (h12 : ∀ k, gcO k x12 = x12) (h2 : ∀ k, gcO k x2 = x2) (h10 : ∀ k, gcO k x10 = x10)
    (k : ∀ o2 o7 d8 d9 o10 o11 dt', (∀ k, gcO k o11 = o11) → nx [some (.d (.scr ns)), some (.d d1), o2, some (.d (.lst ((nt0 11 :: smC).map cD))), some (.d d4), some (.ref 0), some (.d (.int (n : Int))), o7, some (.d d8), some (.d d9), o10, o11, x12] [.lst dt']) :
    i_60 spt sp_take spm spy (spB sp_lctext 20) (spB sp_claim 4) sp_long (spB sp_same 40) (sp_ctext 20) (sp_cfrom 20) ⟨nx, rt, bk, ct⟩ [some (.d (.scr ns)), some (.d d1), x2, some (.d (.lst ((nt0 11 :: smC).map cD))), some (.d d4), some (.ref 0), some (.d (.int (n : Int))), some (.d (cD c0)), x8, x9, x10, x11, x12] [.lst dt] := by
  have fin : ∀ (c : Cm) (dt' : List D), Gi n c → Tp (b + 20) dt' → _ := fun c dt' gc t' => h60 (spt := spt) (spm := spm) (spy := spy) (rt := rt) (bk := bk) (ct := ct) (nx := nx) (d1 := d1) (d4 := d4) (ns := ns) (x8 := x8) (x9 := x9) gc hn t' (by omega) h11 h12 h2 h10 k
  generalize (D.lst ((nt0 11 :: smC).map cD)) = L at fin ⊢
  generalize hB : h_60 spt sp_take spm spy (spB sp_lctext 20) (spB sp_claim 4) sp_long (spB sp_same 40) (sp_ctext 20) (sp_cfrom 20) = B at fin
  unfold i_60
  rw [hB]
  simp only [VLQ]
  refine ⟨14, by decide, c0, n, rfl, rfl, g0.1, by decide, by omega, by have := g0.2; omega, ?_⟩
  have hlen : ∀ M, lenD M [.d (.str (ctT c0))] = some (.d (.int ((ctT c0).length : Int))) := fun M => len_s (by have := ct_len g0.1 (by omega); have := g0.2; rw [sizeLine_eq]; omega)
  simp only [VLQ, hlen]
  by_cases h : (380 : Int) < ((ctT c0).length : Int)
  · rw [if_pos h]
    have cC1 : cC 1 = 15 := rfl
    have cS1 : cS 1 = 5 := rfl
    refine ⟨1, by decide, dt, n, b, rfl, rfl, t, by omega, by omega, fun c ds' hc hs td => ?_⟩
    have h := ok_tk 1 c hc (by omega)
    simp only [VLQ]
    exact fin c ds' ⟨tk_mono 1 14 c (by decide) h.1, by omega⟩ (td.mono (by omega))
  · rw [if_neg h]
    exact fin c0 dt g0 (t.mono (by omega))
theorem j60 {nss : List Int} {j : Nat} {x5 x6 x7 : Option Sv} (hj : j ≤ 9)
    (h11 : ∀ k, gcO k x11 = x11) (h12 : ∀ k, gcO k x12 = x12) (h2 : ∀ k, gcO k x2 = x2) (h10 : ∀ k, gcO k x10 = x10)
    (k : ∀ o2 o6 o7 o8 o9 o10 o11 dt', (∀ k, gcO k o11 = o11) → nx [some (.d (.scr nss)), some (.d d1), o2, some (.d (.lst ((nt0 11 :: smC).map cD))), some (.d (.int (j : Int))), some (.ref 0), o6, o7, o8, o9, o10, o11, x12] [.lst dt']) :
    j_60 sp_tape sp_take sp_many sp_any (spB sp_lctext 20) (spB sp_claim 4) sp_long (spB sp_same 40) (sp_ctext 20) (sp_cfrom 20) ⟨nx, rt, bk, ct⟩ [some (.d (.scr nss)), some (.d d1), x2, some (.d (.lst ((nt0 11 :: smC).map cD))), some (.d (.int (j : Int))), x5, x6, x7, x8, x9, x10, x11, x12] [] := by
  have fin : ∀ (n b : Nat) (c : Cm) (dt' : List D), n ≤ 40 → b ≤ 1000 → Gi n c → Tp b dt' → _ := fun n b c dt' hn hb gc t' => i60 (n := n) (b := b) (spt := sp_tape) (spm := sp_many) (spy := sp_any) (rt := rt) (bk := bk) (ct := ct) (nx := nx) (d1 := d1) (d4 := .int (j : Int)) (ns := nss) (x8 := x8) (x9 := x9) gc hn t' (by omega) h11 h12 h2 h10 fun o2 o7 d8 d9 o10 o11 dt' h => k o2 _ o7 _ _ o10 o11 dt' h
  generalize (D.lst ((nt0 11 :: smC).map cD)) = L at fin ⊢
  generalize hB : i_60 sp_tape sp_take sp_many sp_any (spB sp_lctext 20) (spB sp_claim 4) sp_long (spB sp_same 40) (sp_ctext 20) (sp_cfrom 20) = B at fin
  unfold j_60
  rw [hB]
  simp only [VLQ]
  refine ⟨nss, j, rfl, rfl, by omega, by omega, fun ds t0 => ?_⟩
  simp only [VLQ]
  have any : ∀ (n b : Nat) (dt' : List D), n ≤ 40 → b ≤ 500 → Tp b dt' → sp_any [.ref 0, .d (.int (n : Int))] [.lst dt'] (fun v Mc => rvQ (fun d_3 M' => B ⟨nx, rt, bk, ct⟩ [some (.d (.scr nss)), some (.d d1), x2, some (.d L), some (.d (.int (j : Int))), some (.ref 0), some (.d (.int (n : Int))), some d_3, x8, x9, x10, x11, x12] M') v (backS [0] Mc [.lst dt'])) := fun n b dt' hn hb t' => by
    refine ⟨dt', n, b, rfl, rfl, t', by omega, by omega, fun c ds' hc hs td => ?_⟩
    have h := ok_tk 3 c hc (by omega)
    simp only [VLQ]
    exact fin n (b + 300) c ds' hn (by omega) ⟨tk_mono 3 14 c (by decide) h.1, by omega⟩ td
  refine ⟨ds, 4, 0, rfl, rfl, t0, by decide, by decide, by decide, fun v dt1 v0 v1 t1 => ?_⟩
  simp only [VLQ]
  by_cases hv : v = 0
  · rw [if_pos hv]
    refine ⟨dt1, 22, 1, rfl, rfl, t1, by decide, by decide, by decide, fun u dt2 u0 u1 t2 => ?_⟩
    obtain ⟨m, rfl⟩ := Int.eq_ofNat_of_zero_le u0
    simp only [VLQ]
    rw [show (9 + (m : Int)) = ((9 + m : Nat) : Int) by omega]
    exact any (9 + m) 2 dt2 (by omega) (by decide) t2
  · rw [if_neg hv]
    refine ⟨dt1, 1, rfl, rfl, t1, by decide, fun m dt2 hm t2 => ?_⟩
    simp only [VLQ]
    exact any m 4 dt2 (by omega) (by decide) t2
end
end VL
set_option Elab.async false
set_option linter.all false
set_option maxRecDepth 100000
set_option maxHeartbeats 2000000
namespace VL
open PySem PySem.Spec L2 TL
theorem gcO_gcO0 {k : Nat} {o : Option Sv} : gcO k (gcO 0 o) = gcO 0 o := by
  cases o with
  | none => rfl
  | some s => cases s <;> rfl
local macro_rules
  | `(tactic| simp only [VLQ]) => `(tactic| simp -implicitDefEqProofs only [sSeq, sIf, sSet, sSub, sRet, sRetN, sNil, sDrop, sAsg, sPar, sParT, sAug, cP, bB, bTr, bNt, bAn, bOr, po1, po2, poN, pArgs, poIf, poAn, poOr, poNt, poTup, plLst, plN, pl2, pl1, pFz, pV, pC, eP, eo1, eo2, eoN, aP, aNil, aCons, eAn, eOr, eNt, eIf, eFz, eNw, fP, fN, f2, f1, tTupE, tLstF, tTr, tTb, tAn, tOrr, tNt, tYs, eSeal, eMt, poMt, mPure, eCh, pCh, ok_bind, ok_map, ok_some, ok_none, ok_gd, ok_ite, List.getElem?_cons_zero, List.getElem?_cons_succ, List.set_cons_zero, List.set_cons_succ, Option.join_some, Option.bind_some, Option.map_some, Option.bind_none, Option.map_none, ix_ref, ix_tup, ix_lst, ix_bor, ix_scr, add_int, add_str, add_tup, sub_int, mul_int, fdiv_int, mod_int, pow_int, neg_int, lt_int, le_int, gt_int, ge_int, eq_int, eq_str, eq_bl, ne_int, ne_str, ne_bl, is_bl, isnt_bl, is_non, isnt_non, len_tup, len_lst, len_ref, len_bor, len_scr, int_bl, int_int, abs_int, min_int, max_int, blD_bl, cell_lst, cellA_lst, cellA_dk, st_ref, at_0, at_1, at_2, at_3, at_4, ixN_10, ixN_20, ixN_21, ixN_30, ixN_31, ixN_32, dataS_d, datas_nil, datas_cons, truth_bl, notD, intS, blS, nonB, List.length_cons, List.length_nil, Nat.reduceAdd, endsF_rt, endsF_nx, rvQ_d, rvQ_new, rvQ_newK, rv_d, rv_ref, rv_cl, rv_ck, okRef_d, okRef_ref, List.not_mem_nil, List.nil_append, true_and, and_true, List.take_succ_cons, List.take_zero, Nat.zero_add, decide_eq_true_eq, Bool.false_eq_true, if_false, if_true, callS, handS_n, handS_tr, handS_fr, handS_fd, handS_fb, cellsAt_c, cellsAt_0, Option.getD_some, backS_0, backS_1, eCall, tup_lst, tup_tup, tup_ref, fLc, iRg, rng_1, rng_2, wipeS_c, wipeS_n, iPq, iSq, seq_tup, seq_lst, seq_bor, lst_lst, lst_bor, gdS_d, gdS_b, sFor, gNm, gcS_c, gcS_n, gcO_d, gcO_n, mapp, rcv_0, rcv_1, rcv_l, gcO_r0, gcO_r1, gcO_z, seal_d, eq_self, List.take_nil, List.cons_append, poSl, poI, poNo, slD_t, intO_i, list_t, list_l, in_str2, ofS_inj, String.reduceEq, or_false, false_or, or_true, true_or, or_self, decide_true, decide_false, Bool.not_true, Bool.not_false, at_m1_2, at_m1_3, cut_2, cut_3, all_bls, any_bls, count_bls, lcg_nm, lcg_tp, lst_ref, laid_l, laid_b, laid_r, list_b, list_r, len_refI, lenOf_ref, rcv_2, rcv_3, rcv_b, slF_l, slF_b, slF_r, cat_l, repr_d, plSl, backS_2, List.mem_singleton, one_ne, if_false, callS, seal_r, Nat.le_refl, cat_get, cat_set, List.append_assoc, List.length_append, List.append_nil, at_ite, Nat.zero_le, iTq, tupD])
  | `(tactic| simp only [VLQ, $xs,*]) => `(tactic| simp -implicitDefEqProofs only [sSeq, sIf, sSet, sSub, sRet, sRetN, sNil, sDrop, sAsg, sPar, sParT, sAug, cP, bB, bTr, bNt, bAn, bOr, po1, po2, poN, pArgs, poIf, poAn, poOr, poNt, poTup, plLst, plN, pl2, pl1, pFz, pV, pC, eP, eo1, eo2, eoN, aP, aNil, aCons, eAn, eOr, eNt, eIf, eFz, eNw, fP, fN, f2, f1, tTupE, tLstF, tTr, tTb, tAn, tOrr, tNt, tYs, eSeal, eMt, poMt, mPure, eCh, pCh, ok_bind, ok_map, ok_some, ok_none, ok_gd, ok_ite, List.getElem?_cons_zero, List.getElem?_cons_succ, List.set_cons_zero, List.set_cons_succ, Option.join_some, Option.bind_some, Option.map_some, Option.bind_none, Option.map_none, ix_ref, ix_tup, ix_lst, ix_bor, ix_scr, add_int, add_str, add_tup, sub_int, mul_int, fdiv_int, mod_int, pow_int, neg_int, lt_int, le_int, gt_int, ge_int, eq_int, eq_str, eq_bl, ne_int, ne_str, ne_bl, is_bl, isnt_bl, is_non, isnt_non, len_tup, len_lst, len_ref, len_bor, len_scr, int_bl, int_int, abs_int, min_int, max_int, blD_bl, cell_lst, cellA_lst, cellA_dk, st_ref, at_0, at_1, at_2, at_3, at_4, ixN_10, ixN_20, ixN_21, ixN_30, ixN_31, ixN_32, dataS_d, datas_nil, datas_cons, truth_bl, notD, intS, blS, nonB, List.length_cons, List.length_nil, Nat.reduceAdd, endsF_rt, endsF_nx, rvQ_d, rvQ_new, rvQ_newK, rv_d, rv_ref, rv_cl, rv_ck, okRef_d, okRef_ref, List.not_mem_nil, List.nil_append, true_and, and_true, List.take_succ_cons, List.take_zero, Nat.zero_add, decide_eq_true_eq, Bool.false_eq_true, if_false, if_true, callS, handS_n, handS_tr, handS_fr, handS_fd, handS_fb, cellsAt_c, cellsAt_0, Option.getD_some, backS_0, backS_1, eCall, tup_lst, tup_tup, tup_ref, fLc, iRg, rng_1, rng_2, wipeS_c, wipeS_n, iPq, iSq, seq_tup, seq_lst, seq_bor, lst_lst, lst_bor, gdS_d, gdS_b, sFor, gNm, gcS_c, gcS_n, gcO_d, gcO_n, mapp, rcv_0, rcv_1, rcv_l, gcO_r0, gcO_r1, gcO_z, seal_d, eq_self, List.take_nil, List.cons_append, poSl, poI, poNo, slD_t, intO_i, list_t, list_l, in_str2, ofS_inj, String.reduceEq, or_false, false_or, or_true, true_or, or_self, decide_true, decide_false, Bool.not_true, Bool.not_false, at_m1_2, at_m1_3, cut_2, cut_3, all_bls, any_bls, count_bls, lcg_nm, lcg_tp, lst_ref, laid_l, laid_b, laid_r, list_b, list_r, len_refI, lenOf_ref, rcv_2, rcv_3, rcv_b, slF_l, slF_b, slF_r, cat_l, repr_d, plSl, backS_2, List.mem_singleton, one_ne, if_false, callS, seal_r, Nat.le_refl, cat_get, cat_set, List.append_assoc, List.length_append, List.append_nil, at_ite, Nat.zero_le, iTq, tupD, $xs,*])
theorem pure_law60 (as : List Sv) (M : Mem) (Q : Rv → Mem → Prop) (h : sp_law as M Q) : r_law60 sp_tape sp_take sp_many sp_any (spB sp_lctext 20) (spB sp_claim 4) sp_long (spB sp_same 40) (sp_ctext 20) (sp_cfrom 20) (endsF M.length Q) (startD 13 as) M := by
  obtain ⟨ns, rfl, rfl, hns, z⟩ := h
  show r_law60 sp_tape sp_take sp_many sp_any (spB sp_lctext 20) (spB sp_claim 4) sp_long (spB sp_same 40) (sp_ctext 20) (sp_cfrom 20) (endsF 0 Q) [some (.d (.scr ns)), none, none, none, none, none, none, none, none, none, none, none, none] []
  have tail : ∀ (o2 : Option Sv), (∀ k, gcO k o2 = o2) → t_60 sp_tape sp_take sp_many sp_any (spB sp_lctext 20) (spB sp_claim 4) sp_long (spB sp_same 40) (sp_ctext 20) (sp_cfrom 20) (endsF 0 Q) [some (.d (.scr ns)), some (.d (cD (nt0 11))), o2, none, none, none, none, none, none, none, none, none, none] [] := fun o2 e2 => by
    have body : ∀ (E : Ends') (j : Nat) (o2 o5 o6 o7 o8 o9 o10 o11 : Option Sv), j ≤ 9 → (∀ k, gcO k o2 = o2) → (∀ k, gcO k o10 = o10) → (∀ k, gcO k o11 = o11) → (∀ p2 p6 p7 p8 p9 p10 p11 dt', (∀ k, gcO k p11 = p11) → E.nx [some (.d (.scr ns)), some (.d (cD (nt0 11))), p2, some (.d (.lst ((nt0 11 :: smC).map cD))), some (.d (.int (j : Int))), some (.ref 0), p6, p7, p8, p9, p10, p11, none] [.lst dt']) → j_60 sp_tape sp_take sp_many sp_any (spB sp_lctext 20) (spB sp_claim 4) sp_long (spB sp_same 40) (sp_ctext 20) (sp_cfrom 20) E [some (.d (.scr ns)), some (.d (cD (nt0 11))), o2, some (.d (.lst ((nt0 11 :: smC).map cD))), some (.d (.int (j : Int))), o5, o6, o7, o8, o9, o10, o11, none] [] := fun E j o2 o5 o6 o7 o8 o9 o10 o11 hj h2 h10 h11 k => j60 (nx := E.nx) (rt := E.rt) (bk := E.bk) (ct := E.ct) hj h11 (fun _ => rfl) h2 h10 k
    generalize hB : j_60 sp_tape sp_take sp_many sp_any (spB sp_lctext 20) (spB sp_claim 4) sp_long (spB sp_same 40) (sp_ctext 20) (sp_cfrom 20) = B at body
    unfold t_60
    rw [hB]
    simp only [VLQ]
    have eL : D.lst [cD (nt0 11), .tup [.str "least", .int 9999, .tup []], .tup [.str "least", .int 0, .tup [.tup [.str "no"]]], .tup [.str "and", .tup []], .tup [.str "or", .tup [.tup [.str "and", .tup []]]], .tup [.str "yes"]] = D.lst ((nt0 11 :: smC).map cD) := rfl
    rw [eL]
    generalize (D.lst ((nt0 11 :: smC).map cD)) = L at body ⊢
    have hJ : 0 ≤ (1 + if (ns.length : Int) < 8 then (ns.length : Int) else 8) ∧ (1 + if (ns.length : Int) < 8 then (ns.length : Int) else 8) ≤ 9 := by split <;> omega
    generalize (1 + if (ns.length : Int) < 8 then (ns.length : Int) else 8) = J at hJ ⊢
    refine ⟨by unfold I62; omega, fun h => h.elim, ?_⟩
    refine for_ix _ (fun j δ M => ∃ p2 p4 p5 p6 p7 p8 p9 p10 p11, (∀ k, gcO k p2 = p2) ∧ (∀ k, gcO k p10 = p10) ∧ (∀ k, gcO k p11 = p11) ∧ δ = [some (.d (.scr ns)), some (.d (cD (nt0 11))), p2, some (.d L), p4, p5, p6, p7, p8, p9, p10, p11, none] ∧ M = []) ?_ ?_ _ _ ⟨o2, none, none, none, none, none, none, none, none, e2, fun _ => rfl, fun _ => rfl, rfl, rfl⟩
    · rintro δ M ⟨p2, p4, p5, p6, p7, p8, p9, p10, p11, _, _, _, rfl, rfl⟩
      exact ⟨trivial, z⟩
    · rintro j x δ M nx hx ⟨p2, p4, p5, p6, p7, p8, p9, p10, p11, h2, h10, h11, rfl, rfl⟩ k
      obtain ⟨hj, rfl⟩ := rg_at hx
      refine ⟨trivial, ?_⟩
      simp only [gNm, List.set_cons_succ, List.set_cons_zero]
      rw [show (0 + ((j : Nat) : Int)) = (j : Int) by omega]
      refine body _ j p2 p5 p6 p7 p8 p9 p10 p11 (by omega) h2 h10 h11 fun q2 q6 q7 q8 q9 q10 q11 dt' h => k _ _ ⟨gcO 0 q2, some (.d (.int (j : Int))), none, gcO 0 q6, gcO 0 q7, gcO 0 q8, gcO 0 q9, gcO 0 q10, q11, fun i => gcO_gcO0, fun i => gcO_gcO0, h, ?_, rfl⟩
      simp only [gcS_c, gcS_n, gcO_d, gcO_z, gcO_n, h]
  generalize hB : t_60 sp_tape sp_take sp_many sp_any (spB sp_lctext 20) (spB sp_claim 4) sp_long (spB sp_same 40) (sp_ctext 20) (sp_cfrom 20) = B at tail
  unfold r_law60
  rw [hB]
  simp only [VLQ]
  refine ⟨by unfold I62; omega, fun h => h.elim, ?_⟩
  refine for_ix _ (fun j δ M => ∃ o2, (∀ k, gcO k o2 = o2) ∧ δ = [some (.d (.scr ns)), some (.d (cD (nt0 j))), o2, none, none, none, none, none, none, none, none, none, none] ∧ M = []) ?_ ?_ _ _ ⟨none, fun _ => rfl, rfl, rfl⟩
  · rintro δ M ⟨o2, e2, rfl, rfl⟩
    refine ⟨trivial, ?_⟩
    exact tail o2 e2
  · rintro j x δ M nx hx ⟨o2, e2, rfl, rfl⟩ k
    refine ⟨trivial, ?_⟩
    simp only [gNm, List.set_cons_succ, List.set_cons_zero]
    simp only [VLQ]
    exact k _ _ ⟨some (.d x), fun _ => rfl, rfl, rfl⟩
end VL
set_option Elab.async false
set_option linter.all false
set_option maxRecDepth 100000
set_option maxHeartbeats 1000000
open PySem PySem.Spec L2 RT RZ VL
namespace Zk60
def dd_number_in : He.DefD := ⟨("number_in", none), "number_in", "number_in", defArgs s_number_in, defBody s_number_in, defScope s_number_in, [], []⟩
def dd_claim_words : He.DefD := ⟨("claim_words", none), "claim_words", "claim_words", defArgs s_claim_words, defBody s_claim_words, defScope s_claim_words, [], []⟩
def dd_claim_text : He.DefD := ⟨("claim_text", none), "claim_text", "claim_text", defArgs s_claim_text, defBody s_claim_text, defScope s_claim_text, [], []⟩
def dd_Reader____init__ : He.DefD := ⟨("Reader", some "__init__"), "__init__", "Reader.__init__", defArgs s_Reader____init__, defBody s_Reader____init__, defScope s_Reader____init__, [], []⟩
def dd_Reader__next_word : He.DefD := ⟨("Reader", some "next_word"), "next_word", "Reader.next_word", defArgs s_Reader__next_word, defBody s_Reader__next_word, defScope s_Reader__next_word, [], []⟩
def dd_Reader__next_number : He.DefD := ⟨("Reader", some "next_number"), "next_number", "Reader.next_number", defArgs s_Reader__next_number, defBody s_Reader__next_number, defScope s_Reader__next_number, [], []⟩
def dd_Reader__next_claims : He.DefD := ⟨("Reader", some "next_claims"), "next_claims", "Reader.next_claims", defArgs s_Reader__next_claims, defBody s_Reader__next_claims, defScope s_Reader__next_claims, [], []⟩
def dd_Reader__next_claim : He.DefD := ⟨("Reader", some "next_claim"), "next_claim", "Reader.next_claim", defArgs s_Reader__next_claim, defBody s_Reader__next_claim, defScope s_Reader__next_claim, [], []⟩
def dd_claim_from : He.DefD := ⟨("claim_from", none), "claim_from", "claim_from", defArgs s_claim_from, defBody s_claim_from, defScope s_claim_from, [], []⟩
def dd__law_cell_at : He.DefD := ⟨("_law_cell_at", none), "_law_cell_at", "_law_cell_at", defArgs s__law_cell_at, defBody s__law_cell_at, defScope s__law_cell_at, [], []⟩
def dd__law_tape : He.DefD := ⟨("_law_tape", none), "_law_tape", "_law_tape", defArgs s__law_tape, defBody s__law_tape, defScope s__law_tape, [], []⟩
def dd__law_take : He.DefD := ⟨("_law_take", none), "_law_take", "_law_take", defArgs s__law_take, defBody s__law_take, defScope s__law_take, [], []⟩
def dd__law_claim : He.DefD := ⟨("_law_claim", none), "_law_claim", "_law_claim", defArgs s__law_claim, defBody s__law_claim, defScope s__law_claim, [], []⟩
def dd__law_any_claim : He.DefD := ⟨("_law_any_claim", none), "_law_any_claim", "_law_any_claim", defArgs s__law_any_claim, defBody s__law_any_claim, defScope s__law_any_claim, [], []⟩
def dd__law_many : He.DefD := ⟨("_law_many", none), "_law_many", "_law_many", defArgs s__law_many, defBody s__law_many, defScope s__law_many, [], []⟩
def dd__law_same : He.DefD := ⟨("_law_same", none), "_law_same", "_law_same", defArgs s__law_same, defBody s__law_same, defScope s__law_same, [], []⟩
def dd__law_claim_text : He.DefD := ⟨("_law_claim_text", none), "_law_claim_text", "_law_claim_text", defArgs s__law_claim_text, defBody s__law_claim_text, defScope s__law_claim_text, [], []⟩
def dd__law_long : He.DefD := ⟨("_law_long", none), "_law_long", "_law_long", defArgs s__law_long, defBody s__law_long, defScope s__law_long, [], []⟩
def dd_law : He.DefD := ⟨("law", none), "law", "law", defArgs s_law, defBody s_law, defScope s_law, [], []⟩
def fn : List He.DefD := [dd_number_in, dd_claim_words, dd_claim_text, dd_Reader____init__, dd_Reader__next_word, dd_Reader__next_number, dd_Reader__next_claims, dd_Reader__next_claim, dd_claim_from, dd__law_cell_at, dd__law_tape, dd__law_take, dd__law_claim, dd__law_any_claim, dd__law_many, dd__law_same, dd__law_claim_text, dd__law_long, dd_law]
def fa : List He.Fa := [.glo "number_in", .glo "claim_words", .glo "claim_text", .mkr "Reader", .meth "Reader" "next_word", .meth "Reader" "next_number", .meth "Reader" "next_claims", .meth "Reader" "next_claim", .glo "claim_from", .glo "_law_cell_at", .glo "_law_tape", .glo "_law_take", .glo "_law_claim", .glo "_law_any_claim", .glo "_law_many", .glo "_law_same", .glo "_law_claim_text", .glo "_law_long", .glo "law", .free "len", .free "all", .free "int", .free "str", .free "list", .free "range", .free "tuple", .free "abs", .free "max", .free "isinstance", .free "zip", .free "bool", .free "min", .cls "Reader", .glo "Reader", .noat "Reader" "many", .noat "Reader" "words", .noat "Reader" "place", .glo "INNER"]
def ts : TabL := [("INNER", tab_INNER)]
def cs : List (Str × D) := [("PARTED", c_PARTED), ("FIGURES", c_FIGURES), ("MOST_FIGURES", c_MOST_FIGURES)]
theorem ok_law {P : Program} {w : World} {K : PySem.W.Frag} {mg : Str → Option Value} {h base : Heap} (X : K.In h) (G : h.Ns mainGlobals mg) (cT : SaysVT fa fn cs ts w K) {fd : FuncData} (F : FunD K "law" "law" (defArgs s_law) (defBody s_law) (defScope s_law) [] [] (He.fAd K ("law", none)) fd) :
    FnG P w K mg base C8.CX0 46 (He.fAd K ("law", none)) fd ["_law_script"] (lP K 1 sp_law) := by
  have c := cT.v
  have m_len := He.free_ok X G (c.d.fact 19 (f := .free "len") rfl)
  have m_all := He.free_ok X G (c.d.fact 20 (f := .free "all") rfl)
  have m_int := He.free_ok X G (c.d.fact 21 (f := .free "int") rfl)
  have m_str := He.free_ok X G (c.d.fact 22 (f := .free "str") rfl)
  have m_list := He.free_ok X G (c.d.fact 23 (f := .free "list") rfl)
  have m_range := He.free_ok X G (c.d.fact 24 (f := .free "range") rfl)
  have m_tuple := He.free_ok X G (c.d.fact 25 (f := .free "tuple") rfl)
  have m_abs := He.free_ok X G (c.d.fact 26 (f := .free "abs") rfl)
  have m_max := He.free_ok X G (c.d.fact 27 (f := .free "max") rfl)
  have m_isinstance := He.free_ok X G (c.d.fact 28 (f := .free "isinstance") rfl)
  have m_zip := He.free_ok X G (c.d.fact 29 (f := .free "zip") rfl)
  have m_bool := He.free_ok X G (c.d.fact 30 (f := .free "bool") rfl)
  have m_min := He.free_ok X G (c.d.fact 31 (f := .free "min") rfl)
  have ht_INNER : mg "INNER" = some (.ref (He.ga K "INNER")) := He.glo_ok X G (c.d.fact 37 (f := .glo "INNER") rfl)
  have tb_INNER := cT.tab 0 (x := "INNER") (kvs := tab_INNER) rfl
  have hcl_Reader := He.cls_ok (c.d.fact 32 (f := .cls "Reader") rfl)
  have hgl_Reader := He.glo_ok X G (c.d.fact 33 (f := .glo "Reader") rfl)
  have hna_Reader_many := He.noat_ok (c.d.fact 34 (f := .noat "Reader" "many") rfl)
  have hna_Reader_words := He.noat_ok (c.d.fact 35 (f := .noat "Reader" "words") rfl)
  have hna_Reader_place := He.noat_ok (c.d.fact 36 (f := .noat "Reader" "place") rfl)
  have hC : ObC K clsT := by
    intro p hp
    simp only [clsT, List.mem_cons, List.not_mem_nil, or_false] at hp
    rcases hp with rfl
    · refine ⟨hcl_Reader, fun z hz => ?_⟩
      simp only [List.mem_cons, List.not_mem_nil, or_false] at hz
      rcases hz with rfl | rfl | rfl <;> assumption
  obtain ⟨u_PARTED, hm_PARTED, kv_PARTED⟩ := c.con X G 0 (x := "PARTED") (d := c_PARTED) rfl
  obtain ⟨u_FIGURES, hm_FIGURES, kv_FIGURES⟩ := c.con X G 1 (x := "FIGURES") (d := c_FIGURES) rfl
  obtain ⟨u_MOST_FIGURES, hm_MOST_FIGURES, kv_MOST_FIGURES⟩ := c.con X G 2 (x := "MOST_FIGURES") (d := c_MOST_FIGURES) rfl
  obtain ⟨fd_number_in, F_number_in⟩ := c.d.def_ 0 (d := dd_number_in) rfl
  have g_number_in : mg "number_in" = some (.ref (He.fAd K ("number_in", none))) := He.glo_ok X G (c.d.fact 0 (f := .glo "number_in") rfl)
  have b_number_in : Binds K fd_number_in ["word"] [] := FunD.bindsN F_number_in fun _ _ _ _ _ _ us hl => match us, hl with | [_], _ => rfl
  have ca_numin : Ca P w K mg base 1 "number_in" 1 sp_numin := ca_of (k := 0) F_number_in g_number_in b_number_in sc_number_in (m0 := 0) (by rintro as M Q ⟨_, _,  rfl, _⟩; rfl) (d_number_in m_len m_all m_int hm_MOST_FIGURES kv_MOST_FIGURES hm_FIGURES kv_FIGURES) (fun as M Q _ h => pure_numin as M Q h)
  obtain ⟨fd_claim_words, F_claim_words⟩ := c.d.def_ 1 (d := dd_claim_words) rfl
  have g_claim_words : mg "claim_words" = some (.ref (He.fAd K ("claim_words", none))) := He.glo_ok X G (c.d.fact 1 (f := .glo "claim_words") rfl)
  have b_claim_words : Binds K fd_claim_words ["claim"] [] := FunD.bindsN F_claim_words fun _ _ _ _ _ _ us hl => match us, hl with | [_], _ => rfl
  have ca_cwords : ∀ d, Ca P w K mg base (0 + d) "claim_words" 1 (spB sp_cwords d) := fun d => by
    induction d with
    | zero => exact ca_bot F_claim_words g_claim_words b_claim_words 1
    | succ d ih => exact ca_of (k := 0 + d) F_claim_words g_claim_words b_claim_words sc_claim_words (m0 := 0) (by rintro as M Q ⟨_, _, _, _, _,  rfl, _⟩; rfl) (d_claim_words m_str m_list m_len ht_INNER tb_INNER ih (by omega)) (fun as M Q _ h => pure_cwords as M Q h)
  obtain ⟨fd_claim_text, F_claim_text⟩ := c.d.def_ 2 (d := dd_claim_text) rfl
  have g_claim_text : mg "claim_text" = some (.ref (He.fAd K ("claim_text", none))) := He.glo_ok X G (c.d.fact 2 (f := .glo "claim_text") rfl)
  have b_claim_text : Binds K fd_claim_text ["claim"] [] := FunD.bindsN F_claim_text fun _ _ _ _ _ _ us hl => match us, hl with | [_], _ => rfl
  have ca_ctext : Ca P w K mg base 21 "claim_text" 1 (sp_ctext 20) := ca_of (k := 20) F_claim_text g_claim_text b_claim_text sc_claim_text (m0 := 0) (by rintro as M Q ⟨_, _, _, _,  rfl, _⟩; rfl) (d_claim_text (ca_cwords 20) (by omega)) (fun as M Q _ h => pure_ctext as M Q h)
  obtain ⟨fd_Reader____init__, F_Reader____init__⟩ := c.d.def_ 3 (d := dd_Reader____init__) rfl
  have h_Reader____init__ := He.mkr_ok (c.d.fact 3 (f := .mkr "Reader") rfl)
  have b_Reader____init__ : Binds K fd_Reader____init__ ["self", "many", "words"] [] := FunD.bindsN F_Reader____init__ fun _ _ _ _ _ _ us hl => match us, hl with | [_, _, _], _ => rfl
  have ci_reader : CaI P w K mg base 1 "Reader" 2 sp_rinit := ci_of (k := 0) F_Reader____init__ hgl_Reader h_Reader____init__ b_Reader____init__ sc_Reader____init__ rfl (by decide) (m0 := 0) (by rintro as M Q ⟨_, _, _,  rfl, _⟩; rfl) (d_Reader____init__ hcl_Reader hna_Reader_many hna_Reader_words hna_Reader_place) (fun as M Q _ h => pure_rinit as M Q h)
  obtain ⟨fd_Reader__next_word, F_Reader__next_word⟩ := c.d.def_ 4 (d := dd_Reader__next_word) rfl
  have h_Reader__next_word := He.meth_ok (c.d.fact 4 (f := .meth "Reader" "next_word") rfl)
  have b_Reader__next_word : Binds K fd_Reader__next_word ["self"] [] := FunD.bindsN F_Reader__next_word fun _ _ _ _ _ _ us hl => match us, hl with | [_], _ => rfl
  have cm_nword : CaM P w K mg base 1 "Reader" "next_word" 1 sp_nword := cm_of (k := 0) F_Reader__next_word hcl_Reader h_Reader__next_word b_Reader__next_word sc_Reader__next_word (m0 := 1) (by rintro as M Q ⟨_, _, _, _, _, _,  rfl, _⟩; rfl) (d_Reader__next_word m_len hC) (fun as M Q _ h => pure_nword as M Q h)
  obtain ⟨fd_Reader__next_number, F_Reader__next_number⟩ := c.d.def_ 5 (d := dd_Reader__next_number) rfl
  have h_Reader__next_number := He.meth_ok (c.d.fact 5 (f := .meth "Reader" "next_number") rfl)
  have b_Reader__next_number : Binds K fd_Reader__next_number ["self"] [] := FunD.bindsN F_Reader__next_number fun _ _ _ _ _ _ us hl => match us, hl with | [_], _ => rfl
  have cm_nnum : CaM P w K mg base 2 "Reader" "next_number" 1 sp_nnum := cm_of (k := 1) F_Reader__next_number hcl_Reader h_Reader__next_number b_Reader__next_number sc_Reader__next_number (m0 := 1) (by rintro as M Q ⟨_, _, _, _, _, _,  rfl, _⟩; rfl) (d_Reader__next_number ca_numin (by omega) cm_nword (by omega)) (fun as M Q _ h => pure_nnum as M Q h)
  obtain ⟨fd_Reader__next_claims, F_Reader__next_claims⟩ := c.d.def_ 6 (d := dd_Reader__next_claims) rfl
  have h_Reader__next_claims := He.meth_ok (c.d.fact 6 (f := .meth "Reader" "next_claims") rfl)
  have b_Reader__next_claims : Binds K fd_Reader__next_claims ["self", "many"] [] := FunD.bindsN F_Reader__next_claims fun _ _ _ _ _ _ us hl => match us, hl with | [_, _], _ => rfl
  obtain ⟨fd_Reader__next_claim, F_Reader__next_claim⟩ := c.d.def_ 7 (d := dd_Reader__next_claim) rfl
  have h_Reader__next_claim := He.meth_ok (c.d.fact 7 (f := .meth "Reader" "next_claim") rfl)
  have b_Reader__next_claim : Binds K fd_Reader__next_claim ["self"] [] := FunD.bindsN F_Reader__next_claim fun _ _ _ _ _ _ us hl => match us, hl with | [_], _ => rfl
  have cm_ncl : ∀ d, CaM P w K mg base (2 + 2 * d) "Reader" "next_claim" 1 (spB sp_ncl d) := fun d => by
    induction d with
    | zero => exact cm_bot F_Reader__next_claim hcl_Reader h_Reader__next_claim b_Reader__next_claim 1
    | succ d ih =>
      have cm_ncls : CaM P w K mg base (2 + 2 * d + 1) "Reader" "next_claims" 2 (sp_ncls d) := cm_of (k := 2 + 2 * d) F_Reader__next_claims hcl_Reader h_Reader__next_claims b_Reader__next_claims sc_Reader__next_claims (m0 := 1) (by rintro as M Q ⟨_, _, _, _, _, _, _,  rfl, _⟩; rfl) (d_Reader__next_claims m_range m_tuple ih (by omega)) (fun as M Q _ h => pure_ncls as M Q h)
      have e : 2 + 2 * (d + 1) = 2 + 2 * d + 1 + 1 := by omega
      rw [e]
      exact cm_of (k := 2 + 2 * d + 1) F_Reader__next_claim hcl_Reader h_Reader__next_claim b_Reader__next_claim sc_Reader__next_claim (m0 := 1) (by rintro as M Q ⟨_, _, _, _, _, _, _, _,  rfl, _⟩; rfl) (d_Reader__next_claim hm_PARTED kv_PARTED ht_INNER tb_INNER hC cm_nword (by omega) cm_ncls (by omega) cm_nnum (by omega) ca_numin (by omega)) (fun as M Q _ h => pure_ncl as M Q h)
  obtain ⟨fd_claim_from, F_claim_from⟩ := c.d.def_ 8 (d := dd_claim_from) rfl
  have g_claim_from : mg "claim_from" = some (.ref (He.fAd K ("claim_from", none))) := He.glo_ok X G (c.d.fact 8 (f := .glo "claim_from") rfl)
  have b_claim_from : Binds K fd_claim_from ["many", "text"] [] := FunD.bindsN F_claim_from fun _ _ _ _ _ _ us hl => match us, hl with | [_, _], _ => rfl
  have ca_cfrom : Ca P w K mg base 43 "claim_from" 2 (sp_cfrom 20) := ca_of (k := 42) F_claim_from g_claim_from b_claim_from sc_claim_from (m0 := 0) (by rintro as M Q ⟨_, _, _, _,  rfl, _⟩; rfl) (d_claim_from m_len hC ci_reader (by omega) (cm_ncl 20) (by omega)) (fun as M Q _ h => pure_cfrom as M Q h)
  obtain ⟨fd__law_cell_at, F__law_cell_at⟩ := c.d.def_ 9 (d := dd__law_cell_at) rfl
  have g__law_cell_at : mg "_law_cell_at" = some (.ref (He.fAd K ("_law_cell_at", none))) := He.glo_ok X G (c.d.fact 9 (f := .glo "_law_cell_at") rfl)
  have b__law_cell_at : Binds K fd__law_cell_at ["_law_script", "_law_k"] [] := FunD.bindsN F__law_cell_at fun _ _ _ _ _ _ us hl => match us, hl with | [_, _], _ => rfl
  have ca_cell : Ca P w K mg base 1 "_law_cell_at" 2 sp_cell := ca_of (k := 0) F__law_cell_at g__law_cell_at b__law_cell_at sc__law_cell_at (m0 := 0) (by rintro as M Q ⟨_, _, _,  rfl, _⟩; rfl) (d__law_cell_at m_len) (fun as M Q _ h => pure_cell as M Q h)
  obtain ⟨fd__law_tape, F__law_tape⟩ := c.d.def_ 10 (d := dd__law_tape) rfl
  have g__law_tape : mg "_law_tape" = some (.ref (He.fAd K ("_law_tape", none))) := He.glo_ok X G (c.d.fact 10 (f := .glo "_law_tape") rfl)
  have b__law_tape : Binds K fd__law_tape ["_law_script", "_law_k"] [] := FunD.bindsN F__law_tape fun _ _ _ _ _ _ us hl => match us, hl with | [_, _], _ => rfl
  have ca_tape : Ca P w K mg base 2 "_law_tape" 2 sp_tape := ca_of (k := 1) F__law_tape g__law_tape b__law_tape sc__law_tape (m0 := 0) (by rintro as M Q ⟨_, _, _,  rfl, _⟩; rfl) (d__law_tape m_abs m_int ca_cell (by omega)) (fun as M Q _ h => pure_tape as M Q h)
  obtain ⟨fd__law_take, F__law_take⟩ := c.d.def_ 11 (d := dd__law_take) rfl
  have g__law_take : mg "_law_take" = some (.ref (He.fAd K ("_law_take", none))) := He.glo_ok X G (c.d.fact 11 (f := .glo "_law_take") rfl)
  have b__law_take : Binds K fd__law_take ["_law_tape_here", "_law_many_here"] [] := FunD.bindsN F__law_take fun _ _ _ _ _ _ us hl => match us, hl with | [_, _], _ => rfl
  have bot__law_take : Ca P w K mg base 0 "_law_take" 2 (spB (fun _ => fun _ _ _ => False) 0) := ca_bot F__law_take g__law_take b__law_take 2
  have ca_take : Ca P w K mg base 1 "_law_take" 2 sp_take := ca_of (k := 0) F__law_take g__law_take b__law_take sc__law_take (m0 := 1) (by rintro as M Q ⟨_, _, _, _,  rfl, _⟩; rfl) (d__law_take bot__law_take (by omega)) (fun as M Q _ h => pure_take as M Q h)
  obtain ⟨fd__law_claim, F__law_claim⟩ := c.d.def_ 12 (d := dd__law_claim) rfl
  have g__law_claim : mg "_law_claim" = some (.ref (He.fAd K ("_law_claim", none))) := He.glo_ok X G (c.d.fact 12 (f := .glo "_law_claim") rfl)
  have b__law_claim : Binds K fd__law_claim ["_law_tape_here", "_law_many_here", "_law_deep"] [] := FunD.bindsN F__law_claim fun _ _ _ _ _ _ us hl => match us, hl with | [_, _, _], _ => rfl
  have ca_claims : ∀ d, Ca P w K mg base (1 + d) "_law_claim" 3 (spB sp_claim d) := fun d => by
    induction d with
    | zero => exact ca_bot F__law_claim g__law_claim b__law_claim 3
    | succ d ih => exact ca_of (k := 1 + d) F__law_claim g__law_claim b__law_claim sc__law_claim (m0 := 1) (by rintro as M Q ⟨_, _, _, _, _, _, rfl, _⟩; rfl) (d__law_claim m_max m_range m_tuple m_len ca_take (by omega) ih (by omega)) (fun as M Q _ h => pure_claim as M Q h)
  have ca_claim : Ca P w K mg base 5 "_law_claim" 3 (sp_claim 3) := (ca_claims 4).imp fun as M Q h => ⟨3, by decide, h⟩
  obtain ⟨fd__law_any_claim, F__law_any_claim⟩ := c.d.def_ 13 (d := dd__law_any_claim) rfl
  have g__law_any_claim : mg "_law_any_claim" = some (.ref (He.fAd K ("_law_any_claim", none))) := He.glo_ok X G (c.d.fact 13 (f := .glo "_law_any_claim") rfl)
  have b__law_any_claim : Binds K fd__law_any_claim ["_law_tape_here", "_law_many_here"] [] := FunD.bindsN F__law_any_claim fun _ _ _ _ _ _ us hl => match us, hl with | [_, _], _ => rfl
  have ca_any : Ca P w K mg base 6 "_law_any_claim" 2 sp_any := ca_of (k := 5) F__law_any_claim g__law_any_claim b__law_any_claim sc__law_any_claim (m0 := 1) (by rintro as M Q ⟨_, _, _, _,  rfl, _⟩; rfl) (d__law_any_claim m_range m_tuple ca_take (by omega) ca_claim (by omega)) (fun as M Q _ h => pure_any as M Q h)
  obtain ⟨fd__law_many, F__law_many⟩ := c.d.def_ 14 (d := dd__law_many) rfl
  have g__law_many : mg "_law_many" = some (.ref (He.fAd K ("_law_many", none))) := He.glo_ok X G (c.d.fact 14 (f := .glo "_law_many") rfl)
  have b__law_many : Binds K fd__law_many ["_law_tape_here"] [] := FunD.bindsN F__law_many fun _ _ _ _ _ _ us hl => match us, hl with | [_], _ => rfl
  have ca_many : Ca P w K mg base 2 "_law_many" 1 sp_many := ca_of (k := 1) F__law_many g__law_many b__law_many sc__law_many (m0 := 1) (by rintro as M Q ⟨_, _, _,  rfl, _⟩; rfl) (d__law_many ca_take (by omega)) (fun as M Q _ h => pure_many as M Q h)
  obtain ⟨fd__law_same, F__law_same⟩ := c.d.def_ 15 (d := dd__law_same) rfl
  have g__law_same : mg "_law_same" = some (.ref (He.fAd K ("_law_same", none))) := He.glo_ok X G (c.d.fact 15 (f := .glo "_law_same") rfl)
  have b__law_same : Binds K fd__law_same ["_law_found", "_law_due"] [] := FunD.bindsN F__law_same fun _ _ _ _ _ _ us hl => match us, hl with | [_, _], _ => rfl
  have ca_same : ∀ d, Ca P w K mg base (0 + d) "_law_same" 2 (spB sp_same d) := fun d => by
    induction d with
    | zero => exact ca_bot F__law_same g__law_same b__law_same 2
    | succ d ih => exact ca_of (k := 0 + d) F__law_same g__law_same b__law_same sc__law_same (m0 := 0) (by rintro as M Q ⟨_, _, _, _, _, _, _, _, rfl, _⟩; rfl) (d__law_same m_list m_tuple m_isinstance m_len m_zip m_all m_str m_bool m_int ih (by omega)) (fun as M Q _ h => pure_same as M Q h)
  obtain ⟨fd__law_claim_text, F__law_claim_text⟩ := c.d.def_ 16 (d := dd__law_claim_text) rfl
  have g__law_claim_text : mg "_law_claim_text" = some (.ref (He.fAd K ("_law_claim_text", none))) := He.glo_ok X G (c.d.fact 16 (f := .glo "_law_claim_text") rfl)
  have b__law_claim_text : Binds K fd__law_claim_text ["_law_claim_here"] [] := FunD.bindsN F__law_claim_text fun _ _ _ _ _ _ us hl => match us, hl with | [_], _ => rfl
  have ca_lctext : ∀ d, Ca P w K mg base (0 + d) "_law_claim_text" 1 (spB sp_lctext d) := fun d => by
    induction d with
    | zero => exact ca_bot F__law_claim_text g__law_claim_text b__law_claim_text 1
    | succ d ih => exact ca_of (k := 0 + d) F__law_claim_text g__law_claim_text b__law_claim_text sc__law_claim_text (m0 := 0) (by rintro as M Q ⟨_, _, _, _, _,  rfl, _⟩; rfl) (d__law_claim_text m_str m_list m_int m_len ih (by omega)) (fun as M Q _ h => pure_lctext as M Q h)
  obtain ⟨fd__law_long, F__law_long⟩ := c.d.def_ 17 (d := dd__law_long) rfl
  have g__law_long : mg "_law_long" = some (.ref (He.fAd K ("_law_long", none))) := He.glo_ok X G (c.d.fact 17 (f := .glo "_law_long") rfl)
  have b__law_long : Binds K fd__law_long ["_law_tape_here", "_law_many_here"] [] := FunD.bindsN F__law_long fun _ _ _ _ _ _ us hl => match us, hl with | [_, _], _ => rfl
  have ca_long : Ca P w K mg base 21 "_law_long" 2 sp_long := ca_of (k := 20) F__law_long g__law_long b__law_long sc__law_long (m0 := 1) (by rintro as M Q ⟨_, _, _, _,  rfl, _⟩; rfl) (d__law_long m_range m_min m_len m_tuple ca_take (by omega) (ca_lctext 20) (by omega)) (fun as M Q _ h => pure_long as M Q h)
  obtain ⟨fd_law, F_law⟩ := c.d.def_ 18 (d := dd_law) rfl
  have g_law : mg "law" = some (.ref (He.fAd K ("law", none))) := He.glo_ok X G (c.d.fact 18 (f := .glo "law") rfl)
  exact fg_of (k := 45) F sc_law (m0 := 0) (by rintro as M Q ⟨_, _,  rfl, _⟩; rfl) (d_law m_range m_len m_min m_int m_tuple ca_tape (by omega) ca_take (by omega) ca_many (by omega) ca_any (by omega) (ca_lctext 20) (by omega) (ca_claims 4) (by omega) ca_long (by omega) (ca_same 40) (by omega) ca_ctext (by omega) ca_cfrom (by omega)) (fun as M Q _ h => pure_law60 as M Q h)
abbrev hk : PySem.W.Hook := hookVT 4 fa fn cs ts
def ob (s : PySem.W.SharedT) : AlVT := obsVTG 4 fa fn cs ts (HandSHeadRun.getT s)
theorem ob_eq (s : PySem.W.SharedT) : ob s = hk.obs s.abs := obsVTG_eq (HandSHeadRun.getT_eq s)
abbrev R : PySem.W.OpenRow := PySem.W.OpenLaw.row PySem.Challenge.rw_countforms_k60_claims_written
theorem run (w : World) : HandSHeadRun.RunEq R (PySem.W.view R.prog [23]) hk ob 20000 ["FormError", "BadText", "PARTED", "FIGURES", "MOST_FIGURES", "INNER", "number_in", "claim_words", "claim_text", "Reader", "claim_from", "_law_cell_at", "_law_tape", "_law_take", "_law_claim", "_law_any_claim", "_law_many", "_law_same", "_law_claim_text", "_law_long"] w := by
  refine PySem.W.byRow2 "special-get-raises" (P := fun w => HandSHeadRun.RunEq R (PySem.W.view R.prog [23]) hk ob 20000 ["FormError", "BadText", "PARTED", "FIGURES", "MOST_FIGURES", "INNER", "number_in", "claim_words", "claim_text", "Reader", "claim_from", "_law_cell_at", "_law_tape", "_law_take", "_law_claim", "_law_any_claim", "_law_many", "_law_same", "_law_claim_text", "_law_long"] w) (fun w os => ?_) (fun w os => ?_) w
  · kernel_rfl
  · kernel_rfl
end Zk60
open PySem PySem.W PySem.Calls PyProof.Rows
theorem PySem.Challenge.cw_countforms_k60_claims_written_holds : PySem.Challenge.rw_countforms_k60_claims_written.Holds := by
  w_on; o_law
  refine HandSHeadRun.head_any (r := OpenLaw.row PySem.Challenge.rw_countforms_k60_claims_written) (q := view (OpenLaw.row PySem.Challenge.rw_countforms_k60_claims_written).prog [23]) (H := Zk60.hk) (ob := Zk60.ob) (M := 20000) (loose := ["FormError", "BadText", "PARTED", "FIGURES", "MOST_FIGURES", "INNER", "number_in", "claim_words", "claim_text", "Reader", "claim_from", "_law_cell_at", "_law_tape", "_law_take", "_law_claim", "_law_any_claim", "_law_many", "_law_same", "_law_claim_text", "_law_long"]) (d := HandSHeadRun.topDef (OpenLaw.row PySem.Challenge.rw_countforms_k60_claims_written).prog 23) (kwd := []) Zk60.ob_eq
    (by kernel_rfl) (fun s => by kernel_rfl) Zk60.run (by kernel_rfl) (by kernel_rfl) (by kernel_rfl) (by rfl) (by first | assumption | decide +kernel) (by decide +kernel) ⟨rfl, rfl, rfl, rfl, rfl, by decide +kernel⟩ ?hw ?hc
  case hw => w_witness2
  case hc =>
    refine VL.walk_g (l := PySem.Challenge.rw_countforms_k60_claims_written) (n := 63) (k := 46) (x := "_law_script") (CX := C8.CX0) rfl (by decide) (by kernel_rfl) ⟨rfl, by decide, by decide⟩ ?F (fun _ _ _ _ z => z)
    intro w mg fa h Y G hmg0
    obtain ⟨K, KX, cT⟩ := Y
    have c := cT.v
    have hmg : mg ("law" : PySem.Str) = some (.ref fa) := by
      have e : (HandSHeadRun.topDef (OpenLaw.row PySem.Challenge.rw_countforms_k60_claims_written).prog 23).name = ("law" : PySem.Str) := by kernel_rfl
      rw [← e]
      exact hmg0
    obtain ⟨fd, F⟩ := c.d.def_ 18 (d := Zk60.dd_law) rfl
    have e := hmg.symm.trans (He.glo_ok KX G (c.d.fact 18 (f := .glo "law") rfl))
    cases e
    have b := L2.FunD.bindsA (ps := ["_law_script"]) F fun _ _ _ _ _ _ us hl => match us, hl with | [_], _ => rfl
    exact ⟨K, fd, VL.lP K 1 VL.sp_law, KX, fun s v => b s [v] rfl, fun H a ns hl hO hS => VL.lawSp hl hO hS, fun base _ _ => Zk60.ok_law KX G cT F⟩
