import PyProof.Rows.All
import HandS.ForMost
import HandS.Walk
import HandS.IsInst
import HandS.Conv
import HandS.Zip
import HandS.Rev
import HandS.RevRange
import HandS.TupAny
import HandS.TupMul
import HandS.TupLe
import HandS.SortInts
import HandS.Deep
import HandS.Wide
import HandS.WideBits
import HandS.Flow
import HandS.Exc
import HandS.ExcOwn
import HandS.ExcInit
import HandS.Strs
import HandS.More
import HandS.Style
import HandS.Defaults
import HandS.Codes
import HandS.WordsExc
import HandS.Head0
import HandS.Head1
import HandS.Head2
import HandS.HeadEnd
import HandS.HeadHook1
import HandS.HeadHook2
import KE.KDictKeyed
import KE.KeyNested
import HandS.RaiseMore
import HandS.SetFor
import HandS.Small
import KE.KDictPairs
import PyProof.SumAny
import PyProof.FactsAll.subtypes_4
import KE.DataMinMax
import KE.GoesEnum
import HandS.TupSets
import PyProof.Rows.SortShellAny
import KE.KStateDown
import KE.KRevSl
import PyProof.Rows.IntBool
import PyProof.CallStr
import KE.SortData
import KE.GoesZip
import HandS.Dict
import HandS.Iter
import KE.KDictCopyH
import HandS.Keys
import HandS.ExcIs
import HandS.ExcValue
import PyProof.TupleOfSeq
import KE.GoesMore
import KE.KDictZip
import HandS.ListItems
import HandS.DictTup
import HandS.SortOrd
import KE.KDictSum
import PyProof.SumWalkG
import HandS.NoneIn
import KE.OsArith
import PySem.Challenge.RW_countforms_k17_ladders_looked_at
set_option Elab.async false
set_option linter.all false
set_option maxRecDepth 100000
set_option maxHeartbeats 4000000
namespace VL
open PySem PySem.Spec L2
/-- data; lst: a list that nobody changes any more -/
inductive D where
  | non | bl (b : Bool) | int (i : Int) | str (s : Str) | tup (ds : List D) | lst (ds : List D) | scr (ns : List Int) | fn (a : Addr) | ty (n : String)
  | dn (ks ds : List D) | dk (ks : List Key) (ds : List D) | cls (n : Str) | exc (n : Str) (f : Option (Str × Int))
  deriving Inhabited
/-- a value: data, the n-th changing object, or a list that is lent -/
inductive Sv where
  | d (x : D) | ref (n : Nat) | bor (ds : List D)
  deriving Inhabited
/-- what holds names of changing things: an object of a class with fields -/
inductive Kd where
  | ob (c : Str) (fs : List Str)
  deriving Inhabited, DecidableEq
inductive Cell where
  | gone | lst (ds : List D) | dk (kvs : List (Key × D)) | dn (kvs : List (D × D)) | dw (w : World) (kvs : List (D × D)) | nd (k : Kd) (its : List (D ⊕ Nat))
  deriving Inhabited
/-- what a cell names stands ahead of it -/
def Cell.wf (n : Nat) : Cell → Prop
  | .nd _ its => ∀ j, Sum.inr j ∈ its → j < n
  | _ => True
abbrev Mem := List Cell
abbrev DS := List (Option Sv)
/-- where the changing objects stand (none: one that is no more) -/
abbrev Ix := List (Option Addr)
/-- a tuple of the written part -/
def KT (K : PySem.W.Frag) (a : Addr) (xs : List V) : Prop :=
  ∃ (o : Obj) (its : Array Value) (n : Nat), K.lookup a = some o ∧ o.cls = .type "tuple" ∧ o.data = .seq its n ∧ its.size ≤ sizeLine ∧ Vals xs its.toList
/-- a list of the written part -/
def KL (K : PySem.W.Frag) (a : Addr) (xs : List V) : Prop :=
  ∃ (o : Obj) (its : Array Value) (n : Nat), K.lookup a = some o ∧ o.cls = .type "list" ∧ o.dict = none ∧ o.data = .seq its n ∧ its.size ≤ sizeLine ∧ Vals xs its.toList
mutual
/-- a key's hash: no text within -/
def nhash : NestedKey → Int
  | .none => reduceHash 0xFCA86420
  | .num i => hashInt i
  | .text _ => 0
  | .tup ks => reduceHash (Builtin.Tuple.tupleHashOf (nhashes ks))
def nhashes : List NestedKey → List Int
  | [] => []
  | k :: ks => nhash k :: nhashes ks
end
mutual
def nplain : NestedKey → Bool
  | .none => true
  | .num _ => true
  | .text _ => false
  | .tup ks => nplains ks
def nplains : List NestedKey → Bool
  | [] => true
  | k :: ks => nplain k && nplains ks
end
def nEnt (x : NestedKey × Addr × Value) : DictEntry := ⟨nhash x.1, .ref x.2.1, x.2.2⟩
/-- at a stands a dict of such keys -/
def DnP (a : Addr) (xs : List (NestedKey × Addr × V)) : Heap → Prop := fun h => (a == sysModules) = false ∧ xs.length ≤ sizeLine ∧ ∃ (ys : List (NestedKey × Addr × Value)) (o : Obj) (es : Array DictEntry) (ep : Nat),
  Paired (fun (p : NestedKey × Addr × V) (q : NestedKey × Addr × Value) => p.1 = q.1 ∧ p.2.1 = q.2.1 ∧ RelV p.2.2 q.2.2) xs ys ∧ h.get? a = some o ∧ o.ExactDict ∧ o.data = .dict es ep ∧ es.toList = ys.map nEnt ∧ (ys.map (·.1)).Nodup
def DnO (a : Addr) (xs : List (NestedKey × Addr × V)) : HO := .ext (DnP a xs)
/-- the same with texts in the keys: their hashes are the world's -/
def wEnt (w : World) (x : NestedKey × Addr × Value) : DictEntry := ⟨x.1.hash w, .ref x.2.1, x.2.2⟩
def DwP (w : World) (a : Addr) (xs : List (NestedKey × Addr × V)) : Heap → Prop := fun h => (a == sysModules) = false ∧ xs.length ≤ sizeLine ∧ ∃ (ys : List (NestedKey × Addr × Value)) (o : Obj) (es : Array DictEntry) (ep : Nat),
  Paired (fun (p : NestedKey × Addr × V) (q : NestedKey × Addr × Value) => p.1 = q.1 ∧ p.2.1 = q.2.1 ∧ RelV p.2.2 q.2.2) xs ys ∧ h.get? a = some o ∧ o.ExactDict ∧ o.data = .dict es ep ∧ es.toList = ys.map (wEnt w) ∧ (ys.map (·.1)).Nodup
def DwO (w : World) (a : Addr) (xs : List (NestedKey × Addr × V)) : HO := .ext (DwP w a xs)
mutual
def nk0 : D → Option NestedKey
  | .non => some .none
  | .int i => some (.num i)
  | .bl b => some (.num (if b = true then 1 else 0))
  | .tup ds => (nk0s ds).map .tup
  | _ => none
def nk0s : List D → Option (List NestedKey)
  | [] => some []
  | d :: ds => (nk0 d).bind fun k => (nk0s ds).map fun ks => k :: ks
end
def nkD (d : D) : Option NestedKey := match d with
  | .tup ds => (nk0s ds).bind fun ks => if (NestedKey.tup ks).depth ≤ 8 then some (.tup ks) else none
  | _ => none
mutual
/-- the key that a datum is -/
def tk0 : D → Option NestedKey
  | .non => some .none
  | .int i => some (.num i)
  | .str x => some (.text x)
  | .tup ds => (tk0s ds).map .tup
  | _ => none
def tk0s : List D → Option (List NestedKey)
  | [] => some []
  | d :: ds => (tk0 d).bind fun k => (tk0s ds).map fun ks => k :: ks
end
/-- the tuples among them -/
def tkD (d : D) : Option NestedKey := match d with
  | .tup ds => (tk0s ds).bind fun ks => if (NestedKey.tup ks).depth ≤ 8 then some (.tup ks) else none
  | _ => none
/-- what is told of a caught error's own dict -/
def ExR (H : Hp) (ι : Ix) (f : Option (Str × Int)) (oe : Obj) : Prop := match f with
  | none => oe.dict = none
  | some (x, i) => ∃ dd od, oe.dict = some dd ∧ H dd = some (.frz od (.xd [(x, .int i)])) ∧ some dd ∉ ι
def ExH (a : Addr) (oe : Obj) : HO := .frz oe (.ext fun h => h.get? a = some oe)
mutual
def RD (K : PySem.W.Frag) (N : Bool → Addr → Prop) (H : Hp) (ι : Ix) : D → V → Prop
  | .non, v => v = .non
  | .bl b, v => v = .bl b
  | .int i, v => v = .int i
  | .str s, v => v = .str s
  | .tup ds, v => ∃ a xs, v = .ref a ∧ ((H a = some (.tup xs) ∧ some a ∉ ι) ∨ KT K a xs) ∧ ds.length ≤ sizeLine ∧ RDs K N H ι ds xs
  | .lst ds, v => ∃ a xs, v = .ref a ∧ H a = some (.lst xs) ∧ some a ∉ ι ∧ N true a ∧ ds.length ≤ sizeLine ∧ RDs K N H ι ds xs
  | .scr ns, v => ∃ a, v = .ref a ∧ ((∃ o, H a = some (.frz o (.lst (ns.map V.int))) ∧ some a ∉ ι) ∨ KL K a (ns.map V.int)) ∧ ns.length ≤ sizeLine
  | .fn a, v => v = .ref a
  | .ty n, v => v = .ty n
  | .cls n, v => v = .ref (He.ga K n)
  | .exc n f, v => ∃ a oe vs, v = .ref a ∧ H a = some (ExH a oe) ∧ some a ∉ ι ∧ oe.cls = .ref (He.ga K n) ∧ oe.data = .fields vs ∧ ExR H ι f oe
  | .dn ks ds, v => ∃ a xs o, v = .ref a ∧ H a = some (.frz o (DnO a xs)) ∧ some a ∉ ι ∧ ks.map nkD = xs.map (fun x => some x.1) ∧ RDs K N H ι ks (xs.map fun x => V.ref x.2.1) ∧ RDs K N H ι ds (xs.map fun x => x.2.2)
  | .dk ks ds, v => ∃ a ws o, v = .ref a ∧ H a = some (.frz o (.dK ws)) ∧ some a ∉ ι ∧ ks = ws.map (·.1) ∧ RDs K N H ι ds (ws.map (·.2))
def RDs (K : PySem.W.Frag) (N : Bool → Addr → Prop) (H : Hp) (ι : Ix) : List D → List V → Prop
  | [], xs => xs = []
  | d :: ds, xs => ∃ x r, xs = x :: r ∧ RD K N H ι d x ∧ RDs K N H ι ds r
end
/-- an item that is data, or the n-th changing thing -/
def RI (K : PySem.W.Frag) (N : Bool → Addr → Prop) (H : Hp) (ι : Ix) : D ⊕ Nat → V → Prop
  | .inl d, v => RD K N H ι d v
  | .inr n, v => ∃ a, v = .ref a ∧ (ι[n]? = some (some a) ∨ ι[n]? = some none)
def RIs (K : PySem.W.Frag) (N : Bool → Addr → Prop) (H : Hp) (ι : Ix) : List (D ⊕ Nat) → List V → Prop
  | [], xs => xs = []
  | d :: ds, xs => ∃ x r, xs = x :: r ∧ RI K N H ι d x ∧ RIs K N H ι ds r
def RS (K : PySem.W.Frag) (N : Bool → Addr → Prop) (H : Hp) (ι : Ix) : Sv → V → Prop
  | .d x, v => RD K N H ι x v
  | .ref n, v => ∃ a, v = .ref a ∧ (ι[n]? = some (some a) ∨ ι[n]? = some none)
  | .bor ds, v => ∃ a xs, v = .ref a ∧ H a = some (.lst xs) ∧ some a ∉ ι ∧ N false a ∧ ds.length ≤ sizeLine ∧ RDs K N H ι ds xs
def RSs (K : PySem.W.Frag) (N : Bool → Addr → Prop) (H : Hp) (ι : Ix) : List Sv → List V → Prop
  | [], xs => xs = []
  | d :: ds, xs => ∃ x r, xs = x :: r ∧ RS K N H ι d x ∧ RSs K N H ι ds r
/-- what is not changing stays -/
def Kp (ι : Ix) (H : Hp) (ι' : Ix) (H' : Hp) : Prop := ∀ a o, H a = some o → some a ∉ ι → H' a = some o ∧ some a ∉ ι'
theorem Kp.refl (ι : Ix) (H : Hp) : Kp ι H ι H := fun _ _ h n => ⟨h, n⟩
theorem Kp.trans {ι ι1 ι2 : Ix} {H H1 H2 : Hp} (a : Kp ι H ι1 H1) (b : Kp ι1 H1 ι2 H2) : Kp ι H ι2 H2 := fun c o h n =>
  let ⟨h1, n1⟩ := a c o h n
  b c o h1 n1
/-- names stay, or go -/
def Ex (ι ι' : Ix) : Prop := ∀ (n : Nat) (o : Option Addr), ι[n]? = some o → ι'[n]? = some o ∨ ι'[n]? = some none
theorem Ex.refl (ι : Ix) : Ex ι ι := fun _ _ h => .inl h
theorem Ex.trans {a b c : Ix} (h : Ex a b) (g : Ex b c) : Ex a c := fun n o e => by
  rcases h n o e with h | h
  · exact g n o h
  · rcases g n none h with g | g <;> exact .inr g
theorem Ex.app (ι r : Ix) : Ex ι (ι ++ r) := fun n o e => by
  have hlt := (List.getElem?_eq_some_iff.mp e).1
  rw [List.getElem?_append_left hlt]; exact .inl e
theorem ExR.map {H H' : Hp} {ι ι' : Ix} {f : Option (Str × Int)} {oe : Obj} (k : ∀ a o l, H a = some (.frz o l) → some a ∉ ι → H' a = some (.frz o l) ∧ some a ∉ ι') (h : ExR H ι f oe) : ExR H' ι' f oe := by
  cases f with
  | none => exact h
  | some p =>
    obtain ⟨dd, od, e, q, n⟩ := h
    exact ⟨dd, od, e, (k dd _ _ q n).1, (k dd _ _ q n).2⟩
section
variable {K : PySem.W.Frag} {N N' : Bool → Addr → Prop} {H H' : Hp} {ι ι' : Ix}
mutual
theorem RD.mono (k : Kp ι H ι' H') (hn : ∀ b a o, H a = some o → N b a → N' b a) : ∀ (d : D) (v : V), RD K N H ι d v → RD K N' H' ι' d v
  | .non, _, h => h
  | .bl _, _, h => h
  | .int _, _, h => h
  | .str _, _, h => h
  | .fn _, _, h => h
  | .ty _, _, h => h
  | .cls _, _, h => h
  | .exc _ f, v, h => by
    obtain ⟨a, oe, vs, e, q, n, c, d, x⟩ := h
    exact ⟨a, oe, vs, e, (k a _ q n).1, (k a _ q n).2, c, d, x.map fun b o l q n => k b _ q n⟩
  | .dn ks ds, v, h => by
    obtain ⟨a, xs, o, e, q, n, z, r1, r2⟩ := h
    exact ⟨a, xs, o, e, (k a _ q n).1, (k a _ q n).2, z, RDs.mono k hn ks _ r1, RDs.mono k hn ds _ r2⟩
  | .dk ks ds, v, h => by
    obtain ⟨a, ws, o, e, q, n, z, r⟩ := h
    exact ⟨a, ws, o, e, (k a _ q n).1, (k a _ q n).2, z, RDs.mono k hn ds _ r⟩
  | .scr ns, v, h => by
    obtain ⟨a, e, ⟨o, q, n⟩ | q, l⟩ := h
    · exact ⟨a, e, .inl ⟨o, k a _ q n⟩, l⟩
    · exact ⟨a, e, .inr q, l⟩
  | .tup ds, v, h => by
    obtain ⟨a, xs, e, q, l, r⟩ := h
    refine ⟨a, xs, e, ?_, l, RDs.mono k hn ds xs r⟩
    rcases q with ⟨q, n⟩ | q
    · exact .inl (k a _ q n)
    · exact .inr q
  | .lst ds, v, h => by
    obtain ⟨a, xs, e, q, n, z, l, r⟩ := h
    exact ⟨a, xs, e, (k a _ q n).1, (k a _ q n).2, hn _ a _ q z, l, RDs.mono k hn ds xs r⟩
theorem RDs.mono (k : Kp ι H ι' H') (hn : ∀ b a o, H a = some o → N b a → N' b a) : ∀ (ds : List D) (vs : List V), RDs K N H ι ds vs → RDs K N' H' ι' ds vs
  | [], _, h => h
  | d :: ds, vs, h => by
    obtain ⟨x, r, e, h1, h2⟩ := h
    exact ⟨x, r, e, RD.mono k hn d x h1, RDs.mono k hn ds r h2⟩
end
theorem RI.mono (k : Kp ι H ι' H') (p : Ex ι ι') (hn : ∀ b a o, H a = some o → N b a → N' b a) : ∀ {x : D ⊕ Nat} {v : V}, RI K N H ι x v → RI K N' H' ι' x v
  | .inl d, v, h => RD.mono k hn d v h
  | .inr n, v, h => by
    obtain ⟨a, e, q | q⟩ := h
    · exact ⟨a, e, p n _ q⟩
    · rcases p n _ q with z | z <;> exact ⟨a, e, .inr z⟩
theorem RIs.mono (k : Kp ι H ι' H') (p : Ex ι ι') (hn : ∀ b a o, H a = some o → N b a → N' b a) : ∀ {xs : List (D ⊕ Nat)} {vs : List V}, RIs K N H ι xs vs → RIs K N' H' ι' xs vs
  | [], _, h => h
  | d :: ds, vs, h => by
    obtain ⟨x, r, e, h1, h2⟩ := h
    exact ⟨x, r, e, RI.mono k p hn h1, RIs.mono k p hn h2⟩
theorem RIs.length : ∀ {ds : List (D ⊕ Nat)} {vs : List V}, RIs K N H ι ds vs → ds.length = vs.length
  | [], _, h => by cases (show _ = _ from h); rfl
  | d :: ds, _, h => by
    obtain ⟨x, r, rfl, _, h2⟩ := h
    simp [RIs.length h2]
theorem RIs.get : ∀ {ds : List (D ⊕ Nat)} {vs : List V} {i : Nat} {d : D ⊕ Nat}, RIs K N H ι ds vs → ds[i]? = some d → ∃ v, vs[i]? = some v ∧ RI K N H ι d v
  | [], _, i, _, _, e => by simp at e
  | d :: ds, _, 0, _, h, e => by
    obtain ⟨x, r, rfl, h1, _⟩ := h
    simp at e; subst e; exact ⟨x, rfl, h1⟩
  | d :: ds, _, i + 1, _, h, e => by
    obtain ⟨x, r, rfl, _, h2⟩ := h
    simp at e ⊢
    exact RIs.get h2 e
theorem RS.mono {x : Sv} {v : V} (k : Kp ι H ι' H') (p : Ex ι ι') (hn : ∀ b a o, H a = some o → N b a → N' b a) (h : RS K N H ι x v) : RS K N' H' ι' x v := by
  cases x with
  | d x => exact RD.mono k hn x v h
  | ref n =>
    obtain ⟨a, e, q | q⟩ := h
    · exact ⟨a, e, p n _ q⟩
    · rcases p n _ q with z | z <;> exact ⟨a, e, .inr z⟩
  | bor ds =>
    obtain ⟨a, xs, e, q, n, z, l, r⟩ := h
    exact ⟨a, xs, e, (k a _ q n).1, (k a _ q n).2, hn _ a _ q z, l, RDs.mono k hn ds xs r⟩
theorem RSs.mono (k : Kp ι H ι' H') (p : Ex ι ι') (hn : ∀ b a o, H a = some o → N b a → N' b a) : ∀ {xs : List Sv} {vs : List V}, RSs K N H ι xs vs → RSs K N' H' ι' xs vs
  | [], _, h => h
  | d :: ds, vs, h => by
    obtain ⟨x, r, e, h1, h2⟩ := h
    exact ⟨x, r, e, h1.mono k p hn, RSs.mono k p hn h2⟩
theorem RDs.length : ∀ {ds : List D} {vs : List V}, RDs K N H ι ds vs → ds.length = vs.length
  | [], _, h => by cases (show _ = _ from h); rfl
  | d :: ds, _, h => by
    obtain ⟨x, r, rfl, _, h2⟩ := h
    simp [RDs.length h2]
theorem RDs.get : ∀ {ds : List D} {vs : List V} {i : Nat} {d : D}, RDs K N H ι ds vs → ds[i]? = some d → ∃ v, vs[i]? = some v ∧ RD K N H ι d v
  | [], _, _, _, _, e => by simp at e
  | d :: ds, _, i, d', h, e => by
    obtain ⟨x, r, rfl, h1, h2⟩ := h
    cases i with
    | zero => simp at e; subst e; exact ⟨x, rfl, h1⟩
    | succ i => exact RDs.get (i := i) h2 (by simpa using e)
theorem RDs.append : ∀ {ds es : List D} {vs ws : List V}, RDs K N H ι ds vs → RDs K N H ι es ws → RDs K N H ι (ds ++ es) (vs ++ ws)
  | [], _, _, _, h, g => by cases (show _ = _ from h); exact g
  | d :: ds, _, _, _, h, g => by
    obtain ⟨x, r, rfl, h1, h2⟩ := h
    exact ⟨x, _, rfl, h1, RDs.append h2 g⟩
theorem RDs.set : ∀ {ds : List D} {vs : List V} {d : D} {v : V} (i : Nat), RD K N H ι d v → RDs K N H ι ds vs → RDs K N H ι (ds.set i d) (vs.set i v)
  | [], _, _, _, _, _, h => by cases (show _ = _ from h); rfl
  | e :: ds, _, d, v, i, r, h => by
    obtain ⟨x, t, rfl, h1, h2⟩ := h
    cases i with
    | zero => exact ⟨v, t, rfl, r, h2⟩
    | succ i => exact ⟨x, _, rfl, h1, RDs.set i r h2⟩
theorem RDs.take : ∀ {ds : List D} {vs : List V} (n : Nat), RDs K N H ι ds vs → RDs K N H ι (ds.take n) (vs.take n)
  | [], _, n, h => by cases (show _ = _ from h); cases n <;> rfl
  | e :: ds, _, n, h => by
    obtain ⟨x, t, rfl, h1, h2⟩ := h
    cases n with
    | zero => exact rfl
    | succ n => exact ⟨x, _, rfl, h1, RDs.take n h2⟩
theorem RDs.drop : ∀ {ds : List D} {vs : List V} (n : Nat), RDs K N H ι ds vs → RDs K N H ι (ds.drop n) (vs.drop n)
  | [], _, n, h => by cases (show _ = _ from h); cases n <;> rfl
  | e :: ds, _, n, h => by
    obtain ⟨x, t, rfl, h1, h2⟩ := h
    cases n with
    | zero => exact ⟨x, t, rfl, h1, h2⟩
    | succ n => exact RDs.drop n h2
theorem RDs.eraseIdx : ∀ {ds : List D} {vs : List V} (i : Nat), RDs K N H ι ds vs → RDs K N H ι (ds.eraseIdx i) (vs.eraseIdx i)
  | [], _, n, h => by cases (show _ = _ from h); rfl
  | e :: ds, _, n, h => by
    obtain ⟨x, t, rfl, h1, h2⟩ := h
    cases n with
    | zero => exact h2
    | succ n => exact ⟨x, _, rfl, h1, RDs.eraseIdx n h2⟩
theorem RDs.reverse : ∀ {ds : List D} {vs : List V}, RDs K N H ι ds vs → RDs K N H ι ds.reverse vs.reverse
  | [], _, h => by cases (show _ = _ from h); rfl
  | e :: ds, _, h => by
    obtain ⟨x, t, rfl, h1, h2⟩ := h
    rw [List.reverse_cons, List.reverse_cons]
    exact RDs.append (RDs.reverse h2) ⟨x, [], rfl, h1, rfl⟩
theorem RDs.dropLast {ds : List D} {vs : List V} (h : RDs K N H ι ds vs) : RDs K N H ι ds.dropLast vs.dropLast := by
  rw [List.dropLast_eq_take, List.dropLast_eq_take, h.length]; exact h.take _
theorem RDs.ints {ns : List Int} : ∀ {vs : List V}, RDs K N H ι (ns.map D.int) vs → vs = ns.map V.int := by
  induction ns with
  | nil => intro vs h; exact h
  | cons n ns ih =>
    intro vs h
    obtain ⟨x, r, rfl, h1, h2⟩ := h
    rw [ih h2]; cases (show _ = _ from h1); rfl
theorem RDs.of_ints : ∀ (ns : List Int), RDs K N H ι (ns.map D.int) (ns.map V.int)
  | [] => rfl
  | n :: ns => ⟨_, _, rfl, rfl, RDs.of_ints ns⟩
theorem RDs.bls {ns : List Bool} : ∀ {vs : List V}, RDs K N H ι (ns.map D.bl) vs → vs = ns.map V.bl := by
  induction ns with
  | nil => intro vs h; exact h
  | cons n ns ih =>
    intro vs h
    obtain ⟨x, r, rfl, h1, h2⟩ := h
    rw [ih h2]; cases (show _ = _ from h1); rfl
theorem tup_sq {a : Addr} {xs : List V} (h : (H a = some (.tup xs) ∧ some a ∉ ι) ∨ KT K a xs) : SqT K H a xs := by
  rcases h with h | h
  · exact SqT.of h.1
  · exact .inr h
end
def NdH (K : PySem.W.Frag) (H : Hp) (ι : Ix) (a : Addr) (xs : List V) : Kd → Prop
  | .ob c fs => ∃ dx, H a = some (.ins (He.ga K c) dx (fs.zip xs)) ∧ H dx = some (.own a) ∧ some dx ∉ ι ∧ fs.length = xs.length
theorem NdH.has {K : PySem.W.Frag} {H : Hp} {ι : Ix} {a : Addr} {xs : List V} {k : Kd} (h : NdH K H ι a xs k) : ∃ o, H a = some o := by
  cases k with
  | ob c fs => exact ⟨_, h.choose_spec.1⟩
theorem NdH.mono {K : PySem.W.Frag} {H H' : Hp} {ι ι' : Ix} {a : Addr} {xs : List V} {k : Kd} (kp : Kp ι H ι' H') (e : H' a = H a) (h : NdH K H ι a xs k) : NdH K H' ι' a xs k := by
  cases k with
  | ob c fs => obtain ⟨dx, q1, q2, q3, q4⟩ := h; exact ⟨dx, e.trans q1, (kp dx _ q2 q3).1, (kp dx _ q2 q3).2, q4⟩
def RC (K : PySem.W.Frag) (N : Bool → Addr → Prop) (H : Hp) (ι : Ix) : Cell → Addr → Prop
  | .gone, _ => False
  | .lst ds, a => ∃ xs, H a = some (.lst xs) ∧ ds.length ≤ sizeLine ∧ RDs K N H ι ds xs
  | .dk kvs, a => ∃ ws, H a = some (.dK ws) ∧ kvs.map (·.1) = ws.map (·.1) ∧ RDs K N H ι (kvs.map (·.2)) (ws.map (·.2))
  | .dn kvs, a => ∃ xs, H a = some (DnO a xs) ∧ (kvs.map (·.1)).map nkD = xs.map (fun x => some x.1) ∧ RDs K N H ι (kvs.map (·.1)) (xs.map fun x => V.ref x.2.1) ∧ RDs K N H ι (kvs.map (·.2)) (xs.map fun x => x.2.2)
  | .dw w kvs, a => ∃ xs, H a = some (DwO w a xs) ∧ (kvs.map (·.1)).map tkD = xs.map (fun x => some x.1) ∧ RDs K N H ι (kvs.map (·.1)) (xs.map fun x => V.ref x.2.1) ∧ RDs K N H ι (kvs.map (·.2)) (xs.map fun x => x.2.2)
  | .nd k its, a => ∃ xs, NdH K H ι a xs k ∧ its.length ≤ sizeLine ∧ RIs K N H ι its xs
structure RM (K : PySem.W.Frag) (N : Bool → Addr → Prop) (H : Hp) (ι : Ix) (M : Mem) : Prop where
  len : M.length = ι.length
  nod : ∀ (n m : Nat) (a : Addr), ι[n]? = some (some a) → ι[m]? = some (some a) → n = m
  cell : ∀ (n : Nat) (c : Cell) (a : Addr), M[n]? = some c → ι[n]? = some (some a) → RC K N H ι c a
  gone : ∀ (n : Nat), ι[n]? = some none → M[n]? = some .gone
  wf : ∀ (n : Nat) (c : Cell), M[n]? = some c → c.wf n
theorem RC.has {K : PySem.W.Frag} {N : Bool → Addr → Prop} {H : Hp} {ι : Ix} {c : Cell} {a : Addr} (h : RC K N H ι c a) : ∃ o, H a = some o := by
  cases c with
  | gone => exact h.elim
  | lst ds => exact ⟨_, h.choose_spec.1⟩
  | dk kvs => exact ⟨_, h.choose_spec.1⟩
  | dn kvs => exact ⟨_, h.choose_spec.1⟩
  | dw w kvs => exact ⟨_, h.choose_spec.1⟩
  | nd k its => exact h.choose_spec.1.has
theorem RM.fresh {K : PySem.W.Frag} {N : Bool → Addr → Prop} {H : Hp} {ι : Ix} {M : Mem} (r : RM K N H ι M) {p : Addr} (h : H p = none) : some p ∉ ι := fun hp => by
  obtain ⟨n, hn, e⟩ := List.getElem_of_mem hp
  have hM : n < M.length := by rw [r.len]; exact hn
  obtain ⟨o, q⟩ := (r.cell n M[n] p (List.getElem?_eq_getElem hM) (by rw [List.getElem?_eq_getElem hn, e])).has
  rw [h] at q; cases q
/-- a name that is not gone -/
theorem RM.at {K : PySem.W.Frag} {N : Bool → Addr → Prop} {H : Hp} {ι : Ix} {M : Mem} (r : RM K N H ι M) {n : Nat} {c : Cell} {v : V} (h : RS K N H ι (.ref n) v) (e : M[n]? = some c) (hc : c ≠ .gone) : ∃ a, v = .ref a ∧ ι[n]? = some (some a) ∧ RC K N H ι c a := by
  obtain ⟨a, e1, q | q⟩ := h
  · exact ⟨a, e1, q, r.cell n c a e q⟩
  · rw [r.gone n q] at e; cases e; exact absurd rfl hc
theorem RC.mono {K : PySem.W.Frag} {N N' : Bool → Addr → Prop} {H H' : Hp} {ι ι' : Ix} {c : Cell} {a : Addr} (k : Kp ι H ι' H') (p : Ex ι ι') (hn : ∀ b a o, H a = some o → N b a → N' b a) (e : H' a = H a) (h : RC K N H ι c a) : RC K N' H' ι' c a := by
  cases c with
  | gone => exact h.elim
  | lst ds => obtain ⟨xs, q, l, r⟩ := h; exact ⟨xs, e.trans q, l, r.mono k hn⟩
  | dk kvs => obtain ⟨ws, q, z, r⟩ := h; exact ⟨ws, e.trans q, z, r.mono k hn⟩
  | dn kvs => obtain ⟨xs, q, z, r1, r2⟩ := h; exact ⟨xs, e.trans q, z, r1.mono k hn, r2.mono k hn⟩
  | dw w kvs => obtain ⟨xs, q, z, r1, r2⟩ := h; exact ⟨xs, e.trans q, z, r1.mono k hn, r2.mono k hn⟩
  | nd kd its => obtain ⟨xs, q, z, r⟩ := h; exact ⟨xs, q.mono k e, z, r.mono k p hn⟩
/-- names below k stay -/
theorem RIs.taken {K : PySem.W.Frag} {N N' : Bool → Addr → Prop} {H : Hp} {ι : Ix} {k : Nat} (kk : Kp ι H (ι.take k) H) (hn : ∀ b a o, H a = some o → N b a → N' b a) : ∀ {its : List (D ⊕ Nat)} {xs : List V}, (∀ j, Sum.inr j ∈ its → j < k) → RIs K N H ι its xs → RIs K N' H (ι.take k) its xs
  | [], _, _, h => h
  | .inl d :: its, xs, hl, h => by
    obtain ⟨x, r, rfl, h1, h2⟩ := h
    exact ⟨x, r, rfl, RD.mono kk hn d x h1, RIs.taken kk hn (fun j hj => hl j (List.mem_cons_of_mem _ hj)) h2⟩
  | .inr n :: its, xs, hl, h => by
    obtain ⟨x, r, rfl, ⟨a, e, q⟩, h2⟩ := h
    exact ⟨x, r, rfl, ⟨a, e, by rw [List.getElem?_take, if_pos (hl n List.mem_cons_self)]; exact q⟩, RIs.taken kk hn (fun j hj => hl j (List.mem_cons_of_mem _ hj)) h2⟩
theorem RC.taken {K : PySem.W.Frag} {N N' : Bool → Addr → Prop} {H : Hp} {ι : Ix} {k n : Nat} {c : Cell} {a : Addr} (kk : Kp ι H (ι.take k) H) (hn : ∀ b a o, H a = some o → N b a → N' b a) (w : c.wf n) (hk : n < k) (h : RC K N H ι c a) : RC K N' H (ι.take k) c a := by
  cases c with
  | gone => exact h.elim
  | lst ds => obtain ⟨xs, q, l, r⟩ := h; exact ⟨xs, q, l, r.mono kk hn⟩
  | dk kvs => obtain ⟨ws, q, z, r⟩ := h; exact ⟨ws, q, z, r.mono kk hn⟩
  | dn kvs => obtain ⟨xs, q, z, r1, r2⟩ := h; exact ⟨xs, q, z, r1.mono kk hn, r2.mono kk hn⟩
  | dw w kvs => obtain ⟨xs, q, z, r1, r2⟩ := h; exact ⟨xs, q, z, r1.mono kk hn, r2.mono kk hn⟩
  | nd kd its => obtain ⟨xs, q, z, r⟩ := h; exact ⟨xs, q.mono kk rfl, z, RIs.taken kk hn (fun j hj => Nat.lt_trans (w j hj) hk) r⟩
/-- names below n stay, or go -/
def ExB (n : Nat) (ι ι' : Ix) : Prop := ∀ j, j < n → ∀ o, ι[j]? = some o → ι'[j]? = some o ∨ ι'[j]? = some none
theorem Ex.b {n : Nat} {ι ι' : Ix} (p : Ex ι ι') : ExB n ι ι' := fun j _ o e => p j o e
theorem RIs.monoB {K : PySem.W.Frag} {N N' : Bool → Addr → Prop} {H H' : Hp} {ι ι' : Ix} {n : Nat} (k : Kp ι H ι' H') (p : ExB n ι ι') (hn : ∀ b a o, H a = some o → N b a → N' b a) : ∀ {its : List (D ⊕ Nat)} {xs : List V}, (∀ j, Sum.inr j ∈ its → j < n) → RIs K N H ι its xs → RIs K N' H' ι' its xs
  | [], _, _, h => h
  | .inl d :: its, xs, hl, h => by
    obtain ⟨x, r, rfl, h1, h2⟩ := h
    exact ⟨x, r, rfl, RD.mono k hn d x h1, RIs.monoB k p hn (fun j hj => hl j (List.mem_cons_of_mem _ hj)) h2⟩
  | .inr m :: its, xs, hl, h => by
    obtain ⟨x, r, rfl, ⟨a, e, q⟩, h2⟩ := h
    have hm := hl m List.mem_cons_self
    refine ⟨x, r, rfl, ⟨a, e, ?_⟩, RIs.monoB k p hn (fun j hj => hl j (List.mem_cons_of_mem _ hj)) h2⟩
    rcases q with q | q
    · exact p m hm _ q
    · rcases p m hm _ q with z | z <;> exact .inr z
theorem RC.monoB {K : PySem.W.Frag} {N N' : Bool → Addr → Prop} {H H' : Hp} {ι ι' : Ix} {n : Nat} {c : Cell} {a : Addr} (k : Kp ι H ι' H') (p : ExB n ι ι') (hn : ∀ b a o, H a = some o → N b a → N' b a) (w : c.wf n) (e : H' a = H a) (h : RC K N H ι c a) : RC K N' H' ι' c a := by
  cases c with
  | gone => exact h.elim
  | lst ds => obtain ⟨xs, q, l, r⟩ := h; exact ⟨xs, e.trans q, l, r.mono k hn⟩
  | dk kvs => obtain ⟨ws, q, z, r⟩ := h; exact ⟨ws, e.trans q, z, r.mono k hn⟩
  | dn kvs => obtain ⟨xs, q, z, r1, r2⟩ := h; exact ⟨xs, e.trans q, z, r1.mono k hn, r2.mono k hn⟩
  | dw w kvs => obtain ⟨xs, q, z, r1, r2⟩ := h; exact ⟨xs, e.trans q, z, r1.mono k hn, r2.mono k hn⟩
  | nd kd its => obtain ⟨xs, q, z, r⟩ := h; exact ⟨xs, q.mono k e, z, RIs.monoB k p hn w r⟩
/-- the ground of a def: the heap at its entry, its changing arguments, what its callers may change -/
structure Gd where
  He : Hp
  i0 : List Addr
  B : Addr → Prop
  /-- what a comprehension is just making -/
  Hd : Addr → Prop
abbrev Gd.N (G : Gd) : Bool → Addr → Prop := fun b a => ¬ G.Hd a ∧ (b = true → ¬ G.B a)
/-- fields alike: what is a reference stays, an int may be another -/
def SameF : List (Str × V) → List (Str × V) → Prop := Paired fun p q => p.1 = q.1 ∧ (p.2 = q.2 ∨ ∃ i j, p.2 = .int i ∧ q.2 = .int j)
theorem SameF.refl : ∀ fs : List (Str × V), SameF fs fs
  | [] => .nil
  | p :: fs => .cons ⟨rfl, .inl rfl⟩ (SameF.refl fs)
theorem SameF.trans : ∀ {a b c : List (Str × V)}, SameF a b → SameF b c → SameF a c
  | _, _, _, .nil, .nil => .nil
  | _, _, _, .cons ⟨h1, h2⟩ h, .cons ⟨g1, g2⟩ g => .cons ⟨h1.trans g1, by
      rcases h2 with h2 | ⟨i, j, e1, e2⟩
      · rw [h2]; exact g2
      · rcases g2 with g2 | ⟨i', j', e3, e4⟩
        · exact .inr ⟨i, j, e1, g2 ▸ e2⟩
        · exact .inr ⟨i, j', e1, e4⟩⟩ (SameF.trans h g)
/-- the objects among these are still of their classes, with their fields -/
def ObK (l : List Addr) (H H' : Hp) : Prop := ∀ a ∈ l, (∀ C dx fs, H a = some (.ins C dx fs) → ∃ fs', H' a = some (.ins C dx fs') ∧ SameF fs fs') ∧ ∀ C dx fs', H' a = some (.ins C dx fs') → ∃ fs, H a = some (.ins C dx fs)
theorem ObK.refl (l : List Addr) (H : Hp) : ObK l H H := fun _ _ => ⟨fun _ _ fs e => ⟨fs, e, SameF.refl fs⟩, fun _ _ fs e => ⟨fs, e⟩⟩
theorem ObK.trans {l : List Addr} {H H1 H2 : Hp} (p : ObK l H H1) (q : ObK l H1 H2) : ObK l H H2 := fun a ha => ⟨fun C dx fs e => by
    obtain ⟨f1, e1, s1⟩ := (p a ha).1 C dx fs e
    obtain ⟨f2, e2, s2⟩ := (q a ha).1 C dx f1 e1
    exact ⟨f2, e2, s1.trans s2⟩, fun C dx fs e => by
    obtain ⟨f1, e1⟩ := (q a ha).2 C dx fs e
    exact (p a ha).2 C dx f1 e1⟩
/-- a turn that leaves an object an object -/
def ObT (H : Hp) (p : Addr) (o : HO) : Prop := (∀ C dx fs, H p = some (.ins C dx fs) → ∃ fs', o = .ins C dx fs' ∧ SameF fs fs') ∧ ∀ C dx fs', o = .ins C dx fs' → ∃ fs, H p = some (.ins C dx fs)
theorem ObT.of {H : Hp} {p : Addr} {o u : HO} (e : H p = some u) (h : ∀ C dx fs, u ≠ .ins C dx fs) (h2 : ∀ C dx fs, o ≠ .ins C dx fs) : ObT H p o := ⟨fun C dx fs q => by
  rw [e] at q; exact absurd (Option.some.inj q) (h C dx fs), fun C dx fs q => absurd q (h2 C dx fs)⟩
theorem ObK.turn {l : List Addr} {H0 H : Hp} {p : Addr} {o : HO} (k : ObK l H0 H) (t : ObT H p o) : ObK l H0 (upd H p o) := fun a ha => by
  by_cases hp : a = p
  · subst hp
    refine ⟨fun C dx fs e => ?_, fun C dx fs e => ?_⟩
    · obtain ⟨fs', e', s⟩ := (k a ha).1 C dx fs e
      obtain ⟨fs2, rfl, s2⟩ := t.1 C dx fs' e'
      exact ⟨fs2, upd_same, s.trans s2⟩
    · rw [upd_same] at e
      obtain ⟨fs', e'⟩ := t.2 C dx fs (Option.some.inj e)
      exact (k a ha).2 C dx fs' e'
  · rw [upd_ne hp]; exact k a ha
theorem ObK.laid {l : List Addr} {H0 H : Hp} {p : Addr} {o : HO} (k : ObK l H0 H) (t : H p = none) (hl : ∀ a ∈ l, ∃ u, H a = some u) : ObK l H0 (upd H p o) := fun a ha => by
  have hp : a ≠ p := fun e => by
    obtain ⟨u, q⟩ := hl a ha
    rw [e, t] at q; cases q
  rw [upd_ne hp]; exact k a ha
structure Sr (K : PySem.W.Frag) (G : Gd) (δ : DS) (M : Mem) (ι : Ix) (σ : L2.St) (H : Hp) : Prop where
  len : δ.length = σ.length
  slot : ∀ (i : Nat) (d : Sv), δ[i]? = some (some d) → ∃ v, σ[i]? = some (some v) ∧ RS K G.N H ι d v
  mem : RM K G.N H ι M
  pre : ∀ (n : Nat) (a : Addr), G.i0[n]? = some a → ι[n]? = some (some a)
  kp : Kp (G.i0.map some) G.He ι H
  new : ∀ a, some a ∈ ι → a ∉ G.i0 → G.He a = none
  bad : ∀ a, G.B a → ∃ o, G.He a = some o
  hid : ∀ a, G.Hd a → some a ∉ ι ∧ ∃ o, H a = some o
  obk : ObK G.i0 G.He H
theorem RM.there {K : PySem.W.Frag} {N : Bool → Addr → Prop} {H : Hp} {ι : Ix} {M : Mem} (r : RM K N H ι M) {a : Addr} (h : some a ∈ ι) : ∃ o, H a = some o := by
  obtain ⟨n, hn, e⟩ := List.getElem_of_mem h
  have hM : n < M.length := by rw [r.len]; exact hn
  exact (r.cell n M[n] a (List.getElem?_eq_getElem hM) (by rw [List.getElem?_eq_getElem hn, e])).has
theorem Sr.i0there {K : PySem.W.Frag} {G : Gd} {δ : DS} {M : Mem} {ι : Ix} {σ : L2.St} {H : Hp} (S : Sr K G δ M ι σ H) : ∀ a ∈ G.i0, ∃ u, H a = some u := fun a ha => by
  obtain ⟨n, hn⟩ := List.getElem?_of_mem ha
  exact S.mem.there (List.mem_of_getElem? (S.pre n a hn))
/-- H' is H with a new thing, or a turned changing object -/
theorem Kp.laid {ι : Ix} {H : Hp} {p : Addr} {o : HO} (h : H p = none) : Kp ι H ι (upd H p o) := fun a u e n => by
  refine ⟨?_, n⟩
  rw [upd_ne (ne_of_none e h)]; exact e
theorem Kp.named {ι : Ix} {H : Hp} {p : Addr} {o : HO} (h : H p = none) : Kp ι H (ι ++ [some p]) (upd H p o) := fun a u e n => by
  have hne := ne_of_none e h
  refine ⟨?_, ?_⟩
  · rw [upd_ne hne]; exact e
  · simp only [List.mem_append, List.mem_singleton, Option.some.injEq, not_or]; exact ⟨n, hne⟩
theorem Kp.turned {ι : Ix} {H : Hp} {p : Addr} {o : HO} (h : some p ∈ ι) : Kp ι H ι (upd H p o) := fun a u e n => by
  refine ⟨?_, n⟩
  rw [upd_ne (fun z => n (by rw [z]; exact h))]; exact e
theorem Kp.take {ι : Ix} {H : Hp} (k : Nat) : Kp ι H (ι.take k) H := fun a u e n => ⟨e, fun h => n (List.mem_of_mem_take h)⟩
section
variable {K : PySem.W.Frag} {G : Gd} {δ : DS} {M : Mem} {ι : Ix} {σ : L2.St} {H : Hp}
/-- a thing that is not tracked by name is laid -/
theorem Sr.laid {p : Addr} {o : HO} (S : Sr K G δ M ι σ H) (h : H p = none) : Sr K G δ M ι σ (upd H p o) := by
  have k := Kp.laid (ι := ι) (o := o) h
  refine ⟨S.len, fun i d e => ?_, ⟨S.mem.len, S.mem.nod, fun n c a e1 e2 => ?_, S.mem.gone, S.mem.wf⟩, S.pre, S.kp.trans k, S.new, S.bad, fun a ha => ⟨(S.hid a ha).1, ?_⟩, S.obk.laid h S.i0there⟩
  · obtain ⟨v, e1, r⟩ := S.slot i d e
    exact ⟨v, e1, r.mono k (Ex.refl _) (fun _ _ _ _ z => z)⟩
  · refine (S.mem.cell n c a e1 e2).mono k (Ex.refl _) (fun _ _ _ _ z => z) (upd_ne ?_)
    rintro rfl
    exact S.mem.fresh h (List.mem_of_getElem? e2)
  · obtain ⟨u, q⟩ := (S.hid a ha).2
    exact ⟨u, by rw [upd_ne (ne_of_none q h)]; exact q⟩
/-- a new changing object -/
theorem Sr.named {p : Addr} {o : HO} {c : Cell} (S : Sr K G δ M ι σ H) (h : H p = none) (hc : RC K G.N (upd H p o) (ι ++ [some p]) c p) (hw : c.wf M.length := by trivial) : Sr K G δ (M ++ [c]) (ι ++ [some p]) σ (upd H p o) := by
  have k := Kp.named (ι := ι) (o := o) h
  have hp := S.mem.fresh h
  have hpre : Ex ι (ι ++ [some p]) := Ex.app _ _
  refine ⟨S.len, fun i d e => ?_, ⟨by simp [S.mem.len], fun n m a e1 e2 => ?_, fun n c' a e1 e2 => ?_, fun n e => ?_, fun n c' e1 => ?_⟩, fun n a e => ?_, S.kp.trans k, fun a ha hn => ?_, ?_, fun a ha => ?_, S.obk.laid h S.i0there⟩
  · obtain ⟨v, e1, r⟩ := S.slot i d e
    exact ⟨v, e1, r.mono k hpre (fun _ _ _ _ z => z)⟩
  · by_cases hn : n < ι.length
    · rw [List.getElem?_append_left hn] at e1
      by_cases hm : m < ι.length
      · rw [List.getElem?_append_left hm] at e2
        exact S.mem.nod n m a e1 e2
      · rw [List.getElem?_append_right (by omega)] at e2
        have : a = p := by
          cases q : m - ι.length with
          | zero => rw [q] at e2; simpa using e2.symm
          | succ j => rw [q] at e2; simp at e2
        subst this
        exact absurd (List.mem_of_getElem? e1) hp
    · rw [List.getElem?_append_right (by omega)] at e1
      have h1 : n = ι.length ∧ a = p := by
        cases q : n - ι.length with
        | zero => rw [q] at e1; exact ⟨by omega, by simpa using e1.symm⟩
        | succ j => rw [q] at e1; simp at e1
      obtain ⟨h1, rfl⟩ := h1
      by_cases hm : m < ι.length
      · rw [List.getElem?_append_left hm] at e2
        exact absurd (List.mem_of_getElem? e2) hp
      · have h2 := (List.getElem?_eq_some_iff.mp e2).1
        simp at h2; omega
  · by_cases hn : n < M.length
    · rw [List.getElem?_append_left hn] at e1
      rw [List.getElem?_append_left (by rw [← S.mem.len]; exact hn)] at e2
      refine (S.mem.cell n c' a e1 e2).mono k hpre (fun _ _ _ _ z => z) (upd_ne ?_)
      rintro rfl
      exact hp (List.mem_of_getElem? e2)
    · have h1 : n = M.length := by
        have := (List.getElem?_eq_some_iff.mp e1).1
        simp at this; omega
      subst h1
      rw [List.getElem?_append_right (Nat.le_refl _)] at e1
      rw [List.getElem?_append_right (by rw [S.mem.len]; exact Nat.le_refl _)] at e2
      simp [S.mem.len] at e1 e2
      subst e1 e2
      exact hc
  · by_cases hn : n < ι.length
    · rw [List.getElem?_append_left hn] at e
      rw [List.getElem?_append_left (by rw [S.mem.len]; exact hn)]
      exact S.mem.gone n e
    · rw [List.getElem?_append_right (by omega)] at e
      cases q : n - ι.length with
      | zero => rw [q] at e; simp at e
      | succ j => rw [q] at e; simp at e
  · by_cases hn : n < M.length
    · rw [List.getElem?_append_left hn] at e1
      exact S.mem.wf n c' e1
    · have h1 : n = M.length := by
        have := (List.getElem?_eq_some_iff.mp e1).1
        simp at this; omega
      subst h1
      rw [List.getElem?_append_right (Nat.le_refl _)] at e1
      simp at e1
      subst e1
      exact hw
  · have e1 := S.pre n a e
    rw [List.getElem?_append_left (List.getElem?_eq_some_iff.mp e1).1]; exact e1
  · rcases List.mem_append.mp ha with z | z
    · exact S.new a z hn
    · simp only [List.mem_singleton, Option.some.injEq] at z; subst z
      cases q : G.He a with
      | none => rfl
      | some u => rw [(S.kp a u q (by simpa using hn)).1] at h; cases h
  · exact S.bad
  · obtain ⟨n1, u, q⟩ := S.hid a ha
    have hne := ne_of_none q h
    refine ⟨?_, u, by rw [upd_ne hne]; exact q⟩
    simp only [List.mem_append, List.mem_singleton, Option.some.injEq, not_or]; exact ⟨n1, hne⟩
/-- a changing object turns -/
theorem Sr.turned {n : Nat} {p : Addr} {o : HO} {c : Cell} (S : Sr K G δ M ι σ H) (hp : ι[n]? = some (some p)) (hc : RC K G.N (upd H p o) ι c p) (hw : c.wf n := by trivial) (ho : ObT H p o := by refine ObT.of (by assumption) ?_ ?_ <;> (intro C dx fs z; cases z)) : Sr K G δ (M.set n c) ι σ (upd H p o) := by
  have k := Kp.turned (H := H) (o := o) (List.mem_of_getElem? hp)
  refine ⟨S.len, fun i d e => ?_, ⟨by simp [S.mem.len], S.mem.nod, fun m c' a e1 e2 => ?_, fun m e => ?_, fun m c' e1 => ?_⟩, S.pre, S.kp.trans k, S.new, S.bad, fun a ha => ⟨(S.hid a ha).1, ?_⟩, S.obk.turn ho⟩
  · obtain ⟨v, e1, r⟩ := S.slot i d e
    exact ⟨v, e1, r.mono k (Ex.refl _) (fun _ _ _ _ z => z)⟩
  · by_cases hm : n = m
    · subst hm
      have hlt : n < M.length := by
        have := (List.getElem?_eq_some_iff.mp e1).1
        simpa using this
      rw [List.getElem?_set_self hlt] at e1
      cases e1
      rw [hp] at e2; cases e2
      exact hc
    · rw [List.getElem?_set_ne hm] at e1
      refine (S.mem.cell m c' a e1 e2).mono k (Ex.refl _) (fun _ _ _ _ z => z) (upd_ne ?_)
      rintro rfl
      exact hm (S.mem.nod _ _ _ hp e2)
  · by_cases hm : n = m
    · subst hm; rw [hp] at e; cases e
    · rw [List.getElem?_set_ne hm]; exact S.mem.gone m e
  · by_cases hm : n = m
    · subst hm
      have hlt : n < M.length := by
        have := (List.getElem?_eq_some_iff.mp e1).1
        simpa using this
      rw [List.getElem?_set_self hlt] at e1
      cases e1
      exact hw
    · rw [List.getElem?_set_ne hm] at e1
      exact S.mem.wf m c' e1
  · obtain ⟨n1, u, q⟩ := S.hid a ha
    refine ⟨u, ?_⟩
    rw [upd_ne (fun z => n1 (by rw [z]; exact List.mem_of_getElem? hp))]; exact q
theorem Sr.set {i : Nat} {d : Sv} {v : V} (S : Sr K G δ M ι σ H) (r : RS K G.N H ι d v) : Sr K G (δ.set i (some d)) M ι (σ.set i (some v)) H := by
  refine ⟨by simp [S.len], fun j d' e => ?_, S.mem, S.pre, S.kp, S.new, S.bad, S.hid, S.obk⟩
  by_cases hj : i = j
  · subst hj
    have hlt : i < δ.length := by
      have := (List.getElem?_eq_some_iff.mp e).1
      simpa using this
    rw [List.getElem?_set_self hlt] at e
    cases e
    exact ⟨v, by rw [List.getElem?_set_self (by rw [← S.len]; exact hlt)], r⟩
  · rw [List.getElem?_set_ne hj] at e
    obtain ⟨w, e1, r1⟩ := S.slot j d' e
    exact ⟨w, by rw [List.getElem?_set_ne hj]; exact e1, r1⟩
/-- names from k on are forgotten -/
def gcO (k : Nat) : Option Sv → Option Sv
  | some (.d x) => some (.d x)
  | some (.ref n) => if n < k then some (.ref n) else none
  | some (.bor ds) => some (.bor ds)
  | none => none
def gcS (k : Nat) (δ : DS) : DS := δ.map (gcO k)
theorem Sr.gc (S : Sr K G δ M ι σ H) (k : Nat) (hk : G.i0.length ≤ k) : Sr K G (gcS k δ) (M.take k) (ι.take k) σ H := by
  have kk := Kp.take (ι := ι) (H := H) k
  have tk : ∀ (n : Nat) (o : Option Addr), (ι.take k)[n]? = some o → ι[n]? = some o := fun n o e => by
    rw [List.getElem?_take] at e
    split at e
    · exact e
    · cases e
  refine ⟨by simp [gcS, S.len], fun i d e => ?_, ⟨by simp [S.mem.len], fun n m a e1 e2 => S.mem.nod n m a (tk _ _ e1) (tk _ _ e2), fun n c a e1 e2 => ?_, fun n e => ?_, fun n c e1 => ?_⟩, fun n a e => ?_, S.kp.trans kk, fun a ha hn => S.new a (List.mem_of_mem_take ha) hn, S.bad, fun a ha => ⟨fun z => (S.hid a ha).1 (List.mem_of_mem_take z), (S.hid a ha).2⟩, S.obk⟩
  · unfold gcS at e
    rw [List.getElem?_map] at e
    cases q : δ[i]? with
    | none => rw [q] at e; cases e
    | some o =>
      rw [q] at e
      cases o with
      | none => cases e
      | some w =>
        obtain ⟨v, e1, r⟩ := S.slot i w q
        cases w with
        | d x => cases e; exact ⟨v, e1, RD.mono kk (fun _ _ _ _ z => z) x v r⟩
        | bor ds =>
          cases e
          obtain ⟨a, xs, e2, q1, q2, q4, l, q3⟩ := r
          exact ⟨v, e1, a, xs, e2, q1, (kk a _ q1 q2).2, q4, l, q3.mono kk fun _ _ _ _ z => z⟩
        | ref n =>
          simp only [Option.map_some, gcO] at e
          split at e
          · rename_i hn
            cases e
            obtain ⟨a, e2, z⟩ := r
            refine ⟨v, e1, a, e2, ?_⟩
            rw [List.getElem?_take, if_pos hn]; exact z
          · cases e
  · rw [List.getElem?_take] at e1
    split at e1
    · rename_i hnk
      exact (S.mem.cell n c a e1 (tk _ _ e2)).taken kk (fun _ _ _ _ z => z) (S.mem.wf n c e1) hnk
    · cases e1
  · have h1 := (List.getElem?_eq_some_iff.mp e).1
    rw [List.getElem?_take, if_pos (by simp at h1; omega)]
    exact S.mem.gone n (tk _ _ e)
  · rw [List.getElem?_take] at e1
    split at e1
    · exact S.mem.wf n c e1
    · cases e1
  · have h1 := (List.getElem?_eq_some_iff.mp e).1
    rw [List.getElem?_take, if_pos (by omega)]
    exact S.pre n a e
end
abbrev QD := Sv → Mem → Prop
abbrev TE' := DS → Mem → QD → Prop
structure Ends' where
  nx : DS → Mem → Prop
  rt : Sv → Mem → Prop
  bk : DS → Mem → Prop := fun _ _ => False
  ct : DS → Mem → Prop := fun _ _ => False
abbrev TS' := Ends' → DS → Mem → Prop
def lE (K : PySem.W.Frag) (G : Gd) (t : TE') : TE := fun σ H Q => ∃ δ M ι Q0, Sr K G δ M ι σ H ∧ t δ M Q0 ∧
  ∀ d M' ι' H' v, Q0 d M' → Ex ι ι' → Kp ι H ι' H' → Sr K G δ M' ι' σ H' → RS K G.N H' ι' d v → Q v H'
structure EndsR (K : PySem.W.Frag) (G : Gd) (ι : Ix) (H : Hp) (E0 : Ends') (E : Ends) : Prop where
  nx : ∀ δ' M' ι' σ' H', E0.nx δ' M' → Ex ι ι' → Kp ι H ι' H' → Sr K G δ' M' ι' σ' H' → E.nx σ' H'
  rt : ∀ d δ' M' ι' σ' H' v, E0.rt d M' → Sr K G δ' M' ι' σ' H' → RS K G.N H' ι' d v → E.rt v H'
  bk : ∀ δ' M' ι' σ' H', E0.bk δ' M' → Ex ι ι' → Kp ι H ι' H' → Sr K G δ' M' ι' σ' H' → E.bk σ' H'
  ct : ∀ δ' M' ι' σ' H', E0.ct δ' M' → Ex ι ι' → Kp ι H ι' H' → Sr K G δ' M' ι' σ' H' → E.ct σ' H'
theorem EndsR.to {K : PySem.W.Frag} {G : Gd} {ι ι1 : Ix} {H H1 : Hp} {E0 : Ends'} {E : Ends} (z : EndsR K G ι H E0 E) (p : Ex ι ι1) (k : Kp ι H ι1 H1) : EndsR K G ι1 H1 E0 E :=
  ⟨fun δ' M' ι' σ' H' q p' k' S => z.nx δ' M' ι' σ' H' q (p.trans p') (k.trans k') S, z.rt, fun δ' M' ι' σ' H' q p' k' S => z.bk δ' M' ι' σ' H' q (p.trans p') (k.trans k') S,
    fun δ' M' ι' σ' H' q p' k' S => z.ct δ' M' ι' σ' H' q (p.trans p') (k.trans k') S⟩
def lS (K : PySem.W.Frag) (G : Gd) (t : TS') : TS := fun E σ H => ∃ δ M ι E0, Sr K G δ M ι σ H ∧ t E0 δ M ∧ EndsR K G ι H E0 E
abbrev VE (X : Cx) (G : Gd) (e : Expr) (t : TE') : Prop := PE X e (lE X.K G t)
abbrev VS (X : Cx) (G : Gd) (s : Stmt) (t : TS') : Prop := PS X s (lS X.K G t)
abbrev VSs (X : Cx) (G : Gd) (s : List Stmt) (t : TS') : Prop := PSs X s (lS X.K G t)
theorem PE.weak {X : Cx} {e : Expr} {t t' : TE} (h : PE X e t) (w : ∀ σ H Q, t' σ H Q → t σ H Q) : PE X e t' := ⟨fun pins s σ H Q I q => h.run pins s σ H Q I (w _ _ _ q)⟩
theorem PS.weak {X : Cx} {e : Stmt} {t t' : TS} (h : PS X e t) (w : ∀ D σ H, t' D σ H → t D σ H) : PS X e t' := ⟨fun pins s σ H Q I q => h.run pins s σ H Q I (w _ _ _ q)⟩
theorem PSs.weak {X : Cx} {e : List Stmt} {t t' : TS} (h : PSs X e t) (w : ∀ D σ H, t' D σ H → t D σ H) : PSs X e t' := ⟨fun pins s σ H Q I q => h.run pins s σ H Q I (w _ _ _ q)⟩
end VL
set_option Elab.async false
set_option linter.all false
set_option maxRecDepth 100000
set_option maxHeartbeats 4000000
namespace VL
open PySem PySem.Spec L2
abbrev PV := DS → Mem → Option Sv
abbrev TA' := DS → Mem → (List Sv → Mem → Prop) → Prop
def ok {α : Type} (o : Option α) (k : α → Prop) : Prop := match o with | some d => k d | none => False
theorem ok_some {α : Type} {d : α} {k : α → Prop} : ok (some d) k = k d := rfl
theorem ok_none {α : Type} {k : α → Prop} : ok none k = False := rfl
theorem ok_of {α : Type} {o : Option α} {d : α} {k : α → Prop} (e : o = some d) (h : k d) : ok o k := by subst e; exact h
theorem ok_elim {α : Type} {o : Option α} {k : α → Prop} (h : ok o k) : ∃ d, o = some d ∧ k d := by
  cases o with
  | none => exact h.elim
  | some d => exact ⟨d, rfl, h⟩
theorem ok_bind {α β : Type} {o : Option α} {f : α → Option β} {k : β → Prop} : ok (o.bind f) k = ok o fun d => ok (f d) k := by
  cases o <;> rfl
theorem ok_map {α β : Type} {o : Option α} {f : α → β} {k : β → Prop} : ok (o.map f) k = ok o fun d => k (f d) := by
  cases o <;> rfl
def eP (p : PV) : TE' := fun δ M Q => ok (p δ M) fun d => Q d M
def pArgs : List PV → DS → Mem → Option (List Sv)
  | [], _, _ => some []
  | p :: ps, δ, M => (p δ M).bind fun d => (pArgs ps δ M).map fun ds => d :: ds
def aP (ps : List PV) : TA' := fun δ M Q => ok (pArgs ps δ M) fun ds => Q ds M
def aNil : TA' := fun _ M Q => Q [] M
def aCons (t : TE') (r : TA') : TA' := fun δ M Q => t δ M fun d M1 => r δ M1 fun ds M2 => Q (d :: ds) M2
def lA (K : PySem.W.Frag) (G : Gd) (n : Nat) (t : TA') : TA := fun σ H Q => ∃ δ M ι Q0, Sr K G δ M ι σ H ∧ t δ M Q0 ∧
  ∀ ds M' ι' H' vs, ds.length = n → Q0 ds M' → Ex ι ι' → Kp ι H ι' H' → Sr K G δ M' ι' σ H' → RSs K G.N H' ι' ds vs → Q vs H'
abbrev VA (X : Cx) (G : Gd) (es : List Expr) (n : Nat) (t : TA') : Prop := PA X es (lA X.K G n t)
section
variable {X : Cx} {G : Gd} {e a b : Expr} {es : List Expr} {pos : Pos} {ta tb t : TE'} {p q : PV}
theorem VE.weak {t' : TE'} (h : VE X G e t) (w : ∀ δ M Q, t' δ M Q → t δ M Q) : VE X G e t' :=
  PE.weak h fun _ _ _ ⟨δ, M, ι, Q0, S, q, z⟩ => ⟨δ, M, ι, Q0, S, w _ _ _ q, z⟩
theorem VA.weak {n : Nat} {t t' : TA'} (h : VA X G es n t) (w : ∀ δ M Q, t' δ M Q → t δ M Q) : VA X G es n t' :=
  ⟨fun pos pins s σ H Q I ⟨δ, M, ι, Q0, S, q, z⟩ => h.run pos pins s σ H Q I ⟨δ, M, ι, Q0, S, w _ _ _ q, z⟩⟩
def pV (i : Nat) : PV := fun δ _ => (δ[i]?).join
theorem ve_var {i : Nat} {x : Str} (hN : X.N[i]? = some x) (hv : Vis X.env.scope x) (hd : (x == ("__debug__" : Str)) = false := by decide) (hcd : (x == ("__classdict__" : Str)) = false := by decide) : VE X G (.Name x pos) (eP (pV i)) := by
  refine PE.weak (pe_var hN hv hd hcd) fun σ H Q ⟨δ, M, ι, Q0, S, h, z⟩ => ?_
  obtain ⟨d, e1, h⟩ := ok_elim h
  have e2 : δ[i]? = some (some d) := by
    unfold pV at e1
    cases q : δ[i]? with
    | none => rw [q] at e1; cases e1
    | some o =>
      rw [q] at e1
      cases o with
      | none => cases e1
      | some u => cases e1; rfl
  obtain ⟨v, e3, r⟩ := S.slot i d e2
  exact ⟨v, e3, z d M ι H v h (Ex.refl _) (Kp.refl _ _) S r⟩
theorem ve_v (i : Nat) {x : Str} (hN : X.N[i]? = some x := by rfl) (hv : Vis X.env.scope x := by first | exact Or.inl rfl | exact Or.inr (Or.inl rfl) | exact Or.inr (Or.inr rfl)) (hd : (x == ("__debug__" : Str)) = false := by decide)
    (hcd : (x == ("__classdict__" : Str)) = false := by decide) : VE X G (.Name x pos) (eP (pV i)) := ve_var hN hv hd hcd
def pC (d : D) : PV := fun _ _ => some (.d d)
theorem ve_const {v : V} {d : D} (h : PE X e (tC v)) (r : ∀ K N H ι, RD K N H ι d v) : VE X G e (eP (pC d)) :=
  PE.weak h fun σ H Q ⟨δ, M, ι, Q0, S, h, z⟩ => z _ M ι H v h (Ex.refl _) (Kp.refl _ _) S (r _ _ _ _)
theorem ve_int {i j} : VE X G (.Constant (.int i) j pos) (eP (pC (.int i))) := ve_const pe_int fun _ _ _ _ => rfl
theorem ve_bl {i j} : VE X G (.Constant (.bool i) j pos) (eP (pC (.bl i))) := ve_const pe_bl fun _ _ _ _ => rfl
theorem ve_non {j} : VE X G (.Constant .none j pos) (eP (pC .non)) := ve_const pe_non fun _ _ _ _ => rfl
theorem ve_str {i j} : VE X G (.Constant (.str i) j pos) (eP (pC (.str i))) := ve_const pe_str fun _ _ _ _ => rfl
/-- a rule by values, read over data -/
def Rd2 (K : PySem.W.Frag) (r : R2) (f : Mem → Sv → Sv → Option Sv) : Prop := ∀ (G : Gd) (δ : DS) (M : Mem) (ι : Ix) (σ : L2.St) (H : Hp) (x y : Sv) (v u : V) (d : Sv), Sr K G δ M ι σ H → RS K G.N H ι x v → RS K G.N H ι y u → f M x y = some d →
  ∀ Q : VK, (∀ ι' H' w, Ex ι ι' → Kp ι H ι' H' → Sr K G δ M ι' σ H' → RS K G.N H' ι' d w → Q w H') → r v u H Q
def Rd1 (K : PySem.W.Frag) (r : V → Hp → VK → Prop) (f : Mem → Sv → Option Sv) : Prop := ∀ (G : Gd) (δ : DS) (M : Mem) (ι : Ix) (σ : L2.St) (H : Hp) (x : Sv) (v : V) (d : Sv), Sr K G δ M ι σ H → RS K G.N H ι x v → f M x = some d →
  ∀ Q : VK, (∀ ι' H' w, Ex ι ι' → Kp ι H ι' H' → Sr K G δ M ι' σ H' → RS K G.N H' ι' d w → Q w H') → r v H Q
def RdN (K : PySem.W.Frag) (r : List V → Hp → VK → Prop) (f : Mem → List Sv → Option Sv) : Prop := ∀ (G : Gd) (δ : DS) (M : Mem) (ι : Ix) (σ : L2.St) (H : Hp) (xs : List Sv) (vs : List V) (d : Sv), Sr K G δ M ι σ H → RSs K G.N H ι xs vs → f M xs = some d →
  ∀ Q : VK, (∀ ι' H' w, Ex ι ι' → Kp ι H ι' H' → Sr K G δ M ι' σ H' → RS K G.N H' ι' d w → Q w H') → r vs H Q
def eo1 (f : Mem → Sv → Option Sv) (ta : TE') : TE' := fun δ M Q => ta δ M fun x M1 => ok (f M1 x) fun d => Q d M1
def eo2 (f : Mem → Sv → Sv → Option Sv) (ta tb : TE') : TE' := fun δ M Q => ta δ M fun x M1 => tb δ M1 fun y M2 => ok (f M2 x y) fun d => Q d M2
def po1 (f : Mem → Sv → Option Sv) (a : PV) : PV := fun δ M => (a δ M).bind (f M)
def po2 (f : Mem → Sv → Sv → Option Sv) (a b : PV) : PV := fun δ M => (a δ M).bind fun x => (b δ M).bind fun y => f M x y
def eoN (f : Mem → List Sv → Option Sv) (t : TA') : TE' := fun δ M Q => t δ M fun xs M1 => ok (f M1 xs) fun d => Q d M1
def poN (f : Mem → List Sv → Option Sv) (ps : List PV) : PV := fun δ M => (pArgs ps δ M).bind (f M)
theorem VE.pure1 {f : Mem → Sv → Option Sv} (h : VE X G e (eo1 f (eP p))) : VE X G e (eP (po1 f p)) := h.weak fun δ M Q h => by
  unfold eP po1 at h; rw [ok_bind] at h; exact h
theorem VE.pure2 {f : Mem → Sv → Sv → Option Sv} (h : VE X G e (eo2 f (eP p) (eP q))) : VE X G e (eP (po2 f p q)) := h.weak fun δ M Q h => by
  unfold eP po2 at h
  rw [ok_bind] at h
  obtain ⟨d, e1, h⟩ := ok_elim h
  rw [ok_bind] at h
  exact ok_of e1 h
theorem VE.pureN {f : Mem → List Sv → Option Sv} {ps : List PV} (h : VE X G e (eoN f (aP ps))) : VE X G e (eP (poN f ps)) := h.weak fun δ M Q h => by
  unfold eP poN at h; rw [ok_bind] at h; exact h
/-- one value, then more -/
theorem th1 {K : PySem.W.Frag} {σ : L2.St} {H : Hp} {δ : DS} {M : Mem} {ι : Ix} {Q0 : QD} {R : VK} (S : Sr K G δ M ι σ H) (h : ta δ M Q0)
    (k : ∀ d M' ι' H' v, Q0 d M' → Ex ι ι' → Kp ι H ι' H' → Sr K G δ M' ι' σ H' → RS K G.N H' ι' d v → R v H') : lE K G ta σ H R := ⟨δ, M, ι, Q0, S, h, k⟩
theorem thA {K : PySem.W.Frag} {n : Nat} {tA : TA'} {σ : L2.St} {H : Hp} {δ : DS} {M : Mem} {ι : Ix} {Q0 : List Sv → Mem → Prop} {R : List V → Hp → Prop} (S : Sr K G δ M ι σ H) (h : tA δ M Q0)
    (k : ∀ d M' ι' H' v, d.length = n → Q0 d M' → Ex ι ι' → Kp ι H ι' H' → Sr K G δ M' ι' σ H' → RSs K G.N H' ι' d v → R v H') : lA K G n tA σ H R := ⟨δ, M, ι, Q0, S, h, k⟩
theorem fin2 {K : PySem.W.Frag} {r : R2} {f : Mem → Sv → Sv → Option Sv} (hf : Rd2 K r f) {σ : L2.St} {H : Hp} {Q : VK} (h : lE K G (eo2 f ta tb) σ H Q) : tOp r (lE K G ta) (lE K G tb) σ H Q := by
  obtain ⟨δ, M, ι, Q0, S, h, z⟩ := h
  refine th1 S h fun x M1 ι1 H1 v h1 p1 k1 S1 r1 => ?_
  refine th1 S1 h1 fun y M2 ι2 H2 u h2 p2 k2 S2 r2 => ?_
  obtain ⟨d, e, h2⟩ := ok_elim h2
  exact hf G δ M2 ι2 σ H2 x y v u d S2 (r1.mono k2 p2 (fun _ _ _ _ q => q)) r2 e Q fun ι3 H3 w p3 k3 S3 r3 => z d M2 ι3 H3 w h2 ((p1.trans p2).trans p3) ((k1.trans k2).trans k3) S3 r3
theorem fin1 {K : PySem.W.Frag} {r : V → Hp → VK → Prop} {f : Mem → Sv → Option Sv} (hf : Rd1 K r f) {σ : L2.St} {H : Hp} {Q : VK} (h : lE K G (eo1 f ta) σ H Q) : lE K G ta σ H fun v H1 => r v H1 Q := by
  obtain ⟨δ, M, ι, Q0, S, h, z⟩ := h
  refine th1 S h fun x M1 ι1 H1 v h1 p1 k1 S1 r1 => ?_
  obtain ⟨d, e, h1⟩ := ok_elim h1
  exact hf G δ M1 ι1 σ H1 x v d S1 r1 e Q fun ι3 H3 w p3 k3 S3 r3 => z d M1 ι3 H3 w h1 (p1.trans p3) (k1.trans k3) S3 r3
theorem finN {K : PySem.W.Frag} {n : Nat} {tA : TA'} {r : List V → Hp → VK → Prop} {f : Mem → List Sv → Option Sv} (hf : RdN K r f) {σ : L2.St} {H : Hp} {Q : VK} (h : lE K G (eoN f tA) σ H Q)   : lA K G n tA σ H fun v H1 => r v H1 Q := by
  obtain ⟨δ, M, ι, Q0, S, h, z⟩ := h
  refine thA S h fun x M1 ι1 H1 v hn h1 p1 k1 S1 r1 => ?_
  obtain ⟨d, e, h1⟩ := ok_elim h1
  exact hf G δ M1 ι1 σ H1 x v d S1 r1 e Q fun ι3 H3 w p3 k3 S3 r3 => z d M1 ι3 H3 w h1 (p1.trans p3) (k1.trans k3) S3 r3
theorem ve_bin {op : Operator} {r : R2} {f : Mem → Sv → Sv → Option Sv} (ho : OpR X (binaryOp op) r) (hf : Rd2 X.K r f) (ha : VE X G a ta) (hb : VE X G b tb) : VE X G (.BinOp a op b pos) (eo2 f ta tb) :=
  PE.weak (pe_op ho ha hb) fun σ H Q h => fin2 hf h
theorem ve_cmp {op : CmpOp} {r : R2} {f : Mem → Sv → Sv → Option Sv} (ho : OpR X (compareOp op) r) (hf : Rd2 X.K r f) (ha : VE X G a ta) (hb : VE X G b tb) (hm : behindInMarks op b = false) : VE X G (.Compare a [op] [b] pos) (eo2 f ta tb) :=
  PE.weak (pe_cmpR ho ha hb hm) fun σ H Q h => fin2 hf h
theorem ve_un {op : UnaryOp} {r : V → Hp → VK → Prop} {f : Mem → Sv → Option Sv} (ho : UnR X (unaryOp op) r) (hf : Rd1 X.K r f) (ha : VE X G a ta) : VE X G (.UnaryOp op a pos) (eo1 f ta) :=
  PE.weak (pe_un ho ha) fun σ H Q h => fin1 hf h
theorem ve_ix {r : R2} {f : Mem → Sv → Sv → Option Sv} (hr : IxR X r) (hf : Rd2 X.K r f) (ha : VE X G a ta) (hb : VE X G b tb) (hs : PlainIx b) : VE X G (.Subscript a b pos) (eo2 f ta tb) :=
  PE.weak (pe_ix hr ha hb hs) fun σ H Q h => fin2 hf h
theorem va_nil : VA X G [] 0 aNil := ⟨fun pos pins s σ H Q I ⟨δ, M, ι, Q0, S, h, z⟩ => pa_nil.run pos pins s σ H Q I (z [] M ι H [] rfl h (Ex.refl _) (Kp.refl _ _) S rfl)⟩
theorem va_cons {n : Nat} {tA : TA'} (ha : VE X G e ta) (hr : VA X G es n tA) (hs : starEach (e :: es) X.env = (false, eval e X.env) :: starEach es X.env := by rfl) : VA X G (e :: es) (n + 1) (aCons ta tA) := by
  refine ⟨fun pos pins s σ H Q I ⟨δ, M, ι, Q0, S, h, z⟩ => (pa_cons ha hr hs).run pos pins s σ H Q I ?_⟩
  refine th1 S h fun x M1 ι1 H1 v h1 p1 k1 S1 r1 => ?_
  refine thA S1 h1 fun y M2 ι2 H2 u hn h2 p2 k2 S2 r2 => ?_
  exact z _ M2 ι2 H2 _ (by rw [List.length_cons, hn]) h2 (p1.trans p2) (k1.trans k2) S2 ⟨v, u, rfl, r1.mono k2 p2 (fun _ _ _ _ q => q), r2⟩
theorem va_p0 : VA X G [] 0 (aP []) := va_nil.weak fun δ M Q h => h
theorem va_p {n : Nat} {ps : List PV} (ha : VE X G e (eP p)) (hr : VA X G es n (aP ps)) (hs : starEach (e :: es) X.env = (false, eval e X.env) :: starEach es X.env := by rfl) : VA X G (e :: es) (n + 1) (aP (p :: ps)) :=
  (va_cons ha hr hs).weak fun δ M Q h => by
    have h : ok (pArgs (p :: ps) δ M) fun ds => Q ds M := h
    unfold pArgs at h
    rw [ok_bind] at h
    obtain ⟨d, e1, h⟩ := ok_elim h
    rw [ok_map] at h
    exact ok_of e1 h
theorem ve_callB {x : Str} {id : String} {p : Pos} {n : Nat} {tA : TA'} {r : List V → Hp → VK → Prop} {f : Mem → List Sv → Option Sv} (hc : CallR X (.builtin id) r) (hf : RdN X.K r f) (hg : Gl X x) (hm : X.mg x = none) (hv : bootBuiltins x = some (.builtin id)) (ha : VA X G (e :: es) n tA) (hn : x ≠ "__name__" := by decide) (hdb : (x == ("__debug__" : Str)) = false := by decide)
    (he : starEach (e :: es) X.env = (false, eval e X.env) :: starEach es X.env := by rfl) (hpl : (backTo pos (starEach es X.env)).any (·.1) = false := by rfl) : VE X G (.Call (.Name x p) (e :: es) [] pos) (eoN f tA) :=
  PE.weak (pe_callB hc hg hm hv ha hn hdb he hpl) fun σ H Q h => finN hf h
theorem ve_callTy {x : Str} {T : String} {p : Pos} {n : Nat} {tA : TA'} {r : List V → Hp → VK → Prop} {f : Mem → List Sv → Option Sv} (hc : CallR X (.type T) r) (hf : RdN X.K r f) (hg : Gl X x) (hm : X.mg x = none) (hv : bootBuiltins x = some (.type T)) (ha : VA X G (e :: es) n tA) (hn : x ≠ "__name__" := by decide) (hdb : (x == ("__debug__" : Str)) = false := by decide)
    (he : starEach (e :: es) X.env = (false, eval e X.env) :: starEach es X.env := by rfl) (hpl : (backTo pos (starEach es X.env)).any (·.1) = false := by rfl) : VE X G (.Call (.Name x p) (e :: es) [] pos) (eoN f tA) :=
  PE.weak (pe_callTy hc hg hm hv ha hn hdb he hpl) fun σ H Q h => finN hf h
end
end VL
set_option Elab.async false
set_option linter.all false
set_option maxRecDepth 100000
set_option maxHeartbeats 4000000
namespace VL
open PySem PySem.Spec L2
def cellL : Option Cell → Option (List D)
  | some (.lst ds) => some ds
  | _ => none
theorem cellL_some {c : Option Cell} {ds : List D} (h : cellL c = some ds) : c = some (.lst ds) := by
  unfold cellL at h
  split at h
  · cases h; rfl
  · cases h
def seqD (M : Mem) : Sv → Option (List D)
  | .d (.lst ds) => some ds
  | .bor ds => some ds
  | .d (.tup ds) => some ds
  | .d (.scr ns) => some (ns.map D.int)
  | .ref n => cellL M[n]?
  | _ => none
section
variable {K : PySem.W.Frag} {G : Gd} {δ : DS} {M : Mem} {ι : Ix} {σ : L2.St} {H : Hp}
/-- a sequence's value and items -/
theorem seq_of {d : Sv} {v : V} {ds : List D} (S : Sr K G δ M ι σ H) (h : RS K G.N H ι d v) (e : seqD M d = some ds) : ∃ a xs, v = .ref a ∧ (SqL K H a xs ∨ SqT K H a xs) ∧ RDs K G.N H ι ds xs := by
  cases d with
  | ref n =>
    obtain ⟨a, e1, hn, xs, q, _, r⟩ := S.mem.at h (cellL_some (show cellL M[n]? = some ds from e)) (fun z => nomatch z)
    exact ⟨a, xs, e1, .inl (SqL.of q), r⟩
  | bor es =>
    cases e
    obtain ⟨a, xs, e1, q, n, _, _, r⟩ := h
    exact ⟨a, xs, e1, .inl (SqL.of q), r⟩
  | d d =>
    cases d with
    | lst es =>
      cases e
      obtain ⟨a, xs, e1, q, n, z, _, r⟩ := h
      exact ⟨a, xs, e1, .inl (SqL.of q), r⟩
    | tup es =>
      cases e
      obtain ⟨a, xs, e1, q, _, r⟩ := h
      exact ⟨a, xs, e1, .inr (tup_sq q), r⟩
    | scr ns =>
      cases e
      obtain ⟨a, e1, ⟨o, q, n⟩ | q, _⟩ := h
      · exact ⟨a, _, e1, .inl (.inl (.inr ⟨o, q⟩)), RDs.of_ints ns⟩
      · exact ⟨a, _, e1, .inl (.inr q), RDs.of_ints ns⟩
    | _ => cases e
theorem RDs.atI {ds : List D} {vs : List V} {i : Int} {d : D} (h : RDs K G.N H ι ds vs) (e : atI ds i = some d) : ∃ v, atI vs i = some v ∧ RD K G.N H ι d v := by
  unfold L2.atI at e ⊢
  rw [← h.length]
  cases q : ixN ds.length i with
  | none => rw [q] at e; cases e
  | some j => rw [q] at e; exact h.get e
theorem fin_same {d : Sv} {w : V} {Q : VK} (S : Sr K G δ M ι σ H) (z : ∀ ι' H' w, Ex ι ι' → Kp ι H ι' H' → Sr K G δ M ι' σ H' → RS K G.N H' ι' d w → Q w H') (r : RS K G.N H ι d w) : Q w H :=
  z ι H w (Ex.refl _) (Kp.refl _ _) S r
theorem RDs.laid {ds : List D} {xs : List V} {p : Addr} {o : HO} (r : RDs K G.N H ι ds xs) (hp : H p = none) : RDs K G.N (upd H p o) ι ds xs := r.mono (Kp.laid hp) fun _ _ _ _ q => q
theorem fin_tup {ds : List D} {xs : List V} {p : Addr} {Q : VK} (S : Sr K G δ M ι σ H) (z : ∀ ι' H' w, Ex ι ι' → Kp ι H ι' H' → Sr K G δ M ι' σ H' → RS K G.N H' ι' (.d (.tup ds)) w → Q w H') (r : RDs K G.N H ι ds xs) (hl : ds.length ≤ sizeLine) (hp : H p = none) : Q (.ref p) (upd H p (.tup xs)) :=
  z ι _ _ (Ex.refl _) (Kp.laid hp) (S.laid hp) ⟨p, xs, rfl, .inl ⟨upd_same, S.mem.fresh hp⟩, hl, r.laid hp⟩
theorem Sr.newN {p : Addr} {b : Bool} (S : Sr K G δ M ι σ H) (hp : H p = none) : G.N b p := by
  refine ⟨fun hh => ?_, fun _ hb => ?_⟩
  · obtain ⟨_, u, q⟩ := S.hid p hh
    rw [hp] at q; cases q
  · obtain ⟨u, q⟩ := S.bad p hb
    by_cases hi : p ∈ G.i0
    · obtain ⟨n, hn⟩ := List.getElem?_of_mem hi
      exact absurd (List.mem_of_getElem? (S.pre n p hn)) (S.mem.fresh hp)
    · rw [(S.kp p u q (by simpa using hi)).1] at hp; cases hp
theorem fin_lst {ds : List D} {xs : List V} {p : Addr} {Q : VK} (S : Sr K G δ M ι σ H) (z : ∀ ι' H' w, Ex ι ι' → Kp ι H ι' H' → Sr K G δ M ι' σ H' → RS K G.N H' ι' (.d (.lst ds)) w → Q w H') (r : RDs K G.N H ι ds xs) (hl : ds.length ≤ sizeLine) (hp : H p = none) : Q (.ref p) (upd H p (.lst xs)) :=
  z ι _ _ (Ex.refl _) (Kp.laid hp) (S.laid hp) ⟨p, xs, rfl, upd_same, S.mem.fresh hp, S.newN hp, hl, r.laid hp⟩
end
instance {i j : Int} : Decidable (CPow i j) := by unfold CPow; infer_instance
def gd {α : Type} (c : Prop) [Decidable c] (d : α) : Option α := if c then some d else none
theorem gd_pos {α : Type} {c : Prop} [Decidable c] {d : α} (h : c) : gd c d = some d := if_pos h
theorem gd_some {α : Type} {c : Prop} [Decidable c] {d e : α} (h : gd c d = some e) : c ∧ d = e := by
  unfold gd at h
  split at h
  · cases h; exact ⟨by assumption, rfl⟩
  · cases h
def addD (_ : Mem) : Sv → Sv → Option Sv
  | .d (.int i), .d (.int j) => some (.d (.int (i + j)))
  | .d (.str i), .d (.str j) => gd (i.length + j.length ≤ sizeLine) (.d (.str (i ++ j)))
  | .d (.tup a), .d (.tup b) => gd (a.length + b.length ≤ sizeLine) (.d (.tup (a ++ b)))
  | _, _ => none
def subD (_ : Mem) : Sv → Sv → Option Sv
  | .d (.int i), .d (.int j) => some (.d (.int (i - j)))
  | _, _ => none
abbrev MulOk (i j : Int) : Prop := (-(2 ^ 64) < i ∧ i < 2 ^ 64) ∨ (-(2 ^ 64) < j ∧ j < 2 ^ 64) ∨ i.natAbs.log2 + j.natAbs.log2 < 1000000
def mulD (_ : Mem) : Sv → Sv → Option Sv
  | .d (.int i), .d (.int j) => gd (MulOk i j) (.d (.int (i * j)))
  | _, _ => none
def fdivD (_ : Mem) : Sv → Sv → Option Sv
  | .d (.int i), .d (.int j) => gd (0 < j ∧ j.natAbs.log2 < 9000) (.d (.int (i / j)))
  | _, _ => none
def modD (_ : Mem) : Sv → Sv → Option Sv
  | .d (.int i), .d (.int j) => gd (0 < j) (.d (.int (i % j)))
  | _, _ => none
def powD (_ : Mem) : Sv → Sv → Option Sv
  | .d (.int i), .d (.int j) => gd (CPow i j) (.d (.int (i ^ j.toNat)))
  | _, _ => none
def shlD (_ : Mem) : Sv → Sv → Option Sv
  | .d (.int i), .d (.int j) => gd (CPow i j) (.d (.int (i * 2 ^ j.toNat)))
  | _, _ => none
def negD (_ : Mem) : Sv → Option Sv
  | .d (.int i) => some (.d (.int (-i)))
  | _ => none
section
variable {K : PySem.W.Frag} {X : Cx} {G : Gd} {e a b : Expr} {pos : Pos} {ta tb : TE'}
theorem rd_add : Rd2 K (fun x y H Q => (fun x y H Q => rI0 (fun i j => .int (i + j)) x y H Q ∨ (fun x y H Q => ∃ i j, x = .str i ∧ y = .str j ∧ i.length + j.length ≤ sizeLine ∧ Q (.str (i ++ j)) H) x y H Q) x y H Q ∨ rCatA K x y H Q) addD := by
  intro G δ M ι σ H x y v u d S rx ry e Q z
  unfold addD at e
  split at e
  · cases e; cases (show _ = _ from rx); cases (show _ = _ from ry)
    exact .inl (.inl ⟨_, _, rfl, rfl, fin_same S z rfl⟩)
  · obtain ⟨hc, rfl⟩ := gd_some e
    cases (show _ = _ from rx); cases (show _ = _ from ry)
    exact .inl (.inr ⟨_, _, rfl, rfl, hc, fin_same S z rfl⟩)
  · obtain ⟨hc, rfl⟩ := gd_some e
    obtain ⟨p, xs, rfl, qa, la, ra⟩ := id rx
    obtain ⟨p', ys, rfl, qb, lb, rb⟩ := id ry
    refine .inr ⟨p, p', xs, ys, rfl, rfl, tup_sq qa, tup_sq qb, by rw [← ra.length, ← rb.length]; exact hc, fun h => ?_, fun _ h => ?_, fun _ _ q hq => ?_⟩
    · subst h
      have hl := ra.length
      have : _ = [] := List.length_eq_zero_iff.mp (by simpa using hl)
      subst this
      exact fin_same S z ⟨p', ys, rfl, qb, by simpa using lb, by simpa using rb⟩
    · subst h
      have hl := rb.length
      have : _ = [] := List.length_eq_zero_iff.mp (by simpa using hl)
      subst this
      exact fin_same S z ⟨p, xs, rfl, qa, by simpa using la, by simpa using ra⟩
    · exact fin_tup S z (ra.append rb) (by rw [List.length_append]; exact hc) hq
  · cases e
theorem ve_add (ha : VE X G a ta) (hb : VE X G b tb) : VE X G (.BinOp a .Add b pos) (eo2 addD ta tb) := ve_bin ((op_add.or op_add_str).or op_catA) rd_add ha hb
theorem rd_int {C : Int → Int → Prop} {g : Int → Int → Int} {f : Mem → Sv → Sv → Option Sv} (hf : ∀ M x y d, f M x y = some d → ∃ i j, x = .d (.int i) ∧ y = .d (.int j) ∧ C i j ∧ d = .d (.int (g i j))) : Rd2 K (rI C fun i j => .int (g i j)) f := by
  intro G δ M ι σ H x y v u d S rx ry e Q z
  obtain ⟨i, j, rfl, rfl, hc, rfl⟩ := hf _ _ _ _ e
  cases (show _ = _ from rx); cases (show _ = _ from ry)
  exact ⟨_, _, rfl, rfl, hc, fin_same S z rfl⟩
theorem ve_sub (ha : VE X G a ta) (hb : VE X G b tb) : VE X G (.BinOp a .Sub b pos) (eo2 subD ta tb) := by
  refine ve_bin op_sub ?_ ha hb
  intro G δ M ι σ H x y v u d S rx ry e Q z
  unfold subD at e
  split at e
  · cases e; cases (show _ = _ from rx); cases (show _ = _ from ry)
    exact ⟨_, _, rfl, rfl, fin_same S z rfl⟩
  · cases e
theorem ve_mul (ha : VE X G a ta) (hb : VE X G b tb) : VE X G (.BinOp a .Mult b pos) (eo2 mulD ta tb) := by
  refine ve_bin (op_mul.or op_mulW) ?_ ha hb
  intro G δ M ι σ H x y v u d S rx ry e Q z
  unfold mulD at e
  split at e
  · obtain ⟨hc, rfl⟩ := gd_some e
    cases (show _ = _ from rx); cases (show _ = _ from ry)
    rcases hc with hc | hc | hc
    · exact .inl ⟨_, _, rfl, rfl, .inl hc, fin_same S z rfl⟩
    · exact .inl ⟨_, _, rfl, rfl, .inr hc, fin_same S z rfl⟩
    · exact .inr ⟨_, _, rfl, rfl, hc, fin_same S z rfl⟩
  · cases e
theorem ve_fdiv (ha : VE X G a ta) (hb : VE X G b tb) : VE X G (.BinOp a .FloorDiv b pos) (eo2 fdivD ta tb) := by
  refine ve_bin op_fdivW (rd_int fun M x y d e => ?_) ha hb
  unfold fdivD at e
  split at e
  · obtain ⟨hc, rfl⟩ := gd_some e; exact ⟨_, _, rfl, rfl, hc, rfl⟩
  · cases e
theorem ve_mod (ha : VE X G a ta) (hb : VE X G b tb) : VE X G (.BinOp a .Mod b pos) (eo2 modD ta tb) := by
  refine ve_bin op_mod (rd_int fun M x y d e => ?_) ha hb
  unfold modD at e
  split at e
  · obtain ⟨hc, rfl⟩ := gd_some e; exact ⟨_, _, rfl, rfl, hc, rfl⟩
  · cases e
theorem ve_pow (ha : VE X G a ta) (hb : VE X G b tb) : VE X G (.BinOp a .Pow b pos) (eo2 powD ta tb) := by
  refine ve_bin op_pow (rd_int fun M x y d e => ?_) ha hb
  unfold powD at e
  split at e
  · obtain ⟨hc, rfl⟩ := gd_some e; exact ⟨_, _, rfl, rfl, hc, rfl⟩
  · cases e
theorem ve_shl (ha : VE X G a ta) (hb : VE X G b tb) : VE X G (.BinOp a .LShift b pos) (eo2 shlD ta tb) := by
  refine ve_bin op_shl (rd_int fun M x y d e => ?_) ha hb
  unfold shlD at e
  split at e
  · obtain ⟨hc, rfl⟩ := gd_some e; exact ⟨_, _, rfl, rfl, hc, rfl⟩
  · cases e
theorem ve_neg (ha : VE X G a ta) : VE X G (.UnaryOp .USub a pos) (eo1 negD ta) := by
  refine ve_un un_neg ?_ ha
  intro G δ M ι σ H x v d S rx e Q z
  unfold negD at e
  split at e
  · cases e; cases (show _ = _ from rx)
    exact ⟨_, rfl, fin_same S z rfl⟩
  · cases e
def ixD (M : Mem) (x y : Sv) : Option Sv := match y with
  | .d (.int i) => (match x with
    | .d (.str s) => (gd (s.length ≤ sizeLine) ()).bind fun _ => (atI s.cps.toList i).map fun c => .d (.str ⟨#[c]⟩)
    | x => (seqD M x).bind fun ds => (atI ds i).map .d)
  | _ => none
theorem rd_ix : Rd2 K (rIx K) ixD := by
  intro G δ M ι σ H x y v u d S rx ry e Q z
  unfold ixD at e
  split at e
  · cases (show _ = _ from ry)
    split at e
    · rename_i s
      cases (show _ = _ from rx)
      cases hq : gd (s.length ≤ sizeLine) () with
      | none => rw [hq] at e; cases e
      | some _ =>
        rw [hq] at e
        obtain ⟨hc, _⟩ := gd_some hq
        cases ha : atI s.cps.toList _ with
        | none => rw [ha] at e; cases e
        | some c =>
          rw [ha] at e; cases e
          exact .inr (.inr ⟨_, _, c, rfl, rfl, hc, ha, fin_same S z rfl⟩)
    · cases hs : seqD M x with
      | none => rw [hs] at e; cases e
      | some ds =>
        rw [hs] at e
        obtain ⟨a, xs, rfl, q, r⟩ := seq_of S rx hs
        obtain ⟨d', ha, rfl⟩ := Option.map_eq_some_iff.mp (show (atI ds _).map Sv.d = some d from e)
        · obtain ⟨w, e3, r3⟩ := r.atI ha
          rcases q with q | q
          · exact .inl ⟨a, xs, _, w, rfl, rfl, q, e3, fin_same (d := .d d') S z r3⟩
          · exact .inr (.inl ⟨a, xs, _, w, rfl, rfl, q, e3, fin_same (d := .d d') S z r3⟩)
  · cases e
theorem ve_idx (ha : VE X G a ta) (hb : VE X G b tb) (hs : PlainIx b := by first | exact fun _ _ => rfl) : VE X G (.Subscript a b pos) (eo2 ixD ta tb) := ve_ix ix_seq rd_ix ha hb hs
end
end VL
set_option Elab.async false
set_option linter.all false
set_option maxRecDepth 100000
set_option maxHeartbeats 4000000
namespace VL
open PySem PySem.Spec L2
mutual
def py : D → PyData
  | .non => .none
  | .bl b => .bool b
  | .int i => .int i
  | .str s => .str s
  | .tup ds => .tuple (pys ds)
  | .lst ds => .list (pys ds)
  | .scr _ => .none
  | .fn _ => .none
  | .dn _ _ => .none
  | .dk _ _ => .none
  | .cls _ => .none
  | .exc _ _ => .none
  | .ty _ => .none
def pys : List D → List PyData
  | [] => []
  | d :: ds => py d :: pys ds
end
mutual
/-- data alone -/
def noR : D → Bool
  | .tup ds => noRs ds
  | .lst ds => noRs ds
  | .scr _ => false
  | .fn _ => false
  | .dn _ _ => false
  | .dk _ _ => false
  | .cls _ => false
  | .exc _ _ => false
  | .ty _ => false
  | .non => true
  | .bl _ => true
  | .int _ => true
  | .str _ => true
def noRs : List D → Bool
  | [] => true
  | d :: ds => noR d && noRs ds
end
mutual
def eqvD : D → D → Bool
  | .non, .non => true
  | .bl a, .bl b => a == b
  | .bl a, .int j => (if a then 1 else 0) == j
  | .int i, .bl b => i == (if b then 1 else 0)
  | .int i, .int j => i == j
  | .str a, .str b => a == b
  | .tup a, .tup b => eqvDs a b
  | .lst a, .lst b => eqvDs a b
  | _, _ => false
def eqvDs : List D → List D → Bool
  | [], [] => true
  | a :: as, b :: bs => eqvD a b && eqvDs as bs
  | _, _ => false
end
mutual
theorem eqv_py : ∀ (x y : D), noR x = true → noR y = true → PyData.eqv (py x) (py y) = eqvD x y
  | .non, y, _, hy => by cases y <;> simp_all [py, eqvD, PyData.eqv, noR]
  | .bl _, y, _, hy => by cases y <;> simp_all [py, eqvD, PyData.eqv, noR]
  | .int _, y, _, hy => by cases y <;> simp_all [py, eqvD, PyData.eqv, noR]
  | .str _, y, _, hy => by cases y <;> simp_all [py, eqvD, PyData.eqv, noR]
  | .scr _, _, hx, _ => by simp [noR] at hx
  | .fn _, _, hx, _ => by simp [noR] at hx
  | .dn _ _, _, hx, _ => by simp [noR] at hx
  | .dk _ _, _, hx, _ => by simp [noR] at hx
  | .cls _, _, hx, _ => by simp [noR] at hx
  | .exc _ _, _, hx, _ => by simp [noR] at hx
  | .ty _, _, hx, _ => by simp [noR] at hx
  | .tup a, y, hx, hy => by
    cases y with
    | tup b =>
      simp only [py, eqvD, PyData.eqv]
      exact eqvs_py a b (by simpa [noR] using hx) (by simpa [noR] using hy)
    | _ => first | (simp [noR] at hy; done) | simp [py, eqvD, PyData.eqv]
  | .lst a, y, hx, hy => by
    cases y with
    | lst b =>
      simp only [py, eqvD, PyData.eqv]
      exact eqvs_py a b (by simpa [noR] using hx) (by simpa [noR] using hy)
    | _ => first | (simp [noR] at hy; done) | simp [py, eqvD, PyData.eqv]
theorem eqvs_py : ∀ (x y : List D), noRs x = true → noRs y = true → PyData.eqvAll (pys x) (pys y) = eqvDs x y
  | [], [], _, _ => by simp [pys, eqvDs, PyData.eqvAll]
  | [], _ :: _, _, _ => by simp [pys, eqvDs, PyData.eqvAll]
  | _ :: _, [], _, _ => by simp [pys, eqvDs, PyData.eqvAll]
  | a :: as, b :: bs, hx, hy => by
    simp only [noRs, Bool.and_eq_true] at hx hy
    simp only [pys, eqvDs, PyData.eqvAll, eqv_py a b hx.1 hy.1, eqvs_py as bs hx.2 hy.2]
end
/-- the top resolved -/
def rsv (M : Mem) : Sv → D
  | .ref n => match cellL M[n]? with
    | some ds => .lst ds
    | none => .ty ""
  | .bor ds => .lst ds
  | .d d => d
/-- data that == may look at -/
def okE (d : D) : Bool := noR d && SeqAt.shaped (py d)
def atomD : D → Bool
  | .non => true | .bl _ => true | .int _ => true | .str _ => true | _ => false
def eqD (M : Mem) : Sv → Sv → Option Sv
  | .d (.int i), .d (.int j) => some (.d (.bl (decide (i = j))))
  | .d (.str i), .d (.str j) => some (.d (.bl (decide (i = j))))
  | .d (.bl i), .d (.bl j) => some (.d (.bl (decide (i = j))))
  | .d .non, .d .non => some (.d (.bl true))
  | .d (.int _), .d (.str _) => some (.d (.bl false))
  | .d (.str _), .d (.int _) => some (.d (.bl false))
  | x, y => gd (okE (rsv M x) = true ∧ okE (rsv M y) = true) (.d (.bl (eqvD (rsv M x) (rsv M y))))
def notD : Sv → Sv
  | .d (.bl b) => .d (.bl (!b))
  | d => d
def neD (M : Mem) (x y : Sv) : Option Sv := (eqD M x y).map notD
section
variable {K : PySem.W.Frag} {G : Gd} {δ : DS} {M : Mem} {ι : Ix} {σ : L2.St} {H : Hp} {N : Bool → Addr → Prop}
mutual
theorem RD.dp : ∀ (d : D) (v : V), RD K N H ι d v → noR d = true → Dp K H v (py d)
  | .non, _, h, _ => by cases (show _ = _ from h); exact .non
  | .bl _, _, h, _ => by cases (show _ = _ from h); exact .bl _
  | .int _, _, h, _ => by cases (show _ = _ from h); exact .int _
  | .str _, _, h, _ => by cases (show _ = _ from h); exact .str _
  | .scr _, _, _, h => by simp [noR] at h
  | .fn _, _, _, h => by simp [noR] at h
  | .dn _ _, _, _, h => by simp [noR] at h
  | .dk _ _, _, _, h => by simp [noR] at h
  | .cls _, _, _, h => by simp [noR] at h
  | .exc _ _, _, _, h => by simp [noR] at h
  | .ty _, _, _, h => by simp [noR] at h
  | .tup ds, _, h, n => by
    obtain ⟨a, xs, rfl, q, _, r⟩ := h
    simp only [py]
    exact .tup (tup_sq q) (RDs.dp ds xs r (by simpa [noR] using n))
  | .lst ds, _, h, n => by
    obtain ⟨a, xs, rfl, q, _, _, _, r⟩ := h
    simp only [py]
    exact .lst (SqL.of q) (RDs.dp ds xs r (by simpa [noR] using n))
theorem RDs.dp : ∀ (ds : List D) (vs : List V), RDs K N H ι ds vs → noRs ds = true → DpAll K H vs (pys ds)
  | [], _, h, _ => by cases (show _ = _ from h); simp only [pys]; exact .nil
  | d :: ds, _, h, n => by
    obtain ⟨x, r, rfl, h1, h2⟩ := h
    simp only [noRs, Bool.and_eq_true] at n
    simp only [pys]
    exact .cons (RD.dp d x h1 n.1) (RDs.dp ds r h2 n.2)
end
theorem rsv_dp {d : Sv} {v : V} (S : Sr K G δ M ι σ H) (h : RS K G.N H ι d v) (n : noR (rsv M d) = true) : Dp K H v (py (rsv M d)) := by
  cases d with
  | ref k =>
    unfold rsv at n ⊢
    cases q : cellL M[k]? with
    | none => simp only [q] at n; simp [noR] at n
    | some ds =>
      simp only [q] at n ⊢
      obtain ⟨a, rfl, hn, xs, hH, _, r⟩ := S.mem.at h (cellL_some q) (fun z => nomatch z)
      simp only [py]
      exact .lst (SqL.of hH) (RDs.dp ds xs r (by simpa [noR] using n))
  | bor ds =>
    obtain ⟨a, xs, rfl, q, _, _, _, r⟩ := h
    simp only [rsv, py]
    exact .lst (SqL.of q) (RDs.dp ds xs r (by simpa [rsv, noR] using n))
  | d d => exact RD.dp _ v h n
theorem okE_and {d : D} (h : okE d = true) : noR d = true ∧ SeqAt.shaped (py d) = true := by
  unfold okE at h; simpa using h
def rEqX (K : PySem.W.Frag) : R2 := fun x y H Q => (rEq x y H Q) ∨ rEqD K x y H Q
theorem rd_eq : Rd2 K (rEqX K) eqD := by
  intro G δ M ι σ H x y v u d S rx ry e Q z
  unfold eqD at e
  split at e
  · cases e; cases (show _ = _ from rx); cases (show _ = _ from ry)
    refine .inl ⟨rfl, fin_same S z ?_⟩
    show _ = _; simp
  · cases e; cases (show _ = _ from rx); cases (show _ = _ from ry)
    refine .inl ⟨rfl, fin_same S z ?_⟩
    show _ = _; simp
  · cases e; cases (show _ = _ from rx); cases (show _ = _ from ry)
    refine .inl ⟨rfl, fin_same S z ?_⟩
    show _ = _; simp
  · cases e; cases (show _ = _ from rx); cases (show _ = _ from ry)
    exact .inl ⟨rfl, fin_same S z rfl⟩
  · cases e; cases (show _ = _ from rx); cases (show _ = _ from ry)
    exact .inl ⟨rfl, fin_same S z rfl⟩
  · cases e; cases (show _ = _ from rx); cases (show _ = _ from ry)
    exact .inl ⟨rfl, fin_same S z rfl⟩
  · obtain ⟨⟨hx, hy⟩, rfl⟩ := gd_some e
    obtain ⟨nx, sx⟩ := okE_and hx
    obtain ⟨ny, sy⟩ := okE_and hy
    exact .inr ⟨_, _, rsv_dp S rx nx, rsv_dp S ry ny, sx, sy, fin_same S z (by rw [eqv_py _ _ nx ny]; rfl)⟩
def rNeX (K : PySem.W.Frag) : R2 := fun x y H Q => (rNe x y H Q) ∨ rNeD K x y H Q
theorem eqD_bl {x y d : Sv} (h : eqD M x y = some d) : ∃ b, d = .d (.bl b) := by
  unfold eqD at h
  split at h
  all_goals first | (cases h; exact ⟨_, rfl⟩) | (obtain ⟨_, rfl⟩ := gd_some h; exact ⟨_, rfl⟩)
theorem rd_ne : Rd2 K (rNeX K) neD := by
  intro G δ M ι σ H x y v u d S rx ry e Q z
  unfold neD at e
  cases q : eqD M x y with
  | none => rw [q] at e; cases e
  | some d' =>
    rw [q] at e
    obtain ⟨b, rfl⟩ := eqD_bl q
    have hd : d = .d (.bl (!b)) := by simpa [notD] using e.symm
    subst hd
    unfold eqD at q
    split at q
    · cases q; cases (show _ = _ from rx); cases (show _ = _ from ry)
      refine .inl ⟨rfl, fin_same S z ?_⟩
      show _ = _; simp
    · cases q; cases (show _ = _ from rx); cases (show _ = _ from ry)
      refine .inl ⟨rfl, fin_same S z ?_⟩
      show _ = _; simp
    · cases q; cases (show _ = _ from rx); cases (show _ = _ from ry)
      refine .inl ⟨rfl, fin_same S z ?_⟩
      show _ = _; simp
    · cases q; cases (show _ = _ from rx); cases (show _ = _ from ry)
      exact .inl ⟨rfl, fin_same S z rfl⟩
    · cases q; cases (show _ = _ from rx); cases (show _ = _ from ry)
      exact .inl ⟨rfl, fin_same S z rfl⟩
    · cases q; cases (show _ = _ from rx); cases (show _ = _ from ry)
      exact .inl ⟨rfl, fin_same S z rfl⟩
    · obtain ⟨⟨hx, hy⟩, hq⟩ := gd_some q
      cases hq
      obtain ⟨nx, sx⟩ := okE_and hx
      obtain ⟨ny, sy⟩ := okE_and hy
      exact .inr ⟨_, _, rsv_dp S rx nx, rsv_dp S ry ny, sx, sy, fin_same S z (by rw [eqv_py _ _ nx ny]; rfl)⟩
end
end VL
set_option Elab.async false
set_option linter.all false
set_option maxRecDepth 100000
set_option maxHeartbeats 4000000
namespace VL
open PySem PySem.Spec L2
def ltD (_ : Mem) : Sv → Sv → Option Sv
  | .d (.int i), .d (.int j) => some (.d (.bl (decide (i < j))))
  | _, _ => none
def leD (_ : Mem) : Sv → Sv → Option Sv
  | .d (.int i), .d (.int j) => some (.d (.bl (decide (i ≤ j))))
  | _, _ => none
def gtD (_ : Mem) : Sv → Sv → Option Sv
  | .d (.int i), .d (.int j) => some (.d (.bl (decide (j < i))))
  | _, _ => none
def geD (_ : Mem) : Sv → Sv → Option Sv
  | .d (.int i), .d (.int j) => some (.d (.bl (decide (j ≤ i))))
  | _, _ => none
def isTupD : Sv → Bool
  | .d (.tup _) => true
  | _ => false
def inL (M : Mem) (x y : Sv) : Option Bool := match x with
  | .d x => (seqD M y).bind fun ds => gd ((atomD x = true ∧ ds.all atomD = true) ∨ (okE x = true ∧ isTupD y = false ∧ okE (.lst ds) = true)) (ds.any fun z => eqvD z x)
  | _ => none
def blS (b : Bool) : Sv := .d (.bl b)
def inD (M : Mem) (x y : Sv) : Option Sv := (inL M x y).map blS
def ninD (M : Mem) (x y : Sv) : Option Sv := (inL M x y).map fun b => blS (!b)
def nonB : Sv → Bool
  | .d .non => true
  | _ => false
def isD (_ : Mem) : Sv → Sv → Option Sv
  | x, .d .non => some (.d (.bl (nonB x)))
  | .d (.bl a), .d (.bl b) => some (.d (.bl (decide (a = b))))
  | _, _ => none
def isntD (_ : Mem) : Sv → Sv → Option Sv
  | x, .d .non => some (.d (.bl (!nonB x)))
  | .d (.bl a), .d (.bl b) => some (.d (.bl (!decide (a = b))))
  | _, _ => none
section
variable {K : PySem.W.Frag} {X : Cx} {G : Gd} {e a b : Expr} {es : List Expr} {pos : Pos} {ta tb : TE'} {N : Bool → Addr → Prop} {H : Hp} {ι : Ix}
theorem rd_cmpI {g : Int → Int → Bool} {f : Mem → Sv → Sv → Option Sv} (hf : ∀ M x y d, f M x y = some d → ∃ i j, x = .d (.int i) ∧ y = .d (.int j) ∧ d = .d (.bl (g i j))) : Rd2 K (rI0 fun i j => .bl (g i j)) f := by
  intro G δ M ι σ H x y v u d S rx ry e Q z
  obtain ⟨i, j, rfl, rfl, rfl⟩ := hf _ _ _ _ e
  cases (show _ = _ from rx); cases (show _ = _ from ry)
  exact ⟨_, _, rfl, rfl, fin_same S z rfl⟩
theorem rd_lt : Rd2 K (rI0 fun i j => .bl (decide (i < j))) ltD := rd_cmpI fun M x y d e => by
  unfold ltD at e
  split at e
  · cases e; exact ⟨_, _, rfl, rfl, rfl⟩
  · cases e
theorem rd_le : Rd2 K (rI0 fun i j => .bl (decide (i ≤ j))) leD := rd_cmpI fun M x y d e => by
  unfold leD at e
  split at e
  · cases e; exact ⟨_, _, rfl, rfl, rfl⟩
  · cases e
theorem rd_gt : Rd2 K (rI0 fun i j => .bl (decide (j < i))) gtD := rd_cmpI fun M x y d e => by
  unfold gtD at e
  split at e
  · cases e; exact ⟨_, _, rfl, rfl, rfl⟩
  · cases e
theorem rd_ge : Rd2 K (rI0 fun i j => .bl (decide (j ≤ i))) geD := rd_cmpI fun M x y d e => by
  unfold geD at e
  split at e
  · cases e; exact ⟨_, _, rfl, rfl, rfl⟩
  · cases e
theorem atom_flat {d : D} {v : V} (h : RD K N H ι d v) (a : atomD d = true) : flatV v = true := by
  cases d with
  | non => cases (show _ = _ from h); rfl
  | bl b => cases (show _ = _ from h); rfl
  | int b => cases (show _ = _ from h); rfl
  | str b => cases (show _ = _ from h); rfl
  | _ => cases (show false = true from a)
theorem atom_eqV {d d' : D} {v v' : V} (h : RD K N H ι d v) (h' : RD K N H ι d' v') (a : atomD d = true) (a' : atomD d' = true) : eqV v v' = eqvD d d' := by
  cases d with
  | non => cases (show _ = _ from h); cases d' <;> first | (cases (show false = true from a')) | (cases (show _ = _ from h'); rfl)
  | bl b => cases (show _ = _ from h); cases d' <;> first | (cases (show false = true from a')) | (cases (show _ = _ from h'); rfl)
  | int b => cases (show _ = _ from h); cases d' <;> first | (cases (show false = true from a')) | (cases (show _ = _ from h'); rfl)
  | str b => cases (show _ = _ from h); cases d' <;> first | (cases (show false = true from a')) | (cases (show _ = _ from h'); rfl)
  | _ => cases (show false = true from a)
theorem atoms_in {x : D} {v : V} (hx : RD K N H ι x v) (ax : atomD x = true) : ∀ {ds : List D} {vs : List V}, RDs K N H ι ds vs → ds.all atomD = true → vs.all flatV = true ∧ inV v vs = ds.any fun z => eqvD z x
  | [], _, h, _ => by cases (show _ = _ from h); exact ⟨rfl, rfl⟩
  | d :: ds, _, h, a => by
    obtain ⟨y, r, rfl, h1, h2⟩ := h
    rw [List.all_cons, Bool.and_eq_true] at a
    obtain ⟨i1, i2⟩ := atoms_in hx ax h2 a.2
    refine ⟨by rw [List.all_cons, atom_flat h1 a.1, i1]; rfl, ?_⟩
    unfold inV at i2 ⊢
    rw [List.any_cons, List.any_cons, i2, atom_eqV h1 hx a.1 ax]
def rInX (K : PySem.W.Frag) (neg : Bool) : R2 := fun x y H Q => rIn K neg x y H Q ∨ (if neg then rNotInD K else rInD K) x y H Q
theorem any_py {x : D} (nx : noR x = true) : ∀ {ds : List D}, noRs ds = true → (pys ds).any (fun z => PyData.eqv z (py x)) = ds.any fun z => eqvD z x
  | [], _ => by simp [pys]
  | d :: ds, h => by
    simp only [noRs, Bool.and_eq_true] at h
    simp only [pys, List.any_cons, any_py nx h.2, eqv_py d x h.1 nx]
theorem inL_rd {neg : Bool} {δ : DS} {M : Mem} {σ : L2.St} {x y : Sv} {v u : V} {c : Bool} {Q : VK} (S : Sr K G δ M ι σ H) (rx : RS K G.N H ι x v) (ry : RS K G.N H ι y u) (e : inL M x y = some c) (q : Q (.bl (if neg then !c else c)) H) : rInX K neg v u H Q := by
  cases x with
  | ref n => cases e
  | bor n => cases e
  | d x =>
  simp only [inL] at e
  cases hs : seqD M y with
  | none => rw [hs] at e; cases e
  | some ds =>
    rw [hs] at e
    obtain ⟨hc, hb⟩ := gd_some (show gd _ _ = some c from e)
    obtain ⟨a, xs, rfl, hq, r⟩ := seq_of S ry hs
    rcases hc with ⟨ax, ads⟩ | ⟨ox, ty, ods⟩
    · obtain ⟨f1, f2⟩ := atoms_in (show RD K G.N H ι x v from rx) ax r ads
      refine .inl ⟨a, xs, rfl, hq, atom_flat (show RD K G.N H ι x v from rx) ax, f1, ?_⟩
      rw [f2, hb]; exact q
    · obtain ⟨nx, sx⟩ := okE_and ox
      obtain ⟨ny, sy⟩ := okE_and ods
      simp only [noR] at ny
      have hl : Dp K H (.ref a) (.list (pys ds)) := by
        cases y with
        | ref n =>
          obtain ⟨a', e1, hn, xs', hH, _, r'⟩ := S.mem.at ry (cellL_some (show cellL M[n]? = some ds from hs)) (fun z => nomatch z)
          cases e1
          exact .lst (SqL.of hH) (RDs.dp ds xs' r' ny)
        | bor es =>
          cases hs
          obtain ⟨a', xs', e1, hH, _, _, _, r'⟩ := ry
          cases e1
          exact .lst (SqL.of hH) (RDs.dp ds xs' r' ny)
        | d y =>
          cases y with
          | tup es => cases (show true = false from ty)
          | lst es => cases hs; exact RD.dp (.lst _) _ ry (by simpa [noR] using ny)
          | scr ns =>
            cases hs
            obtain ⟨a', e1, q', _⟩ := ry
            cases e1
            have hsq : SqL K H a (ns.map V.int) := by
              rcases q' with ⟨o, q', _⟩ | q'
              · exact .inl (.inr ⟨o, q'⟩)
              · exact .inr q'
            exact .lst hsq (RDs.dp (N := G.N) (ι := ι) _ _ (RDs.of_ints ns) ny)
          | _ => cases hs
      have hq' : Q (.bl (if neg then !((pys ds).any fun z => PyData.eqv z (py x)) else (pys ds).any fun z => PyData.eqv z (py x))) H := by
        rw [any_py nx ny, hb]; exact q
      refine .inr ?_
      cases neg with
      | false => exact ⟨_, _, RD.dp x v rx nx, hl, sx, by simpa [py] using sy, hq'⟩
      | true => exact ⟨_, _, RD.dp x v rx nx, hl, sx, by simpa [py] using sy, hq'⟩
theorem rd_in : Rd2 K (rInX K false) inD := by
  intro G δ M ι σ H x y v u d S rx ry e Q z
  unfold inD at e
  cases q : inL M x y with
  | none => rw [q] at e; cases e
  | some c => rw [q] at e; cases e; exact inL_rd S rx ry q (fin_same S z rfl)
theorem rd_nin : Rd2 K (rInX K true) ninD := by
  intro G δ M ι σ H x y v u d S rx ry e Q z
  unfold ninD at e
  cases q : inL M x y with
  | none => rw [q] at e; cases e
  | some c => rw [q] at e; cases e; exact inL_rd S rx ry q (fin_same S z rfl)
theorem op_inX (hu : X.A.units + 65 < cLine) : OpR X (compareOp .In) (rInX X.K false) := op_in_seq.or (op_inD hu)
theorem op_ninX (hu : X.A.units + 65 < cLine) : OpR X (compareOp .NotIn) (rInX X.K true) := op_notIn_seq.or (op_notInD hu)
theorem op_eqX (hu : X.A.units + 64 < cLine) : OpR X (compareOp .Eq) (rEqX X.K) := op_eq.or (op_eqD hu)
theorem op_neX (hu : X.A.units + 64 < cLine) : OpR X (compareOp .NotEq) (rNeX X.K) := op_ne.or (op_neD hu)
theorem nonB_of {d : Sv} {v : V} (h : RS K N H ι d v) : decide (v = .non) = nonB d := by
  cases d with
  | ref n => obtain ⟨a, rfl, _⟩ := h; rfl
  | bor ds => obtain ⟨a, xs, rfl, _⟩ := h; rfl
  | d d =>
  cases d with
  | non => cases (show _ = _ from h); rfl
  | bl b => cases (show _ = _ from h); rfl
  | int b => cases (show _ = _ from h); rfl
  | str b => cases (show _ = _ from h); rfl
  | fn b => cases (show _ = _ from h); rfl
  | dn ks ds => obtain ⟨a, xs, o, rfl, _⟩ := h; rfl
  | dk ks ds => obtain ⟨a, xs, o, rfl, _⟩ := h; rfl
  | cls n => cases (show _ = _ from h); rfl
  | exc n f => obtain ⟨a, oe, vs, rfl, _⟩ := h; rfl
  | ty b => cases (show _ = _ from h); rfl
  | tup ds => obtain ⟨a, xs, rfl, _⟩ := h; rfl
  | lst ds => obtain ⟨a, xs, rfl, _⟩ := h; rfl
  | scr ds => obtain ⟨a, rfl, _⟩ := h; rfl
def rIsntX : R2 := fun x y H Q => (y = .non ∧ Q (.bl (!decide (x = .non))) H) ∨ rNotB x y H Q
theorem op_isntX : OpR X (compareOp .IsNot) rIsntX := op_notN.or op_notBl
theorem rd_isnt : Rd2 K rIsntX isntD := by
  intro G δ M ι σ H x y v u d S rx ry e Q z
  unfold isntD at e
  split at e
  · cases e; cases (show _ = _ from ry)
    refine .inl ⟨rfl, ?_⟩
    rw [nonB_of rx]; exact fin_same S z rfl
  · cases e; cases (show _ = _ from rx); cases (show _ = _ from ry)
    exact .inr ⟨_, _, rfl, rfl, fin_same S z rfl⟩
  · cases e
end
def tyN (M : Mem) : Sv → Option String
  | .d .non => some "NoneType"
  | .d (.bl _) => some "bool"
  | .d (.int _) => some "int"
  | .d (.str _) => some "str"
  | .d (.tup _) => some "tuple"
  | .d (.lst _) => some "list"
  | .bor _ => some "list"
  | .d (.scr _) => some "list"
  | .ref n => match M[n]? with
    | some (.lst _) => some "list"
    | some (.dk _) => some "dict"
    | _ => none
  | _ => none
/-- whether a thing of the first type is one of the second -/
def subT (a t : String) : Bool := decide (a = t) || (decide (a = "bool") && decide (t = "int"))
def known (t : String) : Bool := decide (t = "int") || decide (t = "bool") || decide (t = "str") || decide (t = "tuple") || decide (t = "list") || decide (t = "dict")
def isiD (M : Mem) : List Sv → Option Sv
  | [x, .d (.ty t)] => (tyN M x).bind fun a => gd (known t = true) (.d (.bl (subT a t)))
  | [x, .d (.tup [.ty t, .ty u])] => (tyN M x).bind fun a => gd (known t = true ∧ known u = true) (.d (.bl (subT a t || subT a u)))
  | _ => none
section
variable {K : PySem.W.Frag} {X : Cx} {G : Gd} {e a b : Expr} {es : List Expr} {pos : Pos} {ta tb : TE'} {N : Bool → Addr → Prop} {H : Hp} {ι : Ix}
theorem kit_all : ∀ a ∈ ["NoneType", "bool", "int", "str", "tuple", "list", "dict"], ∀ t ∈ ["int", "bool", "str", "tuple", "list", "dict"], kitB a t = some (subT a t) := by decide +kernel
theorem known_mem {t : String} (h : known t = true) : t ∈ ["int", "bool", "str", "tuple", "list", "dict"] := by
  unfold known at h
  simp only [Bool.or_eq_true, decide_eq_true_eq] at h
  simp only [List.mem_cons, List.not_mem_nil, or_false]
  rcases h with ((((h | h) | h) | h) | h) | h <;> simp [h]
theorem ty_of {δ : DS} {M : Mem} {σ : L2.St} {d : Sv} {v : V} {t : String} (S : Sr K G δ M ι σ H) (h : RS K G.N H ι d v) (e : tyN M d = some t) : TyX K H v (.type t) ∧ t ∈ ["NoneType", "bool", "int", "str", "tuple", "list", "dict"] := by
  cases d with
  | ref n =>
    simp only [tyN] at e
    split at e
    · rename_i ds hM
      cases e
      obtain ⟨a, rfl, hn, xs, q, _⟩ := S.mem.at h hM (fun z => nomatch z)
      exact ⟨.base (.lst q), by decide⟩
    · rename_i ds hM
      cases e
      obtain ⟨a, rfl, hn, xs, q, _⟩ := S.mem.at h hM (fun z => nomatch z)
      exact ⟨.base (.dK q), by decide⟩
    · cases e
  | bor ds => cases e; obtain ⟨a, xs, rfl, q, _⟩ := h; exact ⟨.base (.lst q), by decide⟩
  | d d =>
  cases d with
  | non => cases e; cases (show _ = _ from h); exact ⟨.base .non, by decide⟩
  | bl b => cases e; cases (show _ = _ from h); exact ⟨.base (.bl _), by decide⟩
  | int b => cases e; cases (show _ = _ from h); exact ⟨.base (.int _), by decide⟩
  | str b => cases e; cases (show _ = _ from h); exact ⟨.base (.str _), by decide⟩
  | tup ds =>
    cases e
    obtain ⟨a, xs, rfl, q, _⟩ := h
    rcases q with ⟨q, _⟩ | ⟨o, its, n, q, hc, _⟩
    · exact ⟨.base (.tup q), by decide⟩
    · exact ⟨.kTuple q hc, by decide⟩
  | lst ds => cases e; obtain ⟨a, xs, rfl, q, _⟩ := h; exact ⟨.base (.lst q), by decide⟩
  | scr ns =>
    cases e
    obtain ⟨a, rfl, ⟨o, q, _⟩ | ⟨o, its, n, q, hc, _⟩, _⟩ := h
    · exact ⟨.base (.frz q), by decide⟩
    · exact ⟨.kList q hc, by decide⟩
  | fn b => cases e
  | dn ks ds => cases e
  | dk ks ds => cases e
  | cls n => cases e
  | exc n f => cases e
  | ty b => cases e
theorem rd_isi : RdN K (fun xs H Q => (fun xs H Q => rIsi K xs H Q ∨ rIsiT K xs H Q) xs H Q ∨ rIsiK K xs H Q) isiD := by
  intro G δ M ι σ H xs vs d S rx e Q z
  unfold isiD at e
  split at e
  · rename_i x t
    obtain ⟨v, r, rfl, h1, h2⟩ := rx
    obtain ⟨u, r', rfl, h3, h4⟩ := h2
    cases (show _ = _ from h3); cases (show _ = _ from h4)
    cases q : tyN M x with
    | none => rw [q] at e; cases e
    | some a =>
      rw [q] at e
      obtain ⟨hc, rfl⟩ := gd_some (show gd _ _ = some d from e)
      obtain ⟨h5, h6⟩ := ty_of S h1 q
      exact .inl (.inl ⟨v, .ty t, _, _, _, rfl, .ty t, h5, kit_ty (kit_all a h6 t (known_mem hc)), fin_same S z rfl⟩)
  · rename_i x t u
    obtain ⟨v, r, rfl, h1, h2⟩ := rx
    obtain ⟨w, r', rfl, h3, h4⟩ := h2
    cases (show _ = _ from h4)
    obtain ⟨tp, cs, rfl, hq, _, h7⟩ := h3
    obtain ⟨c1, r1, rfl, h8, h9⟩ := h7
    obtain ⟨c2, r2, rfl, h10, h11⟩ := h9
    cases (show _ = _ from h11); cases (show _ = _ from h8); cases (show _ = _ from h10)
    cases q : tyN M x with
    | none => rw [q] at e; cases e
    | some a =>
      rw [q] at e
      obtain ⟨⟨hc, hc2⟩, rfl⟩ := gd_some (show gd _ _ = some d from e)
      obtain ⟨h5, h6⟩ := ty_of S h1 q
      have hk : PySem.W.kitAny K (.type a) [.type t, .type u] = some (subT a t || subT a u) := by
        refine kitAny_cons (kit_ty (kit_all a h6 t (known_mem hc))) (fun h => ?_) fun h => by rw [h]; rfl
        refine kitAny_cons (kit_ty (kit_all a h6 u (known_mem hc2))) (fun h' => ?_) fun h' => by rw [h, h']; rfl
        rw [h, h']; exact kitAny_nil
      rcases hq with ⟨hq, _⟩ | ⟨o, its, n, hq, hcl, hda, hsz, hv⟩
      · exact .inl (.inr ⟨v, tp, _, _, _, _, rfl, hq, .cons (.ty t) (.cons (.ty u) .nil), h5, hk, fin_same S z rfl⟩)
      · obtain ⟨oc, od, dt, sl⟩ := o
        simp only at hcl hda
        subst hcl hda
        obtain ⟨u1, u2, e3, r1, r2⟩ := vals2 hv
        cases (show _ = _ from r1); cases (show _ = _ from r2)
        exact .inr ⟨v, tp, od, [.type t, .type u], n, sl, _, _, rfl, by rw [← e3]; exact hq, h5, hk, fin_same S z rfl⟩
  · cases e
end
end VL
set_option Elab.async false
set_option linter.all false
set_option maxRecDepth 100000
set_option maxHeartbeats 4000000
namespace VL
open PySem PySem.Spec L2
def lenOf (M : Mem) (d : Sv) : Option Int := match d with
  | .d (.str s) => gd (s.length ≤ sizeLine) (s.length : Int)
  | .ref n => (match M[n]? with
    | some (.lst ds) => some (ds.length : Int)
    | some (.dk kvs) => some (kvs.length : Int)
    | _ => none)
  | d => (seqD M d).map fun ds => (ds.length : Int)
def intS (i : Int) : Sv := .d (.int i)
def lenD (M : Mem) : List Sv → Option Sv
  | [d] => (lenOf M d).map intS
  | _ => none
def absD (_ : Mem) : List Sv → Option Sv
  | [.d (.int i)] => some (.d (.int (if i < 0 then -i else i)))
  | _ => none
def intsOf : List D → Option (List Int)
  | [] => some []
  | .int i :: ds => (intsOf ds).map (i :: ·)
  | _ => none
def blsOf : List D → Option (List Bool)
  | [] => some []
  | .bl i :: ds => (blsOf ds).map (i :: ·)
  | _ => none
/-- the items of a list (no tuple) -/
def lstD (M : Mem) : Sv → Option (List D)
  | .d (.lst ds) => some ds
  | .bor ds => some ds
  | .d (.scr ns) => some (ns.map D.int)
  | .ref n => cellL M[n]?
  | _ => none
def minI : List Int → Int
  | [] => 0
  | [x] => x
  | x :: xs => let m := minI xs; if m < x then m else x
def maxI : List Int → Int
  | [] => 0
  | [x] => x
  | x :: xs => let m := maxI xs; if x < m then m else x
def minD (M : Mem) : List Sv → Option Sv
  | [.d (.int i), .d (.int j)] => some (.d (.int (if j < i then j else i)))
  | [d] => (lstD M d).bind fun ds => (intsOf ds).bind fun ns => gd (ns ≠ []) (intS (minI ns))
  | _ => none
def maxD (M : Mem) : List Sv → Option Sv
  | [.d (.int i), .d (.int j)] => some (.d (.int (if j > i then j else i)))
  | [d] => (lstD M d).bind fun ds => (intsOf ds).bind fun ns => gd (ns ≠ []) (intS (maxI ns))
  | _ => none
def intD (_ : Mem) : List Sv → Option Sv
  | [.d (.int i)] => some (.d (.int i))
  | [.d (.bl k)] => some (.d (.int (if k then 1 else 0)))
  | _ => none
def allD (M : Mem) : List Sv → Option Sv
  | [d] => (lstD M d).bind fun ds => (blsOf ds).map fun bs => blS (bs.all id)
  | _ => none
def anyD (M : Mem) : List Sv → Option Sv
  | [d] => (lstD M d).bind fun ds => (blsOf ds).map fun bs => blS (bs.any id)
  | _ => none
section
variable {K : PySem.W.Frag} {X : Cx} {G : Gd} {e a b : Expr} {es : List Expr} {pos : Pos} {ta tb : TE'} {N : Bool → Addr → Prop} {H : Hp} {ι : Ix}
theorem intsOf_some : ∀ {ds : List D} {ns : List Int}, intsOf ds = some ns → ds = ns.map .int
  | [], _, h => by cases h; rfl
  | .int i :: ds, ns, h => by
    simp only [intsOf] at h
    cases q : intsOf ds with
    | none => rw [q] at h; cases h
    | some ms => rw [q] at h; cases h; rw [intsOf_some q]; rfl
  | .non :: _, _, h => by cases h
  | .bl _ :: _, _, h => by cases h
  | .str _ :: _, _, h => by cases h
  | .tup _ :: _, _, h => by cases h
  | .lst _ :: _, _, h => by cases h
  | .scr _ :: _, _, h => by cases h
  | .fn _ :: _, _, h => by cases h
  | .dn _ _ :: _, _, h => by cases h
  | .dk _ _ :: _, _, h => by cases h
  | .cls _ :: _, _, h => by cases h
  | .exc _ _ :: _, _, h => by cases h
  | .ty _ :: _, _, h => by cases h
theorem blsOf_some : ∀ {ds : List D} {ns : List Bool}, blsOf ds = some ns → ds = ns.map .bl
  | [], _, h => by cases h; rfl
  | .bl i :: ds, ns, h => by
    simp only [blsOf] at h
    cases q : blsOf ds with
    | none => rw [q] at h; cases h
    | some ms => rw [q] at h; cases h; rw [blsOf_some q]; rfl
  | .non :: _, _, h => by cases h
  | .int _ :: _, _, h => by cases h
  | .str _ :: _, _, h => by cases h
  | .tup _ :: _, _, h => by cases h
  | .lst _ :: _, _, h => by cases h
  | .scr _ :: _, _, h => by cases h
  | .fn _ :: _, _, h => by cases h
  | .dn _ _ :: _, _, h => by cases h
  | .dk _ _ :: _, _, h => by cases h
  | .cls _ :: _, _, h => by cases h
  | .exc _ _ :: _, _, h => by cases h
  | .ty _ :: _, _, h => by cases h
theorem intsOf_map (ns : List Int) : intsOf (ns.map .int) = some ns := by
  induction ns with
  | nil => rfl
  | cons n ns ih => simp [intsOf, ih]
theorem blsOf_map (ns : List Bool) : blsOf (ns.map .bl) = some ns := by
  induction ns with
  | nil => rfl
  | cons n ns ih => simp [blsOf, ih]
/-- a list's value and items -/
theorem lst_of {δ : DS} {M : Mem} {σ : L2.St} {d : Sv} {v : V} {ds : List D} (S : Sr K G δ M ι σ H) (h : RS K G.N H ι d v) (e : lstD M d = some ds) : ∃ a xs, v = .ref a ∧ SqL K H a xs ∧ RDs K G.N H ι ds xs := by
  cases d with
  | ref n =>
    obtain ⟨a, e1, hn, xs, q, _, r⟩ := S.mem.at h (cellL_some (show cellL M[n]? = some ds from e)) (fun z => nomatch z)
    exact ⟨a, xs, e1, SqL.of q, r⟩
  | bor es => cases e; obtain ⟨a, xs, e1, q, n, _, _, r⟩ := h; exact ⟨a, xs, e1, SqL.of q, r⟩
  | d d =>
    cases d with
    | lst es => cases e; obtain ⟨a, xs, e1, q, n, z, _, r⟩ := h; exact ⟨a, xs, e1, SqL.of q, r⟩
    | scr ns =>
      cases e
      obtain ⟨a, e1, ⟨o, q, n⟩ | q, _⟩ := h
      · exact ⟨a, _, e1, .inl (.inr ⟨o, q⟩), RDs.of_ints ns⟩
      · exact ⟨a, _, e1, .inr q, RDs.of_ints ns⟩
    | _ => cases e
theorem one_of {x : Sv} {vs : List V} (h : RSs K N H ι [x] vs) : ∃ v, vs = [v] ∧ RS K N H ι x v := by
  obtain ⟨v, r, rfl, h1, h2⟩ := h
  cases (show _ = _ from h2)
  exact ⟨v, rfl, h1⟩
theorem two_of {x y : Sv} {vs : List V} (h : RSs K N H ι [x, y] vs) : ∃ v u, vs = [v, u] ∧ RS K N H ι x v ∧ RS K N H ι y u := by
  obtain ⟨v, r, rfl, h1, h2⟩ := h
  obtain ⟨u, rfl, h3⟩ := one_of h2
  exact ⟨v, u, rfl, h1, h3⟩
def rLenX (K : PySem.W.Frag) : List V → Hp → VK → Prop := fun xs H Q => (∃ x n, xs = [x] ∧ LenV K x H n ∧ Q (.int n) H) ∨ (∃ a kvs, xs = [V.ref a] ∧ H a = some (.dK kvs) ∧ Q (.int kvs.length) H)
theorem call_lenX : CallR X (.builtin "len") (rLenX X.K) := call_len.or call_lenD
theorem rd_len : RdN K (rLenX K) lenD := by
  intro G δ M ι σ H xs vs d S rx e Q z
  unfold lenD at e
  split at e
  · rename_i x
    obtain ⟨v, rfl, r⟩ := one_of rx
    cases q : lenOf M x with
    | none => rw [q] at e; cases e
    | some n =>
      rw [q] at e; cases e
      unfold lenOf at q
      split at q
      · obtain ⟨hc, rfl⟩ := gd_some q
        cases (show _ = _ from r)
        exact .inl ⟨_, _, rfl, ⟨hc, rfl⟩, fin_same S z rfl⟩
      · split at q
        · rename_i ds hM
          cases q
          obtain ⟨a, rfl, hn, ys, hH, _, ry⟩ := S.mem.at r hM (fun z => nomatch z)
          refine .inl ⟨_, ys.length, rfl, .inl ⟨ys, SqL.of hH, rfl⟩, ?_⟩
          rw [← ry.length]; exact fin_same S z rfl
        · rename_i kvs hM
          cases q
          obtain ⟨a, rfl, hn, ws, hH, e1, ry⟩ := S.mem.at r hM (fun z => nomatch z)
          refine .inr ⟨a, ws, rfl, hH, ?_⟩
          have hl : kvs.length = ws.length := by simpa using congrArg List.length e1
          rw [← hl]; exact fin_same S z rfl
        · cases q
      · cases hs : seqD M x with
        | none => rw [hs] at q; cases q
        | some ds =>
          rw [hs] at q; cases q
          obtain ⟨a, ys, rfl, hq, ry⟩ := seq_of S r hs
          refine .inl ⟨_, ys.length, rfl, ?_, ?_⟩
          · rcases hq with hq | hq
            · exact .inl ⟨ys, hq, rfl⟩
            · exact .inr ⟨ys, hq, rfl⟩
          · rw [← ry.length]; exact fin_same S z rfl
  · cases e
theorem rd_abs : RdN K (fun xs H Q => ∃ i, xs = [V.int i] ∧ Q (.int (if i < 0 then -i else i)) H) absD := by
  intro G δ M ι σ H xs vs d S rx e Q z
  unfold absD at e
  split at e
  · cases e
    obtain ⟨v, rfl, r⟩ := one_of rx
    cases (show _ = _ from r)
    exact ⟨_, rfl, fin_same S z rfl⟩
  · cases e
theorem minI_cons {x y : Int} {ns : List Int} : minI (x :: y :: ns) = if minI (y :: ns) < x then minI (y :: ns) else x := rfl
theorem minI_mem : ∀ {ns : List Int}, ns ≠ [] → minI ns ∈ ns ∧ ∀ y ∈ ns, minI ns ≤ y
  | [], h => (h rfl).elim
  | [x], _ => ⟨by simp [minI], by simp [minI]⟩
  | x :: y :: ns, _ => by
    obtain ⟨h1, h2⟩ := minI_mem (ns := y :: ns) (by simp)
    rw [minI_cons]
    by_cases hc : (minI (y :: ns)) < x
    · rw [if_pos hc]
      refine ⟨List.mem_cons_of_mem _ h1, fun z hz => ?_⟩
      rcases List.mem_cons.mp hz with rfl | hz
      · omega
      · exact h2 z hz
    · rw [if_neg hc]
      refine ⟨List.mem_cons_self, fun z hz => ?_⟩
      rcases List.mem_cons.mp hz with rfl | hz
      · omega
      · have := h2 z hz; omega
def rMinX (K : PySem.W.Frag) : List V → Hp → VK → Prop := fun xs H Q => (∃ i j, xs = [V.int i, .int j] ∧ Q (.int (if j < i then j else i)) H) ∨ rMin K xs H Q
theorem call_minX (hc : X.calm = true) : CallR X (.builtin "min") (rMinX X.K) := (call_min2 hc).or (cr_min hc)
theorem lints_of {δ : DS} {M : Mem} {σ : L2.St} {x d : Sv} {v : V} {f : List Int → Option Sv} (S : Sr K G δ M ι σ H) (r : RS K G.N H ι x v) (e : ((lstD M x).bind fun ds => (intsOf ds).bind f) = some d) :
    ∃ a ns, v = .ref a ∧ SqL K H a (ns.map V.int) ∧ f ns = some d := by
  cases q : lstD M x with
  | none => rw [q] at e; cases e
  | some ds =>
    rw [q] at e
    obtain ⟨a, xs, rfl, hs, ry⟩ := lst_of S r q
    cases qi : intsOf ds with
    | none => simp only [Option.bind_some, qi] at e; cases e
    | some ns =>
      simp only [Option.bind_some, qi] at e
      rw [intsOf_some qi] at ry
      rw [ry.ints] at hs
      exact ⟨a, ns, rfl, hs, e⟩
theorem lbls_of {δ : DS} {M : Mem} {σ : L2.St} {x d : Sv} {v : V} {f : List Bool → Option Sv} (S : Sr K G δ M ι σ H) (r : RS K G.N H ι x v) (e : ((lstD M x).bind fun ds => (blsOf ds).bind f) = some d) :
    ∃ a ns, v = .ref a ∧ SqL K H a (ns.map V.bl) ∧ f ns = some d := by
  cases q : lstD M x with
  | none => rw [q] at e; cases e
  | some ds =>
    rw [q] at e
    obtain ⟨a, xs, rfl, hs, ry⟩ := lst_of S r q
    cases qi : blsOf ds with
    | none => simp only [Option.bind_some, qi] at e; cases e
    | some ns =>
      simp only [Option.bind_some, qi] at e
      rw [blsOf_some qi] at ry
      rw [ry.bls] at hs
      exact ⟨a, ns, rfl, hs, e⟩
theorem rd_min : RdN K (rMinX K) minD := by
  intro G δ M ι σ H xs vs d S rx e Q z
  unfold minD at e
  split at e
  · cases e
    obtain ⟨v, u, rfl, r1, r2⟩ := two_of rx
    cases (show _ = _ from r1); cases (show _ = _ from r2)
    exact .inl ⟨_, _, rfl, fin_same S z rfl⟩
  · obtain ⟨v, rfl, r⟩ := one_of rx
    obtain ⟨a, ns, rfl, hs, e⟩ := lints_of S r e
    obtain ⟨hc, rfl⟩ := gd_some e
    refine .inr ⟨a, ns, rfl, hs, List.length_pos_iff.mpr hc, fun m hm hl => ?_⟩
    obtain ⟨h1, h2⟩ := minI_mem hc
    have : m = minI ns := by have := h2 m hm; have := hl _ h1; omega
    subst this
    exact fin_same S z rfl
  · cases e
theorem rd_intC : RdN K (fun xs H Q => (∃ i, xs = [V.int i] ∧ Q (.int i) H) ∨ ∃ k, xs = [V.bl k] ∧ Q (.int (if k then 1 else 0)) H) intD := by
  intro G δ M ι σ H xs vs d S rx e Q z
  unfold intD at e
  split at e
  · cases e
    obtain ⟨v, rfl, r⟩ := one_of rx
    cases (show _ = _ from r)
    exact .inl ⟨_, rfl, fin_same S z rfl⟩
  · cases e
    obtain ⟨v, rfl, r⟩ := one_of rx
    cases (show _ = _ from r)
    exact .inr ⟨_, rfl, fin_same S z rfl⟩
  · cases e
theorem rd_all : RdN K (rAll K) allD := by
  intro G δ M ι σ H xs vs d S rx e Q z
  unfold allD at e
  split at e
  · obtain ⟨v, rfl, r⟩ := one_of rx
    obtain ⟨a, ns, rfl, hs, e⟩ := lbls_of (f := fun ns => some (blS (ns.all id))) S r (by simpa only [Option.map_eq_bind, Function.comp_def] using e)
    cases e
    exact ⟨a, ns, rfl, hs, fin_same S z rfl⟩
  · cases e
theorem rd_any : RdN K (rAny K) anyD := by
  intro G δ M ι σ H xs vs d S rx e Q z
  unfold anyD at e
  split at e
  · obtain ⟨v, rfl, r⟩ := one_of rx
    obtain ⟨a, ns, rfl, hs, e⟩ := lbls_of (f := fun ns => some (blS (ns.any id))) S r (by simpa only [Option.map_eq_bind, Function.comp_def] using e)
    cases e
    exact ⟨a, ns, rfl, hs, fin_same S z rfl⟩
  · cases e
end
def truth (M : Mem) : Sv → Option Bool
  | .d .non => some false
  | .d (.bl b) => some b
  | .d (.int i) => some (i != 0)
  | .d (.str s) => gd (s.length ≤ sizeLine) ((s.length : Int) != 0)
  | .ref n => match M[n]? with
    | some (.lst ds) => some !ds.isEmpty
    | some (.dk kvs) => some !kvs.isEmpty
    | _ => none
  | d => (seqD M d).map fun ds => !ds.isEmpty
abbrev TT' := DS → Mem → (Bool → Mem → Prop) → Prop
def lT (K : PySem.W.Frag) (G : Gd) (t : TT') : TT := fun σ H Q => ∃ δ M ι Q0, Sr K G δ M ι σ H ∧ t δ M Q0 ∧
  ∀ b M' ι' H', Q0 b M' → Ex ι ι' → Kp ι H ι' H' → Sr K G δ M' ι' σ H' → Q b H'
abbrev VT (X : Cx) (G : Gd) (e : Expr) (t : TT') : Prop := PT X e (lT X.K G t)
abbrev VW (X : Cx) (G : Gd) (e : Expr) (t : TT') : Prop := PW X e (lT X.K G t)
abbrev PB := DS → Mem → Option Bool
def cP (p : PB) : TT' := fun δ M Q => ok (p δ M) fun b => Q b M
def tTr (t : TE') : TT' := fun δ M Q => t δ M fun d M' => ok (truth M' d) fun b => Q b M'
def bTr (p : PV) : PB := fun δ M => (p δ M).bind (truth M)
def blD : Sv → Option Bool
  | .d (.bl b) => some b
  | _ => none
def tTb (t : TE') : TT' := fun δ M Q => t δ M fun d M' => ok (blD d) fun b => Q b M'
def bB (p : PV) : PB := fun δ M => (p δ M).bind blD
def tAn (t u : TT') : TT' := fun δ M Q => t δ M fun b M' => if b then u δ M' Q else Q false M'
def tOrr (t u : TT') : TT' := fun δ M Q => t δ M fun b M' => if b then Q true M' else u δ M' Q
def tNt (t : TT') : TT' := fun δ M Q => t δ M fun b M' => Q (!b) M'
def bAn (p q : PB) : PB := fun δ M => (p δ M).bind fun b => if b then q δ M else some false
def bOr (p q : PB) : PB := fun δ M => (p δ M).bind fun b => if b then some true else q δ M
def bNt (p : PB) : PB := fun δ M => (p δ M).map fun b => !b
section
variable {K : PySem.W.Frag} {X : Cx} {G : Gd} {e a b c : Expr} {es rest : List Expr} {pos : Pos} {ta tb : TE'} {t u : TT'} {p q : PB}
theorem VT.weak {t' : TT'} (h : VT X G e t) (w : ∀ δ M Q, t' δ M Q → t δ M Q) : VT X G e t' :=
  ⟨fun pins s σ H Q I ⟨δ, M, ι, Q0, S, q, z⟩ => h.run pins s σ H Q I ⟨δ, M, ι, Q0, S, w _ _ _ q, z⟩⟩
theorem VW.weak {t' : TT'} (h : VW X G e t) (w : ∀ δ M Q, t' δ M Q → t δ M Q) : VW X G e t' :=
  ⟨fun wh pins s σ H Q I ⟨δ, M, ι, Q0, S, q, z⟩ => h.run wh pins s σ H Q I ⟨δ, M, ι, Q0, S, w _ _ _ q, z⟩⟩
theorem truth_of {δ : DS} {M : Mem} {ι : Ix} {σ : L2.St} {H : Hp} {d : Sv} {v : V} {k : Bool} (S : Sr K G δ M ι σ H) (h : RS K G.N H ι d v) (e : truth M d = some k) : TruV K v H k := by
  cases d with
  | ref n =>
    simp only [truth] at e
    split at e
    · rename_i ds hM
      cases e
      obtain ⟨a, rfl, hn, xs, q, _, r⟩ := S.mem.at h hM (fun z => nomatch z)
      refine .inl ⟨xs, SqL.of q, ?_⟩
      have := r.length
      cases ds <;> cases xs <;> simp_all
    · rename_i kvs hM
      cases e
      obtain ⟨a, rfl, hn, ws, q, e1, r⟩ := S.mem.at h hM (fun z => nomatch z)
      refine .inr (.inr ⟨ws, q, ?_⟩)
      have hl : kvs.length = ws.length := by simpa using congrArg List.length e1
      cases kvs <;> cases ws <;> simp_all
    · cases e
  | bor ds =>
    cases e
    obtain ⟨a, xs, rfl, q, _, _, _, r⟩ := h
    refine .inl ⟨xs, SqL.of q, ?_⟩
    have := r.length
    cases ds <;> cases xs <;> simp_all
  | d d =>
  cases d with
  | non => cases e; cases (show _ = _ from h); rfl
  | bl b => cases e; cases (show _ = _ from h); rfl
  | int i => cases e; cases (show _ = _ from h); rfl
  | str s => obtain ⟨hc, rfl⟩ := gd_some (show gd _ _ = some k from e); cases (show _ = _ from h); exact ⟨hc, rfl⟩
  | fn b => cases e
  | dn ks ds => cases e
  | dk ks ds => cases e
  | cls n => cases e
  | exc n f => cases e
  | ty b => cases e
  | tup ds =>
    cases e
    obtain ⟨a, xs, rfl, q, _, r⟩ := h
    refine .inr (.inl ⟨xs, tup_sq q, ?_⟩)
    have := r.length
    cases ds <;> cases xs <;> simp_all
  | lst ds =>
    cases e
    obtain ⟨a, xs, rfl, q, _, _, _, r⟩ := h
    refine .inl ⟨xs, SqL.of q, ?_⟩
    have := r.length
    cases ds <;> cases xs <;> simp_all
  | scr ns =>
    cases e
    obtain ⟨a, rfl, q, _⟩ := h
    have hsq : SqL K H a (ns.map V.int) := by
      rcases q with ⟨o, q', _⟩ | q'
      · exact .inl (.inr ⟨o, q'⟩)
      · exact .inr q'
    refine .inl ⟨_, hsq, ?_⟩
    cases ns <;> rfl
theorem fin_tr {σ : L2.St} {H : Hp} {Q : Bool → Hp → Prop} (h : lT K G (tTr ta) σ H Q) : lE K G ta σ H fun x H' => ∃ k, TruV K x H' k ∧ Q k H' := by
  obtain ⟨δ, M, ι, Q0, S, h, z⟩ := h
  refine th1 S h fun x M1 ι1 H1 v h1 p1 k1 S1 r1 => ?_
  obtain ⟨k, e, h1⟩ := ok_elim h1
  exact ⟨k, truth_of S1 r1 e, z k M1 ι1 H1 h1 p1 k1 S1⟩
/-- the test of a value's truth -/
theorem vt_val (ha : VE X G a ta) (he : ∀ whole, isTrue a X.env whole = (do let v ← whole; standAt a.pos; holding [v] (truthy v)) := by exact fun _ => rfl) : VT X G a (tTr ta) := by
  have h := pt_truth ha he
  exact ⟨fun pins s σ H Q I q => h.run pins s σ H Q I (fin_tr q)⟩
theorem VT.pure (h : VT X G a (tTr (eP v))) : VT X G a (cP (bTr v)) := h.weak fun δ M Q h => by
  unfold cP bTr at h; rw [ok_bind] at h; exact h
theorem fin_tb {σ : L2.St} {H : Hp} {Q : Bool → Hp → Prop} (h : lT K G (tTb ta) σ H Q) : lE K G ta σ H fun x H' => ∃ k, x = .bl k ∧ Q k H' := by
  obtain ⟨δ, M, ι, Q0, S, h, z⟩ := h
  refine th1 S h fun x M1 ι1 H1 v h1 p1 k1 S1 r1 => ?_
  obtain ⟨k, e, h1⟩ := ok_elim h1
  unfold blD at e
  split at e
  · cases e; cases (show _ = _ from r1); exact ⟨_, rfl, z _ M1 ι1 H1 h1 p1 k1 S1⟩
  · cases e
theorem vt_cmp {op : CmpOp} {r : R2} {f : Mem → Sv → Sv → Option Sv} (ho : OpR X (compareOp op) r) (hf : Rd2 X.K r f) (ha : VE X G a ta) (hb : VE X G b tb) (hm : behindInMarks op b = false) : VT X G (.Compare a [op] [b] pos) (tTb (eo2 f ta tb)) := by
  have h := pt_cmpR (pos := pos) ho ha hb hm
  exact ⟨fun pins s σ H Q I q => h.run pins s σ H Q I (fin2 hf (fin_tb q))⟩
theorem VT.pureB2 {f : Mem → Sv → Sv → Option Sv} {v w : PV} (h : VT X G a (tTb (eo2 f (eP v) (eP w)))) : VT X G a (cP (bB (po2 f v w))) := h.weak fun δ M Q h => by
  unfold cP bB po2 at h
  rw [ok_bind, ok_bind] at h
  obtain ⟨d, q1, h⟩ := ok_elim h
  rw [ok_bind] at h
  exact ok_of q1 h
theorem vt_not (h : VT X G a t) : VT X G (.UnaryOp .Not a pos) (tNt t) := by
  have hn := pt_not (pos := pos) h
  exact ⟨fun pins s σ H Q I ⟨δ, M, ι, Q0, S, q, z⟩ => hn.run pins s σ H Q I ⟨δ, M, ι, _, S, q, fun b M' ι' H' q1 p1 k1 S1 => z (!b) M' ι' H' q1 p1 k1 S1⟩⟩
theorem vw_and1 (h : VT X G a t) : VW X G (.BoolOp .And [a] pos) t := pw_and1 h
theorem vw_or1 (h : VT X G a t) : VW X G (.BoolOp .Or [a] pos) t := pw_or1 h
theorem vw_and (h : VT X G a t) (h2 : VW X G (.BoolOp .And (b :: rest) pos) u) : VW X G (.BoolOp .And (a :: b :: rest) pos) (tAn t u) := by
  have hn := pw_and h h2
  refine ⟨fun wh pins s σ H Q I ⟨δ, M, ι, Q0, S, q, z⟩ => hn.run wh pins s σ H Q I ⟨δ, M, ι, _, S, q, fun b M' ι' H' q1 p1 k1 S1 => ?_⟩⟩
  cases b with
  | false => exact z false M' ι' H' q1 p1 k1 S1
  | true => exact ⟨δ, M', ι', Q0, S1, q1, fun b M2 ι2 H2 q2 p2 k2 S2 => z b M2 ι2 H2 q2 (p1.trans p2) (k1.trans k2) S2⟩
theorem vw_or (h : VT X G a t) (h2 : VW X G (.BoolOp .Or (b :: rest) pos) u) : VW X G (.BoolOp .Or (a :: b :: rest) pos) (tOrr t u) := by
  have hn := pw_or h h2
  refine ⟨fun wh pins s σ H Q I ⟨δ, M, ι, Q0, S, q, z⟩ => hn.run wh pins s σ H Q I ⟨δ, M, ι, _, S, q, fun b M' ι' H' q1 p1 k1 S1 => ?_⟩⟩
  cases b with
  | true => exact z true M' ι' H' q1 p1 k1 S1
  | false => exact ⟨δ, M', ι', Q0, S1, q1, fun b M2 ι2 H2 q2 p2 k2 S2 => z b M2 ι2 H2 q2 (p1.trans p2) (k1.trans k2) S2⟩
theorem VW.vt (h : VW X G a t) : VT X G a t := PW.pt h
theorem VT.pNot (h : VT X G a (tNt (cP p))) : VT X G a (cP (bNt p)) := h.weak fun δ M Q h => by
  unfold cP bNt at h; rw [ok_map] at h; exact h
theorem VW.pAn (h : VW X G a (tAn (cP p) (cP q))) : VW X G a (cP (bAn p q)) := h.weak fun δ M Q h => by
  unfold cP bAn at h
  rw [ok_bind] at h
  obtain ⟨d, q1, h⟩ := ok_elim h
  refine ok_of q1 ?_
  cases d <;> exact h
theorem VW.pOr (h : VW X G a (tOrr (cP p) (cP q))) : VW X G a (cP (bOr p q)) := h.weak fun δ M Q h => by
  unfold cP bOr at h
  rw [ok_bind] at h
  obtain ⟨d, q1, h⟩ := ok_elim h
  refine ok_of q1 ?_
  cases d <;> exact h
def eAn (ta tb : TE') : TE' := fun δ M Q => ta δ M fun x M1 => ok (truth M1 x) fun k => if k then tb δ M1 Q else Q x M1
def eOr (ta tb : TE') : TE' := fun δ M Q => ta δ M fun x M1 => ok (truth M1 x) fun k => if k then Q x M1 else tb δ M1 Q
def eNt (ta : TE') : TE' := fun δ M Q => ta δ M fun x M1 => ok (truth M1 x) fun k => Q (blS (!k)) M1
def eIf (t : TT') (ta tb : TE') : TE' := fun δ M Q => t δ M fun b M1 => if b then ta δ M1 Q else tb δ M1 Q
def poAn (a b : PV) : PV := fun δ M => (a δ M).bind fun x => (truth M x).bind fun k => if k then b δ M else some x
def poOr (a b : PV) : PV := fun δ M => (a δ M).bind fun x => (truth M x).bind fun k => if k then some x else b δ M
def poNt (a : PV) : PV := fun δ M => (a δ M).bind fun x => (truth M x).map fun k => blS (!k)
def poIf (t : PB) (a b : PV) : PV := fun δ M => (t δ M).bind fun k => if k then a δ M else b δ M
theorem ve_one {op} (h : VE X G a ta) : VE X G (.BoolOp op [a] pos) ta := pe_one h
theorem ve_and (ha : VE X G a ta) (hb : VE X G (.BoolOp .And (b :: rest) pos) tb) : VE X G (.BoolOp .And (a :: b :: rest) pos) (eAn ta tb) := by
  refine PE.weak (pe_andT ha hb) fun σ H Q ⟨δ, M, ι, Q0, S, h, z⟩ => ?_
  refine th1 S h fun x M1 ι1 H1 v h1 p1 k1 S1 r1 => ?_
  obtain ⟨k, e, h1⟩ := ok_elim h1
  refine ⟨k, truth_of S1 r1 e, ?_⟩
  cases k with
  | false => exact z x M1 ι1 H1 v h1 p1 k1 S1 r1
  | true => exact th1 S1 h1 fun y M2 ι2 H2 w h2 p2 k2 S2 r2 => z y M2 ι2 H2 w h2 (p1.trans p2) (k1.trans k2) S2 r2
theorem ve_not (ha : VE X G a ta) : VE X G (.UnaryOp .Not a pos) (eNt ta) := by
  refine PE.weak (pe_notT ha) fun σ H Q ⟨δ, M, ι, Q0, S, h, z⟩ => ?_
  refine th1 S h fun x M1 ι1 H1 v h1 p1 k1 S1 r1 => ?_
  obtain ⟨k, e, h1⟩ := ok_elim h1
  exact ⟨k, truth_of S1 r1 e, z _ M1 ι1 H1 _ h1 p1 k1 S1 rfl⟩
theorem ve_if (hc : VT X G c t) (ha : VE X G a ta) (hb : VE X G b tb) : VE X G (.IfExp c a b pos) (eIf t ta tb) := by
  refine PE.weak (pe_ifExp hc ha hb) fun σ H Q ⟨δ, M, ι, Q0, S, h, z⟩ => ⟨δ, M, ι, _, S, h, fun k M1 ι1 H1 h1 p1 k1 S1 => ?_⟩
  cases k with
  | true => exact th1 S1 h1 fun y M2 ι2 H2 w h2 p2 k2 S2 r2 => z y M2 ι2 H2 w h2 (p1.trans p2) (k1.trans k2) S2 r2
  | false => exact th1 S1 h1 fun y M2 ι2 H2 w h2 p2 k2 S2 r2 => z y M2 ι2 H2 w h2 (p1.trans p2) (k1.trans k2) S2 r2
theorem VE.pAn {v w : PV} (h : VE X G a (eAn (eP v) (eP w))) : VE X G a (eP (poAn v w)) := h.weak fun δ M Q h => by
  unfold eP poAn at h
  rw [ok_bind] at h
  obtain ⟨d, q1, h⟩ := ok_elim h
  rw [ok_bind] at h
  obtain ⟨k, q2, h⟩ := ok_elim h
  refine ok_of q1 (ok_of q2 ?_)
  cases k <;> exact h
theorem VE.pIf {v w : PV} (h : VE X G a (eIf (cP p) (eP v) (eP w))) : VE X G a (eP (poIf p v w)) := h.weak fun δ M Q h => by
  unfold eP poIf at h
  rw [ok_bind] at h
  obtain ⟨d, q1, h⟩ := ok_elim h
  refine ok_of q1 ?_
  cases d <;> exact h
end
end VL
set_option Elab.async false
set_option linter.all false
set_option maxRecDepth 100000
set_option maxHeartbeats 4000000
namespace VL
open PySem PySem.Spec L2
def dataS : Sv → Option D
  | .d x => some x
  | _ => none
def datas : List Sv → Option (List D)
  | [] => some []
  | x :: xs => (dataS x).bind fun d => (datas xs).map fun ds => d :: ds
/-- a new list of these -/
abbrev TF' := DS → Mem → (List D → Mem → Prop) → Prop
def lF (K : PySem.W.Frag) (G : Gd) (t : TF') : TE := fun σ H Q => ∃ δ M ι Q0, Sr K G δ M ι σ H ∧ t δ M Q0 ∧
  ∀ ds M' ι' H' xs p, Q0 ds M' → Ex ι ι' → Kp ι H ι' H' → Sr K G δ M' ι' σ H' → RDs K G.N H' ι' ds xs → ds.length ≤ sizeLine → H' p = none → Q (.ref p) (upd H' p (.lst xs))
abbrev VF (X : Cx) (G : Gd) (e : Expr) (t : TF') : Prop := PE X e (lF X.K G t)
def tTupE (t : TA') : TE' := fun δ M Q => t δ M fun xs M1 => ok (datas xs) fun ds => Q (.d (.tup ds)) M1
def tLstF (t : TA') : TF' := fun δ M Q => t δ M fun xs M1 => ok (datas xs) fun ds => Q ds M1
def eFz (t : TF') : TE' := fun δ M Q => t δ M fun ds M' => Q (.d (.lst ds)) M'
def eNw (t : TF') : TE' := fun δ M Q => t δ M fun ds M' => Q (.ref M'.length) (M' ++ [.lst ds])
abbrev PL := DS → Mem → Option (List D)
def fP (p : PL) : TF' := fun δ M Q => ok (p δ M) fun ds => Q ds M
def pFz (p : PL) : PV := fun δ M => (p δ M).map fun ds => .d (.lst ds)
def poTup (ps : List PV) : PV := fun δ M => ((pArgs ps δ M).bind datas).map fun ds => .d (.tup ds)
def plLst (ps : List PV) : PL := fun δ M => (pArgs ps δ M).bind datas
section
variable {K : PySem.W.Frag} {X : Cx} {G : Gd} {e a b : Expr} {es : List Expr} {pos : Pos} {ta tb t : TE'} {N : Bool → Addr → Prop} {H : Hp} {ι : Ix} {tf : TF'}
theorem VF.weak {t' : TF'} (h : VF X G e tf) (w : ∀ δ M Q, t' δ M Q → tf δ M Q) : VF X G e t' :=
  PE.weak h fun _ _ _ ⟨δ, M, ι, Q0, S, q, z⟩ => ⟨δ, M, ι, Q0, S, w _ _ _ q, z⟩
theorem datas_of : ∀ {xs : List Sv} {ds : List D} {vs : List V}, datas xs = some ds → RSs K N H ι xs vs → RDs K N H ι ds vs ∧ ds.length = xs.length
  | [], ds, vs, e, h => by cases e; exact ⟨h, rfl⟩
  | x :: xs, ds, vs, e, h => by
    obtain ⟨v, r, rfl, h1, h2⟩ := h
    cases x with
    | d d =>
      obtain ⟨ds', e2, rfl⟩ := Option.map_eq_some_iff.mp (show (datas xs).map (fun ds => d :: ds) = some ds from e)
      obtain ⟨h3, h4⟩ := datas_of e2 h2
      exact ⟨⟨v, r, rfl, h1, h3⟩, by simp [h4]⟩
    | ref n => cases e
    | bor n => cases e
theorem ve_tup {n k : Nat} {tA : TA'} (h : VA X G es n tA) (hn : n ≤ sizeLine := by decide) : VE X G (.Tuple es k pos) (tTupE tA) := by
  refine PE.weak (pe_tup h) fun σ H Q ⟨δ, M, ι, Q0, S, q, z⟩ => ?_
  refine thA S q fun xs M1 ι1 H1 vs hl h1 p1 k1 S1 r1 => ?_
  obtain ⟨ds, e, h1⟩ := ok_elim h1
  obtain ⟨r2, l2⟩ := datas_of e r1
  refine ⟨by rw [← r2.length, l2, hl]; exact hn, fun p hp => ?_⟩
  exact fin_tup S1 (fun ι' H' w e2 k2 S2 r3 => z _ M1 ι' H' w h1 (p1.trans e2) (k1.trans k2) S2 r3) r2 (by rw [l2, hl]; exact hn) hp
theorem vf_lst {n : Nat} {tA : TA'} (h : VA X G es n tA) (hn : n ≤ sizeLine := by decide) : VF X G (.List es pos) (tLstF tA) := by
  refine PE.weak (pe_lst h) fun σ H Q ⟨δ, M, ι, Q0, S, q, z⟩ => ?_
  refine thA S q fun xs M1 ι1 H1 vs hl h1 p1 k1 S1 r1 => ?_
  obtain ⟨ds, e, h1⟩ := ok_elim h1
  obtain ⟨r2, l2⟩ := datas_of e r1
  exact ⟨by rw [← r2.length, l2, hl]; exact hn, fun p hp => z ds M1 ι1 H1 vs p h1 p1 k1 S1 r2 (by rw [l2, hl]; exact hn) hp⟩
theorem VF.fz (h : VF X G e tf) : VE X G e (eFz tf) :=
  PE.weak h fun σ H Q ⟨δ, M, ι, Q0, S, q, z⟩ => ⟨δ, M, ι, _, S, q, fun ds M' ι' H' xs p h1 p1 k1 S1 r1 hl hp =>
    fin_lst S1 (fun ι2 H2 w e2 k2 S2 r3 => z _ M' ι2 H2 w h1 (p1.trans e2) (k1.trans k2) S2 r3) r1 hl hp⟩
theorem VF.nw (h : VF X G e tf) : VE X G e (eNw tf) :=
  PE.weak h fun σ H Q ⟨δ, M, ι, Q0, S, q, z⟩ => ⟨δ, M, ι, _, S, q, fun ds M' ι' H' xs p h1 p1 k1 S1 r1 hl hp => by
    have S2 := S1.named (o := .lst xs) (c := .lst ds) hp ⟨xs, upd_same, hl, r1.mono (Kp.named hp) fun _ _ _ _ q => q⟩
    refine z _ _ _ _ _ h1 (p1.trans (Ex.app _ _)) (k1.trans (Kp.named hp)) S2 ⟨p, rfl, .inl ?_⟩
    rw [S1.mem.len]; simp⟩
theorem VF.pure {p : PL} (h : VF X G e (fP p)) : VE X G e (eP (pFz p)) := h.fz.weak fun δ M Q h => by
  unfold eP pFz at h; rw [ok_map] at h; exact h
theorem VE.pTup {ps : List PV} (h : VE X G e (tTupE (aP ps))) : VE X G e (eP (poTup ps)) := h.weak fun δ M Q h => by
  unfold eP poTup at h
  rw [ok_map, ok_bind] at h
  exact h
theorem VF.pLst {ps : List PV} (h : VF X G e (tLstF (aP ps))) : VF X G e (fP (plLst ps)) := h.weak fun δ M Q h => by
  unfold fP plLst at h
  rw [ok_bind] at h
  exact h
end
def sSeq (t u : TS') : TS' := fun E δ M => t { E with nx := fun δ' M' => u E δ' M' } δ M
def sNil : TS' := fun E δ M => E.nx δ M
def sRet (t : TE') : TS' := fun E δ M => t δ M fun d M' => E.rt d M'
def sRetN : TS' := fun E δ M => E.rt (.d .non) M
def sDrop (t : TE') : TS' := fun E δ M => t δ M fun _ M' => E.nx δ M'
def sSet (i : Nat) (t : TE') : TS' := fun E δ M => t δ M fun d M' => E.nx (δ.set i (some d)) M'
def sIf (c : TT') (t u : TS') : TS' := fun E δ M => c δ M fun b M' => if b then t E δ M' else u E δ M'
section
variable {K : PySem.W.Frag} {X : Cx} {G : Gd} {e a b c : Expr} {st : Stmt} {ss ss' : List Stmt} {es : List Expr} {pos : Pos} {ta tb t : TE'} {tc : TT'} {s u : TS'}
theorem VS.weak {u' : TS'} (h : VS X G st u) (w : ∀ E δ M, u' E δ M → u E δ M) : VS X G st u' :=
  PS.weak h fun _ _ _ ⟨δ, M, ι, E0, S, q, z⟩ => ⟨δ, M, ι, E0, S, w _ _ _ q, z⟩
theorem VSs.weak {u' : TS'} (h : VSs X G ss u) (w : ∀ E δ M, u' E δ M → u E δ M) : VSs X G ss u' :=
  PSs.weak h fun _ _ _ ⟨δ, M, ι, E0, S, q, z⟩ => ⟨δ, M, ι, E0, S, w _ _ _ q, z⟩
theorem vss_nil : VSs X G [] sNil := PSs.weak pss_nil fun E σ H ⟨δ, M, ι, E0, S, q, z⟩ => z.nx δ M ι σ H q (Ex.refl _) (Kp.refl _ _) S
theorem vss_one (h : VS X G st s) : VSs X G [st] s := pss_one h
theorem vss_cons (h : VS X G st s) (h2 : VSs X G ss u) : VSs X G (st :: ss) (sSeq s u) :=
  PSs.weak (pss_cons h h2) fun E σ H ⟨δ, M, ι, E0, S, q, z⟩ => ⟨δ, M, ι, _, S, q, ⟨fun δ' M' ι' σ' H' q' p' k' S' => ⟨δ', M', ι', E0, S', q', z.to p' k'⟩, z.rt, z.bk, z.ct⟩⟩
theorem vs_ret (h : VE X G e t) : VS X G (.Return (some e) pos) (sRet t) :=
  PS.weak (ps_ret h) fun E σ H ⟨δ, M, ι, E0, S, q, z⟩ => ⟨δ, M, ι, _, S, q, fun d M' ι' H' v q' p' k' S' r' => z.rt d δ M' ι' σ H' v q' S' r'⟩
theorem vs_expr (h : VE X G e t) (hs : swapsWith e none pos.line X.env = pure false := by rfl) : VS X G (.Expr e pos) (sDrop t) :=
  PS.weak (ps_expr h hs) fun E σ H ⟨δ, M, ι, E0, S, q, z⟩ => ⟨δ, M, ι, _, S, q, fun d M' ι' H' v q' p' k' S' r' => z.nx δ M' ι' σ H' q' p' k' S'⟩
theorem vs_set {i : Nat} {x : Str} {pos' : Pos} (hN : X.N.Nodup) (hi : X.N[i]? = some x) (hx : Loc X.env.scope x) (he : VE X G e t) (hs : swapsWith e (some (.Name x pos')) pos.line X.env = pure false := by rfl) (hf : X.fn x = true ∨ X.env.scope.names.lookup x = some .local := by first | exact .inl rfl | exact .inr rfl | assumption) :
    VS X G (.Assign [.Name x pos'] e pos) (sSet i t) :=
  PS.weak (ps_set hN hi hx he hs hf) fun E σ H ⟨δ, M, ι, E0, S, q, z⟩ => ⟨δ, M, ι, _, S, q, fun d M' ι' H' v q' p' k' S' r' => z.nx _ M' ι' _ H' q' p' k' (S'.set r')⟩
theorem vs_if (hc : VT X G c tc) (ha : VSs X G ss s) (hb : VSs X G ss' u) : VS X G (.If c ss ss' pos) (sIf tc s u) :=
  PS.weak (ps_if hc ha hb) fun E σ H ⟨δ, M, ι, E0, S, q, z⟩ => ⟨δ, M, ι, _, S, q, fun b M' ι' H' q' p' k' S' => by
    cases b with
    | true => exact ⟨δ, M', ι', E0, S', q', z.to p' k'⟩
    | false => exact ⟨δ, M', ι', E0, S', q', z.to p' k'⟩⟩
end
abbrev TG' := D → DS → Mem → (DS → Mem → Prop) → Prop
def lG (K : PySem.W.Frag) (G : Gd) (t : TG') : TG := fun v σ H Q => ∃ d δ M ι Q0, Sr K G δ M ι σ H ∧ RD K G.N H ι d v ∧ t d δ M Q0 ∧
  ∀ δ' M' ι' σ' H', Q0 δ' M' → Ex ι ι' → Kp ι H ι' H' → Sr K G δ' M' ι' σ' H' → Q σ' H'
abbrev VG (X : Cx) (G : Gd) (e : Expr) (t : TG') : Prop := PG X e (lG X.K G t)
def gNm (i : Nat) : TG' := fun d δ M Q => Q (δ.set i (some (.d d))) M
/-- names for a tuple's items -/
def setAll : List Nat → List D → DS → Option DS
  | [], [], δ => some δ
  | i :: is, d :: ds, δ => setAll is ds (δ.set i (some (.d d)))
  | _, _, _ => none
def gTp (is : List Nat) : TG' := fun d δ M Q => match d with
  | .tup ds => ok (setAll is ds δ) fun δ' => Q δ' M
  | _ => False
def lGs (K : PySem.W.Frag) (G : Gd) (is : List Nat) : TGs := fun vs σ H Q => ∃ ds δ M ι δ', Sr K G δ M ι σ H ∧ RDs K G.N H ι ds vs ∧ setAll is ds δ = some δ' ∧
  ∀ σ' , Sr K G δ' M ι σ' H → Q σ' H
section
variable {K : PySem.W.Frag} {X : Cx} {G : Gd} {e a b c : Expr} {es : List Expr} {pos : Pos}
theorem vg_name {i : Nat} {x : Str} (hN : X.N.Nodup) (hi : X.N[i]? = some x) (hx : Loc X.env.scope x) (hf : X.fn x = true ∨ X.env.scope.names.lookup x = some .local := by first | exact .inl rfl | exact .inr rfl | assumption) : VG X G (.Name x pos) (gNm i) := by
  have h := pg_name (pos := pos) hN hi hx hf
  refine ⟨fun pins s σ H v u Q I r ⟨d, δ, M, ι, Q0, S, rd, q, z⟩ => h.run pins s σ H v u Q I r ?_⟩
  exact z _ M ι _ H q (Ex.refl _) (Kp.refl _ _) (S.set (d := .d d) rd)
theorem vgs_nil : PGs X [] (lGs X.K G []) := by
  refine ⟨fun pins s σ H vs us Q I r ⟨ds, δ, M, ι, δ', S, rd, q, z⟩ => pgs_nil.run pins s σ H vs us Q I r ?_⟩
  cases ds with
  | nil => cases q; exact ⟨rd, z σ S⟩
  | cons d ds => cases q
theorem vgs_cons {i : Nat} {is : List Nat} {x : Str} {px : Pos} (hN : X.N.Nodup) (hi : X.N[i]? = some x) (hx : Loc X.env.scope x) (hr : PGs X es (lGs X.K G is)) (hf : X.fn x = true ∨ X.env.scope.names.lookup x = some .local := by first | exact .inl rfl | exact .inr rfl | assumption)
    (hs : (assignEach (.Name x px :: es) X.env).map (·.2) = assign (.Name x px) X.env :: (assignEach es X.env).map (·.2) := by rfl) : PGs X (.Name x px :: es) (lGs X.K G (i :: is)) := by
  have h := pgs_cons (pg_name (pos := px) hN hi hx hf) hr hs
  refine ⟨fun pins s σ H vs us Q I r ⟨ds, δ, M, ι, δ', S, rd, q, z⟩ => h.run pins s σ H vs us Q I r ?_⟩
  cases ds with
  | nil => cases q
  | cons d ds =>
    obtain ⟨v, vr, rfl, r1, r2⟩ := rd
    exact ⟨v, vr, rfl, ds, _, M, ι, δ', S.set (d := .d d) r1, r2, q, z⟩
theorem setAll_len : ∀ {is : List Nat} {ds : List D} {δ δ' : DS}, setAll is ds δ = some δ' → ds.length = is.length
  | [], [], _, _, _ => rfl
  | [], _ :: _, _, _, h => by cases h
  | _ :: _, [], _, _, h => by cases h
  | i :: is, d :: ds, δ, δ', h => by simp [setAll_len (is := is) h]
theorem vg_tup {is : List Nat} {k : Nat} (hc : X.calm = true) (h : PGs X es (lGs X.K G is)) (hn : (assignEach es X.env).length = is.length := by rfl) (hst : (assignEach es X.env).findIdx? (·.1) = none := by rfl) : VG X G (.Tuple es k pos) (gTp is) := by
  have hg := pg_tup (pos := pos) (k := k) hc h hn hst
  refine ⟨fun pins s σ H v u Q I r ⟨d, δ, M, ι, Q0, S, rd, q, z⟩ => hg.run pins s σ H v u Q I r ?_⟩
  unfold gTp at q
  split at q
  · rename_i ds
    obtain ⟨δ', e, q⟩ := ok_elim q
    obtain ⟨a, xs, rfl, hq, _, r2⟩ := rd
    exact ⟨a, xs, rfl, tup_sq hq, by rw [← r2.length, setAll_len e], ds, δ, M, ι, δ', S, r2, e, fun σ' S' => z δ' M ι σ' H q (Ex.refl _) (Kp.refl _ _) S'⟩
  · exact q.elim
/-- target = value -/
def sAsg (t : TE') (g : TG') : TS' := fun E δ M => t δ M fun s M' => ok (dataS s) fun d => g d δ M' E.nx
end
end VL
set_option Elab.async false
set_option linter.all false
set_option maxRecDepth 100000
set_option maxHeartbeats 4000000
namespace VL
open PySem PySem.Spec L2
abbrev TI' := DS → Mem → (List D → (Mem → Prop) → Mem → Prop) → Prop
/-- at each turn, while gd stands, the iterator J gives the next of ds -/
def IterD (K : PySem.W.Frag) (G : Gd) (ι : Ix) (H : Hp) (J : It) (ds : List D) (gd : Mem → Prop) : Prop :=
  ∀ (G2 : Gd) (δ2 : DS) (M2 : Mem) (ι2 : Ix) (σ2 : L2.St) (H2 : Hp), (∀ b a o, H a = some o → G.N b a → G2.N b a) → Sr K G2 δ2 M2 ι2 σ2 H2 → Ex ι ι2 → Kp ι H ι2 H2 → gd M2 →
    J.stop ds.length H2 ∧ ∀ i d, ds[i]? = some d → J.go i H2 ∧ ∀ x H3, J.yld i H2 x H3 → (H3 = H2 ∨ ∃ p o, H2 p = none ∧ H3 = upd H2 p o) ∧ Sr K G2 δ2 M2 ι2 σ2 H3 ∧ Kp ι2 H2 ι2 H3 ∧ RD K G2.N H3 ι2 d x
def lI (K : PySem.W.Frag) (G : Gd) (bd : Bool) (it : TI') : TI := fun σ H R => ∃ δ M ι Q0, Sr K G δ M ι σ H ∧ it δ M Q0 ∧
  ∀ ds gd M' ι' H' J, (bd = true → ds.length ≤ sizeLine) → Q0 ds gd M' → Ex ι ι' → Kp ι H ι' H' → Sr K G δ M' ι' σ H' → IterD K G ι' H' J ds gd → R J H'
abbrev VI (X : Cx) (G : Gd) (bd : Bool) (tg e : Expr) (it : TI') : Prop := PI X tg e (lI X.K G bd it)
/-- the turns of a for; k: how many changing objects there were -/
def forL (k : Nat) (g : TG') (b : TS') (E : Ends') (gd : Mem → Prop) : List D → DS → Mem → Prop
  | [], δ, M => gd M ∧ E.nx δ M
  | d :: ds, δ, M => gd M ∧ g d δ M fun δ1 M1 => b ⟨fun δ' M' => forL k g b E gd ds (gcS k δ') (M'.take k), E.rt, E.nx, fun δ' M' => forL k g b E gd ds (gcS k δ') (M'.take k)⟩ δ1 M1
def sFor (it : TI') (g : TG') (b : TS') : TS' := fun E δ M => it δ M fun ds gd M' => forL M'.length g b E gd ds δ M'
section
variable {K : PySem.W.Frag} {X : Cx} {G : Gd} {e a b c tg iter elt : Expr} {st : Stmt} {body : List Stmt} {es : List Expr} {pos : Pos} {ta tb t : TE'} {tc : TT'} {s u : TS'} {it : TI'} {g : TG'}
theorem Sr.i0len {δ : DS} {M : Mem} {ι : Ix} {σ : L2.St} {H : Hp} (S : Sr K G δ M ι σ H) : G.i0.length ≤ M.length := by
  rw [S.mem.len]
  cases q : G.i0.length with
  | zero => exact Nat.zero_le _
  | succ n =>
    have h : n < G.i0.length := by omega
    exact (List.getElem?_eq_some_iff.mp (S.pre n _ (List.getElem?_eq_getElem h))).1
theorem ex_take {a b : Ix} (h : Ex a b) : Ex a (b.take a.length) := fun n o e => by
  have hlt := (List.getElem?_eq_some_iff.mp e).1
  rw [List.getElem?_take, if_pos hlt]; exact h n o e
theorem vs_for {bd : Bool} (hp : PassesOwn (model X.prog X.w) X.A X.env X.xe) (hc : X.calm = true) (hi : VI X G bd tg iter it) (hg : VG X G tg g) (hb : VSs X G body s)
    (hs : ∀ x, foldedSetIterable iter X.env x = pure x := by intro _; rfl) : VS X G (.For tg iter body [] pos) (sFor it g s) := by
  refine PS.weak (ps_for hp hc hi hg hb hs) fun E σ H ⟨δ, M, ι, E0, S, q, z⟩ => ?_
  refine ⟨δ, M, ι, _, S, q, fun ds gd M' ι' H' J _ q1 p1 k1 S1 hJ => ?_⟩
  have hk : G.i0.length ≤ M'.length := S1.i0len
  have hlen : M'.length = ι'.length := S1.mem.len
  refine ⟨fun i m σ2 H2 => m = ds.length - i ∧ i ≤ ds.length ∧ ∃ δ2 M2 ι2, Sr X.K G δ2 M2 ι2 σ2 H2 ∧ Ex ι' ι2 ∧ Kp ι' H' ι2 H2 ∧ forL M'.length g s E0 gd (ds.drop i) δ2 M2,
    ⟨ds.length, by simp, Nat.zero_le _, δ, M', ι', S1, Ex.refl _, Kp.refl _ _, by simpa using q1⟩, ?_⟩
  rintro i m σ2 H2 ⟨rfl, hi, δ2, M2, ι2, S2, e2, k2, q2⟩
  by_cases hlt : i < ds.length
  · have hd : ds.drop i = ds[i] :: ds.drop (i + 1) := List.drop_eq_getElem_cons hlt
    rw [hd] at q2
    obtain ⟨hgd, q2⟩ := q2
    obtain ⟨_, hgo⟩ := hJ G δ2 M2 ι2 σ2 H2 (fun _ _ _ _ z => z) S2 e2 k2 hgd
    obtain ⟨go, hy⟩ := hgo i ds[i] (List.getElem?_eq_getElem hlt)
    refine .inr ⟨go, fun σ3 H3 => ∃ δ3 M3 ι3, Sr X.K G δ3 M3 ι3 σ3 H3 ∧ Ex ι' ι3 ∧ Kp ι' H' ι3 H3 ∧ forL M'.length g s E0 gd (ds.drop (i + 1)) δ3 M3, fun σ3 H3 h3 => ⟨ds.length - (i + 1), by omega, rfl, hlt, h3⟩, fun x H3 y3 => ?_⟩
    obtain ⟨_, S3, k3, r3⟩ := hy x H3 y3
    refine ⟨_, δ2, M2, ι2, _, S3, r3, q2, fun δ4 M4 ι4 σ4 H4 q4 e4 k4 S4 => ?_⟩
    -- the state at the body's start: names since the loop's start
    have fin : ∀ δ5 M5 ι5 σ5 H5, Sr X.K G δ5 M5 ι5 σ5 H5 → Ex ι' ι5 → Kp ι' H' ι5 H5 → forL M'.length g s E0 gd (ds.drop (i + 1)) (gcS M'.length δ5) (M5.take M'.length) →
        ∃ δ3 M3 ι3, Sr X.K G δ3 M3 ι3 σ5 H5 ∧ Ex ι' ι3 ∧ Kp ι' H' ι3 H5 ∧ forL M'.length g s E0 gd (ds.drop (i + 1)) δ3 M3 := fun δ5 M5 ι5 σ5 H5 S5 e5 k5 q5 => by
      refine ⟨_, _, _, S5.gc M'.length hk, ?_, k5.trans (Kp.take _), q5⟩
      rw [hlen]; exact ex_take e5
    have Z := z
    refine ⟨δ4, M4, ι4, _, S4, q4, ⟨fun δ5 M5 ι5 σ5 H5 q5 e5 k5 S5 => ?_, fun d5 δ5 M5 ι5 σ5 H5 v5 q5 S5 r5 => ?_, fun δ5 M5 ι5 σ5 H5 q5 e5 k5 S5 => ?_, fun δ5 M5 ι5 σ5 H5 q5 e5 k5 S5 => ?_⟩⟩
    · exact fin δ5 M5 ι5 σ5 H5 S5 ((e2.trans e4).trans e5) (((k2.trans k3).trans k4).trans k5) q5
    · exact z.rt d5 δ5 M5 ι5 σ5 H5 v5 q5 S5 r5
    · exact z.nx δ5 M5 ι5 σ5 H5 q5 (p1.trans ((e2.trans e4).trans e5)) (k1.trans (((k2.trans k3).trans k4).trans k5)) S5
    · exact fin δ5 M5 ι5 σ5 H5 S5 ((e2.trans e4).trans e5) (((k2.trans k3).trans k4).trans k5) q5
  · have hd : ds.drop i = [] := List.drop_eq_nil_of_le (by omega)
    rw [hd] at q2
    obtain ⟨hgd, q2⟩ := q2
    obtain ⟨hst, _⟩ := hJ G δ2 M2 ι2 σ2 H2 (fun _ _ _ _ z => z) S2 e2 k2 hgd
    have e : i = ds.length := by omega
    subst e
    exact .inl ⟨hst, z.nx δ2 M2 ι2 σ2 H2 q2 (p1.trans e2) (k1.trans k2) S2⟩
end
end VL
set_option Elab.async false
set_option linter.all false
set_option maxRecDepth 100000
set_option maxHeartbeats 4000000
namespace VL
open PySem PySem.Spec L2 RT RZ
def gdS (s : Sv) (ds : List D) : Mem → Prop := match s with
  | .ref n => fun M => cellL M[n]? = some ds
  | _ => fun _ => True
def gdT : Mem → Prop := fun _ => True
/-- over a sequence -/
def iSq (t : TE') : TI' := fun δ M Q => t δ M fun s M1 => ok (lstD M1 s) fun ds => Q ds (gdS s ds) M1
def iPq (p : PV) : TI' := fun δ M Q => ok (p δ M) fun s => ok (seqD M s) fun ds => Q ds (gdS s ds) M
def rgL (lo : Int) (n : Nat) : List D := (List.range n).map fun i => .int (lo + (i : Nat))
def rgC (lo c : Int) (n : Nat) : List D := (List.range n).map fun i => .int (lo + (i : Nat) * c)
abbrev I62 (i : Int) : Prop := -(2 ^ 62) ≤ i ∧ i < 2 ^ 62
def rngD : List Sv → (List D → Prop) → Prop
  | [.d (.int j)], k => I62 j ∧ k (rgL 0 j.toNat)
  | [.d (.int i), .d (.int j)], k => (I62 i ∧ I62 j) ∧ k (rgL i (j - i).toNat)
  | [.d (.int i), .d (.int j), .d (.int c)], k => (c ≠ 0 ∧ c.natAbs < 1073741824 ∧ Builtin.Range.small i j c = true) ∧ k (rgC i c (Builtin.Range.rangeSize i j c).toNat)
  | _, _ => False
def iRg (bd : Bool) (t : TA') : TI' := fun δ M Q => t δ M fun xs M1 => rngD xs fun ds => (bd = true → ds.length ≤ sizeLine) ∧ Q ds gdT M1
def enumL (ds : List D) : List D := ds.zipIdx.map fun p => .tup [.int (p.2 : Nat), p.1]
def iEn (t : TE') : TI' := fun δ M Q => t δ M fun s M1 => ok (lstD M1 s) fun ds => Q (enumL ds) (gdS s ds) M1
def tupD : Sv → Option (List D)
  | .d (.tup ds) => some ds
  | _ => none
section
variable {K : PySem.W.Frag} {X : Cx} {G : Gd} {e e2 a b c tg iter elt : Expr} {es : List Expr} {pos p : Pos} {ta tb t : TE'} {it : TI'}
theorem VI.weak {bd : Bool} {it' : TI'} (h : VI X G bd tg e it) (w : ∀ δ M Q, it' δ M Q → it δ M Q) : VI X G bd tg e it' :=
  ⟨fun pins s σ H R I ⟨δ, M, ι, Q0, S, q, z⟩ => h.run pins s σ H R I ⟨δ, M, ι, Q0, S, w _ _ _ q, z⟩⟩
/-- a list stays to be read -/
theorem list_stays {ι : Ix} {H : Hp} {δ : DS} {M : Mem} {σ : L2.St} {s : Sv} {v : V} {ds : List D} (S : Sr K G δ M ι σ H) (r : RS K G.N H ι s v) (e : lstD M s = some ds) :
    ∃ a, v = .ref a ∧ (∃ xs, SqL K H a xs ∧ RDs K G.N H ι ds xs) ∧ ds.length ≤ sizeLine ∧ ∀ (G2 : Gd) (δ2 : DS) (M2 : Mem) (ι2 : Ix) (σ2 : L2.St) (H2 : Hp), (∀ b a o, H a = some o → G.N b a → G2.N b a) → Sr K G2 δ2 M2 ι2 σ2 H2 → Ex ι ι2 → Kp ι H ι2 H2 → gdS s ds M2 → ∃ xs, SqL K H2 a xs ∧ RDs K G2.N H2 ι2 ds xs := by
  cases s with
  | ref n =>
    obtain ⟨a, rfl, hn, xs, q, hl, r⟩ := S.mem.at r (cellL_some (show cellL M[n]? = some ds from e)) (fun z => nomatch z)
    refine ⟨a, rfl, ⟨xs, SqL.of q, r⟩, hl, fun G2 δ2 M2 ι2 σ2 H2 hn2 S2 e2 k2 hg => ?_⟩
    have hM := cellL_some (show cellL M2[n]? = some ds from hg)
    rcases e2 n _ hn with h | h
    · obtain ⟨xs2, q2, _, r2⟩ := S2.mem.cell n _ a hM h
      exact ⟨xs2, SqL.of q2, r2⟩
    · rw [S2.mem.gone n h] at hM; cases hM
  | bor es =>
    cases e
    obtain ⟨a, xs, rfl, q, n, _, hl, r⟩ := r
    exact ⟨a, rfl, ⟨xs, SqL.of q, r⟩, hl, fun G2 δ2 M2 ι2 σ2 H2 hn2 S2 e2 k2 hg => ⟨xs, SqL.of (k2 a _ q n).1, r.mono k2 hn2⟩⟩
  | d d =>
    cases d with
    | lst es =>
      cases e
      obtain ⟨a, xs, rfl, q, n, _, hl, r⟩ := r
      exact ⟨a, rfl, ⟨xs, SqL.of q, r⟩, hl, fun G2 δ2 M2 ι2 σ2 H2 hn2 S2 e2 k2 hg => ⟨xs, SqL.of (k2 a _ q n).1, r.mono k2 hn2⟩⟩
    | scr ns =>
      cases e
      obtain ⟨a, rfl, ⟨o, q, n⟩ | q, hl⟩ := r
      · exact ⟨a, rfl, ⟨_, .inl (.inr ⟨o, q⟩), RDs.of_ints ns⟩, by simpa using hl, fun G2 δ2 M2 ι2 σ2 H2 hn2 S2 e2 k2 hg => ⟨_, .inl (.inr ⟨o, (k2 a _ q n).1⟩), RDs.of_ints ns⟩⟩
      · exact ⟨a, rfl, ⟨_, .inr q, RDs.of_ints ns⟩, by simpa using hl, fun G2 δ2 M2 ι2 σ2 H2 hn2 S2 e2 k2 hg => ⟨_, .inr q, RDs.of_ints ns⟩⟩
    | _ => cases e
theorem tup_stays {ι : Ix} {H : Hp} {v : V} {ds : List D} (r : RD K G.N H ι (.tup ds) v) :
    ∃ a, v = .ref a ∧ (∃ xs, SqT K H a xs) ∧ ds.length ≤ sizeLine ∧ ∀ (G2 : Gd) (ι2 : Ix) (H2 : Hp), (∀ b a o, H a = some o → G.N b a → G2.N b a) → Kp ι H ι2 H2 → ∃ xs, SqT K H2 a xs ∧ RDs K G2.N H2 ι2 ds xs := by
  obtain ⟨a, xs, rfl, q, hl, r⟩ := r
  refine ⟨a, rfl, ⟨xs, tup_sq q⟩, hl, fun G2 ι2 H2 hn2 k2 => ⟨xs, ?_, r.mono k2 hn2⟩⟩
  rcases q with ⟨q, n⟩ | q
  · exact SqT.of (k2 a _ q n).1
  · exact .inr q
theorem iter_l {ι : Ix} {H : Hp} {a : Addr} {ds : List D} {gd : Mem → Prop}
    (h : ∀ (G2 : Gd) (δ2 : DS) (M2 : Mem) (ι2 : Ix) (σ2 : L2.St) (H2 : Hp), (∀ b a o, H a = some o → G.N b a → G2.N b a) → Sr K G2 δ2 M2 ι2 σ2 H2 → Ex ι ι2 → Kp ι H ι2 H2 → gd M2 → ∃ xs, SqL K H2 a xs ∧ RDs K G2.N H2 ι2 ds xs) : IterD K G ι H (Itl K a) ds gd := by
  intro G2 δ2 M2 ι2 σ2 H2 hn2 S2 e2 k2 hg
  obtain ⟨xs, q, r⟩ := h G2 δ2 M2 ι2 σ2 H2 hn2 S2 e2 k2 hg
  refine ⟨⟨xs, q, by rw [r.length]; exact Nat.le_refl _⟩, fun i d hd => ?_⟩
  obtain ⟨v, hv, rv⟩ := r.get hd
  refine ⟨⟨xs, v, q, hv⟩, fun x H3 y => ?_⟩
  obtain ⟨rfl, y⟩ := y
  have : x = v := Option.some.inj ((y xs q).symm.trans hv)
  subst this
  exact ⟨.inl rfl, S2, Kp.refl _ _, rv⟩
theorem iter_t {ι : Ix} {H : Hp} {a : Addr} {ds : List D} {gd : Mem → Prop}
    (h : ∀ (G2 : Gd) (ι2 : Ix) (H2 : Hp), (∀ b a o, H a = some o → G.N b a → G2.N b a) → Kp ι H ι2 H2 → ∃ xs, SqT K H2 a xs ∧ RDs K G2.N H2 ι2 ds xs) : IterD K G ι H (Itt K a) ds gd := by
  intro G2 δ2 M2 ι2 σ2 H2 hn2 S2 e2 k2 hg
  obtain ⟨xs, q, r⟩ := h G2 ι2 H2 hn2 k2
  refine ⟨⟨xs, q, by rw [r.length]; exact Nat.le_refl _⟩, fun i d hd => ?_⟩
  obtain ⟨v, hv, rv⟩ := r.get hd
  refine ⟨⟨xs, v, q, hv⟩, fun x H3 y => ?_⟩
  obtain ⟨rfl, y⟩ := y
  have : x = v := Option.some.inj ((y xs q).symm.trans hv)
  subst this
  exact ⟨.inl rfl, S2, Kp.refl _ _, rv⟩
/-- a list -/
theorem vi_sq {bd : Bool} (h : VE X G e t) : VI X G bd tg e (iSq t) := by
  have hi := pi_list (tg := tg) h
  refine ⟨fun pins s σ H R I ⟨δ, M, ι, Q0, S, q, z⟩ => hi.run pins s σ H R I ?_⟩
  refine th1 S q fun x M1 ι1 H1 v q1 p1 k1 S1 r1 => ?_
  obtain ⟨ds, e1, q1⟩ := ok_elim q1
  obtain ⟨a, rfl, ⟨xs, hq, _⟩, hl, st⟩ := list_stays S1 r1 e1
  exact ⟨a, rfl, ⟨xs, hq⟩, z ds _ M1 ι1 H1 _ (fun _ => hl) q1 p1 k1 S1 (iter_l st)⟩
/-- a list or a tuple, known ahead -/
theorem vi_pq {bd : Bool} {pv : PV} (h : VE X G e (eP pv)) : VI X G bd tg e (iPq pv) := by
  have hi := pi_list (tg := tg) h
  have ht := pi_tup (tg := tg) h
  refine ⟨fun pins s σ H R I ⟨δ, M, ι, Q0, S, q, z⟩ => ?_⟩
  obtain ⟨x, e1, q⟩ := ok_elim q
  obtain ⟨ds, e2, q⟩ := ok_elim q
  by_cases hx : ∃ es, x = .d (.tup es)
  · obtain ⟨es, rfl⟩ := hx
    cases e2
    refine ht.run pins s σ H R I ?_
    refine th1 (Q0 := fun d M' => d = .d (.tup ds) ∧ M' = M) S (ok_of e1 ⟨rfl, rfl⟩) fun x M1 ι1 H1 v q1 p1 k1 S1 r1 => ?_
    obtain ⟨rfl, rfl⟩ := q1
    obtain ⟨a, rfl, hq, hl, st⟩ := tup_stays (K := X.K) (G := G) r1
    exact ⟨a, rfl, hq, z ds _ M1 ι1 H1 _ (fun _ => hl) q p1 k1 S1 (iter_t st)⟩
  · have e3 : lstD M x = some ds := by
      cases x with
      | d x =>
        cases x with
        | tup es => exact absurd ⟨es, rfl⟩ hx
        | lst es => exact e2
        | scr es => exact e2
        | _ => cases e2
      | ref n => exact e2
      | bor n => exact e2
    refine hi.run pins s σ H R I ?_
    refine th1 (Q0 := fun d M' => d = x ∧ M' = M) S (ok_of e1 ⟨rfl, rfl⟩) fun x M1 ι1 H1 v q1 p1 k1 S1 r1 => ?_
    obtain ⟨rfl, rfl⟩ := q1
    obtain ⟨a, rfl, ⟨xs, hq, _⟩, hl, st⟩ := list_stays S1 r1 e3
    exact ⟨a, rfl, ⟨xs, hq⟩, z ds _ M1 ι1 H1 _ (fun _ => hl) q p1 k1 S1 (iter_l st)⟩
theorem rg_get {lo : Int} {n i : Nat} {d : D} (h : (rgL lo n)[i]? = some d) : i < n ∧ d = .int (lo + (i : Nat)) := by
  unfold rgL at h
  rw [List.getElem?_map] at h
  obtain ⟨j, h1, rfl⟩ := Option.map_eq_some_iff.mp h
  obtain ⟨h2, h3⟩ := List.getElem?_eq_some_iff.mp h1
  simp at h2 h3
  subst h3
  exact ⟨h2, rfl⟩
theorem rgL_len (lo : Int) (n : Nat) : (rgL lo n).length = n := by simp [rgL]
theorem rgc_get {lo c : Int} {n i : Nat} {d : D} (h : (rgC lo c n)[i]? = some d) : i < n ∧ d = .int (lo + (i : Nat) * c) := by
  unfold rgC at h
  rw [List.getElem?_map] at h
  obtain ⟨j, h1, rfl⟩ := Option.map_eq_some_iff.mp h
  obtain ⟨h2, h3⟩ := List.getElem?_eq_some_iff.mp h1
  simp at h2 h3
  subst h3
  exact ⟨h2, rfl⟩
theorem rgC_len (lo c : Int) (n : Nat) : (rgC lo c n).length = n := by simp [rgC]
theorem iter_r {ι : Ix} {H : Hp} {lo : Int} {n : Nat} {gd : Mem → Prop} : IterD K G ι H (Itr lo n) (rgL lo n) gd := by
  intro G2 δ2 M2 ι2 σ2 H2 hn2 S2 e2 k2 hg
  refine ⟨by rw [rgL_len]; exact Nat.le_refl _, fun i d hd => ?_⟩
  obtain ⟨h1, rfl⟩ := rg_get hd
  refine ⟨h1, fun x H3 y => ?_⟩
  obtain ⟨rfl, rfl⟩ := y
  exact ⟨.inl rfl, S2, Kp.refl _ _, rfl⟩
theorem iter_rc {ι : Ix} {H : Hp} {lo c : Int} {n : Nat} {gd : Mem → Prop} : IterD K G ι H (Itc lo c n) (rgC lo c n) gd := by
  intro G2 δ2 M2 ι2 σ2 H2 hn2 S2 e2 k2 hg
  refine ⟨by rw [rgC_len]; exact Nat.le_refl _, fun i d hd => ?_⟩
  obtain ⟨h1, rfl⟩ := rgc_get hd
  refine ⟨h1, fun x H3 y => ?_⟩
  obtain ⟨rfl, rfl⟩ := y
  exact ⟨.inl rfl, S2, Kp.refl _ _, rfl⟩
theorem len3 {α : Type} {xs : List α} (h : xs.length = 3) : ∃ x y z, xs = [x, y, z] := by
  match xs, h with
  | [x, y, z], _ => exact ⟨x, y, z, rfl⟩
theorem vi_range1 {bd : Bool} {tA : TA'} (hg : Gl X "range") (hm : X.mg "range" = none) (ha : VA X G [a] 1 tA) (hs : starEach [a] X.env = [(false, eval a X.env)] := by rfl) : VI X G bd tg (.Call (.Name "range" p) [a] [] pos) (iRg bd tA) := by
  have hi := pi_range1 (tg := tg) (p := p) (pos := pos) hg hm ha hs
  refine ⟨fun pins s σ H R I ⟨δ, M, ι, Q0, S, q, z⟩ => hi.run pins s σ H R I ?_⟩
  refine thA S q fun xs M1 ι1 H1 vs hl q1 p1 k1 S1 r1 => ?_
  obtain ⟨x, rfl⟩ : ∃ x, xs = [x] := List.length_eq_one_iff.mp hl
  obtain ⟨v, rfl, rv⟩ := one_of r1
  unfold rngD at q1
  split at q1
  · rename_i j hj
    cases hj
    cases (show _ = _ from rv)
    exact ⟨_, rfl, q1.1.1, q1.1.2, z _ _ M1 ι1 H1 _ q1.2.1 q1.2.2 p1 k1 S1 iter_r⟩
  · rename_i hj; cases hj
  · rename_i hj; cases hj
  · exact q1.elim
theorem fin_pair {δ : DS} {M : Mem} {ι : Ix} {σ : L2.St} {H : Hp} {d1 d2 : D} {x y : V} {p : Addr} (S : Sr K G δ M ι σ H) (hp : H p = none) (r1 : RD K G.N H ι d1 x) (r2 : RD K G.N H ι d2 y) :
    Sr K G δ M ι σ (upd H p (.tup [x, y])) ∧ Kp ι H ι (upd H p (.tup [x, y])) ∧ RD K G.N (upd H p (.tup [x, y])) ι (.tup [d1, d2]) (.ref p) := by
  refine ⟨S.laid hp, Kp.laid hp, p, [x, y], rfl, .inl ⟨upd_same, S.mem.fresh hp⟩, by show 2 ≤ sizeLine; decide, x, [y], rfl, RD.mono (Kp.laid hp) (fun _ _ _ _ z => z) _ _ r1, y, [], rfl, RD.mono (Kp.laid hp) (fun _ _ _ _ z => z) _ _ r2, rfl⟩
theorem enum_get {ds : List D} {i : Nat} {d : D} (h : (enumL ds)[i]? = some d) : ∃ d0, ds[i]? = some d0 ∧ d = .tup [.int (i : Nat), d0] := by
  unfold enumL at h
  rw [List.getElem?_map, List.getElem?_zipIdx] at h
  cases q : ds[i]? with
  | none => rw [q] at h; cases h
  | some d0 => rw [q] at h; simp at h; exact ⟨d0, rfl, h.symm⟩
theorem enumL_len (ds : List D) : (enumL ds).length = ds.length := by simp [enumL]
theorem vi_enum {bd : Bool} {elts : List Expr} {kk : Nat} {tpos : Pos} (hg : Gl X "enumerate") (hm : X.mg "enumerate" = none) (h : VE X G e t) (hs : starEach [e] X.env = [(false, eval e X.env)] := by rfl) : VI X G bd (.Tuple elts kk tpos) (.Call (.Name "enumerate" p) [e] [] pos) (iEn t) := by
  have hi := pi_enum (tpos := tpos) (elts := elts) (kk := kk) (p := p) (pos := pos) hg hm (pa_cons h pa_nil (by rw [hs]; rfl)) hs
  refine ⟨fun pins s σ H R I ⟨δ, M, ι, Q0, S, q, z⟩ => hi.run pins s σ H R I ?_⟩
  refine th1 S q fun x M1 ι1 H1 v q1 p1 k1 S1 r1 => ?_
  obtain ⟨ds, e1, q1⟩ := ok_elim q1
  obtain ⟨a, rfl, ⟨xs, hq, _⟩, hl, st⟩ := list_stays S1 r1 e1
  refine ⟨a, xs, rfl, hq, z _ _ M1 ι1 H1 _ (fun _ => by rw [enumL_len]; exact hl) q1 p1 k1 S1 ?_⟩
  intro G2 δ2 M2 ι2 σ2 H2 hn2 S2 e2 k2 hg
  obtain ⟨ys, qy, ry⟩ := st G2 δ2 M2 ι2 σ2 H2 hn2 S2 e2 k2 hg
  have w := walk_enum (K := X.K) (a := a) (xs := ys)
  refine ⟨by rw [enumL_len, ry.length]; exact w.stops H2 qy, fun i d hd => ?_⟩
  obtain ⟨d0, h0, rfl⟩ := enum_get hd
  obtain ⟨y, hy, ryy⟩ := ry.get h0
  have hlt := (List.getElem?_eq_some_iff.mp hy).1
  refine ⟨w.goes i H2 hlt qy, fun x H3 hyl => ?_⟩
  obtain ⟨T, x1, y1, rfl, hT, rfl, h5, h6⟩ := w.yields i H2 x H3 hlt qy hyl
  cases h5
  have h6 : ys[i]? = some y1 := h6
  rw [hy] at h6; cases h6
  exact ⟨.inr ⟨T, _, hT, rfl⟩, fin_pair S2 hT rfl ryy⟩
end
end VL
set_option Elab.async false
set_option linter.all false
set_option maxRecDepth 100000
set_option maxHeartbeats 4000000
namespace VL
open PySem PySem.Spec L2 RT RZ
def wipeS (δ : DS) : List Nat → DS
  | [] => δ
  | v :: vs => (wipeS δ vs).set v none
/-- a target in a comprehension -/
inductive LcG where
  | nm (i : Nat) | tp (is : List Nat)
def LcG.names : LcG → List Nat
  | .nm i => [i]
  | .tp is => is
def LcG.to : LcG → TG'
  | .nm i => gNm i
  | .tp is => gTp is
def lcL (g : TG') (tt : TT') (te : TE') (δw : DS) (gd : Mem → Prop) (Q : List D → Mem → Prop) : List D → List D → Mem → Prop
  | [], acc, M => gd M ∧ Q acc M
  | d :: ds, acc, M => gd M ∧ g d δw M fun δ2 M2 => tt δ2 M2 fun b M3 =>
      if b then te δ2 M3 fun s M4 => ok (dataS s) fun y => lcL g tt te δw gd Q ds (acc ++ [y]) M4 else lcL g tt te δw gd Q ds acc M3
def fLc (it : TI') (g : LcG) (tt : TT') (te : TE') (vs : List Nat) : TF' := fun δ M Q => it δ M fun ds gd M1 => lcL g.to tt te (wipeS δ vs) gd Q ds [] M1
def tYs : TT' := fun _ M Q => Q true M
section
variable {K : PySem.W.Frag} {X : Cx} {G : Gd} {δ : DS} {M : Mem} {ι : Ix} {σ : L2.St} {H H' : Hp}
theorem wipe_get (σ : L2.St) (j : Nat) : ∀ vs : List Nat, (wipe σ vs)[j]? = if j ∈ vs then (σ[j]?).map (fun _ => none) else σ[j]?
  | [] => by simp [wipe]
  | v :: vs => by
    unfold wipe
    have ih := wipe_get σ j vs
    by_cases h : v = j
    · subst h
      rw [if_pos List.mem_cons_self, List.getElem?_set_self']
      rw [ih]
      split <;> cases σ[v]? <;> rfl
    · rw [List.getElem?_set_ne h, ih]
      have : (j ∈ v :: vs) ↔ j ∈ vs := by simp [Ne.symm h]
      simp only [this]
theorem wipeS_get (σ : DS) (j : Nat) : ∀ vs : List Nat, (wipeS σ vs)[j]? = if j ∈ vs then (σ[j]?).map (fun _ => none) else σ[j]?
  | [] => by simp [wipeS]
  | v :: vs => by
    unfold wipeS
    have ih := wipeS_get σ j vs
    by_cases h : v = j
    · subst h
      rw [if_pos List.mem_cons_self, List.getElem?_set_self']
      rw [ih]
      split <;> cases σ[v]? <;> rfl
    · rw [List.getElem?_set_ne h, ih]
      have : (j ∈ v :: vs) ↔ j ∈ vs := by simp [Ne.symm h]
      simp only [this]
theorem wipe_set (σ : L2.St) (vs : List Nat) {i : Nat} (x : Option V) (hi : i ∈ vs) : wipe (σ.set i x) vs = wipe σ vs := by
  apply List.ext_getElem?
  intro j
  rw [wipe_get, wipe_get]
  by_cases h : i = j
  · subst h
    rw [if_pos hi, if_pos hi, List.getElem?_set_self']
    cases σ[i]? <;> rfl
  · rw [List.getElem?_set_ne h]
theorem Sr.wiped (S : Sr K G δ M ι σ H) (vs : List Nat) : Sr K G (wipeS δ vs) M ι (wipe σ vs) H := by
  refine ⟨?_, fun i d e => ?_, S.mem, S.pre, S.kp, S.new, S.bad, S.hid, S.obk⟩
  · have h2 : (wipeS δ vs).length = δ.length := by
      induction vs with
      | nil => rfl
      | cons v vs ih => unfold wipeS; rw [List.length_set, ih]
    rw [wipe_length, h2]; exact S.len
  · rw [wipeS_get] at e
    split at e
    · cases q : δ[i]? with
      | none => rw [q] at e; cases e
      | some o => rw [q] at e; cases e
    · rename_i hn
      obtain ⟨v, e1, r⟩ := S.slot i d e
      exact ⟨v, by rw [wipe_get, if_neg hn]; exact e1, r⟩
/-- behind the block: the slots of the def again -/
theorem Sr.back {δ' : DS} {M' : Mem} {ι' : Ix} {σ' : L2.St} (S : Sr K G δ M ι σ H) (S' : Sr K G δ' M' ι' σ' H') (p : Ex ι ι') (k : Kp ι H ι' H') : Sr K G δ M' ι' σ H' :=
  ⟨S.len, fun i d e => by
    obtain ⟨v, e1, r⟩ := S.slot i d e
    exact ⟨v, e1, r.mono k p fun _ _ _ _ z => z⟩, S'.mem, S'.pre, S'.kp, S'.new, S'.bad, S'.hid, S'.obk⟩
/-- the ground while a list at p is just being made -/
def Gd.hide (G : Gd) (p : Addr) : Gd := { G with Hd := fun a => G.Hd a ∨ a = p }
mutual
theorem RD.hide {N N' : Bool → Addr → Prop} {H' : Hp} (hk : ∀ a o, H a = some o → (∀ xs, o = .lst xs → (∃ b, N b a)) → H' a = some o) (hn : ∀ b a o, H a = some o → N b a → N' b a) : ∀ (d : D) (v : V), RD K N H ι d v → RD K N' H' ι d v
  | .non, _, h => h
  | .bl _, _, h => h
  | .int _, _, h => h
  | .str _, _, h => h
  | .fn _, _, h => h
  | .ty _, _, h => h
  | .cls _, _, h => h
  | .exc _ f, v, h => by
    obtain ⟨a, oe, vs, e, q, n, c, d, x⟩ := h
    exact ⟨a, oe, vs, e, hk a _ q (fun xs z => nomatch z), n, c, d, x.map fun b o l q n => ⟨hk b _ q (fun xs z => nomatch z), n⟩⟩
  | .dn ks ds, v, h => by
    obtain ⟨a, xs, o, e, q, n, z, r1, r2⟩ := h
    exact ⟨a, xs, o, e, hk a _ q (fun xs z => nomatch z), n, z, RDs.hide hk hn ks _ r1, RDs.hide hk hn ds _ r2⟩
  | .dk ks ds, v, h => by
    obtain ⟨a, ws, o, e, q, n, z, r⟩ := h
    exact ⟨a, ws, o, e, hk a _ q (fun xs z => nomatch z), n, z, RDs.hide hk hn ds _ r⟩
  | .scr ns, v, h => by
    obtain ⟨a, e, ⟨o, q, n⟩ | q, l⟩ := h
    · exact ⟨a, e, .inl ⟨o, hk a _ q (fun xs z => nomatch z), n⟩, l⟩
    · exact ⟨a, e, .inr q, l⟩
  | .tup ds, v, h => by
    obtain ⟨a, xs, e, q, l, r⟩ := h
    refine ⟨a, xs, e, ?_, l, RDs.hide hk hn ds xs r⟩
    rcases q with ⟨q, n⟩ | q
    · exact .inl ⟨hk a _ q (fun xs z => nomatch z), n⟩
    · exact .inr q
  | .lst ds, v, h => by
    obtain ⟨a, xs, e, q, n, z, l, r⟩ := h
    exact ⟨a, xs, e, hk a _ q (fun _ _ => ⟨_, z⟩), n, hn _ a _ q z, l, RDs.hide hk hn ds xs r⟩
theorem RDs.hide {N N' : Bool → Addr → Prop} {H' : Hp} (hk : ∀ a o, H a = some o → (∀ xs, o = .lst xs → (∃ b, N b a)) → H' a = some o) (hn : ∀ b a o, H a = some o → N b a → N' b a) : ∀ (ds : List D) (vs : List V), RDs K N H ι ds vs → RDs K N' H' ι ds vs
  | [], _, h => h
  | d :: ds, vs, h => by
    obtain ⟨x, r, e, h1, h2⟩ := h
    exact ⟨x, r, e, RD.hide hk hn d x h1, RDs.hide hk hn ds r h2⟩
end
theorem RIs.hide {N N' : Bool → Addr → Prop} {H' : Hp} (hk : ∀ a o, H a = some o → (∀ xs, o = .lst xs → (∃ b, N b a)) → H' a = some o) (hn : ∀ b a o, H a = some o → N b a → N' b a) : ∀ {its : List (D ⊕ Nat)} {vs : List V}, RIs K N H ι its vs → RIs K N' H' ι its vs
  | [], _, h => h
  | .inl d :: its, vs, h => by
    obtain ⟨x, r, e, h1, h2⟩ := h
    exact ⟨x, r, e, RD.hide hk hn d x h1, RIs.hide hk hn h2⟩
  | .inr n :: its, vs, h => by
    obtain ⟨x, r, e, h1, h2⟩ := h
    exact ⟨x, r, e, h1, RIs.hide hk hn h2⟩
/-- the state seen otherwise: all things of it stay, the ground changes in what is hidden -/
theorem Sr.hideG {G' : Gd} {H' : Hp} (S : Sr K G δ M ι σ H) (g1 : G'.He = G.He) (g2 : G'.i0 = G.i0) (g3 : G'.B = G.B) (hk : ∀ a o, H a = some o → (∀ xs, o = .lst xs → (∃ b, G.N b a) ∨ some a ∈ ι) → H' a = some o) (hn : ∀ b a o, H a = some o → G.N b a → G'.N b a)
    (kp : Kp (G.i0.map some) G.He ι H') (hid : ∀ a, G'.Hd a → some a ∉ ι ∧ ∃ o, H' a = some o) : Sr K G' δ M ι σ H' := by
  have hk' : ∀ a o, H a = some o → (∀ xs, o = .lst xs → (∃ b, G.N b a)) → H' a = some o := fun a o e z => hk a o e fun xs h => .inl (z xs h)
  refine ⟨S.len, fun i d e => ?_, ⟨S.mem.len, S.mem.nod, fun n c a e1 e2 => ?_, S.mem.gone, S.mem.wf⟩, by rw [g2]; exact S.pre, by rw [g1, g2]; exact kp, by rw [g1, g2]; exact S.new, by rw [g1, g3]; exact S.bad, hid, by
    rw [g1, g2]
    refine S.obk.trans fun a ha => ?_
    obtain ⟨n, hn⟩ := List.getElem?_of_mem ha
    have hi := List.mem_of_getElem? (S.pre n a hn)
    obtain ⟨u, hu⟩ := S.i0there a ha
    have e9 := hk a u hu (fun xs _ => .inr hi)
    rw [show H' a = H a from e9.trans hu.symm]
    exact ⟨fun C dx fs e => ⟨fs, e, SameF.refl fs⟩, fun C dx fs e => ⟨fs, e⟩⟩⟩
  · obtain ⟨v, e1, r⟩ := S.slot i d e
    refine ⟨v, e1, ?_⟩
    cases d with
    | d x => exact RD.hide hk' hn x v r
    | ref n => exact r
    | bor ds =>
      obtain ⟨a, xs, e2, q, n, z, l, r⟩ := r
      exact ⟨a, xs, e2, hk' a _ q (fun _ _ => ⟨_, z⟩), n, hn _ a _ q z, l, RDs.hide hk' hn ds xs r⟩
  · have h := S.mem.cell n c a e1 e2
    cases c with
    | gone => exact h
    | lst ds => obtain ⟨xs, q, l, r⟩ := h; exact ⟨xs, hk a _ q (fun _ _ => .inr (List.mem_of_getElem? e2)), l, RDs.hide hk' hn ds xs r⟩
    | dk kvs => obtain ⟨ws, q, z, r⟩ := h; exact ⟨ws, hk a _ q (fun xs z => nomatch z), z, RDs.hide hk' hn _ _ r⟩
    | dn kvs => obtain ⟨xs, q, z, r1, r2⟩ := h; exact ⟨xs, hk a _ q (fun xs z => nomatch z), z, RDs.hide hk' hn _ _ r1, RDs.hide hk' hn _ _ r2⟩
    | dw w kvs => obtain ⟨xs, q, z, r1, r2⟩ := h; exact ⟨xs, hk a _ q (fun xs z => nomatch z), z, RDs.hide hk' hn _ _ r1, RDs.hide hk' hn _ _ r2⟩
    | nd k its =>
      obtain ⟨xs, q, l, r⟩ := h
      refine ⟨xs, ?_, l, RIs.hide hk' hn r⟩
      cases k with
      | ob c fs => obtain ⟨dx, q1, q2, q3, q4⟩ := q; exact ⟨dx, hk a _ q1 (fun xs z => nomatch z), hk dx _ q2 (fun xs z => nomatch z), q3, q4⟩
end
end VL
set_option Elab.async false
set_option linter.all false
set_option maxRecDepth 100000
set_option maxHeartbeats 4000000
namespace VL
open PySem PySem.Spec L2 RT RZ
/-- a comprehension's target, as the layer below reads it -/
def LcG.raw (K : PySem.W.Frag) : LcG → TG
  | .nm i => gName i
  | .tp is => gTup K is.length (is.foldr (fun i r => gCons (gName i) r) gNil)
section
variable {K : PySem.W.Frag} {X : Cx} {G : Gd} {δ : DS} {M : Mem} {ι : Ix} {σ : L2.St} {H H' : Hp}
theorem raw_names {vs : List Nat} {σ0 : L2.St} : ∀ {is : List Nat} {ds : List D} {xs : List V} {δ : DS} {σ : L2.St} {Q : L2.St → Hp → Prop}, Sr K G δ M ι σ H → RDs K G.N H ι ds xs → (∀ i ∈ is, i ∈ vs) → wipe σ vs = wipe σ0 vs →
    ∀ δ', setAll is ds δ = some δ' → (∀ σ', Sr K G δ' M ι σ' H → wipe σ' vs = wipe σ0 vs → Q σ' H) → is.foldr (fun i r => gCons (gName i) r) gNil xs σ H Q
  | [], ds, xs, δ, σ, Q, S, r, hv, hw, δ', e, z => by
    cases ds with
    | nil => cases e; cases (show _ = _ from r); exact ⟨rfl, z σ S hw⟩
    | cons d ds => cases e
  | i :: is, ds, xs, δ, σ, Q, S, r, hv, hw, δ', e, z => by
    cases ds with
    | nil => cases e
    | cons d ds =>
      obtain ⟨v, vr, rfl, r1, r2⟩ := r
      refine ⟨v, vr, rfl, ?_⟩
      exact raw_names (σ := σ.set i (some v)) (S.set (d := .d d) r1) r2 (fun j hj => hv j (List.mem_cons_of_mem _ hj)) ((wipe_set σ vs (some v) (hv i List.mem_cons_self)).trans hw) δ' e z
theorem raw_of {g : LcG} {vs : List Nat} {σ0 : L2.St} {d : D} {v : V} {Q0 : DS → Mem → Prop} {Q : L2.St → Hp → Prop} (S : Sr K G δ M ι σ H) (r : RD K G.N H ι d v) (hv : ∀ i ∈ g.names, i ∈ vs) (hw : wipe σ vs = wipe σ0 vs) (h : g.to d δ M Q0)
    (z : ∀ δ' σ', Q0 δ' M → Sr K G δ' M ι σ' H → wipe σ' vs = wipe σ0 vs → Q σ' H) : g.raw K v σ H Q := by
  cases g with
  | nm i => exact z _ _ h (S.set (d := .d d) r) ((wipe_set σ vs (some v) (hv i List.mem_cons_self)).trans hw)
  | tp is =>
    simp only [LcG.to, gTp] at h
    split at h
    · rename_i ds
      obtain ⟨δ', e, h⟩ := ok_elim h
      obtain ⟨a, xs, rfl, q, _, r⟩ := r
      exact ⟨a, xs, rfl, tup_sq q, by rw [← r.length, setAll_len e], raw_names S r hv hw δ' e fun σ' S' hw' => z δ' σ' h S' hw'⟩
    · exact h.elim
theorem wipe_wipe (σ : L2.St) (vs : List Nat) : wipe (wipe σ vs) vs = wipe σ vs := by
  apply List.ext_getElem?
  intro j
  rw [wipe_get, wipe_get]
  split
  · cases σ[j]? <;> rfl
  · rfl
abbrev VTs (X : Cx) (G : Gd) (es : List Expr) (t : TT') : Prop := PTs X es (lT X.K G t)
theorem vts_nil : VTs X G [] tYs := ⟨fun pins s σ H Q I ⟨δ, M, ι, Q0, S, q, z⟩ => pts_nil.run pins s σ H Q I (z true M ι H q (Ex.refl _) (Kp.refl _ _) S)⟩
theorem vts_one {c : Expr} {t : TT'} (h : VT X G c t) : VTs X G [c] t := pts_one h
/-- a comprehension's reading, in the layer below (the ground of the elements is not known ahead: tests and elements under any ground) -/
theorem lc_low {it : TI'} {g : LcG} {tt : TT'} {te : TE'} {vs : List Nat} (hv : ∀ i ∈ g.names, i ∈ vs) {σ : L2.St} {H : Hp} {Q : VK} (h : lF X.K G (fLc it g tt te vs) σ H Q) :
    tLc (lI X.K G true it) (g.raw X.K) (fun σ H Q => ∃ G', G'.i0 = G.i0 ∧ lT X.K G' tt σ H Q) (fun σ H Q => ∃ G', G'.i0 = G.i0 ∧ lE X.K G' te σ H Q) vs σ H Q := by
  obtain ⟨δ, M, ι, Q0, S, q, z⟩ := h
  refine ⟨δ, M, ι, _, S, q, fun ds gd M1 ι1 H1 J hb q1 p1 k1 S1 hJ => fun Dd hD => ?_⟩
  have hb := hb rfl
  have hDi : some Dd ∉ ι1 := S1.mem.fresh hD
  have kst : Kp ι1 H1 ι1 (upd H1 Dd (.lst [])) := Kp.laid hD
  have S2 : Sr X.K (G.hide Dd) (wipeS δ vs) M1 ι1 (wipe σ vs) (upd H1 Dd (.lst [])) := by
    have hne : ∀ a o, H1 a = some o → a ≠ Dd := fun a o e => ne_of_none e hD
    refine (S1.wiped vs).hideG rfl rfl rfl (fun a o e _ => by rw [upd_ne (hne a o e)]; exact e) (fun b a o e n => ⟨fun hh => ?_, n.2⟩) (S1.kp.trans kst) (fun a ha => ?_)
    · rcases hh with hh | rfl
      · exact n.1 hh
      · exact hne _ o e rfl
    · rcases ha with ha | rfl
      · obtain ⟨h1, o, h2⟩ := S1.hid a ha
        exact ⟨h1, o, (kst a o h2 h1).1⟩
      · exact ⟨hDi, _, upd_same⟩
  have hne : ∀ a o, H1 a = some o → a ≠ Dd := fun a o e => ne_of_none e hD
  have hN0 : ∀ b a o, H1 a = some o → G.N b a → (G.hide Dd).N b a := by
    intro b a o e n
    refine ⟨fun hh => ?_, n.2⟩
    rcases hh with hh | hh
    · exact n.1 hh
    · exact hne a o e hh
  have hHe : ∀ a o, G.He a = some o → some a ∉ G.i0.map some → a ≠ Dd := fun a o e n => hne a o (S1.kp a o e n).1
  -- what is hidden is neither named nor data
  have off : ∀ {ιc : Ix} {Hc : Hp} {δc Mc σc} (Sc : Sr X.K (G.hide Dd) δc Mc ιc σc Hc) {accV : List V} (hDc : Hc Dd = some (.lst accV)) (a : Addr) (o : HO), Hc a = some o → (∀ xs, o = .lst xs → (∃ b, (G.hide Dd).N b a) ∨ some a ∈ ιc) → a ≠ Dd := by
    intro ιc Hc δc Mc σc Sc accV hDc a o e hx hz
    subst hz
    rw [hDc] at e
    rcases hx accV (Option.some.inj e).symm with ⟨b, n⟩ | n
    · exact n.1 (.inr rfl)
    · exact (Sc.hid a (.inr rfl)).1 n
  -- the turns
  refine ⟨fun i m Hc => m = ds.length - i ∧ i ≤ ds.length ∧ ∃ acc accV Mc ιc, Sr X.K (G.hide Dd) (wipeS δ vs) Mc ιc (wipe σ vs) Hc ∧ Ex ι1 ιc ∧ Kp ι1 H1 ιc Hc ∧ Hc Dd = some (.lst accV) ∧ RDs X.K (G.hide Dd).N Hc ιc acc accV ∧ acc.length ≤ i ∧ lcL g.to tt te (wipeS δ vs) gd Q0 (ds.drop i) acc Mc,
    ⟨ds.length, by simp, Nat.zero_le _, [], [], M1, ι1, S2, Ex.refl _, kst, upd_same, rfl, Nat.zero_le _, by simpa using q1⟩, ?_⟩
  rintro i m Hc ⟨rfl, hi', acc, accV, Mc, ιc, Sc, ec, kc, hDc, rc, lc, qc⟩
  by_cases hlt : i < ds.length
  · have hd : ds.drop i = ds[i] :: ds.drop (i + 1) := List.drop_eq_getElem_cons hlt
    rw [hd] at qc
    obtain ⟨hgd, qc⟩ := qc
    obtain ⟨_, hgo⟩ := hJ (G.hide Dd) _ Mc ιc _ Hc hN0 Sc ec kc hgd
    obtain ⟨go, hy⟩ := hgo i ds[i] (List.getElem?_eq_getElem hlt)
    refine .inr ⟨go, fun H' => ∃ acc accV Mc ιc, Sr X.K (G.hide Dd) (wipeS δ vs) Mc ιc (wipe σ vs) H' ∧ Ex ι1 ιc ∧ Kp ι1 H1 ιc H' ∧ H' Dd = some (.lst accV) ∧ RDs X.K (G.hide Dd).N H' ιc acc accV ∧ acc.length ≤ i + 1 ∧ lcL g.to tt te (wipeS δ vs) gd Q0 (ds.drop (i + 1)) acc Mc,
      fun H' h' => ⟨ds.length - (i + 1), by omega, rfl, hlt, h'⟩, fun x H3 y3 => ?_⟩
    obtain ⟨hH3, S3, k3, r3⟩ := hy x H3 y3
    have hidc := (Sc.hid Dd (.inr rfl)).1
    refine raw_of (σ0 := σ) S3 r3 hv (wipe_wipe σ vs) qc fun δ4 σ4 q4 S4 hw4 => ⟨hw4, G.hide Dd, rfl, δ4, Mc, ιc, _, S4, q4, fun b M5 ι5 H5 q5 e5 k5 S5 => ?_⟩
    have S5' := Sc.back S5 e5 (k3.trans k5)
    have hD5 := ((k3.trans k5) Dd _ hDc hidc).1
    have r5 := rc.mono (N' := (G.hide Dd).N) (k3.trans k5) (fun _ _ _ _ z => z)
    cases b with
    | false =>
      simp only [Bool.false_eq_true, if_false] at q5 ⊢
      exact ⟨acc, accV, M5, ι5, S5', ec.trans e5, kc.trans (k3.trans k5), hD5, r5, by omega, q5⟩
    | true =>
      simp only [if_true] at q5 ⊢
      refine ⟨G.hide Dd, rfl, δ4, M5, ι5, _, S5, q5, fun s M6 ι6 H6 v q6 e6 k6 S6 r6 => ?_⟩
      obtain ⟨y, ey, q6⟩ := ok_elim q6
      have hs6 : s = .d y := by
        cases s with
        | d x => cases ey; rfl
        | ref n => cases ey
        | bor n => cases ey
      subst hs6
      have hid5 := (S5.hid Dd (.inr rfl)).1
      have hD6 := (k6 Dd _ hD5 hid5).1
      have S6' := S5'.back S6 e6 k6
      have hid6 := (S6.hid Dd (.inr rfl)).1
      have r6a := r5.mono (N' := (G.hide Dd).N) k6 (fun _ _ _ _ z => z)
      have hlenV : accV.length = acc.length := rc.length.symm
      have o6 := off S6 hD6
      refine ⟨accV, hD6, by omega, acc ++ [y], accV ++ [v], M6, ι6, ?_, (ec.trans e5).trans e6, ?_, upd_same, ?_, by simp; omega, q6⟩
      · refine S6'.hideG rfl rfl rfl (fun a o e hx => by rw [upd_ne (o6 a o e hx)]; exact e) (fun _ _ _ _ z => z) ?_ (fun a ha => ?_)
        · intro a o e n
          obtain ⟨h1, h2⟩ := S6'.kp a o e n
          exact ⟨by rw [upd_ne (hHe a o e n)]; exact h1, h2⟩
        · obtain ⟨h1, o, h2⟩ := S6'.hid a ha
          refine ⟨h1, ?_⟩
          by_cases hz : a = Dd
          · subst hz; exact ⟨_, upd_same⟩
          · exact ⟨o, by rw [upd_ne hz]; exact h2⟩
      · intro a o e n
        obtain ⟨h1, h2⟩ := (kc.trans ((k3.trans k5).trans k6)) a o e n
        exact ⟨by rw [upd_ne (hne a o e)]; exact h1, h2⟩
      · refine RDs.append ?_ ⟨v, [], rfl, ?_, rfl⟩
        · exact RDs.hide (fun a o e hx => by rw [upd_ne (o6 a o e fun xs z => .inl (hx xs z))]; exact e) (fun _ _ _ _ z => z) _ _ r6a
        · exact RD.hide (fun a o e hx => by rw [upd_ne (o6 a o e fun xs z => .inl (hx xs z))]; exact e) (fun _ _ _ _ z => z) _ _ r6
  · have hd : ds.drop i = [] := List.drop_eq_nil_of_le (by omega)
    rw [hd] at qc
    obtain ⟨hgd, qc⟩ := qc
    obtain ⟨hst, _⟩ := hJ (G.hide Dd) _ Mc ιc _ Hc hN0 Sc ec kc hgd
    have e : i = ds.length := by omega
    subst e
    refine .inl ⟨hst, ?_⟩
    have oc := off Sc hDc
    generalize hH' : (fun b => if b = Dd then none else Hc b : Hp) = H'
    have hne' : ∀ a, a ≠ Dd → H' a = Hc a := fun a n => by rw [← hH']; exact if_neg n
    have hDn : H' Dd = none := by rw [← hH']; exact if_pos rfl
    have hback : upd H' Dd (.lst accV) = Hc := by
      funext b
      by_cases hz : b = Dd
      · subst hz; rw [upd_same, hDc]
      · rw [upd_ne hz, hne' b hz]
    rw [← hback]
    have kc' : Kp ι1 H1 ιc H' := fun a o e n => by
      obtain ⟨h1, h2⟩ := kc a o e n
      exact ⟨by rw [hne' a (hne a o e)]; exact h1, h2⟩
    have Sg : Sr X.K G (wipeS δ vs) Mc ιc (wipe σ vs) H' := by
      refine Sc.hideG rfl rfl rfl (fun a o e hx => by rw [hne' a (oc a o e hx)]; exact e) (fun b a o e n => ⟨fun z => n.1 (.inl z), n.2⟩) ?_ (fun a ha => ?_)
      · intro a o e n
        obtain ⟨h1, h2⟩ := Sc.kp a o e n
        exact ⟨by rw [hne' a (hHe a o e n)]; exact h1, h2⟩
      · obtain ⟨h1, o, h2⟩ := Sc.hid a (.inl ha)
        obtain ⟨_, o', h3⟩ := S1.hid a ha
        exact ⟨h1, o, by rw [hne' a (hne a o' h3)]; exact h2⟩
    refine z acc Mc ιc H' accV Dd qc (p1.trans ec) (k1.trans kc') (S1.back Sg ec kc') ?_ (by omega) hDn
    exact RDs.hide (fun a o e hx => by rw [hne' a (oc a o e fun xs z => .inl (hx xs z))]; exact e) (fun b a o e n => ⟨fun z => n.1 (.inl z), n.2⟩) _ _ rc
theorem vf_lc {elt tg iter : Expr} {ifs : List Expr} {scope : Scope} {own : List (Str × Nat)} {pos : Pos} {it : TI'} {g : LcG} {tt : TT'} {te : TE'} (hc : X.calm = true) (hN : X.N.Nodup) (hi : VI X G true tg iter it) (ok' : BlkOk X.N X.env.scope scope own)
    (hg : ∀ (s : Shared) (H : Hp) (C : Addr) (cl : List (Str × Addr)) (fp : List Addr), PG (X.blk s H scope (compEnvC scope cl C X.env) fp) tg (g.raw X.K)) (ht : ∀ (s : Shared) (H : Hp) (C : Addr) (cl : List (Str × Addr)) (fp : List Addr) (G' : Gd), G'.i0 = G.i0 → VTs (X.blk s H scope (compEnvC scope cl C X.env) fp) G' ifs tt)
    (he : ∀ (s : Shared) (H : Hp) (C : Addr) (cl : List (Str × Addr)) (fp : List Addr) (G' : Gd), G'.i0 = G.i0 → VE (X.blk s H scope (compEnvC scope cl C X.env) fp) G' elt te) (hv : ∀ i ∈ g.names, i ∈ own.map (·.2)) (hs : ∀ x, foldedSetIterable iter X.env x = pure x := by intro _; rfl) :
    VF X G (.ListComp elt [⟨tg, iter, ifs, 0⟩] scope pos) (fLc it g tt te (own.map (·.2))) := by
  have h := pe_lc (pos := pos) (te := fun σ H Q => ∃ G', G'.i0 = G.i0 ∧ lE X.K G' te σ H Q) (tt := fun σ H Q => ∃ G', G'.i0 = G.i0 ∧ lT X.K G' tt σ H Q) hc hN hi ok' hg
    (fun s H C cl fp => ⟨fun pins s' σ H' Q I ⟨G', hg', q⟩ => (ht s H C cl fp G' hg').run pins s' σ H' Q I q⟩) (fun s H C cl fp => ⟨fun pins s' σ H' Q I ⟨G', hg', q⟩ => (he s H C cl fp G' hg').run pins s' σ H' Q I q⟩) hs
  exact PE.weak h fun σ H Q q => lc_low hv q
theorem fz_low {K : PySem.W.Frag} {tf : TF'} {σ : L2.St} {H : Hp} {Q : VK} (h : lE K G (eFz tf) σ H Q) : lF K G tf σ H Q := by
  obtain ⟨δ, M, ι, Q0, S, q, z⟩ := h
  exact ⟨δ, M, ι, _, S, q, fun ds M' ι' H' xs p h1 p1 k1 S1 r1 hl hp => fin_lst S1 (fun ι2 H2 w e2 k2 S2 r3 => z _ M' ι2 H2 w h1 (p1.trans e2) (k1.trans k2) S2 r3) r1 hl hp⟩
theorem nw_low {K : PySem.W.Frag} {tf : TF'} {σ : L2.St} {H : Hp} {Q : VK} (h : lE K G (eNw tf) σ H Q) : lF K G tf σ H Q := by
  obtain ⟨δ, M, ι, Q0, S, q, z⟩ := h
  refine ⟨δ, M, ι, _, S, q, fun ds M' ι' H' xs p h1 p1 k1 S1 r1 hl hp => ?_⟩
  have S2 := S1.named (o := .lst xs) (c := .lst ds) hp ⟨xs, upd_same, hl, r1.mono (Kp.named hp) fun _ _ _ _ q => q⟩
  refine z _ _ _ _ _ h1 (p1.trans (Ex.app _ _)) (k1.trans (Kp.named hp)) S2 ⟨p, rfl, .inl ?_⟩
  rw [S1.mem.len]; simp
/-- name = [..] on one line, the name a local -/
theorem vs_setLc {i : Nat} {y : Str} {py : Pos} {elt tg iter : Expr} {ifs : List Expr} {scope : Scope} {own : List (Str × Nat)} {pos spos : Pos} {it : TI'} {g : LcG} {tt : TT'} {te : TE'} (hc : X.calm = true) (hN : X.N.Nodup) (hy : X.N[i]? = some y) (hyl : X.env.scope.names.lookup y = some .local)
    (hsw : swapsWith (.ListComp elt [⟨tg, iter, ifs, 0⟩] scope pos) (some (.Name y py)) spos.line X.env = pure true) (hi : VI X G true tg iter it) (ok' : BlkOk X.N X.env.scope scope own)
    (hg : ∀ (s : Shared) (H : Hp) (C : Addr) (cl : List (Str × Addr)) (fp : List Addr), PG (X.blk s H scope (compEnvC scope cl C X.env) fp) tg (g.raw X.K)) (ht : ∀ (s : Shared) (H : Hp) (C : Addr) (cl : List (Str × Addr)) (fp : List Addr) (G' : Gd), G'.i0 = G.i0 → VTs (X.blk s H scope (compEnvC scope cl C X.env) fp) G' ifs tt)
    (he : ∀ (s : Shared) (H : Hp) (C : Addr) (cl : List (Str × Addr)) (fp : List Addr) (G' : Gd), G'.i0 = G.i0 → VE (X.blk s H scope (compEnvC scope cl C X.env) fp) G' elt te) (hv : ∀ i ∈ g.names, i ∈ own.map (·.2)) {nw : Bool} (hs : ∀ x, foldedSetIterable iter X.env x = pure x := by intro _; rfl) :
    VS X G (.Assign [.Name y py] (.ListComp elt [⟨tg, iter, ifs, 0⟩] scope pos) spos) (sSet i ((if nw then eNw else eFz) (fLc it g tt te (own.map (·.2))))) := by
  have h := ps_setLc (te := fun σ H Q => ∃ G', G'.i0 = G.i0 ∧ lE X.K G' te σ H Q) (tt := fun σ H Q => ∃ G', G'.i0 = G.i0 ∧ lT X.K G' tt σ H Q) hc hN hy hyl hsw hi ok' hg
    (fun s H C cl fp => ⟨fun pins s' σ H' Q I ⟨G', hg', q⟩ => (ht s H C cl fp G' hg').run pins s' σ H' Q I q⟩) (fun s H C cl fp => ⟨fun pins s' σ H' Q I ⟨G', hg', q⟩ => (he s H C cl fp G' hg').run pins s' σ H' Q I q⟩) hs
  refine PS.weak h fun E σ H ⟨δ, M, ι, E0, S, q, z⟩ => ?_
  refine lc_low hv ?_
  have hh : lE X.K G ((if nw then eNw else eFz) (fLc it g tt te (own.map (·.2)))) σ H (fun x H1 => gName i x σ H1 E.nx) :=
    ⟨δ, M, ι, _, S, q, fun d M' ι' H' v q' p' k' S' r' => z.nx _ M' ι' _ H' q' p' k' (S'.set r')⟩
  cases nw with
  | true => exact nw_low hh
  | false => exact fz_low hh
end
end VL
set_option Elab.async false
set_option linter.all false
set_option maxRecDepth 100000
set_option maxHeartbeats 4000000
namespace VL
open PySem PySem.Spec L2 RT RZ
def RdF (K : PySem.W.Frag) (r : List V → Hp → VK → Prop) (f : Mem → List Sv → Option (List D)) : Prop := ∀ (G : Gd) (δ : DS) (M : Mem) (ι : Ix) (σ : L2.St) (H : Hp) (xs : List Sv) (vs : List V) (ds : List D), Sr K G δ M ι σ H → RSs K G.N H ι xs vs → f M xs = some ds →
  ∀ Q : VK, (∀ ys p, RDs K G.N H ι ds ys → ds.length ≤ sizeLine → H p = none → Q (.ref p) (upd H p (.lst ys))) → r vs H Q
def fN (f : Mem → List Sv → Option (List D)) (t : TA') : TF' := fun δ M Q => t δ M fun xs M1 => ok (f M1 xs) fun ds => Q ds M1
def plN (f : Mem → List Sv → Option (List D)) (ps : List PV) : PL := fun δ M => (pArgs ps δ M).bind (f M)
def f2 (f : Mem → Sv → Sv → Option (List D)) (ta tb : TE') : TF' := fun δ M Q => ta δ M fun x M1 => tb δ M1 fun y M2 => ok (f M2 x y) fun ds => Q ds M2
def pl2 (f : Mem → Sv → Sv → Option (List D)) (a b : PV) : PL := fun δ M => (a δ M).bind fun x => (b δ M).bind fun y => f M x y
def RdF2 (K : PySem.W.Frag) (r : R2) (f : Mem → Sv → Sv → Option (List D)) : Prop := ∀ (G : Gd) (δ : DS) (M : Mem) (ι : Ix) (σ : L2.St) (H : Hp) (x y : Sv) (v u : V) (ds : List D), Sr K G δ M ι σ H → RS K G.N H ι x v → RS K G.N H ι y u → f M x y = some ds →
  ∀ Q : VK, (∀ ys p, RDs K G.N H ι ds ys → ds.length ≤ sizeLine → H p = none → Q (.ref p) (upd H p (.lst ys))) → r v u H Q
section
variable {K : PySem.W.Frag} {X : Cx} {G : Gd} {e a b : Expr} {es : List Expr} {pos : Pos} {ta tb t : TE'} {N : Bool → Addr → Prop} {H : Hp} {ι : Ix} {tf : TF'}
theorem vf_callB {x : Str} {id : String} {p : Pos} {n : Nat} {tA : TA'} {r : List V → Hp → VK → Prop} {f : Mem → List Sv → Option (List D)} (hc : CallR X (.builtin id) r) (hf : RdF X.K r f) (hg : Gl X x) (hm : X.mg x = none) (hv : bootBuiltins x = some (.builtin id)) (ha : VA X G (e :: es) n tA) (hn : x ≠ "__name__" := by decide) (hdb : (x == ("__debug__" : Str)) = false := by decide)
    (he : starEach (e :: es) X.env = (false, eval e X.env) :: starEach es X.env := by rfl) (hpl : (backTo pos (starEach es X.env)).any (·.1) = false := by rfl) : VF X G (.Call (.Name x p) (e :: es) [] pos) (fN f tA) :=
  PE.weak (pe_callB hc hg hm hv ha hn hdb he hpl) fun σ H Q ⟨δ, M, ι, Q0, S, q, z⟩ => thA S q fun xs M1 ι1 H1 vs hl q1 p1 k1 S1 r1 => by
    obtain ⟨ds, e, q1⟩ := ok_elim q1
    exact hf G δ M1 ι1 σ H1 xs vs ds S1 r1 e Q fun ys p ry hl hp => z ds M1 ι1 H1 ys p q1 p1 k1 S1 ry hl hp
theorem vf_callTy {x : Str} {T : String} {p : Pos} {n : Nat} {tA : TA'} {r : List V → Hp → VK → Prop} {f : Mem → List Sv → Option (List D)} (hc : CallR X (.type T) r) (hf : RdF X.K r f) (hg : Gl X x) (hm : X.mg x = none) (hv : bootBuiltins x = some (.type T)) (ha : VA X G (e :: es) n tA) (hn : x ≠ "__name__" := by decide) (hdb : (x == ("__debug__" : Str)) = false := by decide)
    (he : starEach (e :: es) X.env = (false, eval e X.env) :: starEach es X.env := by rfl) (hpl : (backTo pos (starEach es X.env)).any (·.1) = false := by rfl) : VF X G (.Call (.Name x p) (e :: es) [] pos) (fN f tA) :=
  PE.weak (pe_callTy hc hg hm hv ha hn hdb he hpl) fun σ H Q ⟨δ, M, ι, Q0, S, q, z⟩ => thA S q fun xs M1 ι1 H1 vs hl q1 p1 k1 S1 r1 => by
    obtain ⟨ds, e, q1⟩ := ok_elim q1
    exact hf G δ M1 ι1 σ H1 xs vs ds S1 r1 e Q fun ys p ry hl hp => z ds M1 ι1 H1 ys p q1 p1 k1 S1 ry hl hp
theorem vf_bin {op : Operator} {r : R2} {f : Mem → Sv → Sv → Option (List D)} (ho : OpR X (binaryOp op) r) (hf : RdF2 X.K r f) (ha : VE X G a ta) (hb : VE X G b tb) : VF X G (.BinOp a op b pos) (f2 f ta tb) :=
  PE.weak (pe_op ho ha hb) fun σ H Q ⟨δ, M, ι, Q0, S, q, z⟩ => th1 S q fun x M1 ι1 H1 v q1 p1 k1 S1 r1 => th1 S1 q1 fun y M2 ι2 H2 u q2 p2 k2 S2 r2 => by
    obtain ⟨ds, e, q2⟩ := ok_elim q2
    exact hf G δ M2 ι2 σ H2 x y v u ds S2 (r1.mono k2 p2 fun _ _ _ _ q => q) r2 e Q fun ys p ry hl hp => z ds M2 ι2 H2 ys p q2 (p1.trans p2) (k1.trans k2) S2 ry hl hp
theorem VF.pN {f : Mem → List Sv → Option (List D)} {ps : List PV} (h : VF X G e (fN f (aP ps))) : VF X G e (fP (plN f ps)) := h.weak fun δ M Q h => by
  unfold fP plN at h; rw [ok_bind] at h; exact h
theorem VF.p2 {f : Mem → Sv → Sv → Option (List D)} {p q : PV} (h : VF X G e (f2 f (eP p) (eP q))) : VF X G e (fP (pl2 f p q)) := h.weak fun δ M Q h => by
  unfold fP pl2 at h
  rw [ok_bind] at h
  obtain ⟨d, e1, h⟩ := ok_elim h
  rw [ok_bind] at h
  exact ok_of e1 h
theorem seq_len {δ : DS} {M : Mem} {σ : L2.St} {d : Sv} {v : V} {ds : List D} (S : Sr K G δ M ι σ H) (h : RS K G.N H ι d v) (e : seqD M d = some ds) : ds.length ≤ sizeLine := by
  cases d with
  | ref n =>
    obtain ⟨a, e1, hn, xs, q, l, r⟩ := S.mem.at h (cellL_some (show cellL M[n]? = some ds from e)) (fun z => nomatch z)
    exact l
  | bor es => cases e; obtain ⟨a, xs, e1, q, n, _, l, r⟩ := h; exact l
  | d d =>
    cases d with
    | lst es => cases e; obtain ⟨a, xs, e1, q, n, z, l, r⟩ := h; exact l
    | tup es => cases e; obtain ⟨a, xs, e1, q, l, r⟩ := h; exact l
    | scr ns => cases e; obtain ⟨a, e1, q, l⟩ := h; simpa using l
    | _ => cases e
theorem lst_seq {M : Mem} {d : Sv} {ds : List D} (e : lstD M d = some ds) : seqD M d = some ds := by
  cases d with
  | ref n => exact e
  | bor n => exact e
  | d d => cases d <;> first | exact e | cases e
def listF (M : Mem) : List Sv → Option (List D)
  | [s] => seqD M s
  | _ => none
theorem rd_list : RdF K (fun xs H Q => ∃ p ys, xs = [V.ref p] ∧ (SqL K H p ys ∨ SqT K H p ys) ∧ ∀ l, H l = none → Q (.ref l) (upd H l (.lst ys))) listF := by
  intro G δ M ι σ H xs vs ds S rx e Q z
  unfold listF at e
  split at e
  · obtain ⟨v, rfl, r⟩ := one_of rx
    obtain ⟨a, ys, rfl, hq, ry⟩ := seq_of S r e
    exact ⟨a, ys, rfl, hq, fun l hl => z ys l ry (by have := seq_len S r e; exact this) hl⟩
  · cases e
def sortI (ns : List Int) : List Int := ns.mergeSort (fun a b => decide (a ≤ b))
theorem sortI_perm (ns : List Int) : (sortI ns).Perm ns := List.mergeSort_perm _ _
theorem sortI_le (ns : List Int) : (sortI ns).Pairwise (· ≤ ·) := by
  have h := List.pairwise_mergeSort (le := fun a b : Int => decide (a ≤ b)) (fun a b c h1 h2 => by simp only [decide_eq_true_eq] at *; omega) (fun a b => by simp only [Bool.or_eq_true, decide_eq_true_eq]; omega) ns
  exact h.imp fun h => by simpa using h
theorem sortI_eq {ns ms : List Int} (p : ms.Perm ns) (o : ms.Pairwise (· ≤ ·)) : ms = sortI ns :=
  List.Perm.eq_of_pairwise (le := (· ≤ ·)) (fun a b _ _ h1 h2 => by omega) o (sortI_le ns) (p.trans (sortI_perm ns).symm)
theorem sortI_len (ns : List Int) : (sortI ns).length = ns.length := (sortI_perm ns).length_eq
def sortF (M : Mem) : List Sv → Option (List D)
  | [s] => (lstD M s).bind fun ds => (intsOf ds).map fun ns => (sortI ns).map .int
  | _ => none
theorem rd_sort : RdF K (rSortedI K) sortF := by
  intro G δ M ι σ H xs vs ds S rx e Q z
  unfold sortF at e
  split at e
  · obtain ⟨v, rfl, r⟩ := one_of rx
    rename_i s
    cases q : lstD M s with
    | none => rw [q] at e; cases e
    | some es =>
      rw [q] at e
      obtain ⟨ns, q2, rfl⟩ := Option.map_eq_some_iff.mp (show (intsOf es).map _ = some ds from e)
      obtain ⟨a, ys, rfl, hq, ry⟩ := lst_of S r q
      have hl := seq_len S r (lst_seq q)
      rw [intsOf_some q2] at ry hl
      rw [ry.ints] at hq
      refine ⟨a, ns, rfl, hq, fun ns' p hp ho hn => ?_⟩
      rw [sortI_eq hp ho]
      exact z _ p (RDs.of_ints _) (by rw [List.length_map, sortI_len]; simpa using hl) hn
  · cases e
/-- the items of a list that is laid (not the script) -/
def laidD (M : Mem) : Sv → Option (List D)
  | .d (.lst ds) => some ds
  | .bor ds => some ds
  | .ref n => cellL M[n]?
  | _ => none
theorem laid_of {δ : DS} {M : Mem} {σ : L2.St} {d : Sv} {v : V} {ds : List D} (S : Sr K G δ M ι σ H) (h : RS K G.N H ι d v) (e : laidD M d = some ds) : ∃ a xs, v = .ref a ∧ H a = some (.lst xs) ∧ RDs K G.N H ι ds xs ∧ ds.length ≤ sizeLine := by
  cases d with
  | ref n =>
    obtain ⟨a, e1, hn, xs, q, l, r⟩ := S.mem.at h (cellL_some (show cellL M[n]? = some ds from e)) (fun z => nomatch z)
    exact ⟨a, xs, e1, q, r, l⟩
  | bor es => cases e; obtain ⟨a, xs, e1, q, n, _, l, r⟩ := h; exact ⟨a, xs, e1, q, r, l⟩
  | d d =>
    cases d with
    | lst es => cases e; obtain ⟨a, xs, e1, q, n, z, l, r⟩ := h; exact ⟨a, xs, e1, q, r, l⟩
    | _ => cases e
def catF (M : Mem) (x y : Sv) : Option (List D) := (laidD M x).bind fun as => (laidD M y).bind fun bs => gd (as.length + bs.length ≤ sizeLine) (as ++ bs)
theorem rd_cat : RdF2 K rCat catF := by
  intro G δ M ι σ H x y v u ds S rx ry e Q z
  unfold catF at e
  cases qa : laidD M x with
  | none => rw [qa] at e; cases e
  | some as =>
    cases qb : laidD M y with
    | none => rw [qa, qb] at e; cases e
    | some bs =>
      rw [qa, qb] at e
      obtain ⟨hc, rfl⟩ := gd_some (show gd _ _ = some ds from e)
      obtain ⟨a, xs, rfl, h1, r1, l1⟩ := laid_of S rx qa
      obtain ⟨b, ys, rfl, h2, r2, l2⟩ := laid_of S ry qb
      exact ⟨a, b, xs, ys, rfl, rfl, h1, h2, by rw [← r1.length, ← r2.length]; exact hc, fun p hp => z _ p (r1.append r2) (by rw [List.length_append]; exact hc) hp⟩
def repF (M : Mem) (x y : Sv) : Option (List D) := match y with
  | .d (.int k) => (laidD M x).bind fun as => gd (-(2 ^ 63) ≤ k ∧ k < 2 ^ 63 ∧ as.length * k.toNat ≤ sizeLine) (List.replicate k.toNat as).flatten
  | _ => none
theorem RDs.rep {ds : List D} {xs : List V} (r : RDs K N H ι ds xs) : ∀ k : Nat, RDs K N H ι (List.replicate k ds).flatten (List.replicate k xs).flatten
  | 0 => rfl
  | k + 1 => by rw [List.replicate_succ, List.replicate_succ, List.flatten_cons, List.flatten_cons]; exact r.append (RDs.rep r k)
theorem rep_len {α : Type} (ds : List α) : ∀ k : Nat, (List.replicate k ds).flatten.length = ds.length * k
  | 0 => by simp
  | k + 1 => by rw [List.replicate_succ, List.flatten_cons, List.length_append, rep_len ds k, Nat.mul_succ, Nat.add_comm]
theorem rd_rep : RdF2 K rRep repF := by
  intro G δ M ι σ H x y v u ds S rx ry e Q z
  unfold repF at e
  split at e
  · rename_i k
    cases qa : laidD M x with
    | none => rw [qa] at e; cases e
    | some as =>
      rw [qa] at e
      obtain ⟨⟨h1, h2, h3⟩, rfl⟩ := gd_some (show gd _ _ = some ds from e)
      obtain ⟨a, xs, rfl, h4, r1, l1⟩ := laid_of S rx qa
      cases (show _ = _ from ry)
      exact ⟨a, k, xs, rfl, rfl, h4, h1, h2, by rw [← r1.length]; exact h3, fun p hp => z _ p (r1.rep _) (by rw [rep_len]; exact h3) hp⟩
  · cases e
theorem vf_cat (ha : VE X G a ta) (hb : VE X G b tb) : VF X G (.BinOp a .Add b pos) (f2 catF ta tb) := vf_bin op_cat rd_cat ha hb
theorem vf_rep (ha : VE X G a ta) (hb : VE X G b tb) : VF X G (.BinOp a .Mult b pos) (f2 repF ta tb) := vf_bin op_rep rd_rep ha hb
def f1 (f : Mem → Sv → Option (List D)) (ta : TE') : TF' := fun δ M Q => ta δ M fun x M1 => ok (f M1 x) fun ds => Q ds M1
def pl1 (f : Mem → Sv → Option (List D)) (a : PV) : PL := fun δ M => (a δ M).bind (f M)
theorem VF.p1 {f : Mem → Sv → Option (List D)} {p : PV} (h : VF X G e (f1 f (eP p))) : VF X G e (fP (pl1 f p)) := h.weak fun δ M Q h => by
  unfold fP pl1 at h; rw [ok_bind] at h; exact h
def revF (M : Mem) (x : Sv) : Option (List D) := (lstD M x).map List.reverse
theorem vf_rev {k : Nat} {p1 p2 p3 : Pos} (ha : VE X G a ta) : VF X G (.Subscript a (.Slice none none (some (.UnaryOp .USub (.Constant (.int 1) k p1) p2)) p3) pos) (f1 revF ta) :=
  PE.weak (pe_revL ha) fun σ H Q ⟨δ, M, ι, Q0, S, q, z⟩ => th1 S q fun x M1 ι1 H1 v q1 p1 k1 S1 r1 => by
    obtain ⟨ds, e, q1⟩ := ok_elim q1
    obtain ⟨es, e9, rfl⟩ := Option.map_eq_some_iff.mp e
    obtain ⟨b, xs, rfl, hq, rx⟩ := lst_of S1 r1 e9
    exact ⟨b, xs, rfl, hq, fun p hp => z _ M1 ι1 H1 _ p q1 p1 k1 S1 rx.reverse (by rw [List.length_reverse]; exact seq_len S1 r1 (lst_seq e9)) hp⟩
def tupC (M : Mem) (x : Sv) : Option Sv := (seqD M x).map fun ds => .d (.tup ds)
theorem ve_tupleOf {p : Pos} (hg : Gl X "tuple") (hm : X.mg "tuple" = none) (ha : VE X G a ta) (na : starEach [a] X.env = (false, eval a X.env) :: starEach [] X.env := by rfl) : VE X G (.Call (.Name "tuple" p) [a] [] pos) (eo1 tupC ta) :=
  PE.weak (pe_tupleOf hg hm ha na) fun σ H Q h => by
    refine fin1 (r := fun x H Q => kTup X.K x H Q) (fun G δ M ι σ H x v d S rx e Q z => ?_) h
    obtain ⟨ds, e9, rfl⟩ := Option.map_eq_some_iff.mp e
    have hl := seq_len S rx e9
    by_cases hx : ∃ es, x = .d (.tup es)
    · obtain ⟨es, rfl⟩ := hx
      cases e9
      have rx' := rx
      obtain ⟨b, xs, rfl, q, l, r⟩ := rx
      exact .inr ⟨b, xs, rfl, tup_sq q, fin_same S z rx'⟩
    · have e3 : lstD M x = some ds := by
        cases x with
        | d x =>
          cases x with
          | tup es => exact absurd ⟨es, rfl⟩ hx
          | lst es => exact e9
          | scr es => exact e9
          | _ => cases e9
        | ref n => exact e9
        | bor n => exact e9
      obtain ⟨b, xs, rfl, hq, r⟩ := lst_of S rx e3
      exact .inl ⟨b, xs, rfl, hq, fun q hq => fin_tup S z r hl hq⟩
end
abbrev TO' := DS → Mem → (Option Int → Mem → Prop) → Prop
def lO (K : PySem.W.Frag) (G : Gd) (t : TO') : TO := fun σ H Q => ∃ δ M ι Q0, Sr K G δ M ι σ H ∧ t δ M Q0 ∧
  ∀ b M' ι' H', Q0 b M' → Ex ι ι' → Kp ι H ι' H' → Sr K G δ M' ι' σ H' → Q b H'
abbrev VO (X : Cx) (G : Gd) (e : Option Expr) (t : TO') : Prop := PO X e (lO X.K G t)
abbrev PO' := DS → Mem → Option (Option Int)
def oP (p : PO') : TO' := fun δ M Q => ok (p δ M) fun o => Q o M
def poNo : PO' := fun _ _ => some none
def intO : Sv → Option (Option Int)
  | .d (.int i) => some (some i)
  | _ => none
def poI (p : PV) : PO' := fun δ M => (p δ M).bind intO
def cutD (ds : List D) (lo hi : Option Int) : List D := (ds.drop (HT.sIx ds.length 0 lo)).take (HT.sIx ds.length ds.length hi - HT.sIx ds.length 0 lo)
def slD (_ : Mem) : Sv → Option Int → Option Int → Option Sv
  | .d (.tup ds), lo, hi => some (.d (.tup (cutD ds lo hi)))
  | .d (.str z), lo, hi => gd (z.length ≤ sizeLine) (.d (.str (cutS z lo hi)))
  | _, _, _ => none
def slF (M : Mem) (s : Sv) (lo hi : Option Int) : Option (List D) := (lstD M s).map fun ds => cutD ds lo hi
def poSl (a : PV) (lo hi : PO') : PV := fun δ M => (a δ M).bind fun s => (lo δ M).bind fun l => (hi δ M).bind fun h => slD M s l h
def plSl (a : PV) (lo hi : PO') : PL := fun δ M => (a δ M).bind fun s => (lo δ M).bind fun l => (hi δ M).bind fun h => slF M s l h
section
variable {K : PySem.W.Frag} {X : Cx} {G : Gd} {e a b : Expr} {es : List Expr} {pos p2 : Pos} {ta tb t : TE'} {N : Bool → Addr → Prop} {H : Hp} {ι : Ix} {lo hi : Option Expr} {pa : PV} {pl ph : PO'}
theorem vo_none : VO X G none (oP poNo) := ⟨fun pins s σ H Q I ⟨δ, M, ι, Q0, S, q, z⟩ => po_none.run pins s σ H Q I (z none M ι H q (Ex.refl _) (Kp.refl _ _) S)⟩
theorem vo_some (h : VE X G e (eP pa)) : VO X G (some e) (oP (poI pa)) := by
  refine ⟨fun pins s σ H Q I ⟨δ, M, ι, Q0, S, q, z⟩ => (po_some h).run pins s σ H Q I ?_⟩
  unfold oP poI at q
  rw [ok_bind] at q
  refine th1 (Q0 := fun s M' => M' = M ∧ ok (intO s) fun o => Q0 o M) S (by obtain ⟨d, e, q⟩ := ok_elim q; exact ok_of e ⟨rfl, q⟩) fun x M1 ι1 H1 v q1 p1 k1 S1 r1 => ?_
  obtain ⟨rfl, q1⟩ := q1
  obtain ⟨o, e, q1⟩ := ok_elim q1
  unfold intO at e
  split at e
  · cases e; cases (show _ = _ from r1); exact ⟨_, rfl, z _ M1 ι1 H1 q1 p1 k1 S1⟩
  · cases e
theorem cutD_len (ds : List D) (lo hi : Option Int) : (cutD ds lo hi).length ≤ ds.length := by
  unfold cutD; rw [List.length_take, List.length_drop]; omega
theorem RDs.cut {ds : List D} {xs : List V} (r : RDs K N H ι ds xs) (lo hi : Option Int) : RDs K N H ι (cutD ds lo hi) (cutV xs lo hi) := by
  unfold cutD cutV
  rw [← r.length]
  exact (r.drop _).take _
theorem cut_whole {xs : List V} {lo hi : Option Int} (h : HT.sIx xs.length 0 lo = 0 ∧ HT.sIx xs.length xs.length hi = xs.length) : cutV xs lo hi = xs := by
  unfold cutV; rw [h.1, h.2]; simp
theorem ve_slice (he : VE X G a (eP pa)) (hl : VO X G lo (oP pl)) (hu : VO X G hi (oP ph)) : VE X G (.Subscript a (.Slice lo hi none p2) pos) (eP (poSl pa pl ph)) := by
  refine PE.weak (pe_slice ((sl_tupA (X := X)).or sl_str) he hl hu) fun σ H Q ⟨δ, M, ι, Q0, S, q, z⟩ => ?_
  unfold eP poSl at q
  rw [ok_bind] at q
  obtain ⟨s, e1, q⟩ := ok_elim q
  rw [ok_bind] at q
  obtain ⟨l, e2, q⟩ := ok_elim q
  rw [ok_bind] at q
  obtain ⟨h, e3, q⟩ := ok_elim q
  obtain ⟨d, e4, q9⟩ := ok_elim q
  refine th1 (Q0 := fun x M' => x = s ∧ M' = M) S (ok_of e1 ⟨rfl, rfl⟩) fun x M1 ι1 H1 v q1 p1 k1 S1 r1 => ?_
  obtain ⟨rfl, rfl⟩ := q1
  refine ⟨δ, M1, ι1, fun o M' => o = l ∧ M' = M1, S1, ok_of e2 ⟨rfl, rfl⟩, fun o M2 ι2 H2 q2 p2 k2 S2 => ?_⟩
  obtain ⟨rfl, rfl⟩ := q2
  refine ⟨δ, M2, ι2, fun o M' => o = h ∧ M' = M2, S2, ok_of e3 ⟨rfl, rfl⟩, fun o' M3 ι3 H3 q3 p3 k3 S3 => ?_⟩
  obtain ⟨rfl, rfl⟩ := q3
  have r3 := r1.mono (k2.trans k3) (p2.trans p3) (fun _ _ _ _ z => z)
  have z3 : ∀ ι' H' w, Ex ι3 ι' → Kp ι3 H3 ι' H' → Sr X.K G δ M3 ι' σ H' → RS X.K G.N H' ι' d w → Q w H' := fun ι' H' w p4 k4 S4 r4 => z d M3 ι' H' w q9 (((p1.trans p2).trans p3).trans p4) (((k1.trans k2).trans k3).trans k4) S4 r4
  unfold slD at e4
  split at e4
  · cases e4
    obtain ⟨b, xs, rfl, hq, hl, r⟩ := r3
    refine .inl ⟨b, xs, rfl, tup_sq hq, fun hw => ?_, fun hw p hp => ?_⟩
    · refine fin_same S3 z3 ⟨b, xs, rfl, hq, Nat.le_trans (cutD_len _ _ _) hl, ?_⟩
      have := r.cut o o'
      rw [cut_whole hw] at this
      exact this
    · exact fin_tup S3 z3 (r.cut _ _) (Nat.le_trans (cutD_len _ _ _) hl) hp
  · obtain ⟨hc, rfl⟩ := gd_some e4
    cases (show _ = _ from r3)
    exact .inr ⟨_, rfl, hc, fin_same S3 z3 rfl⟩
  · cases e4
theorem vf_slice (he : VE X G a (eP pa)) (hl : VO X G lo (oP pl)) (hu : VO X G hi (oP ph)) : VF X G (.Subscript a (.Slice lo hi none p2) pos) (fP (plSl pa pl ph)) := by
  refine PE.weak (pe_slice sl_list he hl hu) fun σ H Q ⟨δ, M, ι, Q0, S, q, z⟩ => ?_
  unfold fP plSl at q
  rw [ok_bind] at q
  obtain ⟨s, e1, q⟩ := ok_elim q
  rw [ok_bind] at q
  obtain ⟨l, e2, q⟩ := ok_elim q
  rw [ok_bind] at q
  obtain ⟨h, e3, q⟩ := ok_elim q
  obtain ⟨d, e4, q9⟩ := ok_elim q
  obtain ⟨es, e5, rfl⟩ := Option.map_eq_some_iff.mp e4
  refine th1 (Q0 := fun x M' => x = s ∧ M' = M) S (ok_of e1 ⟨rfl, rfl⟩) fun x M1 ι1 H1 v q1 p1 k1 S1 r1 => ?_
  obtain ⟨rfl, rfl⟩ := q1
  refine ⟨δ, M1, ι1, fun o M' => o = l ∧ M' = M1, S1, ok_of e2 ⟨rfl, rfl⟩, fun o M2 ι2 H2 q2 p2 k2 S2 => ?_⟩
  obtain ⟨rfl, rfl⟩ := q2
  refine ⟨δ, M2, ι2, fun o M' => o = h ∧ M' = M2, S2, ok_of e3 ⟨rfl, rfl⟩, fun o' M3 ι3 H3 q3 p3 k3 S3 => ?_⟩
  obtain ⟨rfl, rfl⟩ := q3
  have r3 := r1.mono (k2.trans k3) (p2.trans p3) (fun _ _ _ _ z => z)
  obtain ⟨b, xs, rfl, hq, rx⟩ := lst_of S3 r3 e5
  have hl := seq_len S3 r3 (lst_seq e5)
  exact ⟨b, xs, rfl, hq, fun p hp => z _ M3 ι3 H3 _ p q9 ((p1.trans p2).trans p3) ((k1.trans k2).trans k3) S3 (rx.cut _ _) (Nat.le_trans (cutD_len _ _ _) hl) hp⟩
end
end VL
set_option Elab.async false
set_option linter.all false
set_option maxRecDepth 100000
set_option maxHeartbeats 4000000
namespace VL
open PySem PySem.Spec L2 RT RZ
def rcv (M : Mem) : Sv → Option String
  | .ref n => match M[n]? with
    | some (.lst _) => some "list"
    | some (.dk _) => some "dict"
    | _ => none
  | .d (.lst _) => some "list"
  | .bor _ => some "list"
  | .d (.str _) => some "str"
  | _ => none
abbrev Mt := Sv → List Sv → Mem → QD → Prop
def eMt (T : String) (f : Mt) (to : TE') (tA : TA') : TE' := fun δ M Q => to δ M fun o M1 => rcv M1 o = some T ∧ tA δ M1 fun xs M2 => f o xs M2 Q
def RdMt (K : PySem.W.Frag) (r : V → List V → Hp → VK → Prop) (f : Mt) : Prop := ∀ (G : Gd) (δ : DS) (M : Mem) (ι : Ix) (σ : L2.St) (H : Hp) (o : Sv) (xs : List Sv) (v : V) (vs : List V) (Q0 : QD), Sr K G δ M ι σ H → RS K G.N H ι o v → RSs K G.N H ι xs vs → f o xs M Q0 →
  ∀ Q : VK, (∀ d M' ι' H' w, Q0 d M' → Ex ι ι' → Kp ι H ι' H' → Sr K G δ M' ι' σ H' → RS K G.N H' ι' d w → Q w H') → r v vs H Q
section
variable {K : PySem.W.Frag} {X : Cx} {G : Gd} {e a b o : Expr} {es : List Expr} {pos cpos apos : Pos} {ta tb t to : TE'} {N : Bool → Addr → Prop} {H : Hp} {ι : Ix} {tA : TA'}
theorem rcv_ty {δ : DS} {M : Mem} {σ : L2.St} {s : Sv} {v : V} {T : String} (S : Sr K G δ M ι σ H) (r : RS K G.N H ι s v) (e : rcv M s = some T) : tyV K T v H := by
  cases s with
  | ref n =>
    simp only [rcv] at e
    split at e
    · rename_i ds hM
      cases e
      obtain ⟨a, rfl, hn, xs, q, _, _⟩ := S.mem.at r hM (fun z => nomatch z)
      exact .inl ⟨rfl, xs, SqL.of q⟩
    · rename_i ds hM
      cases e
      obtain ⟨a, rfl, hn, xs, q, _, _⟩ := S.mem.at r hM (fun z => nomatch z)
      exact .inr (.inr (.inl ⟨rfl, .inl ⟨xs, q⟩⟩))
    · cases e
  | bor ds => cases e; obtain ⟨a, xs, rfl, q, _⟩ := r; exact .inl ⟨rfl, xs, SqL.of q⟩
  | d d =>
    cases d with
    | lst ds => cases e; obtain ⟨a, xs, rfl, q, _⟩ := r; exact .inl ⟨rfl, xs, SqL.of q⟩
    | str z => cases e; cases (show _ = _ from r); rfl
    | _ => cases e
theorem ve_mt {n : Nat} {T id : String} {name : Str} {r : V → List V → Hp → VK → Prop} {f : Mt} (pa : PlainAttrs T) (slot : Slot T name id) (hty : typeOf (.builtin id) = pure (.type "method_descriptor")) (hm : MtR X id r) (hf : RdMt X.K r f) (ho : VE X G o to) (ha : VA X G (e :: es) n tA)
    (hbase : attributeBase o name X.env (eval o X.env) = eval o X.env := by rfl)
    (hfew : ((backTo cpos (starEach (e :: es) X.env)).all (fun x => !x.1) && (backToKw cpos (keywordEach [] X.env)).all (fun x => x.1.isSome)
      && decide ((e :: es).length + ([] : List Keyword).length + (if ([] : List Keyword).isEmpty then 0 else 1) < 30)) = true := by rfl)
    (hline : (apos.endLine == cpos.line) = true := by rfl) (hs : starEach (e :: es) X.env = (false, eval e X.env) :: starEach es X.env := by rfl) (hplain : (backTo cpos (starEach es X.env)).any (·.1) = false := by rfl) :
    VE X G (.Call (.Attribute o name apos) (e :: es) [] cpos) (eMt T f to tA) :=
  PE.weak (pe_bm pa slot hty hm ho ha hbase hfew hline hs hplain) fun σ H Q ⟨δ, M, ι, Q0, S, q, z⟩ => th1 S q fun s M1 ι1 H1 v q1 p1 k1 S1 r1 =>
    ⟨rcv_ty S1 r1 q1.1, thA S1 q1.2 fun xs M2 ι2 H2 vs hl q2 p2 k2 S2 r2 =>
      hf G δ M2 ι2 σ H2 s xs v vs Q0 S2 (r1.mono k2 p2 fun _ _ _ _ q => q) r2 q2 Q fun d M3 ι3 H3 w q3 p3 k3 S3 r3 => z d M3 ι3 H3 w q3 ((p1.trans p2).trans p3) ((k1.trans k2).trans k3) S3 r3⟩
theorem ve_mt0 {T id : String} {name : Str} {r : V → List V → Hp → VK → Prop} {f : Mt} (pa : PlainAttrs T) (slot : Slot T name id) (hty : typeOf (.builtin id) = pure (.type "method_descriptor")) (hm : MtR X id r) (hf : RdMt X.K r f) (ho : VE X G o to)
    (hbase : attributeBase o name X.env (eval o X.env) = eval o X.env := by rfl) (hline : (apos.endLine == cpos.line) = true := by rfl) :
    VE X G (.Call (.Attribute o name apos) [] [] cpos) (eMt T f to aNil) :=
  PE.weak (pe_bm0 pa slot hty hm ho hbase hline) fun σ H Q ⟨δ, M, ι, Q0, S, q, z⟩ => th1 S q fun s M1 ι1 H1 v q1 p1 k1 S1 r1 =>
    ⟨rcv_ty S1 r1 q1.1, hf G δ M1 ι1 σ H1 s [] v [] Q0 S1 r1 rfl q1.2 Q fun d M3 ι3 H3 w q3 p3 k3 S3 r3 => z d M3 ι3 H3 w q3 (p1.trans p3) (k1.trans k3) S3 r3⟩
def mApp : Mt := fun o xs M Q => match o, xs with
  | .ref n, [.d x] => ok (cellL M[n]?) fun ds => ds.length < sizeLine ∧ Q (.d .non) (M.set n (.lst (ds ++ [x])))
  | _, _ => False
def mExt : Mt := fun o xs M Q => match o, xs with
  | .ref n, [s] => ok (cellL M[n]?) fun ds => ok (laidD M s) fun es => ds.length + es.length ≤ sizeLine ∧ Q (.d .non) (M.set n (.lst (ds ++ es)))
  | _, _ => False
def mPop : Mt := fun o xs M Q => match o, xs with
  | .ref n, [] => ok (cellL M[n]?) fun ds => ok ds[ds.length - 1]? fun y => Q (.d y) (M.set n (.lst ds.dropLast))
  | _, _ => False
def mPopAt : Mt := fun o xs M Q => match o, xs with
  | .ref n, [.d (.int i)] => ok (cellL M[n]?) fun ds => ok (ixN ds.length i) fun k => ok ds[k]? fun y => Q (.d y) (M.set n (.lst (ds.eraseIdx k)))
  | _, _ => False
/-- the end of a method that turns a list -/
theorem fin_turn {δ : DS} {M : Mem} {σ : L2.St} {n : Nat} {a : Addr} {ds' : List D} {xs' : List V} {s : Sv} {w : V} {Q0 : QD} {Q : VK} (S : Sr K G δ M ι σ H) (hn : ι[n]? = some (some a)) (r : RDs K G.N H ι ds' xs') (hl : ds'.length ≤ sizeLine) (rs : RS K G.N H ι s w) (q : Q0 s (M.set n (.lst ds')))
    (z : ∀ d M' ι' H' w, Q0 d M' → Ex ι ι' → Kp ι H ι' H' → Sr K G δ M' ι' σ H' → RS K G.N H' ι' d w → Q w H') (ho : ObT H a (.lst xs') := by refine ObT.of (by assumption) ?_ ?_ <;> (intro C dx fs z; cases z)) : Q w (upd H a (.lst xs')) := by
  have hm := List.mem_of_getElem? hn
  have k : Kp ι H ι (upd H a (.lst xs')) := Kp.turned hm
  exact z s _ ι _ w q (Ex.refl _) k (S.turned hn ⟨xs', upd_same, hl, r.mono k fun _ _ _ _ z => z⟩ trivial ho) (rs.mono k (Ex.refl _) fun _ _ _ _ z => z)
theorem rd_app : RdMt K rAppend mApp := by
  intro G δ M ι σ H o xs v vs Q0 S ro rx h Q z
  unfold mApp at h
  split at h
  · rename_i n x
    obtain ⟨ds, e, hl, q⟩ := ok_elim h
    obtain ⟨a, rfl, hn, ys, hH, _, r⟩ := S.mem.at ro (cellL_some e) (fun z => nomatch z)
    obtain ⟨y, rfl, ry⟩ := one_of rx
    exact ⟨a, ys, y, rfl, rfl, hH, by rw [← r.length]; exact hl, fin_turn (s := .d .non) S hn (r.append (es := [x]) ⟨y, [], rfl, ry, rfl⟩) (by simp; omega) rfl q z⟩
  · exact h.elim
theorem rd_ext : RdMt K rExtend mExt := by
  intro G δ M ι σ H o xs v vs Q0 S ro rx h Q z
  unfold mExt at h
  split at h
  · rename_i n s
    obtain ⟨ds, e, h⟩ := ok_elim h
    obtain ⟨es, e2, hl, q⟩ := ok_elim h
    obtain ⟨a, rfl, hn, ys, hH, _, r⟩ := S.mem.at ro (cellL_some e) (fun z => nomatch z)
    obtain ⟨y, rfl, ry⟩ := one_of rx
    obtain ⟨b, zs, rfl, hb, r2, _⟩ := laid_of S ry e2
    exact ⟨a, b, ys, zs, rfl, rfl, hH, hb, by rw [← r.length, ← r2.length]; exact hl, fin_turn (s := .d .non) S hn (r.append r2) (by simpa using hl) rfl q z⟩
  · exact h.elim
theorem rd_pop : RdMt K rPop mPop := by
  intro G δ M ι σ H o xs v vs Q0 S ro rx h Q z
  unfold mPop at h
  split at h
  · rename_i n
    obtain ⟨ds, e, h⟩ := ok_elim h
    obtain ⟨y, e2, q⟩ := ok_elim h
    obtain ⟨a, rfl, hn, ys, hH, hl, r⟩ := S.mem.at ro (cellL_some e) (fun z => nomatch z)
    obtain ⟨w, hw, rw'⟩ := r.get e2
    exact ⟨a, ys, w, rfl, rx, hH, by rw [← r.length]; exact hw, fin_turn (s := .d y) S hn r.dropLast (by simp; omega) rw' q z⟩
  · exact h.elim
theorem rd_popAt : RdMt K rPopAt mPopAt := by
  intro G δ M ι σ H o xs v vs Q0 S ro rx h Q z
  unfold mPopAt at h
  split at h
  · rename_i n i
    obtain ⟨ds, e, h⟩ := ok_elim h
    obtain ⟨k, e2, h⟩ := ok_elim h
    obtain ⟨y, e3, q⟩ := ok_elim h
    obtain ⟨a, rfl, hn, ys, hH, hl, r⟩ := S.mem.at ro (cellL_some e) (fun z => nomatch z)
    obtain ⟨u, rfl, ru⟩ := one_of rx
    cases (show _ = _ from ru)
    obtain ⟨w, hw, rw'⟩ := r.get e3
    obtain ⟨h1, h2, h3, h4⟩ := ixN_seq e2
    have hz := sizeLine_eq
    exact ⟨a, ys, i, k, w, rfl, rfl, hH, by omega, by omega, by rw [← r.length]; exact h1, hw, fin_turn (s := .d y) S hn (r.eraseIdx k) (Nat.le_trans (len_erase _ _) hl) rw' q z⟩
  · exact h.elim
def mPure (f : Mem → Sv → List Sv → Option Sv) : Mt := fun o xs M Q => ok (f M o xs) fun d => Q d M
def countD (M : Mem) (o : Sv) : List Sv → Option Sv
  | [.d x] => (lstD M o).bind fun ds => gd (okE x = true ∧ okE (.lst ds) = true) (intS ((ds.countP fun z => eqvD z x : Nat) : Int))
  | _ => none
def indexD (M : Mem) (o : Sv) : List Sv → Option Sv
  | [.d x] => (lstD M o).bind fun ds => gd (okE x = true ∧ okE (.lst ds) = true ∧ (ds.any fun z => eqvD z x) = true) (intS ((ds.findIdx fun z => eqvD z x : Nat) : Int))
  | _ => none
theorem pys_get : ∀ (ds : List D) (i : Nat), (pys ds)[i]? = (ds[i]?).map py
  | [], i => by simp [pys]
  | d :: ds, 0 => by simp [pys]
  | d :: ds, i + 1 => by simp [pys, pys_get ds i]
theorem noRs_get {ds : List D} {i : Nat} {d : D} (h : noRs ds = true) (e : ds[i]? = some d) : noR d = true := by
  induction ds generalizing i with
  | nil => simp at e
  | cons x xs ih =>
    simp only [noRs, Bool.and_eq_true] at h
    cases i with
    | zero => simp at e; subst e; exact h.1
    | succ i => exact ih h.2 (by simpa using e)
theorem lst_dp {δ : DS} {M : Mem} {σ : L2.St} {s : Sv} {v : V} {ds : List D} (S : Sr K G δ M ι σ H) (r : RS K G.N H ι s v) (e : lstD M s = some ds) (n : noRs ds = true) : ∃ a, v = .ref a ∧ Dp K H (.ref a) (.list (pys ds)) := by
  obtain ⟨a, xs, rfl, q, r2⟩ := lst_of S r e
  exact ⟨a, rfl, .lst q (RDs.dp ds xs r2 n)⟩
theorem rd_index : RdMt K (rIndexD K) (mPure indexD) := by
  intro G δ M ι σ H o xs v vs Q0 S ro rx h Q z
  obtain ⟨d, e, q⟩ := ok_elim h
  unfold indexD at e
  split at e
  · rename_i x
    cases qe : lstD M o with
    | none => rw [qe] at e; cases e
    | some ds =>
      rw [qe] at e
      obtain ⟨⟨h1, h2, h3⟩, rfl⟩ := gd_some (show gd _ _ = some d from e)
      obtain ⟨nx, sx⟩ := okE_and h1
      obtain ⟨ny, sy⟩ := okE_and h2
      simp only [noR] at ny
      obtain ⟨a, rfl, hl⟩ := lst_dp S ro qe ny
      obtain ⟨y, rfl, ry⟩ := one_of rx
      obtain ⟨w, hw, hp⟩ := List.any_eq_true.mp h3
      have hlt : (ds.findIdx fun z => eqvD z x) < ds.length := List.findIdx_lt_length_of_exists ⟨w, hw, hp⟩
      have hz : ds[ds.findIdx fun z => eqvD z x]? = some ds[ds.findIdx fun z => eqvD z x] := List.getElem?_eq_getElem hlt
      refine ⟨a, y, py x, pys ds, ds.findIdx fun z => eqvD z x, py ds[ds.findIdx fun z => eqvD z x], rfl, rfl, hl, RD.dp x y ry nx, by simpa [py] using sy, sx, by rw [pys_get, hz]; rfl, ?_, fun m z' hm hz' => ?_, ?_⟩
      · rw [eqv_py _ _ (noRs_get ny hz) nx]; exact List.findIdx_getElem (w := hlt)
      · rw [pys_get] at hz'
        obtain ⟨u, hu, rfl⟩ := Option.map_eq_some_iff.mp hz'
        rw [eqv_py _ _ (noRs_get ny hu) nx]
        have hlt2 := (List.getElem?_eq_some_iff.mp hu).1
        have := List.not_of_lt_findIdx hm
        rw [List.getElem?_eq_getElem hlt2] at hu
        cases hu
        simpa using this
      · exact z _ M ι H _ q (Ex.refl _) (Kp.refl _ _) S rfl
  · cases e
def poMt (T : String) (f : Mem → Sv → List Sv → Option Sv) (a : PV) (ps : List PV) : PV := fun δ M => (a δ M).bind fun o => (gd (rcv M o = some T) ()).bind fun _ => (pArgs ps δ M).bind fun xs => f M o xs
theorem VE.pMt {T : String} {f : Mem → Sv → List Sv → Option Sv} {pv : PV} {ps : List PV} (h : VE X G e (eMt T (mPure f) (eP pv) (aP ps))) : VE X G e (eP (poMt T f pv ps)) := h.weak fun δ M Q h => by
  unfold eP poMt at h
  rw [ok_bind] at h
  obtain ⟨d, q1, h⟩ := ok_elim h
  rw [ok_bind] at h
  obtain ⟨u, q2, h⟩ := ok_elim h
  rw [ok_bind] at h
  obtain ⟨xs, q3, h⟩ := ok_elim h
  exact ok_of q1 ⟨(gd_some q2).1, ok_of q3 h⟩
end
end VL
set_option Elab.async false
set_option linter.all false
set_option maxRecDepth 100000
set_option maxHeartbeats 4000000
namespace VL
open PySem PySem.Spec L2 RT RZ
def stD (o i : Sv) (d : D) (M : Mem) (Q : Mem → Prop) : Prop := match o, i with
  | .ref n, .d (.int k) => ok (cellL M[n]?) fun ds => ok (ixN ds.length k) fun j => Q (M.set n (.lst (ds.set j d)))
  | _, _ => False
def sSub (te to ti : TE') : TS' := fun E δ M => te δ M fun s M1 => ok (dataS s) fun d => to δ M1 fun o M2 => ti δ M2 fun i M3 => stD o i d M3 fun M4 => E.nx δ M4
/-- name op= e -/
def sAug (i : Nat) (f : Mem → Sv → Sv → Option Sv) (te : TE') : TS' := fun E δ M => ok (δ[i]?).join fun x => te δ M fun y M1 => ok (f M1 x y) fun z => E.nx (δ.set i (some z)) M1
/-- a, b = x, y -/
def sPar (i j : Nat) (tA : TA') : TS' := fun E δ M => tA δ M fun xs M1 => match xs with
  | [x, y] => E.nx ((δ.set i (some x)).set j (some y)) M1
  | _ => False
/-- the same by a tuple, any names -/
def setAllS : List Nat → List Sv → DS → Option DS
  | [], [], δ => some δ
  | i :: is, d :: ds, δ => setAllS is ds (δ.set i (some d))
  | _, _, _ => none
def sParT (is : List Nat) (tA : TA') : TS' := fun E δ M => tA δ M fun xs M1 => ok (setAllS is xs δ) fun δ' => E.nx δ' M1
/-- the turns of a while -/
def whL (k : Nat) (c : TT') (b : TS') (E : Ends') : Nat → DS → Mem → Prop
  | 0, _, _ => False
  | n + 1, δ, M => c δ M fun t M' => if t then b ⟨fun δ' M'' => whL k c b E n (gcS k δ') (M''.take k), E.rt, E.nx, fun δ' M'' => whL k c b E n (gcS k δ') (M''.take k)⟩ δ M' else E.nx δ M'
def sWh (c : TT') (b : TS') : TS' := fun E δ M => ∃ n, whL M.length c b E n δ M
section
variable {K : PySem.W.Frag} {X : Cx} {G : Gd} {e a b o i c : Expr} {es : List Expr} {body : List Stmt} {pos cpos apos p1' p2' : Pos} {ta tb t to ti te : TE'} {N : Bool → Addr → Prop} {H : Hp} {ι : Ix} {tA : TA'} {tc : TT'} {s : TS'}
theorem vs_sub (he : VE X G e te) (ho : VE X G o to) (hi : VE X G i ti) (hs : swapsWithSole [.Subscript o i p1'] e pos.line X.env = pure false := by rfl) (hw : swappedStores [.Subscript o i p1'] e X.env = pure none := by rfl)
    (h1 : (assignEach [.Subscript o i p1'] X.env).map (·.2) = [assign (.Subscript o i p1') X.env] := by rfl)
    (ha : ∀ v, assign (.Subscript o i p1') X.env v = (do
      let ov ← holding [v] (eval o X.env)
      let iv ← holding [v, ov] (eval i X.env)
      standAt p1'
      holding [v, ov, iv] (setItem ov iv v)
      release [v, ov, iv] []) := by intro _; rfl) : VS X G (.Assign [.Subscript o i p1'] e pos) (sSub te to ti) :=
  PS.weak (ps_asg he (pg_sub ho hi set_list ha) hs hw h1) fun E σ H ⟨δ, M, ι, E0, S, q, z⟩ => th1 S q fun s M1 ι1 H1 v q1 p1 k1 S1 r1 => by
    obtain ⟨d, e9, q1⟩ := ok_elim q1
    refine th1 S1 q1 fun x M2 ι2 H2 u q2 p2 k2 S2 r2 => th1 S2 q2 fun y M3 ι3 H3 w q3 p3 k3 S3 r3 => ?_
    have r1' := r1.mono (k2.trans k3) (p2.trans p3) (fun _ _ _ _ z => z)
    have r2' := r2.mono k3 p3 (fun _ _ _ _ z => z)
    unfold stD at q3
    split at q3
    · obtain ⟨ds, e1, q3⟩ := ok_elim q3
      obtain ⟨j, e2, q3⟩ := ok_elim q3
      obtain ⟨a, rfl, hn, ys, hH, hl, r⟩ := S3.mem.at r2' (cellL_some e1) (fun z => nomatch z)
      cases (show _ = _ from r3)
      cases s with
      | d x =>
        cases e9
        have hm := List.mem_of_getElem? hn
        have k : Kp ι3 H3 ι3 (upd H3 a (.lst (ys.set j v))) := Kp.turned hm
        refine ⟨a, ys, _, j, rfl, rfl, hH, by rw [← r.length]; exact e2, ?_⟩
        exact z.nx _ _ _ _ _ q3 ((p1.trans p2).trans p3) (((k1.trans k2).trans k3).trans k) (S3.turned hn ⟨_, upd_same, by simpa using hl, (RDs.set j (show RD _ _ _ _ _ _ from r1') r).mono k fun _ _ _ _ z => z⟩)
      | ref n => cases e9
      | bor n => cases e9
    · exact q3.elim
theorem vs_par {i j : Nat} {x y : Str} {px py pt pt2 : Pos} {kt k2 : Nat} (hc : X.calm = true) (hN : X.N.Nodup) (hi : X.N[i]? = some x) (hj : X.N[j]? = some y) (hij : i ≠ j)
    (hx : X.env.scope.names.lookup x = some .local) (hy : X.env.scope.names.lookup y = some .local) (ha : VA X G [a, b] 2 tA)
    (hw : swappedStores [.Tuple [.Name x px, .Name y py] kt pt] (.Tuple [a, b] k2 pt2) X.env = pure (some [x, y]))
    (hs : swapsWithSole [.Tuple [.Name x px, .Name y py] kt pt] (.Tuple [a, b] k2 pt2) pos.line X.env = pure false := by rfl) :
    VS X G (.Assign [.Tuple [.Name x px, .Name y py] kt pt] (.Tuple [a, b] k2 pt2) pos) (sPar i j tA) :=
  PS.weak (ps_par hc hN hi hj hij hx hy ha hw hs) fun E σ H ⟨δ, M, ι, E0, S, q, z⟩ => thA S q fun xs M1 ι1 H1 vs hl q1 p1 k1 S1 r1 => by
    obtain ⟨u, w, rfl⟩ : ∃ u w, xs = [u, w] := by
      match xs, hl with
      | [u, w], _ => exact ⟨u, w, rfl⟩
    obtain ⟨v1, v2, rfl, h1, h2⟩ := two_of r1
    exact ⟨v1, v2, rfl, z.nx _ M1 ι1 _ H1 q1 p1 k1 ((S1.set h1).set h2)⟩
theorem RSs.length : ∀ {ds : List Sv} {vs : List V}, RSs K N H ι ds vs → ds.length = vs.length
  | [], _, h => by cases (show _ = _ from h); rfl
  | d :: ds, _, h => by
    obtain ⟨x, r, rfl, _, h2⟩ := h
    simp [RSs.length h2]
theorem vs_while (hp : PassesOwn (model X.prog X.w) X.A X.env X.xe) (hc : VT X G c tc) (hb : VSs X G body s) : VS X G (.While c body [] pos) (sWh tc s) := by
  refine PS.weak (ps_while hp hc hb) fun E σ H ⟨δ, M, ι, E0, S, q, z⟩ => ?_
  obtain ⟨n0, q⟩ := q
  have hk : G.i0.length ≤ M.length := S.i0len
  have hlen : M.length = ι.length := S.mem.len
  refine ⟨fun m σ2 H2 => ∃ δ2 M2 ι2, Sr X.K G δ2 M2 ι2 σ2 H2 ∧ Ex ι ι2 ∧ Kp ι H ι2 H2 ∧ whL M.length tc s E0 m δ2 M2, ⟨n0, δ, M, ι, S, Ex.refl _, Kp.refl _ _, q⟩, ?_⟩
  rintro m σ2 H2 ⟨δ2, M2, ι2, S2, e2, k2, q2⟩
  cases m with
  | zero => exact q2.elim
  | succ m =>
    refine ⟨δ2, M2, ι2, _, S2, q2, fun t M3 ι3 H3 q3 p3 k3 S3 => ?_⟩
    cases t with
    | false => exact z.nx δ2 M3 ι3 σ2 H3 q3 (e2.trans p3) (k2.trans k3) S3
    | true =>
      simp only [if_true] at q3 ⊢
      refine ⟨fun σ5 H5 => ∃ δ2 M2 ι2, Sr X.K G δ2 M2 ι2 σ5 H5 ∧ Ex ι ι2 ∧ Kp ι H ι2 H5 ∧ whL M.length tc s E0 m δ2 M2, fun σ5 H5 h => ⟨m, Nat.lt_succ_self _, h⟩, ?_⟩
      have fin : ∀ δ5 M5 ι5 σ5 H5, Sr X.K G δ5 M5 ι5 σ5 H5 → Ex ι ι5 → Kp ι H ι5 H5 → whL M.length tc s E0 m (gcS M.length δ5) (M5.take M.length) →
          ∃ δ3 M3 ι3, Sr X.K G δ3 M3 ι3 σ5 H5 ∧ Ex ι ι3 ∧ Kp ι H ι3 H5 ∧ whL M.length tc s E0 m δ3 M3 := fun δ5 M5 ι5 σ5 H5 S5 e5 k5 q5 => by
        refine ⟨_, _, _, S5.gc M.length hk, ?_, k5.trans (Kp.take _), q5⟩
        rw [hlen]; exact ex_take e5
      refine ⟨δ2, M3, ι3, _, S3, q3, ⟨fun δ5 M5 ι5 σ5 H5 q5 e5 k5 S5 => ?_, fun d5 δ5 M5 ι5 σ5 H5 v5 q5 S5 r5 => ?_, fun δ5 M5 ι5 σ5 H5 q5 e5 k5 S5 => ?_, fun δ5 M5 ι5 σ5 H5 q5 e5 k5 S5 => ?_⟩⟩
      · exact fin δ5 M5 ι5 σ5 H5 S5 ((e2.trans p3).trans e5) ((k2.trans k3).trans k5) q5
      · exact z.rt d5 δ5 M5 ι5 σ5 H5 v5 q5 S5 r5
      · exact z.nx δ5 M5 ι5 σ5 H5 q5 ((e2.trans p3).trans e5) ((k2.trans k3).trans k5) S5
      · exact fin δ5 M5 ι5 σ5 H5 S5 ((e2.trans p3).trans e5) ((k2.trans k3).trans k5) q5
end
end VL
set_option Elab.async false
set_option linter.all false
set_option maxRecDepth 100000
set_option maxHeartbeats 400000
namespace VL
open PySem PySem.Spec PyProof.Rows L2
structure RoomG (k : Nat) (A : Around) : Prop where
  rm : Room k A
  gs : A.guards = some []
theorem RoomG.mono {j k : Nat} {A : Around} (r : RoomG k A) (h : j ≤ k) : RoomG j A := ⟨r.rm.mono h, r.gs⟩
theorem RoomG.deeper {k : Nat} {A : Around} (r : RoomG (k + 1) A) (env : Env) : RoomG k (A.deeper env) := ⟨r.rm.deeper env, r.gs⟩
structure FnG (P : Program) (w : World) (K : PySem.W.Frag) (mg : Str → Option Value) (base : Heap) (CX : CXT) (k : Nat) (f : Addr) (fd : FuncData) (ps : List Str) (sp : Sp) : Prop where
  len : ∀ vs H Q E, sp vs H Q E → vs.length = ps.length
  run : ∀ (A : Around) (outer : List Env) (s : Shared) (H : Hp) (args : Args) (us : List Value) (vs : List V) (Q : VK) (E : XK), RoomG k A → Env0 P w K mg base A outer s H → BindsTo s fd args (ps.zip us) → Vals vs us → sp vs H Q E →
    codeAny (model P w) A (.call (.ref f) args) (CR CX outer P w H s Q E) s
theorem FnG.mono {P : Program} {w : World} {K : PySem.W.Frag} {mg : Str → Option Value} {base : Heap} {CX : CXT} {j k : Nat} {f : Addr} {fd : FuncData} {ps : List Str} {sp : Sp} (F : FnG P w K mg base CX j f fd ps sp) (h : j ≤ k) :
    FnG P w K mg base CX k f fd ps sp := ⟨F.len, fun A outer s H args us vs Q E hr => F.run A outer s H args us vs Q E (hr.mono h)⟩
section
variable {X : Cx} {CX : CXT} {k : Nat} {f C : Addr} {fd : FuncData} {ps : List Str} {sp : Sp} {dvs : List V} {ds : List Value} {E : XK} {x m : Str} {p pos apos : Pos} {e o : Expr} {es : List Expr} {ta : TE} {t : TA}
theorem run_g {pins : List (Addr × Obj)} {σ : L2.St} {H : Hp} {s : Shared} {Q : VK} {us : List Value} {vs : List V} (F : FnG X.prog X.w X.K X.mg X.base CX k f fd ps sp) (hr : RoomG k X.A) (hb : Binds X.K fd ps ds) (hd : Vals dvs ds) (hx : Passes CX X E)
    (I : Inv X pins σ H s) (r : Vals vs us) (h : sp (vs ++ dvs) H Q E) : wpAny (model X.prog X.w) X.A (call (.ref f) us) (EP X pins σ Q) X.xe s := by
  have r2 : Vals (vs ++ dvs) (us ++ ds) := r.append hd
  have hl : (us ++ ds).length = ps.length := by rw [← r2.length]; exact F.len _ _ _ _ h
  refine wpAny_call (codeAny_mono (F.run X.A X.stack s H ⟨us, []⟩ (us ++ ds) (vs ++ dvs) Q E hr I.env0 (hb s us I.kIn hl) r2 h) fun r s' hq => ?_)
  cases r with
  | error e => exact hx pins σ H s e s' I hq
  | ok fl =>
    cases fl with
    | ret u => exact I.after hq
    | next => exact False.elim hq
    | brk => exact False.elim hq
    | cont => exact False.elim hq
theorem pe_callg (F : FnG X.prog X.w X.K X.mg X.base CX k f fd ps sp) (hr : RoomG k X.A) (hg : Gl X x) (hm : X.mg x = some (.ref f)) (hk : PySem.W.keepIn X.K (.ref f) = true) (hb : Binds X.K fd ps ds) (hd : Vals dvs ds) (hx : Passes CX X E)
    (ha : PA X (e :: es) t) (hdb : (x == ("__debug__" : Str)) = false := by decide) (he : starEach (e :: es) X.env = (false, eval e X.env) :: starEach es X.env := by rfl) (hpl : (backTo pos (starEach es X.env)).any (·.1) = false := by rfl) :
    PE X (.Call (.Name x p) (e :: es) [] pos) (tCall sp dvs E t) :=
  ⟨fun pins s σ H Q I h => wpAny_Call_Name_kw (ld_glob I hg hm (PySem.W.callWith_K (h₀ := X.base) I.ok.mod.kin hk (thn (ha.run pos pins s σ H _ I h) fun us s1 ⟨vs, H1, I1, r, q⟩ => ⟨I1.kIn, run_g F hr hb hd hx I1 r q⟩) he hpl) hdb)⟩
end
/-- a def by its body -/
theorem fn_g {CX : CXT} {P : Program} {w : World} {K : PySem.W.Frag} {mg : Str → Option Value} {base : Heap} {k : Nat} {f : Addr} {x qual : Str} {params : Arguments} {body : List Stmt} {scope : Scope} {dvs : List V} {kws : List (Str × V)} {fd : FuncData}
    {N ps : List Str} {sp : Sp} (F : FunD K x qual params body scope dvs kws f fd) (S : FnScope N ps scope)
    (len : ∀ vs H Q E, sp vs H Q E → vs.length = ps.length)
    (hbody : ∀ (cdv : Value) (A : Around) (outer : List Env) (s : Shared) (H : Hp) (vs : List V) (Q : VK) (E : XK), RoomG k (A.deeper (envOfC qual scope s.heap.objs.size f cdv)) → sp vs H Q E →
      ∃ t, PSs (cxOf CX P w K mg base N qual scope f cdv A outer s H E) body t ∧ t { nx := fun _ H' => Q .non H', rt := Q } (L2.start N vs) H) :
    FnG P w K mg base CX (k + 1) f fd ps sp := by
  obtain ⟨oc, od, dV, kV, doc, pm, an, cdv, ct, osl, rfl, lk, hcd, _, _⟩ := F.ex
  refine ⟨len, fun A outer s H args us vs Q E hr e0 hb r hsp => ?_⟩
  have hl := len _ _ _ _ hsp
  have KX : K.In s.heap := e0.mod.kin.keeps fun b o e => (e0.bs b o e).1
  have lim : s.heap.NoLimit := e0.mod.nolimit.keeps fun b o e => (e0.bs b o e).1
  have hkind : ∀ y ∈ ps.zip us, scope.names.lookup y.1 = some .local ∨ (scope.names.lookup y.1 = some .cell ∧ ((cellsFrom (s.heap.objs.size + 1) scope.names []).lookup y.1).isSome = true) := fun y hy => by
    have hy1 : y.1 ∈ ps := (List.of_mem_zip (show (y.1, y.2) ∈ ps.zip us from hy)).1
    exact (S.par y.1 hy1).imp id fun q => ⟨q, PySem.W.cellsFrom_some _ _ _ (.inl q)⟩
  refine codeAny_call_function hr.rm.depth (KX _ _ lk) rfl S.co S.gen rfl (PySem.W.codeRec_of KX hcd) (hb _ _ _ _ ?_)
  refine wpAny_newFunctionEnv_cells S.kind hkind fun env he s1 x => ?_
  subst he
  refine ⟨lim.keeps x.toInCall.keep, codeAny_func ?_⟩
  obtain ⟨t, ht, hq⟩ := hbody cdv A outer s H vs Q E (hr.deeper _) hsp
  have I : Inv (cxOf CX P w K mg base N qual scope f cdv A outer s H E) [] (L2.start N vs) H s1 := inv_start S hr.rm.hd e0 hl r x
  refine wpAny_mono (ht.run [] s1 (L2.start N vs) H _ I hq) (fun fl s' hs => ?_) fun e s' hs => hs
  have fin : ∀ {σ' : L2.St} {H' : Hp} {v : V} {u : Value}, Inv (cxOf CX P w K mg base N qual scope f cdv A outer s H E) [] σ' H' s' → RelV v u → Q v H' → CE outer P w H s Q u s' :=
    fun {σ' H' v u} J rv q => ⟨v, H', J.os, J.bare, J.base, J.hok, rv, q⟩
  cases fl with
  | ret u =>
    obtain ⟨v, σ', H', J, rv, q⟩ := hs
    exact fin J rv q
  | next =>
    obtain ⟨σ', H', J, q⟩ := hs
    exact fin (v := V.non) (u := Value.none) J rfl q
  | brk =>
    obtain ⟨_, _, _, q⟩ := hs
    exact False.elim q
  | cont =>
    obtain ⟨_, _, _, q⟩ := hs
    exact False.elim q
theorem law_g {P : Program} {w : World} {K : PySem.W.Frag} {mg mb : Str → Option Value} {CX : CXT} {k : Nat} {fa a : Addr} {fd : FuncData} {x : Str} {sp : Sp} {s₁ : Shared} {vs : List Value} {ns : List Int}
    (KX : K.In s₁.heap) (hns : s₁.heap.Ns mainGlobals mg) (hb : s₁.heap.Ns builtinsNs mb) (hbb : ∀ x : Str, x ≠ "__name__" → mb x = bootBuiltins x) (hlim : s₁.heap.NoLimit) (hg : s₁.gens = #[])
    (ha : s₁.heap.get? a = some { cls := .type "list", data := .seq vs.toArray }) (hi : IntsAre vs ns) (hl : ns.length ≤ sizeLine) (hr : Room k callerA)
    (F : ∀ base : Heap, K.In base → base.Ns mainGlobals mg → FnG P w K mg base CX k fa fd [x] sp) (hbind : ∀ (s : Shared) (u : Value), BindsTo s fd ⟨[u], []⟩ [(x, u)])
    (hsp : ∀ H : Hp, Only H → SqL K H a (ns.map V.int) → sp [.ref a] H (fun v _ => v = .bl true) fun _ _ _ => False)
    (hCX : ∀ H e s', CX [] H s₁ (fun _ _ _ => False) e s' → False) :
    codeAny (model P w) callerA (.call (.ref fa) ⟨[.ref a], []⟩) (fun r s' => r = .ok (.ret (.bool true)) ∧ OldK s₁.heap s'.heap ∧ s'.os = s₁.os ∧ AllBare s'.gens) s₁ := by
  have rv := vals_ints hi
  have lenV := hi.length
  have core : ∀ H : Hp, Only H → SqL K H a (ns.map V.int) → HOk P w H s₁.heap → (∀ b, H b ≠ none → b = a) → (H a ≠ none → K.lookup a = none) →
      codeAny (model P w) callerA (.call (.ref fa) ⟨[.ref a], []⟩) (fun r s' => r = .ok (.ret (.bool true)) ∧ OldK s₁.heap s'.heap ∧ s'.os = s₁.os ∧ AllBare s'.gens) s₁ := by
    intro H hO hS hok hA hK
    have noA : ∀ {b : Addr} {o : Obj} {es : Array DictEntry} {ep : Nat}, s₁.heap.get? b = some o → o.data = .dict es ep → H b = none := fun {b o es ep} e d => by
      refine Classical.byContradiction fun z => ?_
      have e' : b = a := hA b z
      subst e'
      rw [ha] at e; cases e
      have d' : Data.seq vs.toArray _ = Data.dict es ep := d
      cases d'
    have nsK : ∀ {b : Addr} {m : Str → Option Value}, s₁.heap.Ns b m → (hidT s₁.heap H).Ns b m := fun {b m} ⟨o, es, ep, e, d, r⟩ => ⟨o, es, ep, hidT_get e (noA e d), d, r⟩
    have hKb : K.In (hidT s₁.heap H) := fun b o e => hidT_get (KX b o e) (Classical.byContradiction fun z => by
      have e' : b = a := hA b z
      subst e'
      rw [hK z] at e; cases e)
    have hM : Mod K mg (hidT s₁.heap H) := ⟨hKb, nsK hns, ⟨mb, nsK hb, hbb⟩, let ⟨mc, h1, h2⟩ := hlim; ⟨mc, nsK h1, h2⟩⟩
    have e0 : Env0 P w K mg (hidT s₁.heap H) callerA [] s₁ H := ⟨rfl, hM, fun b o e => of_hidT e, Nat.le_of_eq (hidT_size _ _), trivial, fun b hb => absurd (show b ∈ ([] : List Addr) from hb) (by simp), hok, .of_eq hg⟩
    refine codeAny_mono ((F _ hKb (nsK hns)).run callerA [] s₁ H ⟨[.ref a], []⟩ [.ref a] [.ref a] _ _ ⟨hr, rfl⟩ e0 (hbind s₁ (.ref a)) (.cons rfl .nil) (hsp H hO hS)) fun r s' h => ?_
    cases r with
    | error e => exact (hCX H e s' h).elim
    | ok fl =>
     cases fl with
     | next => exact False.elim h
     | brk => exact False.elim h
     | cont => exact False.elim h
     | ret u =>
      obtain ⟨v, H', os, bare, un, hok', r', q⟩ := h
      have q' : v = .bl true := q
      subst q'
      obtain rfl : u = Value.bool true := r'
      refine ⟨rfl, OldK.of_keep fun b o e => ?_, os, bare⟩
      cases q : H b with
      | none => exact un.keep b o e q (by intro z; exact absurd (show b ∈ ([] : List Addr) from z) (by simp)) (by simp)
      | some u =>
        rcases hO b with z | ⟨ob, xs, z⟩
        · rw [q] at z; cases z
        · obtain ⟨e1, _⟩ := hok b _ z
          obtain ⟨e2, _⟩ := hok' b _ (un.frzs b ob _ z)
          rw [e] at e1; cases e1
          exact e2
  cases hk : K.lookup a with
  | some o =>
    have e := KX a o hk
    rw [ha] at e
    cases e
    exact core (fun _ => none) (fun _ => .inl rfl) (.inr ⟨_, vs.toArray, _, hk, rfl, rfl, rfl, by rw [List.size_toArray, lenV]; exact hl, by simpa using rv⟩) (fun b u z => by have z' : (none : Option HO) = some u := z; cases z') (fun b z => absurd rfl z) fun z => absurd rfl z
  | none =>
    have at_ : ∀ b u, (if b = a then some (HO.frz { cls := .type "list", data := .seq vs.toArray } (.lst (ns.map V.int))) else none) = some u → b = a ∧ u = HO.frz { cls := .type "list", data := .seq vs.toArray } (.lst (ns.map V.int)) := fun b u z => by
      by_cases hb : b = a
      · rw [if_pos hb] at z; cases z; exact ⟨hb, rfl⟩
      · rw [if_neg hb] at z; cases z
    refine core (fun b => if b = a then some (.frz { cls := .type "list", data := .seq vs.toArray } (.lst (ns.map V.int))) else none) (fun b => ?_) (.inl (.inr ⟨{ cls := .type "list", data := .seq vs.toArray }, if_pos rfl⟩)) (fun b u z => ?_) (fun b z => ?_) fun _ => hk
    · by_cases hb : b = a
      · exact .inr ⟨_, _, if_pos hb⟩
      · exact .inl (if_neg hb)
    · obtain ⟨rfl, rfl⟩ := at_ b u z
      exact ⟨ha, by rw [List.length_map]; exact hl, vs, _, rv, ha⟩
    · exact Classical.byContradiction fun hb => z (if_neg hb)
theorem walk_g {l : PySem.W.OpenLaw} {n k : Nat} {q : Program} {loose : List Str} {XP : (Str → Option Value) → Heap → Prop} {YP : World → Heap → Prop} {d : DefRec} {CX : CXT} {x : Str}
    (hn : l.most = some n) (hn2 : n ≤ sizeLine) (hdf : d.params.defaults = []) (hr : Room k callerA)
    (F : ∀ (w : World) (mg : Str → Option Value) (fa : Addr) (h : Heap), YP w h → h.Ns mainGlobals mg → mg d.name = some (.ref fa) →
      ∃ (K : PySem.W.Frag) (fd : FuncData) (sp : Sp), K.In h ∧ (∀ (s : Shared) (u : Value), BindsTo s fd ⟨[u], []⟩ [(x, u)]) ∧
        (∀ (H : Hp) (a : Addr) (ns : List Int), ns.length ≤ n → Only H → SqL K H a (ns.map V.int) → sp [.ref a] H (fun v _ => v = .bl true) fun _ _ _ => False) ∧
        ∀ base : Heap, K.In base → base.Ns mainGlobals mg → FnG l.prog w K mg base CX k fa fd [x] sp)
    (hCX : ∀ (H : Hp) (s : Shared) (e : Value) (s' : Shared), CX [] H s (fun _ _ _ => False) e s' → False) :
    PySem.W.WalkO q loose XP YP l.row.toRowW d [] (fun f vs => PySem.call f vs) := by
  refine Att.attach_call hn hdf fun w s₀ s₁ mg mb fa o pm cd doc a vs ns G Y ho hd hcd hmg hobj hints hlen hg => ?_
  obtain ⟨K, fd, sp, KX, hb, hsp, hF⟩ := F w mg fa _ Y G.T.g hmg
  exact law_g KX G.T.g G.T.b G.T.builtins G.T.nolimit hg hobj hints (Nat.le_trans hlen hn2) hr hF hb (fun H hO hS => hsp H a ns hlen hO hS) fun H e s' => hCX H s₁ e s'
end VL
set_option Elab.async false
set_option linter.all false
set_option maxRecDepth 100000
set_option maxHeartbeats 4000000
namespace VL
open PySem PySem.Spec L2 RT RZ
/-- a result: data, or a new list -/
inductive Rv where
  | d (x : D) | new (ds : List D) | newK (kvs : List (Key × D))
def Rv.cell : Rv → Option Cell
  | .d _ => none
  | .new ds => some (.lst ds)
  | .newK kvs => some (.dk kvs)
abbrev SpD := List Sv → Mem → (Rv → Mem → Prop) → Prop
def NB (B : Addr → Prop) : Bool → Addr → Prop := fun b a => ¬ False ∧ (b = true → ¬ B a)
/-- objects stay objects -/
def ObI (ι : Ix) (H0 H : Hp) : Prop := ∀ l : List Addr, l.map some = ι → ObK l H0 H
theorem ObI.of {l : List Addr} {H0 H : Hp} (h : ObK l H0 H) : ObI (l.map some) H0 H := fun m e => by
  have : m = l := List.map_inj_right (fun a b z => Option.some.inj z) |>.mp e
  rw [this]; exact h
/-- how a result lies: ι the callee's changing arguments -/
def RR (K : PySem.W.Frag) (N : Bool → Addr → Prop) (H0 H : Hp) (ι : Ix) (M : Mem) : Rv → V → Prop
  | .d x, v => RD K N H ι x v ∧ RM K N H ι M ∧ Kp ι H0 ι H ∧ ObI ι H0 H
  | .new ds, v => ∃ a, v = .ref a ∧ H0 a = none ∧ RM K N H (ι ++ [some a]) (M ++ [.lst ds]) ∧ Kp ι H0 (ι ++ [some a]) H ∧ ObI ι H0 H
  | .newK kvs, v => ∃ a, v = .ref a ∧ H0 a = none ∧ RM K N H (ι ++ [some a]) (M ++ [.dk kvs]) ∧ Kp ι H0 (ι ++ [some a]) H ∧ ObI ι H0 H
theorem RR.of {K : PySem.W.Frag} {N : Bool → Addr → Prop} {H0 H : Hp} {ι : Ix} {M : Mem} {v : V} {c : Cell} : ∀ {r : Rv}, r.cell = some c → ((∃ a, v = .ref a ∧ H0 a = none ∧ RM K N H (ι ++ [some a]) (M ++ [c]) ∧ Kp ι H0 (ι ++ [some a]) H ∧ ObI ι H0 H) ↔ RR K N H0 H ι M r v)
  | .d _, e => by cases e
  | .new ds, e => by cases e; exact Iff.rfl
  | .newK kvs, e => by cases e; exact Iff.rfl
def resC : Option Cell → Option Rv
  | some (.lst ds) => some (.new ds)
  | some (.dk kvs) => some (.newK kvs)
  | _ => none
theorem resC_some {o : Option Cell} {r : Rv} (h : resC o = some r) : ∃ c, o = some c ∧ r.cell = some c ∧ c ≠ .gone ∧ ∀ k its, c ≠ .nd k its := by
  unfold resC at h
  split at h
  · cases h; exact ⟨_, rfl, rfl, (fun z => nomatch z), fun _ _ z => nomatch z⟩
  · cases h; exact ⟨_, rfl, rfl, (fun z => nomatch z), fun _ _ z => nomatch z⟩
  · cases h
def lP (K : PySem.W.Frag) (n : Nat) (sp : SpD) : Sp := fun vs H Q _ => ∃ (as : List Sv) (M : Mem) (i0 : List Addr) (B : Addr → Prop) (Q0 : Rv → Mem → Prop),
  as.length = n ∧ (∀ a, B a → ∃ o, H a = some o) ∧ RSs K (NB B) H (i0.map some) as vs ∧ RM K (NB B) H (i0.map some) M ∧ sp as M Q0 ∧
  ∀ r M' v H', Q0 r M' → RR K (NB B) H H' (i0.map some) M' r v → Q v H'
/-- the ends of a body: m cells were handed in -/
def resD (M : Mem) : Sv → Option Rv
  | .d x => some (.d x)
  | .ref n => resC M[n]?
  | .bor _ => none
def okRef (m : Nat) : Sv → Prop
  | .ref n => m ≤ n
  | _ => True
def endsF (m : Nat) (Q0 : Rv → Mem → Prop) : Ends' where
  nx := fun _ M => Q0 (.d .non) (M.take m)
  rt := fun s M => okRef m s ∧ ok (resD M s) fun r => Q0 r (M.take m)
def startD (n : Nat) (as : List Sv) : DS := as.map some ++ List.replicate (n - as.length) none
section
variable {K : PySem.W.Frag} {X : Cx} {N : Bool → Addr → Prop} {H : Hp} {ι : Ix}
theorem RSs.get : ∀ {as : List Sv} {vs : List V} {i : Nat} {d : Sv}, RSs K N H ι as vs → as[i]? = some d → ∃ v, vs[i]? = some v ∧ RS K N H ι d v
  | [], _, _, _, _, e => by simp at e
  | a :: as, _, i, d, h, e => by
    obtain ⟨x, r, rfl, h1, h2⟩ := h
    cases i with
    | zero => simp at e; subst e; exact ⟨x, rfl, h1⟩
    | succ i => exact RSs.get (i := i) h2 (by simpa using e)
theorem startD_at {n : Nat} {as : List Sv} {i : Nat} {d : Sv} (h : (startD n as)[i]? = some (some d)) : as[i]? = some d := by
  unfold startD at h
  by_cases hi : i < as.length
  · rw [List.getElem?_append_left (by simpa using hi), List.getElem?_map] at h
    cases q : as[i]? with
    | none => rw [q] at h; cases h
    | some u => rw [q] at h; cases h; rfl
  · rw [List.getElem?_append_right (by simpa using hi), List.getElem?_replicate] at h
    split at h <;> cases h
/-- the ground of a callee -/
abbrev gnd (H : Hp) (i0 : List Addr) (B : Addr → Prop) : Gd := ⟨H, i0, B, fun _ => False⟩
theorem start_sr {Ns : List Str} {as : List Sv} {vs : List V} {M : Mem} {i0 : List Addr} {B : Addr → Prop} (hB : ∀ a, B a → ∃ o, H a = some o) (r : RSs K (NB B) H (i0.map some) as vs) (m : RM K (NB B) H (i0.map some) M) :
    Sr K (gnd H i0 B) (startD Ns.length as) M (i0.map some) (L2.start Ns vs) H := by
  have hl := r.length
  refine ⟨by unfold startD L2.start; simp [hl], fun i d e => ?_, m, fun n a e => ?_, Kp.refl _ _, fun a ha hn => ?_, hB, fun a ha => ha.elim, ObK.refl _ _⟩
  · have e1 := startD_at e
    obtain ⟨v, e2, r2⟩ := r.get e1
    refine ⟨v, ?_, r2⟩
    unfold L2.start
    rw [List.getElem?_append_left (by simpa using (List.getElem?_eq_some_iff.mp e2).1), List.getElem?_map, e2]; rfl
  · rw [List.getElem?_map, e]; rfl
  · exact absurd (by simpa using ha) hn
theorem pre_take {G : Gd} {δ : DS} {M : Mem} {σ : L2.St} (S : Sr K G δ M ι σ H) : ι.take G.i0.length = G.i0.map some := by
  apply List.ext_getElem?
  intro n
  rw [List.getElem?_take, List.getElem?_map]
  split
  · rename_i h
    rw [List.getElem?_eq_getElem h]
    exact S.pre n _ (List.getElem?_eq_getElem h)
  · rename_i h
    rw [List.getElem?_eq_none (by omega)]; rfl
/-- a body keeps the promise -/
theorem body_at {Ns : List Str} {body : List Stmt} {t : TS'} {vs : List V} {Q : VK} {as : List Sv} {M : Mem} {i0 : List Addr} {B : Addr → Prop} {Q0 : Rv → Mem → Prop}
    (hb : VSs X (gnd H i0 B) body t) (hB : ∀ a, B a → ∃ o, H a = some o) (ra : RSs X.K (NB B) H (i0.map some) as vs) (rm : RM X.K (NB B) H (i0.map some) M) (hp : t (endsF M.length Q0) (startD Ns.length as) M)
    (z : ∀ r M' v H', Q0 r M' → RR X.K (NB B) H H' (i0.map some) M' r v → Q v H') :
    ∃ t', PSs X body t' ∧ t' { nx := fun _ H' => Q .non H', rt := Q } (L2.start Ns vs) H := by
  have hlen : M.length = i0.length := by rw [rm.len]; simp
  have fin : ∀ {δ' : DS} {M' : Mem} {ι' : Ix} {σ' : L2.St} {H' : Hp}, Sr X.K (gnd H i0 B) δ' M' ι' σ' H' → RM X.K (NB B) H' (i0.map some) (M'.take M.length) ∧ Kp (i0.map some) H (i0.map some) H' ∧ Kp ι' H' (i0.map some) H' := fun S' => by
    have e := pre_take S'
    have S2 := S'.gc i0.length (Nat.le_refl _)
    rw [show (gnd H i0 B).i0.length = i0.length from rfl] at e
    rw [e] at S2
    refine ⟨by rw [hlen]; exact S2.mem, S2.kp, ?_⟩
    rw [← show (gnd H i0 B).i0 = i0 from rfl, ← e]; exact Kp.take _
  refine ⟨_, hb, startD Ns.length as, M, i0.map some, endsF M.length Q0, start_sr hB ra rm, hp, ?_⟩
  refine ⟨fun δ' M' ι' σ' H' q e k S' => ?_, fun d δ' M' ι' σ' H' v q S' r => ?_, fun δ' M' ι' σ' H' q e k S' => q.elim, fun δ' M' ι' σ' H' q e k S' => q.elim⟩
  · obtain ⟨f1, f2, f3⟩ := fin S'
    exact z _ _ .non H' q ⟨rfl, f1, f2, ObI.of S'.obk⟩
  · obtain ⟨f1, f2, f3⟩ := fin S'
    obtain ⟨hr, q9⟩ := q
    obtain ⟨rv, e, q⟩ := ok_elim q9
    clear q9
    cases d with
    | d x => cases e; exact z _ _ v H' q ⟨RD.mono f3 (fun _ _ _ _ z => z) x v r, f1, f2, ObI.of S'.obk⟩
    | bor ds => cases e
    | ref k =>
      obtain ⟨cc, e1, hcc, hng, hnn⟩ := resC_some (show resC M'[k]? = some rv from e)
      obtain ⟨a, rfl, hk, rc⟩ := S'.mem.at r e1 hng
      have hm : M.length ≤ k := hr
      have hno : a ∉ i0 := fun ha => by
        obtain ⟨j, hj⟩ := List.getElem?_of_mem ha
        have := S'.pre j a hj
        have e3 := S'.mem.nod _ _ _ this hk
        have := (List.getElem?_eq_some_iff.mp hj).1
        omega
      have f4 : Kp ι' H' (i0.map some ++ [some a]) H' := fun b o e n => by
        refine ⟨e, fun hb => ?_⟩
        rcases List.mem_append.mp hb with hb | hb
        · exact (f3 b o e n).2 hb
        · simp only [List.mem_singleton, Option.some.injEq] at hb; subst hb; exact n (List.mem_of_getElem? hk)
      have hsz : (M'.take M.length).length = (i0.map some).length := f1.len
      refine z _ _ _ H' q ((RR.of hcc).mp ⟨a, rfl, S'.new a (List.mem_of_getElem? hk) hno, ⟨by simp [hsz], fun n m b e1 e2 => ?_, fun n c b e1 e2 => ?_, fun n e1 => ?_, fun n c e1 => ?_⟩, fun b o e n => ?_, ObI.of S'.obk⟩)
      · rw [List.getElem?_append] at e1 e2
        split at e1 <;> split at e2
        · exact f1.nod n m b e1 e2
        · rename_i h1 h2
          have : b = a := by
            cases w : m - (i0.map some).length with
            | zero => rw [w] at e2; simpa using e2.symm
            | succ j => rw [w] at e2; simp at e2
          subst this
          exact absurd (by simpa using List.mem_of_getElem? e1) hno
        · rename_i h1 h2
          have : b = a := by
            cases w : n - (i0.map some).length with
            | zero => rw [w] at e1; simpa using e1.symm
            | succ j => rw [w] at e1; simp at e1
          subst this
          exact absurd (by simpa using List.mem_of_getElem? e2) hno
        · rename_i h1 h2
          cases w : n - (i0.map some).length with
          | zero =>
            cases w2 : m - (i0.map some).length with
            | zero => omega
            | succ j => rw [w2] at e2; simp at e2
          | succ j => rw [w] at e1; simp at e1
      · rw [List.getElem?_append] at e1 e2
        rw [hsz] at e1
        split at e1
        · rename_i h1
          rw [if_pos h1] at e2
          have e3 : M'[n]? = some c := by
            rw [List.getElem?_take] at e1
            split at e1
            · exact e1
            · cases e1
          have e4 : ι'[n]? = some (some b) := by
            rw [List.getElem?_map] at e2
            cases w : i0[n]? with
            | none => rw [w] at e2; cases e2
            | some b' => rw [w] at e2; cases e2; exact S'.pre n b w
          refine (S'.mem.cell n c b e3 e4).monoB (n := n) f4 (fun j hj o q => ?_) (fun _ _ _ _ z => z) (S'.mem.wf n c e3) rfl
          have hji : j < (i0.map some).length := Nat.lt_trans hj h1
          rw [List.getElem?_append_left hji, List.getElem?_map]
          have hj0 : j < i0.length := by simpa using hji
          have := S'.pre j _ (List.getElem?_eq_getElem hj0)
          rw [this] at q
          cases q
          left
          rw [List.getElem?_eq_getElem hj0]; rfl
        · rename_i h1
          rw [if_neg h1] at e2
          cases w : n - (i0.map some).length with
          | zero =>
            rw [w] at e1 e2
            simp at e1 e2
            subst e1 e2
            revert hcc hnn rc
            cases cc with
            | gone => exact fun _ _ z => z.elim
            | lst ds => exact fun _ _ ⟨xs, q1, l, rd⟩ => ⟨xs, q1, l, rd.mono f4 fun _ _ _ _ z => z⟩
            | dk kvs => exact fun _ _ ⟨xs, q1, l, rd⟩ => ⟨xs, q1, l, rd.mono f4 fun _ _ _ _ z => z⟩
            | dn kvs => exact fun _ _ ⟨xs, q1, l, r1, r2⟩ => ⟨xs, q1, l, r1.mono f4 fun _ _ _ _ z => z, r2.mono f4 fun _ _ _ _ z => z⟩
            | dw w kvs => exact fun _ _ ⟨xs, q1, l, r1, r2⟩ => ⟨xs, q1, l, r1.mono f4 fun _ _ _ _ z => z, r2.mono f4 fun _ _ _ _ z => z⟩
            | nd k its => exact fun _ h => absurd rfl (h k its)
          | succ j => rw [w] at e1; simp at e1
      · rw [List.getElem?_append] at e1
        split at e1
        · rw [List.getElem?_map] at e1
          cases w : i0[n]? with
          | none => rw [w] at e1; cases e1
          | some b' => rw [w] at e1; cases e1
        · cases w : n - (i0.map some).length with
          | zero => rw [w] at e1; simp at e1
          | succ j => rw [w] at e1; simp at e1
      · rw [List.getElem?_append] at e1
        split at e1
        · exact f1.wf n c e1
        · have := List.mem_of_getElem? e1
          rw [List.mem_singleton.mp this]
          cases cc with
          | nd k its => exact absurd rfl (hnn k its)
          | _ => trivial
      · obtain ⟨h1, h2⟩ := f2 b o e n
        refine ⟨h1, fun hb => ?_⟩
        rcases List.mem_append.mp hb with hb | hb
        · exact h2 hb
        · simp only [List.mem_singleton, Option.some.injEq] at hb; subst hb
          rw [show H b = none from S'.new b (List.mem_of_getElem? hk) hno] at e; cases e
theorem body_ok {Ns : List Str} {n : Nat} {sp : SpD} {body : List Stmt} {t : TS'} {vs : List V} {Q : VK} {E : XK}
    (m0 : Nat) (hX : X.K = K) (hb : ∀ G, G.i0.length = m0 → VSs X G body t) (hm0 : ∀ as M Q0, sp as M Q0 → M.length = m0) (hp : ∀ as M Q0, as.length = n → sp as M Q0 → t (endsF M.length Q0) (startD Ns.length as) M) (h : lP K n sp vs H Q E) :
    ∃ t', PSs X body t' ∧ t' { nx := fun _ H' => Q .non H', rt := Q } (L2.start Ns vs) H := by
  subst hX
  obtain ⟨as, M, i0, B, Q0, hn, hB, ra, rm, hs, z⟩ := h
  have hlen : M.length = i0.length := by rw [rm.len]; simp
  exact body_at (hb (gnd H i0 B) (hlen.symm.trans (hm0 _ _ _ hs))) hB ra rm (hp as M Q0 hn hs) z
/-- a changing thing that is not gone -/
def cellA : Option Cell → Option Unit
  | some (.lst _) => some ()
  | some (.dk _) => some ()
  | some (.dn _) => some ()
  | some (.dw _ _) => some ()
  | _ => none
theorem cellA_some {c : Option Cell} {u : Unit} (h : cellA c = some u) : ∃ x, c = some x ∧ x ≠ .gone := by
  cases c with
  | none => cases h
  | some x => cases x with
    | gone => cases h
    | lst ds => exact ⟨_, rfl, fun z => nomatch z⟩
    | dk kvs => exact ⟨_, rfl, fun z => nomatch z⟩
    | dn kvs => exact ⟨_, rfl, fun z => nomatch z⟩
    | dw w kvs => exact ⟨_, rfl, fun z => nomatch z⟩
    | nd k its => cases h
/-- how the arguments are handed over: tt, a changing list of the caller's that the callee may change; ns: the caller's numbers of these -/
def handS (M : Mem) : List Bool → List Sv → List Nat → Option (List Sv × List Nat)
  | [], [], ns => some ([], ns)
  | true :: ms, .ref n :: xs, ns => if n ∈ ns then none else (cellA M[n]?).bind fun _ => (handS M ms xs (ns ++ [n])).map fun r => (.ref ns.length :: r.1, r.2)
  | false :: ms, .ref n :: xs, ns => (cellL M[n]?).bind fun ds => (handS M ms xs ns).bind fun r => if n ∈ r.2 then none else some (.bor ds :: r.1, r.2)
  | false :: ms, x :: xs, ns => (handS M ms xs ns).map fun r => (x :: r.1, r.2)
  | _, _, _ => none
def cellsAt (M : Mem) (ns : List Nat) : Mem := ns.map fun n => M[n]?.getD .gone
/-- the callee's cells written back -/
def backS : List Nat → Mem → Mem → Mem
  | n :: ns, c :: cs, M => backS ns cs (M.set n c)
  | _, _, M => M
def callS (ms : List Bool) (sp : SpD) (M : Mem) (xs : List Sv) (Q : Rv → Mem → Prop) : Prop :=
  ok (handS M ms xs []) fun r => sp r.1 (cellsAt M r.2) fun v Mc => Q v (backS r.2 Mc M)
def rvQ (Q : QD) : Rv → Mem → Prop
  | .d x, M => Q (.d x) M
  | .new ds, M => Q (.ref M.length) (M ++ [.lst ds])
  | .newK kvs, M => Q (.ref M.length) (M ++ [.dk kvs])
theorem rvQ_cell {Q : QD} {c : Cell} {M : Mem} : ∀ {r : Rv}, r.cell = some c → rvQ Q r M → Q (.ref M.length) (M ++ [c])
  | .d _, e, _ => by cases e
  | .new ds, e, h => by cases e; exact h
  | .newK kvs, e, h => by cases e; exact h
def eCall (ms : List Bool) (sp : SpD) (tA : TA') : TE' := fun δ M Q => tA δ M fun xs M1 => callS ms sp M1 xs (rvQ Q)
/-- what the callee's callers may change -/
def Bc (G : Gd) (ι : Ix) (i0 : List Addr) : Addr → Prop := fun a => G.B a ∨ G.Hd a ∨ (some a ∈ ι ∧ a ∉ i0)
mutual
theorem RD.go {N N' : Bool → Addr → Prop} {H H' : Hp} {ι ι' : Ix} (h1 : ∀ a xs, H a = some (.tup xs) → some a ∉ ι → H' a = some (.tup xs) ∧ some a ∉ ι') (h2 : ∀ a o l, H a = some (.frz o l) → some a ∉ ι → H' a = some (.frz o l) ∧ some a ∉ ι')
    (h3 : ∀ a xs, H a = some (.lst xs) → some a ∉ ι → N true a → H' a = some (.lst xs) ∧ some a ∉ ι' ∧ N' true a) : ∀ (d : D) (v : V), RD K N H ι d v → RD K N' H' ι' d v
  | .non, _, h => h
  | .bl _, _, h => h
  | .int _, _, h => h
  | .str _, _, h => h
  | .fn _, _, h => h
  | .ty _, _, h => h
  | .cls _, _, h => h
  | .exc _ f, v, h => by
    obtain ⟨a, oe, vs, e, q, n, c, d, x⟩ := h
    exact ⟨a, oe, vs, e, (h2 a _ _ q n).1, (h2 a _ _ q n).2, c, d, x.map h2⟩
  | .dn ks ds, v, h => by
    obtain ⟨a, xs, o, e, q, n, z, r1, r2⟩ := h
    exact ⟨a, xs, o, e, (h2 a _ _ q n).1, (h2 a _ _ q n).2, z, RDs.go h1 h2 h3 ks _ r1, RDs.go h1 h2 h3 ds _ r2⟩
  | .dk ks ds, v, h => by
    obtain ⟨a, ws, o, e, q, n, z, r⟩ := h
    exact ⟨a, ws, o, e, (h2 a _ _ q n).1, (h2 a _ _ q n).2, z, RDs.go h1 h2 h3 ds _ r⟩
  | .scr ns, v, h => by
    obtain ⟨a, e, ⟨o, q, n⟩ | q, l⟩ := h
    · exact ⟨a, e, .inl ⟨o, h2 a _ _ q n⟩, l⟩
    · exact ⟨a, e, .inr q, l⟩
  | .tup ds, v, h => by
    obtain ⟨a, xs, e, q, l, r⟩ := h
    refine ⟨a, xs, e, ?_, l, RDs.go h1 h2 h3 ds xs r⟩
    rcases q with ⟨q, n⟩ | q
    · exact .inl (h1 a _ q n)
    · exact .inr q
  | .lst ds, v, h => by
    obtain ⟨a, xs, e, q, n, z, l, r⟩ := h
    obtain ⟨q1, q2, q3⟩ := h3 a xs q n z
    exact ⟨a, xs, e, q1, q2, q3, l, RDs.go h1 h2 h3 ds xs r⟩
theorem RDs.go {N N' : Bool → Addr → Prop} {H H' : Hp} {ι ι' : Ix} (h1 : ∀ a xs, H a = some (.tup xs) → some a ∉ ι → H' a = some (.tup xs) ∧ some a ∉ ι') (h2 : ∀ a o l, H a = some (.frz o l) → some a ∉ ι → H' a = some (.frz o l) ∧ some a ∉ ι')
    (h3 : ∀ a xs, H a = some (.lst xs) → some a ∉ ι → N true a → H' a = some (.lst xs) ∧ some a ∉ ι' ∧ N' true a) : ∀ (ds : List D) (vs : List V), RDs K N H ι ds vs → RDs K N' H' ι' ds vs
  | [], _, h => h
  | d :: ds, vs, h => by
    obtain ⟨x, r, e, g1, g2⟩ := h
    exact ⟨x, r, e, RD.go h1 h2 h3 d x g1, RDs.go h1 h2 h3 ds r g2⟩
end
section
variable {G : Gd} {δ : DS} {M : Mem} {σ : L2.St} {i0 : List Addr}
theorem RD.dn {d : D} {v : V} (hi : ∀ a ∈ i0, some a ∈ ι) (h : RD K G.N H ι d v) : RD K (NB (Bc G ι i0)) H (i0.map some) d v := by
  have hn : ∀ a, some a ∉ ι → some a ∉ i0.map some := fun a hn h => hn (hi a (by simpa using h))
  exact RD.go (fun a xs q n => ⟨q, hn a n⟩) (fun a o l q n => ⟨q, hn a n⟩) (fun a xs q n z => ⟨q, hn a n, fun z => z, fun _ => by
    rintro (h | h | h)
    · exact z.2 rfl h
    · exact z.1 h
    · exact n h.1⟩) d v h
theorem RDs.dn {d : List D} {v : List V} (hi : ∀ a ∈ i0, some a ∈ ι) (h : RDs K G.N H ι d v) : RDs K (NB (Bc G ι i0)) H (i0.map some) d v := by
  have hn : ∀ a, some a ∉ ι → some a ∉ i0.map some := fun a hn h => hn (hi a (by simpa using h))
  exact RDs.go (fun a xs q n => ⟨q, hn a n⟩) (fun a o l q n => ⟨q, hn a n⟩) (fun a xs q n z => ⟨q, hn a n, fun z => z, fun _ => by
    rintro (h | h | h)
    · exact z.2 rfl h
    · exact z.1 h
    · exact n h.1⟩) d v h
/-- a cell's kind -/
theorem Sr.kind (S : Sr K G δ M ι σ H) {a : Addr} (h : some a ∈ ι) : (∃ xs, H a = some (.lst xs)) ∨ (∃ ws, H a = some (.dK ws)) ∨ (∃ ws, H a = some (.ext ws)) ∨ ∃ C dx fs, H a = some (.ins C dx fs) := by
  obtain ⟨n, hn⟩ := List.getElem?_of_mem h
  have hM : n < M.length := by rw [S.mem.len]; exact (List.getElem?_eq_some_iff.mp hn).1
  have q := S.mem.cell n M[n] a (List.getElem?_eq_getElem hM) hn
  cases e : M[n] with
  | gone => rw [e] at q; exact q.elim
  | lst ds => rw [e] at q; exact .inl ⟨_, q.choose_spec.1⟩
  | dk kvs => rw [e] at q; exact .inr (.inl ⟨_, q.choose_spec.1⟩)
  | dn kvs => rw [e] at q; exact .inr (.inr (.inl ⟨_, q.choose_spec.1⟩))
  | dw w kvs => rw [e] at q; exact .inr (.inr (.inl ⟨_, q.choose_spec.1⟩))
  | nd k its =>
    rw [e] at q
    obtain ⟨xs, q1, _⟩ := q
    cases k with
    | ob c fs => obtain ⟨dx, q1, _⟩ := q1; exact .inr (.inr (.inr ⟨_, _, _, q1⟩))
theorem up3 {H' : Hp} {r : Ix} (S : Sr K G δ M ι σ H) (k : Kp (i0.map some) H (i0.map some ++ r) H') :
    (∀ a xs, H' a = some (.tup xs) → some a ∉ i0.map some ++ r → H' a = some (.tup xs) ∧ some a ∉ ι ++ r) ∧ (∀ a o l, H' a = some (.frz o l) → some a ∉ i0.map some ++ r → H' a = some (.frz o l) ∧ some a ∉ ι ++ r) ∧
    (∀ a xs, H' a = some (.lst xs) → some a ∉ i0.map some ++ r → NB (Bc G ι i0) true a → H' a = some (.lst xs) ∧ some a ∉ ι ++ r ∧ G.N true a) := by
  refine ⟨fun a xs q n => ⟨q, fun h => ?_⟩, fun a o l q n => ⟨q, fun h => ?_⟩, fun a xs q n z => ⟨q, fun h => ?_, fun h => z.2 rfl (.inr (.inl h)), fun _ h => z.2 rfl (.inl h)⟩⟩
  all_goals
    have n1 : some a ∉ i0.map some := fun h => n (List.mem_append_left _ h)
    have n2 : some a ∉ r := fun h => n (List.mem_append_right _ h)
    have h : some a ∈ ι := (List.mem_append.mp h).resolve_right n2
  · rcases S.kind h with ⟨ys, e⟩ | ⟨ys, e⟩ | ⟨ys, e⟩ | ⟨C, dx, fs, e⟩
    · rw [(k a _ e n1).1] at q; cases q
    · rw [(k a _ e n1).1] at q; cases q
    · rw [(k a _ e n1).1] at q; cases q
    · rw [(k a _ e n1).1] at q; cases q
  · rcases S.kind h with ⟨ys, e⟩ | ⟨ys, e⟩ | ⟨ys, e⟩ | ⟨C, dx, fs, e⟩
    · rw [(k a _ e n1).1] at q; cases q
    · rw [(k a _ e n1).1] at q; cases q
    · rw [(k a _ e n1).1] at q; cases q
    · rw [(k a _ e n1).1] at q; cases q
  · exact z.2 rfl (.inr (.inr ⟨h, by simpa using n1⟩))
theorem RDs.up {H' : Hp} {r : Ix} {d : List D} {v : List V} (S : Sr K G δ M ι σ H) (k : Kp (i0.map some) H (i0.map some ++ r) H') (h : RDs K (NB (Bc G ι i0)) H' (i0.map some ++ r) d v) : RDs K G.N H' (ι ++ r) d v :=
  let ⟨h1, h2, h3⟩ := up3 S k
  RDs.go h1 h2 h3 d v h
theorem RD.up {H' : Hp} {r : Ix} {d : D} {v : V} (S : Sr K G δ M ι σ H) (k : Kp (i0.map some) H (i0.map some ++ r) H') (h : RD K (NB (Bc G ι i0)) H' (i0.map some ++ r) d v) : RD K G.N H' (ι ++ r) d v :=
  let ⟨h1, h2, h3⟩ := up3 S k
  RD.go h1 h2 h3 d v h
/-- what is handed over, as the callee sees it -/
theorem hand_of (S : Sr K G δ M ι σ H) : ∀ (ms : List Bool) (xs : List Sv) (vs : List V) (ns : List Nat) (as : List Sv) (ns' : List Nat), handS M ms xs ns = some (as, ns') → RSs K G.N H ι xs vs → ns.Nodup → (∀ n ∈ ns, ∃ ds, cellA M[n]? = some ds ∧ ∃ a, ι[n]? = some (some a)) →
    ns'.Nodup ∧ (∀ n ∈ ns', ∃ ds, cellA M[n]? = some ds ∧ ∃ a, ι[n]? = some (some a)) ∧ (∃ r, ns' = ns ++ r) ∧ (∀ i0, i0.map some = ns'.map (fun n => (ι[n]?).join) → RSs K (NB (Bc G ι i0)) H (i0.map some) as vs) ∧ as.length = xs.length
  | [], [], vs, ns, as, ns', e, r, nd, hc => by
    cases e
    exact ⟨nd, hc, ⟨[], by simp⟩, fun i0 _ => r, rfl⟩
  | true :: ms, .ref n :: xs, vs, ns, as, ns', e, r, nd, hc => by
    unfold handS at e
    split at e
    · cases e
    rename_i hn
    obtain ⟨ds, e1, e⟩ := Option.bind_eq_some_iff.mp e
    obtain ⟨⟨as1, ns1⟩, e2, e⟩ := Option.map_eq_some_iff.mp e
    cases e
    obtain ⟨v, r', rfl, r1, r2⟩ := r
    obtain ⟨cx, hx1, hx2⟩ := cellA_some e1
    obtain ⟨a, rfl, ha, _⟩ := S.mem.at r1 hx1 hx2
    obtain ⟨h1, h2, ⟨q, h3⟩, h4, h5⟩ := hand_of S ms xs r' (ns ++ [n]) as1 ns1 e2 r2 (by
      rw [List.nodup_append]; refine ⟨nd, by simp, fun x hx y hy => ?_⟩
      simp only [List.mem_singleton] at hy; subst hy; rintro rfl; exact hn hx) (fun m hm => by
      rcases List.mem_append.mp hm with hm | hm
      · exact hc m hm
      · simp only [List.mem_singleton] at hm; subst hm; exact ⟨ds, e1, a, ha⟩)
    refine ⟨h1, h2, ⟨n :: q, by rw [h3]; simp⟩, fun i0 hi => ⟨_, _, rfl, ⟨a, rfl, .inl ?_⟩, h4 i0 hi⟩, by simp [h5]⟩
    rw [hi, h3, List.getElem?_map, List.append_assoc, List.getElem?_append_right (Nat.le_refl _)]
    simp [ha]
  | false :: ms, .ref n :: xs, vs, ns, as, ns', e, r, nd, hc => by
    unfold handS at e
    obtain ⟨ds, e1, e⟩ := Option.bind_eq_some_iff.mp e
    obtain ⟨⟨as1, ns1⟩, e2, e⟩ := Option.bind_eq_some_iff.mp e
    split at e
    · cases e
    rename_i hn
    cases e
    obtain ⟨v, r', rfl, r1, r2⟩ := r
    obtain ⟨a, rfl, ha, ys, q1, l1, rd⟩ := S.mem.at r1 (cellL_some e1) (fun z => nomatch z)
    obtain ⟨h1, h2, h3, h4, h5⟩ := hand_of S ms xs r' ns as1 ns1 e2 r2 nd hc
    refine ⟨h1, h2, h3, fun i0 hi => ⟨_, _, rfl, ⟨a, ys, rfl, q1, ?_, ⟨fun z => z, fun z => nomatch z⟩, l1, ?_⟩, h4 i0 hi⟩, by simp [h5]⟩
    · rw [hi]
      intro hm
      obtain ⟨m, hm1, hm2⟩ := List.mem_map.mp hm
      obtain ⟨_, _, b, hb⟩ := h2 m hm1
      rw [hb] at hm2
      cases hm2
      exact hn (S.mem.nod _ _ _ hb ha ▸ hm1)
    · refine RDs.dn (fun b hb => ?_) rd
      have : some b ∈ i0.map some := by simpa using hb
      rw [hi] at this
      obtain ⟨m, hm1, hm2⟩ := List.mem_map.mp this
      obtain ⟨_, _, c, hb⟩ := h2 m hm1
      rw [hb] at hm2; cases hm2
      exact List.mem_of_getElem? hb
  | false :: ms, .d x :: xs, vs, ns, as, ns', e, r, nd, hc => by
    obtain ⟨⟨as1, ns1⟩, e2, e⟩ := Option.map_eq_some_iff.mp (show (handS M ms xs ns).map _ = _ from e)
    cases e
    obtain ⟨v, r', rfl, r1, r2⟩ := r
    obtain ⟨h1, h2, h3, h4, h5⟩ := hand_of S ms xs r' ns as1 ns1 e2 r2 nd hc
    refine ⟨h1, h2, h3, fun i0 hi => ⟨_, _, rfl, RD.dn (fun b hb => ?_) r1, h4 i0 hi⟩, by simp [h5]⟩
    have : some b ∈ i0.map some := by simpa using hb
    rw [hi] at this
    obtain ⟨m, hm1, hm2⟩ := List.mem_map.mp this
    obtain ⟨_, _, c, hb⟩ := h2 m hm1
    rw [hb] at hm2; cases hm2
    exact List.mem_of_getElem? hb
  | false :: ms, .bor ds :: xs, vs, ns, as, ns', e, r, nd, hc => by
    obtain ⟨⟨as1, ns1⟩, e2, e⟩ := Option.map_eq_some_iff.mp (show (handS M ms xs ns).map _ = _ from e)
    cases e
    obtain ⟨v, r', rfl, r1, r2⟩ := r
    obtain ⟨h1, h2, h3, h4, h5⟩ := hand_of S ms xs r' ns as1 ns1 e2 r2 nd hc
    refine ⟨h1, h2, h3, fun i0 hi => ?_, by simp [h5]⟩
    have hb : ∀ b ∈ i0, some b ∈ ι := fun b hb => by
      have : some b ∈ i0.map some := by simpa using hb
      rw [hi] at this
      obtain ⟨m, hm1, hm2⟩ := List.mem_map.mp this
      obtain ⟨_, _, c, hb⟩ := h2 m hm1
      rw [hb] at hm2; cases hm2
      exact List.mem_of_getElem? hb
    obtain ⟨a, ys, rfl, q1, n1, _, l1, rd⟩ := r1
    exact ⟨_, _, rfl, ⟨a, ys, rfl, q1, fun hm => n1 (hb a (by simpa using hm)), ⟨fun z => z, fun z => nomatch z⟩, l1, RDs.dn hb rd⟩, h4 i0 hi⟩
  | true :: ms, .d x :: xs, _, _, _, _, e, _, _, _ => by cases e
  | true :: ms, .bor x :: xs, _, _, _, _, e, _, _, _ => by cases e
  | [], _ :: _, _, _, _, _, e, _, _, _ => by cases e
  | true :: _, [], _, _, _, _, e, _, _, _ => by cases e
  | false :: _, [], _, _, _, _, e, _, _, _ => by cases e
theorem nodup_ix : ∀ {ns : List Nat} {j l m : Nat}, ns.Nodup → ns[j]? = some m → ns[l]? = some m → j = l
  | [], _, _, _, _, h, _ => by simp at h
  | n :: ns, 0, 0, _, _, _, _ => rfl
  | n :: ns, 0, l + 1, m, nd, h1, h2 => by
    simp at h1; subst h1
    exact absurd (List.mem_of_getElem? (by simpa using h2)) (List.nodup_cons.mp nd).1
  | n :: ns, j + 1, 0, m, nd, h1, h2 => by
    simp at h2; subst h2
    exact absurd (List.mem_of_getElem? (by simpa using h1)) (List.nodup_cons.mp nd).1
  | n :: ns, j + 1, l + 1, m, nd, h1, h2 => by
    exact congrArg (· + 1) (nodup_ix (List.nodup_cons.mp nd).2 (by simpa using h1) (by simpa using h2))
theorem backS_len : ∀ (ns : List Nat) (cs M : Mem), (backS ns cs M).length = M.length
  | [], cs, M => by cases cs <;> rfl
  | n :: ns, [], M => rfl
  | n :: ns, c :: cs, M => by simp [backS, backS_len ns cs]
theorem backS_ne : ∀ (ns : List Nat) (cs M : Mem) (m : Nat), m ∉ ns → (backS ns cs M)[m]? = M[m]?
  | [], cs, M, m, _ => by cases cs <;> rfl
  | n :: ns, [], M, m, _ => rfl
  | n :: ns, c :: cs, M, m, h => by
    simp only [List.mem_cons, not_or] at h
    simp only [backS]
    rw [backS_ne ns cs _ m h.2, List.getElem?_set_ne (fun z => h.1 z.symm)]
theorem backS_at : ∀ (ns : List Nat) (cs M : Mem) (j m : Nat) (c : Cell), ns.Nodup → ns[j]? = some m → cs[j]? = some c → m < M.length → (backS ns cs M)[m]? = some c
  | [], _, _, _, _, _, _, h, _, _ => by simp at h
  | _ :: _, [], _, _, _, _, _, _, h, _ => by simp at h
  | n :: ns, d :: cs, M, 0, m, c, nd, h1, h2, hl => by
    simp at h1 h2; subst h1 h2
    simp only [backS]
    rw [backS_ne ns cs _ _ (List.nodup_cons.mp nd).1, List.getElem?_set_self hl]
  | n :: ns, d :: cs, M, j + 1, m, c, nd, h1, h2, hl => by
    simp only [backS]
    exact backS_at ns cs _ j m c (List.nodup_cons.mp nd).2 (by simpa using h1) (by simpa using h2) (by simpa using hl)
theorem Sr.after {H' : Hp} {ns : List Nat} {Mc cs : Mem} {r : List Addr} (S : Sr K G δ M ι σ H) (nd : ns.Nodup) (hc : ∀ n ∈ ns, ∃ ds, cellA M[n]? = some ds ∧ ∃ a, ι[n]? = some (some a)) (hi : i0.map some = ns.map (fun n => (ι[n]?).join))
    (hl : Mc.length = i0.length) (hcs : cs.length = r.length) (hr : ∀ a ∈ r, H a = none)
    (m : RM K (NB (Bc G ι i0)) H' (i0.map some ++ r.map some) (Mc ++ cs)) (k : Kp (i0.map some) H (i0.map some ++ r.map some) H') (ob : ObI (i0.map some) H H') (hfl : ∀ c ∈ cs, ∀ kd its, c ≠ .nd kd its := by simp) : Sr K G δ (backS ns Mc M ++ cs) (ι ++ r.map some) σ H' := by
  have hsub : ∀ b ∈ i0, some b ∈ ι := fun b hb => by
    have : some b ∈ i0.map some := by simpa using hb
    rw [hi] at this
    obtain ⟨m, hm1, hm2⟩ := List.mem_map.mp this
    obtain ⟨_, _, c, hb⟩ := hc m hm1
    rw [hb] at hm2; cases hm2
    exact List.mem_of_getElem? hb
  have hn : ∀ a, some a ∉ ι → some a ∉ i0.map some := fun a hn h => hn (hsub a (by simpa using h))
  have hrr : ∀ a o, H a = some o → some a ∉ r.map some := fun a o e h => by
    have h : a ∈ r := by simpa using h
    rw [hr a h] at e; cases e
  have kk : Kp ι H (ι ++ r.map some) H' := fun a o e n => ⟨(k a o e (hn a n)).1, fun h => by
    rcases List.mem_append.mp h with h | h
    · exact n h
    · exact hrr a o e h⟩
  have hin : ∀ (n : Nat) (a : Addr), ι[n]? = some (some a) → n ∉ ns → some a ∉ i0.map some := fun n a h hno z => by
    rw [hi] at z
    obtain ⟨m, hm1, hm2⟩ := List.mem_map.mp z
    obtain ⟨_, _, c, hb⟩ := hc m hm1
    rw [hb] at hm2; cases hm2
    exact hno (S.mem.nod _ _ _ hb h ▸ hm1)
  have hfr : ∀ a ∈ r, some a ∉ ι := fun a ha => S.mem.fresh (hr a ha)
  have hbl : (backS ns Mc M).length = ι.length := by rw [backS_len]; exact S.mem.len
  have up : ∀ c a, (∀ kd its, c ≠ .nd kd its) → RC K (NB (Bc G ι i0)) H' (i0.map some ++ r.map some) c a → RC K G.N H' (ι ++ r.map some) c a := fun c a hf q => by
    cases c with
    | nd kd its => exact absurd rfl (hf kd its)
    | gone => exact q.elim
    | lst ds => obtain ⟨xs, q1, l, r⟩ := q; exact ⟨xs, q1, l, RDs.up S k r⟩
    | dk kvs => obtain ⟨xs, q1, l, r⟩ := q; exact ⟨xs, q1, l, RDs.up S k r⟩
    | dn kvs => obtain ⟨xs, q1, l, r1, r2⟩ := q; exact ⟨xs, q1, l, RDs.up S k r1, RDs.up S k r2⟩
    | dw w kvs => obtain ⟨xs, q1, l, r1, r2⟩ := q; exact ⟨xs, q1, l, RDs.up S k r1, RDs.up S k r2⟩
  have mcf : ∀ (j n : Nat), ns[j]? = some n → ∀ c, Mc[j]? = some c → ∀ kd its, c ≠ .nd kd its := fun j n hj c hcj kd its e => by
    subst e
    obtain ⟨u, h1, a, h2⟩ := hc n (List.mem_of_getElem? hj)
    have hji : (i0.map some)[j]? = some (some a) := by rw [hi, List.getElem?_map, hj]; simp [h2]
    have hjn : j < i0.length := by simpa using (List.getElem?_eq_some_iff.mp hji).1
    obtain ⟨xs, q, _⟩ := m.cell j _ a (by rw [List.getElem?_append_left (List.getElem?_eq_some_iff.mp hcj).1]; exact hcj) (by rw [List.getElem?_append_left (by simpa using hjn)]; exact hji)
    cases kd with
    | ob c fs =>
      obtain ⟨dx, q1, _⟩ := q
      have ha : a ∈ i0 := by have := List.mem_of_getElem? hji; simpa using this
      obtain ⟨f0, h0⟩ := (ob i0 rfl a ha).2 _ _ _ q1
      obtain ⟨cx, hx1, _⟩ := cellA_some h1
      have q2 := S.mem.cell n cx a hx1 h2
      rw [hx1] at h1
      cases cx with
      | gone => exact q2.elim
      | lst ds => obtain ⟨xs, q3, _⟩ := q2; rw [q3] at h0; cases h0
      | dk ds => obtain ⟨xs, q3, _⟩ := q2; rw [q3] at h0; cases h0
      | dn ds => obtain ⟨xs, q3, _⟩ := q2; rw [q3] at h0; cases h0
      | dw w ds => obtain ⟨xs, q3, _⟩ := q2; rw [q3] at h0; cases h0
      | nd k its => cases h1
  have obk : ObK G.i0 H H' := fun a ha => by
    obtain ⟨n, hn0⟩ := List.getElem?_of_mem ha
    have hp := S.pre n a hn0
    by_cases h0 : a ∈ i0
    · exact ob i0 rfl a h0
    · obtain ⟨u, hu⟩ := S.i0there a ha
      have e9 := (k a u hu (by simpa using h0)).1
      rw [show H' a = H a from e9.trans hu.symm]
      exact ⟨fun C dx fs e => ⟨fs, e, SameF.refl fs⟩, fun C dx fs e => ⟨fs, e⟩⟩
  refine ⟨S.len, fun i d e => ?_, ⟨by simp [hbl, hcs], fun n m' a e1 e2 => ?_, fun n c a e1 e2 => ?_, fun n e => ?_, fun n c e1 => ?_⟩, fun n a e => ?_, S.kp.trans kk, fun a ha h0 => ?_, S.bad, fun a ha => ?_, S.obk.trans obk⟩
  · obtain ⟨v, e1, r⟩ := S.slot i d e
    exact ⟨v, e1, r.mono kk (Ex.app _ _) (fun _ _ _ _ z => z)⟩
  · rw [List.getElem?_append] at e1 e2
    split at e1 <;> split at e2
    · exact S.mem.nod n m' a e1 e2
    · exact absurd (List.mem_of_getElem? e1) (hfr a (by simpa using List.mem_of_getElem? e2))
    · exact absurd (List.mem_of_getElem? e2) (hfr a (by simpa using List.mem_of_getElem? e1))
    · have := m.nod (i0.length + (n - ι.length)) (i0.length + (m' - ι.length)) a (by rw [List.getElem?_append_right (by simp)]; simpa using e1) (by rw [List.getElem?_append_right (by simp)]; simpa using e2)
      omega
  · rw [List.getElem?_append, hbl] at e1
    rw [List.getElem?_append] at e2
    split at e1
    · rename_i hlt
      rw [if_pos hlt] at e2
      by_cases hno : n ∈ ns
      · obtain ⟨j, hj⟩ := List.getElem?_of_mem hno
        have hji : (i0.map some)[j]? = some (some a) := by rw [hi, List.getElem?_map, hj]; simp [e2]
        have hjn : j < i0.length := by simpa using (List.getElem?_eq_some_iff.mp hji).1
        have hjl : j < Mc.length := by omega
        have hl : n < M.length := by rw [S.mem.len]; exact hlt
        rw [backS_at ns Mc M j n _ nd hj (List.getElem?_eq_getElem hjl) hl] at e1
        cases e1
        exact up _ _ (mcf j n hj _ (List.getElem?_eq_getElem hjl)) (m.cell j _ a (by rw [List.getElem?_append_left hjl, List.getElem?_eq_getElem hjl]) (by rw [List.getElem?_append_left (by simpa using hjn)]; exact hji))
      · rw [backS_ne ns Mc M n hno] at e1
        have q := S.mem.cell n c a e1 e2
        obtain ⟨o, ho⟩ := q.has
        exact q.mono kk (Ex.app _ _) (fun _ _ _ _ z => z) (by rw [(k a o ho (hin n a e2 hno)).1, ho])
    · rename_i hlt
      rw [if_neg hlt] at e2
      exact up _ _ (hfl c (List.mem_of_getElem? e1)) (m.cell (i0.length + (n - ι.length)) _ a (by rw [List.getElem?_append_right (by omega)]; rw [hl]; simpa using e1) (by rw [List.getElem?_append_right (by simp)]; simpa using e2))
  · rw [List.getElem?_append] at e
    split at e
    · rename_i hlt
      rw [List.getElem?_append_left (by rw [hbl]; exact hlt), backS_ne ns Mc M n fun hno => ?_]
      · exact S.mem.gone n e
      · obtain ⟨_, _, c, hb⟩ := hc n hno
        rw [hb] at e; cases e
    · have := List.mem_of_getElem? e
      simp at this
  · have flat : (∀ kd its, c ≠ .nd kd its) → c.wf n := fun h => by
      cases c with
      | nd kd its => exact absurd rfl (h kd its)
      | _ => trivial
    rw [List.getElem?_append, hbl] at e1
    split at e1
    · rename_i hlt
      by_cases hno : n ∈ ns
      · obtain ⟨j, hj⟩ := List.getElem?_of_mem hno
        have hl : n < M.length := by rw [S.mem.len]; exact hlt
        have hjl : j < Mc.length := by
          have h1 := (List.getElem?_eq_some_iff.mp hj).1
          have h2 : i0.length = ns.length := by have := congrArg List.length hi; simpa using this
          omega
        rw [backS_at ns Mc M j n _ nd hj (List.getElem?_eq_getElem hjl) hl] at e1
        cases e1
        exact flat (mcf j n hj _ (List.getElem?_eq_getElem hjl))
      · rw [backS_ne ns Mc M n hno] at e1
        exact S.mem.wf n c e1
    · exact flat (hfl c (List.mem_of_getElem? e1))
  · have e1 := S.pre n a e
    rw [List.getElem?_append_left (List.getElem?_eq_some_iff.mp e1).1]; exact e1
  · rcases List.mem_append.mp ha with z | z
    · exact S.new a z h0
    · have z : a ∈ r := by simpa using z
      cases q : G.He a with
      | none => rfl
      | some u =>
        have := (S.kp a u q (by simpa using h0)).1
        rw [hr a z] at this; cases this
  · obtain ⟨u, q⟩ := (S.hid a ha).2
    exact ⟨(kk a u q (S.hid a ha).1).2, u, (kk a u q (S.hid a ha).1).1⟩
theorem call_gen {ms : List Bool} {xs as : List Sv} {vs : List V} {ns : List Nat} (S : Sr K G δ M ι σ H) (r : RSs K G.N H ι xs vs) (e : handS M ms xs [] = some (as, ns)) :
    as.length = xs.length ∧ ∃ (i0 : List Addr) (B : Addr → Prop), (∀ a, B a → ∃ o, H a = some o) ∧ RSs K (NB B) H (i0.map some) as vs ∧ RM K (NB B) H (i0.map some) (cellsAt M ns) ∧
      (∀ x M' v H', RR K (NB B) H H' (i0.map some) M' (.d x) v → Kp ι H ι H' ∧ Sr K G δ (backS ns M' M) ι σ H' ∧ RD K G.N H' ι x v) ∧
      ∀ rv c M' v H', rv.cell = some c → RR K (NB B) H H' (i0.map some) M' rv v → ∃ a, v = .ref a ∧ Kp ι H (ι ++ [some a]) H' ∧ Sr K G δ (backS ns M' M ++ [c]) (ι ++ [some a]) σ H' ∧ (backS ns M' M).length = M.length := by
  obtain ⟨nd, hc, h3, hr, hl⟩ := hand_of S ms xs vs [] as ns e r List.nodup_nil (fun _ z => by simp at z)
  obtain ⟨i0, hi⟩ : ∃ i0 : List Addr, i0.map some = ns.map (fun n => (ι[n]?).join) := by
    clear e hr nd hl h3
    induction ns with
    | nil => exact ⟨[], rfl⟩
    | cons n ns ih =>
      obtain ⟨i0, hi⟩ := ih fun m hm => hc m (List.mem_cons_of_mem _ hm)
      obtain ⟨_, _, a, ha⟩ := hc n List.mem_cons_self
      exact ⟨a :: i0, by simp [hi, ha]⟩
  have hsub : ∀ b ∈ i0, some b ∈ ι := fun b hb => by
    have : some b ∈ i0.map some := by simpa using hb
    rw [hi] at this
    obtain ⟨m, hm1, hm2⟩ := List.mem_map.mp this
    obtain ⟨_, _, c, hb⟩ := hc m hm1
    rw [hb] at hm2; cases hm2
    exact List.mem_of_getElem? hb
  have hget : ∀ (j : Nat) (a : Addr), (i0.map some)[j]? = some (some a) → ∃ n, ns[j]? = some n ∧ ι[n]? = some (some a) := fun j a e => by
    rw [hi, List.getElem?_map] at e
    cases q : ns[j]? with
    | none => rw [q] at e; cases e
    | some n =>
      rw [q] at e
      obtain ⟨_, _, b, hb⟩ := hc n (List.mem_of_getElem? q)
      simp [hb] at e
      exact ⟨n, rfl, by rw [hb, e]⟩
  refine ⟨hl, i0, Bc G ι i0, fun a ha => ?_, hr i0 hi, ⟨?_, fun j l a e1 e2 => ?_, fun j c a e1 e2 => ?_, fun j e => ?_, fun j c e1 => ?_⟩, fun x M' v H' rr => ?_, fun rv cn M' v H' hcn rr => ?_⟩
  · rcases ha with ha | ha | ⟨ha, _⟩
    · obtain ⟨o, ho⟩ := S.bad a ha
      by_cases h0 : a ∈ G.i0
      · obtain ⟨j, hj⟩ := List.getElem?_of_mem h0
        rcases S.kind (List.mem_of_getElem? (S.pre j a hj)) with ⟨ys, e⟩ | ⟨ys, e⟩ | ⟨ys, e⟩ | ⟨C, dx, fs, e⟩ <;> exact ⟨_, e⟩
      · exact ⟨o, (S.kp a o ho (by simpa using h0)).1⟩
    · exact (S.hid a ha).2
    · rcases S.kind ha with ⟨ys, e⟩ | ⟨ys, e⟩ | ⟨ys, e⟩ | ⟨C, dx, fs, e⟩ <;> exact ⟨_, e⟩
  · rw [hi]; simp [cellsAt]
  · obtain ⟨n, h1, h2⟩ := hget j a e1
    obtain ⟨m, h3, h4⟩ := hget l a e2
    have e3 := S.mem.nod _ _ _ h2 h4
    subst e3
    exact nodup_ix nd h1 h3
  · obtain ⟨n, h1, h2⟩ := hget j a e2
    have hM : n < M.length := by rw [S.mem.len]; exact (List.getElem?_eq_some_iff.mp h2).1
    unfold cellsAt at e1
    rw [List.getElem?_map, h1] at e1
    simp only [Option.map_some, List.getElem?_eq_getElem hM, Option.getD_some, Option.some.injEq] at e1
    have q := S.mem.cell n _ a (List.getElem?_eq_getElem hM) h2
    rw [e1] at q
    cases c with
    | gone => exact q.elim
    | nd kd its =>
      obtain ⟨u, h9, _⟩ := hc n (List.mem_of_getElem? h1)
      rw [List.getElem?_eq_getElem hM, e1] at h9; cases h9
    | lst ds => obtain ⟨xs, q1, l, r⟩ := q; exact ⟨xs, q1, l, RDs.dn hsub r⟩
    | dk kvs => obtain ⟨xs, q1, l, r⟩ := q; exact ⟨xs, q1, l, RDs.dn hsub r⟩
    | dn kvs => obtain ⟨xs, q1, l, r1, r2⟩ := q; exact ⟨xs, q1, l, RDs.dn hsub r1, RDs.dn hsub r2⟩
    | dw w kvs => obtain ⟨xs, q1, l, r1, r2⟩ := q; exact ⟨xs, q1, l, RDs.dn hsub r1, RDs.dn hsub r2⟩
  · rw [List.getElem?_map] at e
    cases q : i0[j]? with
    | none => rw [q] at e; cases e
    | some b => rw [q] at e; cases e
  · unfold cellsAt at e1
    rw [List.getElem?_map, Option.map_eq_some_iff] at e1
    obtain ⟨n, h1, rfl⟩ := e1
    obtain ⟨u, h9, _⟩ := hc n (List.mem_of_getElem? h1)
    obtain ⟨cx, hx, _⟩ := cellA_some h9
    rw [hx] at h9 ⊢
    cases cx with
    | nd kd its => cases h9
    | _ => trivial
  · have hni : ∀ a, some a ∉ ι → some a ∉ i0.map some := fun a n h => n (hsub a (by simpa using h))
    obtain ⟨rd, rm, k, ob⟩ := rr
    have hl : M'.length = i0.length := by rw [rm.len]; simp
    have S2 := S.after (r := []) (cs := []) nd hc hi hl rfl (fun a h => by simp at h) (by simpa using rm) (by simpa using k) ob
    have rd2 := RD.up (r := []) S (by simpa using k) (by simpa using rd)
    simp only [List.map_nil, List.append_nil] at S2 rd2
    exact ⟨fun a o e n => ⟨(k a o e (hni a n)).1, n⟩, S2, rd2⟩
  · have hni : ∀ a, some a ∉ ι → some a ∉ i0.map some := fun a n h => n (hsub a (by simpa using h))
    obtain ⟨a, rfl, ha, rm, k, ob⟩ := (RR.of hcn).mpr rr
    have hl : M'.length = i0.length := by have := rm.len; simp at this; exact this
    have S2 := S.after (r := [a]) (cs := [cn]) nd hc hi hl rfl (fun b h => by simp at h; subst h; exact ha) (by simpa using rm) (by simpa using k) ob (by
      cases rv with
      | d x => cases hcn
      | new ds => cases hcn; simp
      | newK kvs => cases hcn; simp)
    refine ⟨a, rfl, fun b o e n => ⟨(k b o e (hni b n)).1, fun h => ?_⟩, by simpa using S2, backS_len _ _ _⟩
    rcases List.mem_append.mp h with h | h
    · exact n h
    · simp at h; subst h; rw [ha] at e; cases e
theorem call_in {n : Nat} {sp : SpD} {ms : List Bool} {xs : List Sv} {vs : List V} {Q0 : Rv → Mem → Prop} {Q : VK} {E : XK} (S : Sr K G δ M ι σ H) (r : RSs K G.N H ι xs vs) (hn : xs.length = n) (h : callS ms sp M xs Q0)
    (z1 : ∀ x M' H' v, Q0 (.d x) M' → Kp ι H ι H' → Sr K G δ M' ι σ H' → RD K G.N H' ι x v → Q v H')
    (z2 : ∀ rv c M' H' a, rv.cell = some c → Q0 rv M' → Kp ι H (ι ++ [some a]) H' → Sr K G δ (M' ++ [c]) (ι ++ [some a]) σ H' → M'.length = M.length → Q (.ref a) H') : lP K n sp vs H Q E := by
  obtain ⟨⟨as, ns⟩, e, h⟩ := ok_elim h
  obtain ⟨hl, i0, B, hB, ra, rm, c1, c2⟩ := call_gen S r e
  refine ⟨as, cellsAt M ns, i0, B, _, hl.trans hn, hB, ra, rm, h, fun rv M' v H' q rr => ?_⟩
  cases rv with
  | d x =>
    obtain ⟨k, S2, rd⟩ := c1 x M' v H' rr
    exact z1 x _ H' v q k S2 rd
  | new ds =>
    obtain ⟨a, rfl, k, S2, hl2⟩ := c2 _ _ M' v H' rfl rr
    exact z2 _ _ _ H' a rfl q k S2 hl2
  | newK kvs =>
    obtain ⟨a, rfl, k, S2, hl2⟩ := c2 _ _ M' v H' rfl rr
    exact z2 _ _ _ H' a rfl q k S2 hl2
end
end
/-- a def that may be called by its name -/
structure Ca (P : Program) (w : World) (K : PySem.W.Frag) (mg : Str → Option Value) (base : Heap) (k : Nat) (x : Str) (n : Nat) (sp : SpD) : Prop where
  ex : ∃ (f : Addr) (fd : FuncData) (ps : List Str), FnG P w K mg base C8.CX0 k f fd ps (lP K n sp) ∧ mg x = some (.ref f) ∧ PySem.W.keepIn K (.ref f) = true ∧ Binds K fd ps []
section
variable {X : Cx} {G : Gd} {k j n : Nat} {x : Str} {sp : SpD} {p pos : Pos} {e : Expr} {es : List Expr} {tA : TA'}
theorem ve_call (ms : List Bool) (c : Ca X.prog X.w X.K X.mg X.base k x n sp) (hr : RoomG j X.A) (hk : k ≤ j) (hg : Gl X x) (ha : VA X G (e :: es) n tA)
    (hdb : (x == ("__debug__" : Str)) = false := by decide) (he : starEach (e :: es) X.env = (false, eval e X.env) :: starEach es X.env := by rfl) (hpl : (backTo pos (starEach es X.env)).any (·.1) = false := by rfl) :
    VE X G (.Call (.Name x p) (e :: es) [] pos) (eCall ms sp tA) := by
  obtain ⟨f, fd, ps, F, hm, kp, b⟩ := c.ex
  refine PE.weak (pe_callg F (hr.mono hk) hg hm kp b .nil C8.pass0 ha hdb he hpl (E := C8.E0)) fun σ H Q ⟨δ, M, ι, Q0, S, q, z⟩ => ?_
  refine thA S q fun xs M1 ι1 H1 vs hl h1 p1 k1 S1 r1 => ?_
  show lP X.K n sp (vs ++ []) H1 Q _
  rw [List.append_nil]
  refine call_in S1 r1 hl h1 (fun y M' H' v q2 k2 S2 r2 => z _ M' ι1 H' v q2 p1 (k1.trans k2) S2 r2) fun rv cn M' H' a hcn q2 k2 S2 hl2 => ?_
  refine z (.ref M'.length) _ _ H' _ (rvQ_cell hcn q2) (p1.trans (Ex.app _ _)) (k1.trans k2) S2 ⟨a, rfl, .inl ?_⟩
  rw [hl2, S1.mem.len, List.getElem?_append_right (Nat.le_refl _)]; simp
end
theorem Sr.seal {K : PySem.W.Frag} {G : Gd} {δ : DS} {M : Mem} {ι : Ix} {σ : L2.St} {H : Hp} {n : Nat} {a : Addr} {ds : List D} (S : Sr K G δ M ι σ H) (hn : ι[n]? = some (some a)) (h0 : G.i0.length ≤ n) (hc : M[n]? = some (.lst ds)) :
    Sr K G δ (M.set n .gone) (ι.set n none) σ H ∧ Ex ι (ι.set n none) ∧ Kp ι H (ι.set n none) H ∧ RD K G.N H (ι.set n none) (.lst ds) (.ref a) := by
  have kk : Kp ι H (ι.set n none) H := fun b o e h => ⟨e, fun z => by
    rcases List.mem_or_eq_of_mem_set z with z | z
    · exact h z
    · cases z⟩
  have ee : Ex ι (ι.set n none) := fun m o e => by
    by_cases h : n = m
    · subst h
      exact .inr (List.getElem?_set_self (List.getElem?_eq_some_iff.mp e).1)
    · rw [List.getElem?_set_ne h]; exact .inl e
  have back : ∀ (m : Nat) (b : Addr), (ι.set n none)[m]? = some (some b) → n ≠ m ∧ ι[m]? = some (some b) := fun m b e => by
    by_cases h : n = m
    · subst h
      rw [List.getElem?_set_self (List.getElem?_eq_some_iff.mp hn).1] at e; cases e
    · rw [List.getElem?_set_ne h] at e; exact ⟨h, e⟩
  have hno : some a ∉ ι.set n none := fun z => by
    obtain ⟨m, hm⟩ := List.getElem?_of_mem z
    obtain ⟨h1, h2⟩ := back m a hm
    exact h1 (S.mem.nod _ _ _ hn h2)
  have hi0 : a ∉ G.i0 := fun z => by
    obtain ⟨j, hj⟩ := List.getElem?_of_mem z
    have e1 := S.mem.nod _ _ _ (S.pre j a hj) hn
    have := (List.getElem?_eq_some_iff.mp hj).1
    omega
  obtain ⟨xs, q1, l, r⟩ := S.mem.cell n _ a hc hn
  refine ⟨⟨S.len, fun i d e => ?_, ⟨by simp [S.mem.len], fun m m' b e1 e2 => S.mem.nod _ _ _ (back m b e1).2 (back m' b e2).2, fun m c b e1 e2 => ?_, fun m e => ?_, fun m c e1 => ?_⟩, fun m b e => ?_, S.kp.trans kk, fun b hb h1 => ?_, S.bad, fun b hb => ⟨fun z => ?_, (S.hid b hb).2⟩, S.obk⟩, ee, kk,
    a, xs, rfl, q1, hno, ⟨fun z => (S.hid a z).1 (List.mem_of_getElem? hn), fun _ z => ?_⟩, l, r.mono kk fun _ _ _ _ z => z⟩
  · obtain ⟨v, e1, r⟩ := S.slot i d e
    exact ⟨v, e1, r.mono kk ee fun _ _ _ _ z => z⟩
  · obtain ⟨h1, h2⟩ := back m b e2
    rw [List.getElem?_set_ne h1] at e1
    exact (S.mem.cell m c b e1 h2).mono kk ee (fun _ _ _ _ z => z) rfl
  · by_cases h : n = m
    · subst h; exact List.getElem?_set_self (List.getElem?_eq_some_iff.mp hc).1
    · rw [List.getElem?_set_ne h] at e ⊢; exact S.mem.gone m e
  · by_cases h : n = m
    · subst h
      rw [List.getElem?_set_self (List.getElem?_eq_some_iff.mp hc).1] at e1
      cases e1; trivial
    · rw [List.getElem?_set_ne h] at e1; exact S.mem.wf m c e1
  · rw [List.getElem?_set_ne (fun h => by have := (List.getElem?_eq_some_iff.mp e).1; omega)]; exact S.pre m b e
  · rcases List.mem_or_eq_of_mem_set hb with z | z
    · exact S.new b z h1
    · cases z
  · rcases List.mem_or_eq_of_mem_set z with z | z
    · exact (S.hid b hb).1 z
    · cases z
  · obtain ⟨o, ho⟩ := S.bad a z
    rw [S.new a (List.mem_of_getElem? hn) hi0] at ho; cases ho
/-- the value, its list sealed -/
def sealD (m0 : Nat) (M : Mem) : Sv → Option (Sv × Mem)
  | .ref n => if m0 ≤ n then (cellL M[n]?).map fun ds => (.d (.lst ds), M.set n .gone) else none
  | x => some (x, M)
def eSeal (m0 : Nat) (t : TE') : TE' := fun δ M Q => t δ M fun d M1 => ok (sealD m0 M1 d) fun r => Q r.1 r.2
theorem VE.seal {X : Cx} {G : Gd} {e : Expr} {t : TE'} {m0 : Nat} (hG : G.i0.length = m0) (h : VE X G e t) : VE X G e (eSeal m0 t) :=
  PE.weak h fun σ H Q ⟨δ, M, ι, Q0, S, q, z⟩ => ⟨δ, M, ι, _, S, q, fun d M' ι' H' v h1 p1 k1 S1 r1 => by
    obtain ⟨r, e, h1⟩ := ok_elim h1
    cases d with
    | d x => cases e; exact z _ _ ι' H' v h1 p1 k1 S1 r1
    | bor ds => cases e; exact z _ _ ι' H' v h1 p1 k1 S1 r1
    | ref n =>
      by_cases hn : m0 ≤ n
      · rw [show sealD m0 M' (.ref n) = (if m0 ≤ n then (cellL M'[n]?).map fun ds => (.d (.lst ds), M'.set n .gone) else none) from rfl, if_pos hn] at e
        obtain ⟨ds, e1, rfl⟩ := Option.map_eq_some_iff.mp e
        obtain ⟨a, rfl, ha, _⟩ := S1.mem.at r1 (cellL_some e1) (fun z => nomatch z)
        obtain ⟨S2, e2, k2, r2⟩ := S1.seal ha (by omega) (cellL_some e1)
        exact z _ _ _ H' _ h1 (p1.trans e2) (k1.trans k2) S2 r2
      · rw [show sealD m0 M' (.ref n) = (if m0 ≤ n then (cellL M'[n]?).map fun ds => (.d (.lst ds), M'.set n .gone) else none) from rfl, if_neg hn] at e; cases e⟩
/-- the rule for a def: from its derivation and the pure law -/
theorem ca_of {P : Program} {w : World} {K : PySem.W.Frag} {mg : Str → Option Value} {base : Heap} {x qual : Str} {params : Arguments} {body : List Stmt} {scope : Scope} {f : Addr} {fd : FuncData} {Ns ps : List Str} {k m0 : Nat} {sp : SpD} {t : TS'}
    (F : FunD K x qual params body scope [] [] f fd) (hg : mg x = some (.ref f)) (b : Binds K fd ps []) (S : FnScope Ns ps scope) (hm0 : ∀ as M Q0, sp as M Q0 → M.length = m0)
    (hb : ∀ (cdv : Value) (A : Around) (outer : List Env) (s : Shared) (H : Hp) (E : XK) (G : Gd), RoomG k (A.deeper (PyProof.Rows.envOfC qual scope s.heap.objs.size f cdv)) → G.i0.length = m0 → VSs (cxOf C8.CX0 P w K mg base Ns qual scope f cdv A outer s H E).nox G body t)
    (hp : ∀ as M Q0, as.length = ps.length → sp as M Q0 → t (endsF M.length Q0) (startD Ns.length as) M) : Ca P w K mg base (k + 1) x ps.length sp := by
  refine ⟨f, fd, ps, ?_, hg, F.kp, b⟩
  refine fn_g F S (fun vs H Q E ⟨as, M, i0, B, Q0, hn, hB, ra, h⟩ => by rw [← ra.length, hn]) fun cdv A outer s H vs Q E hr h => ?_
  obtain ⟨t', h1, h2⟩ := body_ok (X := (cxOf C8.CX0 P w K mg base Ns qual scope f cdv A outer s H E).nox) (Ns := Ns) m0 rfl (fun G hG => hb cdv A outer s H E G hr hG) hm0 hp h
  exact ⟨t', h1.nox, h2⟩
end VL
set_option Elab.async false
set_option linter.all false
set_option maxRecDepth 100000
set_option maxHeartbeats 400000
namespace VL
open PySem PySem.Spec L2 RT RZ
def eCh (f g : Mem → Sv → Sv → Option Sv) (ta tb tc : TE') : TE' := fun δ M Q => ta δ M fun x M1 => tb δ M1 fun y M2 => ok ((f M2 x y).bind blD) fun k => if k then tc δ M2 fun z M3 => ok (g M3 y z) fun d => Q d M3 else Q (.d (.bl false)) M2
def pCh (f g : Mem → Sv → Sv → Option Sv) (a b c : PV) : PV := fun δ M => (a δ M).bind fun x => (b δ M).bind fun y => ((f M x y).bind blD).bind fun k => if k then (c δ M).bind fun z => g M y z else some (.d (.bl false))
section
variable {K : PySem.W.Frag} {X : Cx} {G : Gd} {e a b c : Expr} {es rest : List Expr} {pos : Pos} {ta tb tc : TE'} {p q u : PV}
theorem ve_ty {x : Str} {n : String} (hg : Gl X x) (hm : X.mg x = none) (hv : bootBuiltins x = some (.type n)) (hn : x ≠ "__name__" := by decide) (hd : (x == ("__debug__" : Str)) = false := by decide) : VE X G (.Name x pos) (eP (pC (.ty n))) :=
  ve_const (pe_bltn (v := .ty n) hg hm hv rfl hn hd) fun _ _ _ _ => rfl
/-- data of the written part -/
def KV (K : PySem.W.Frag) (d : D) (u : Value) : Prop := ∃ v, RelV v u ∧ ∀ N H ι, RD K N H ι d v
theorem ve_glob {x : Str} {u : Value} {d : D} (hg : Gl X x) (hm : X.mg x = some u) (r : KV X.K d u) (hd : (x == ("__debug__" : Str)) = false := by decide) : VE X G (.Name x pos) (eP (pC d)) := by
  obtain ⟨v, r1, r2⟩ := r
  exact PE.weak (pe_glob hg hm r1 hd) fun σ H Q ⟨δ, M, ι, Q0, S, h, z⟩ => z _ M ι H v h (Ex.refl _) (Kp.refl _ _) S (r2 _ _ _)
def okR (d : D) : Bool := noR d && (PyData.showable (py d) && (decide ((PyData.shown (py d)).length ≤ sizeLine) && (decide (PyData.depth (py d) ≤ 150))))
def reprD (M : Mem) : List Sv → Option Sv
  | [x] => gd (okR (rsv M x) = true) (.d (.str (PyData.shown (py (rsv M x)))))
  | _ => none
mutual
theorem nod_py : ∀ d : D, PyData.hasDict (py d) = false
  | .non => rfl
  | .bl _ => rfl
  | .int _ => rfl
  | .str _ => rfl
  | .scr _ => rfl
  | .fn _ => rfl
  | .ty _ => rfl
  | .dn _ _ => rfl
  | .dk _ _ => rfl
  | .cls _ => rfl
  | .exc _ _ => rfl
  | .tup ds => nods_py ds
  | .lst ds => nods_py ds
theorem nods_py : ∀ d : List D, PyData.hasDictAll (pys d) = false
  | [] => rfl
  | d :: ds => by simp only [pys, PyData.hasDictAll, nod_py d, nods_py ds, Bool.or_false]
end
def rRepr (K : PySem.W.Frag) : List V → Hp → VK → Prop := fun xs H Q => ∃ v d, xs = [v] ∧ Dp K H v d ∧ PyData.showable d = true ∧ PyData.hasDict d = false ∧ (PyData.shown d).length ≤ sizeLine ∧ PyData.depth d ≤ 150 ∧ Q (.str (PyData.shown d)) H
theorem call_repr (hgs : X.A.guards = some []) (hu : X.A.units + 200 < cLine) : CallR X (.builtin "repr") (rRepr X.K) := by
  intro pins s σ H xs us Q I r h
  obtain ⟨v, d, rfl, hd, hs, hn, hz, hdp, q⟩ := h
  obtain ⟨u, rfl, rv⟩ := vals1 r
  obtain ⟨as, rd⟩ := Dp.reads I d v u hd rv
  cases hd with
  | non => cases rv; exact PySem.P.repr_of_none ⟨.str _, H, I.tok _, ⟨_, rfl⟩, q⟩
  | bl b => cases rv; exact PySem.P.repr_of_bool ⟨.str _, H, I.tok _, ⟨_, rfl⟩, q⟩
  | int i =>
    obtain ⟨t, rfl⟩ := rv
    exact PySem.P.repr_of_int (by simpa [PyData.showable] using hs) ⟨.str _, H, I.tok _, ⟨_, rfl⟩, q⟩
  | str x =>
    obtain ⟨t, rfl⟩ := rv
    exact PySem.P.repr_of_str ⟨.str _, H, I.tok _, ⟨_, rfl⟩, q⟩ (hsz := hz)
  | tup _ _ => cases rv; exact repr_of_reads' rd hs (PyData.noDict_hsm hn) hgs (by omega) (fun _ _ e => e) (fun h' u tk hk => ⟨.str _, H, I.kept hk, ⟨_, rfl⟩, q⟩) hz
  | lst _ _ => cases rv; exact repr_of_reads' rd hs (PyData.noDict_hsm hn) hgs (by omega) (fun _ _ e => e) (fun h' u tk hk => ⟨.str _, H, I.kept hk, ⟨_, rfl⟩, q⟩) hz
theorem rd_repr : RdN K (rRepr K) reprD := by
  intro G δ M ι σ H xs vs d S rx e Q z
  unfold reprD at e
  split at e
  · rename_i x
    obtain ⟨hc, rfl⟩ := gd_some e
    obtain ⟨v, rfl, r⟩ := one_of rx
    unfold okR at hc
    simp only [Bool.and_eq_true, decide_eq_true_eq] at hc
    exact ⟨v, _, rfl, rsv_dp S r hc.1, hc.2.1, nod_py _, hc.2.2.1, hc.2.2.2, fin_same S z rfl⟩
  · cases e
end
end VL
set_option Elab.async false
set_option linter.all false
set_option maxRecDepth 100000
set_option maxHeartbeats 400000
namespace VL
open PySem PySem.Spec PyProof.Rows L2
mutual
def relDB (K : PySem.W.Frag) : D → Value → Bool
  | .non, .none => true
  | .bl b, .bool c => b == c
  | .int i, .int j _ => decide (i = j)
  | .str x, .str y _ => decide (x = y)
  | .tup ds, .ref a => (match K.lookup a with
    | some ⟨.type c, _, .seq its _, _⟩ => decide (c = "tuple") && (decide (its.size ≤ sizeLine) && relDBs K ds its.toList)
    | _ => false)
  | _, _ => false
def relDBs (K : PySem.W.Frag) : List D → List Value → Bool
  | [], [] => true
  | d :: ds, u :: us => relDB K d u && relDBs K ds us
  | _, _ => false
end
mutual
theorem relDB_ok {K : PySem.W.Frag} : ∀ (d : D) (u : Value), relDB K d u = true → ∃ v, RelV v u ∧ ∀ N H ι, RD K N H ι d v
  | .non, u, h => by
    cases u <;> first | (simp [relDB] at h; done) | exact ⟨.non, rfl, fun _ _ _ => rfl⟩
  | .bl b, u, h => by
    cases u <;> first | (simp [relDB] at h; done) | skip
    simp only [relDB, beq_iff_eq] at h; subst h
    exact ⟨.bl _, rfl, fun _ _ _ => rfl⟩
  | .int i, u, h => by
    cases u <;> first | (simp [relDB] at h; done) | skip
    simp only [relDB, decide_eq_true_eq] at h; subst h
    exact ⟨.int _, ⟨_, rfl⟩, fun _ _ _ => rfl⟩
  | .str i, u, h => by
    cases u <;> first | (simp [relDB] at h; done) | skip
    simp only [relDB, decide_eq_true_eq] at h; subst h
    exact ⟨.str _, ⟨_, rfl⟩, fun _ _ _ => rfl⟩
  | .tup ds, u, h => by
    cases u with
    | ref a =>
      unfold relDB at h
      cases q : K.lookup a with
      | none => rw [q] at h; cases h
      | some o =>
        obtain ⟨oc, od, dt, osl⟩ := o
        rw [q] at h
        cases oc with
        | type c =>
          cases dt with
          | seq its n =>
            have h : (decide (c = "tuple") && (decide (its.size ≤ sizeLine) && relDBs K ds its.toList)) = true := h
            simp only [Bool.and_eq_true, decide_eq_true_eq] at h
            obtain ⟨h1, h2, h3⟩ := h
            obtain ⟨xs, r1, r2, r3⟩ := relDBs_ok ds its.toList h3
            refine ⟨.ref a, rfl, fun N H ι => ⟨a, xs, rfl, .inr ⟨_, its, n, q, congrArg Value.type h1, rfl, h2, r1⟩, by rw [r3]; simpa using h2, r2 N H ι⟩⟩
          | _ => cases h
        | _ => cases dt <;> cases h
    | _ => simp [relDB] at h
  | .lst ds, u, h => by cases u <;> simp [relDB] at h
  | .scr ds, u, h => by cases u <;> simp [relDB] at h
  | .fn a, u, h => by cases u <;> simp [relDB] at h
  | .ty a, u, h => by cases u <;> simp [relDB] at h
  | .dn _ _, u, h => by cases u <;> simp [relDB] at h
  | .dk _ _, u, h => by cases u <;> simp [relDB] at h
  | .cls _, u, h => by cases u <;> simp [relDB] at h
  | .exc _ _, u, h => by cases u <;> simp [relDB] at h
theorem relDBs_ok {K : PySem.W.Frag} : ∀ (ds : List D) (us : List Value), relDBs K ds us = true → ∃ vs, Vals vs us ∧ (∀ N H ι, RDs K N H ι ds vs) ∧ ds.length = us.length
  | [], [], _ => ⟨[], .nil, fun _ _ _ => rfl, rfl⟩
  | [], _ :: _, h => by simp [relDBs] at h
  | _ :: _, [], h => by simp [relDBs] at h
  | d :: ds, u :: us, h => by
    simp only [relDBs, Bool.and_eq_true] at h
    obtain ⟨v, r1, r2⟩ := relDB_ok d u h.1
    obtain ⟨vs, r3, r4, r5⟩ := relDBs_ok ds us h.2
    exact ⟨v :: vs, .cons r1 r3, fun N H ι => ⟨v, vs, rfl, r2 N H ι, r4 N H ι⟩, by simp [r5]⟩
end
def conV (K : PySem.W.Frag) (c : Str × D) : Bool := match PySem.W.nsIn K mainGlobals c.1 with
  | some (some u) => relDB K c.2 u
  | _ => false
abbrev AlV : Type := He.AlD × Bool
def obsV (fa : List He.Fa) (fn : List He.DefD) (cs : List (Str × D)) (K : PySem.W.Frag) : AlV := (He.obsD fa fn K, cs.all (conV K))
def obsVG (n : Nat) (fa : List He.Fa) (fn : List He.DefD) (cs : List (Str × D)) (g : Addr → Option Obj) : AlV := obsV fa fn cs (He.frG g (He.asD g n))
def SaysV (fa : List He.Fa) (fn : List He.DefD) (cs : List (Str × D)) (K : PySem.W.Frag) : Prop := obsV fa fn cs K = (He.valD fn, true)
def hookV (n : Nat) (fa : List He.Fa) (fn : List He.DefD) (cs : List (Str × D)) : PySem.W.Hook where
  α := AlV
  obs := fun s => obsVG n fa fn cs s.heap.get?
  val := fun _ => (He.valD fn, true)
  says := fun _ h => ∃ K : PySem.W.Frag, K.In h ∧ SaysV fa fn cs K
  of := fun _ _ e => ⟨_, He.frG_in, e⟩
  keeps := fun _ _ _ ⟨K, hK, c⟩ k => ⟨K, PySem.W.Frag.In.keeps hK k, c⟩
theorem obsVG_eq {n : Nat} {fa : List He.Fa} {fn : List He.DefD} {cs : List (Str × D)} {g : Addr → Option Obj} {s : Shared} (h : ∀ a, g a = s.heap.get? a) : obsVG n fa fn cs g = (hookV n fa fn cs).obs s := by
  have e : g = s.heap.get? := funext h
  rw [e] <;> rfl
theorem SaysV.d {fa : List He.Fa} {fn : List He.DefD} {cs : List (Str × D)} {K : PySem.W.Frag} (c : SaysV fa fn cs K) : He.SaysD fa fn K := congrArg (fun z : AlV => z.1) c
theorem SaysV.con {fa : List He.Fa} {fn : List He.DefD} {cs : List (Str × D)} {K : PySem.W.Frag} {h : Heap} {mg : Str → Option Value} (c : SaysV fa fn cs K) (X : K.In h) (G : h.Ns mainGlobals mg) (i : Nat) {x : Str} {d : D} (hi : cs[i]? = some (x, d) := by rfl) : ∃ u, mg x = some u ∧ KV K d u := by
  have c1 : cs.all (conV K) = true := congrArg (fun z : AlV => z.2) c
  have c2 := List.all_eq_true.mp c1 _ (List.mem_of_getElem? hi)
  unfold conV at c2
  split at c2
  · rename_i u e
    exact ⟨u, PySem.W.mg_of X G e, relDB_ok d u c2⟩
  · cases c2
end VL
set_option Elab.async false
set_option linter.all false
set_option maxRecDepth 100000
set_option maxHeartbeats 400000
namespace VL
open PySem PySem.Spec L2 RT RZ
theorem bt_len : bootBuiltins "len" = some (.builtin "len") := by decide +kernel
theorem bt_abs : bootBuiltins "abs" = some (.builtin "abs") := by decide +kernel
theorem bt_min : bootBuiltins "min" = some (.builtin "min") := by decide +kernel
theorem bt_max : bootBuiltins "max" = some (.builtin "max") := by decide +kernel
theorem bt_all : bootBuiltins "all" = some (.builtin "all") := by decide +kernel
theorem bt_any : bootBuiltins "any" = some (.builtin "any") := by decide +kernel
theorem bt_isinstance : bootBuiltins "isinstance" = some (.builtin "isinstance") := by decide +kernel
theorem bt_sorted : bootBuiltins "sorted" = some (.builtin "sorted") := by decide +kernel
theorem bt_repr : bootBuiltins "repr" = some (.builtin "repr") := by decide +kernel
theorem bt_int : bootBuiltins "int" = some (.type "int") := by decide +kernel
theorem bt_bool : bootBuiltins "bool" = some (.type "bool") := by decide +kernel
theorem bt_list : bootBuiltins "list" = some (.type "list") := by decide +kernel
section
variable {K : PySem.W.Frag} {X : Cx} {G : Gd} {e a b c : Expr} {es rest : List Expr} {pos : Pos} {p q u : PV}
/-- name = [..] on one line: frozen, or changing -/
theorem vs_setLcF {i : Nat} {y : Str} {py : Pos} {elt tg iter : Expr} {ifs : List Expr} {scope : Scope} {own : List (Str × Nat)} {pos spos : Pos} {it : TI'} {g : LcG} {tt : TT'} {te : TE'} (hc : X.calm = true) (hN : X.N.Nodup) (hy : X.N[i]? = some y) (hyl : X.env.scope.names.lookup y = some .local)
    (hsw : swapsWith (.ListComp elt [⟨tg, iter, ifs, 0⟩] scope pos) (some (.Name y py)) spos.line X.env = pure true) (hi : VI X G true tg iter it) (ok' : BlkOk X.N X.env.scope scope own)
    (hg : ∀ (s : Shared) (H : Hp) (C : Addr) (cl : List (Str × Addr)) (fp : List Addr), PG (X.blk s H scope (compEnvC scope cl C X.env) fp) tg (g.raw X.K)) (ht : ∀ (s : Shared) (H : Hp) (C : Addr) (cl : List (Str × Addr)) (fp : List Addr) (G' : Gd), G'.i0 = G.i0 → VTs (X.blk s H scope (compEnvC scope cl C X.env) fp) G' ifs tt)
    (he : ∀ (s : Shared) (H : Hp) (C : Addr) (cl : List (Str × Addr)) (fp : List Addr) (G' : Gd), G'.i0 = G.i0 → VE (X.blk s H scope (compEnvC scope cl C X.env) fp) G' elt te) (hv : ∀ i ∈ g.names, i ∈ own.map (·.2)) (hs : ∀ x, foldedSetIterable iter X.env x = pure x := by intro _; rfl) :
    VS X G (.Assign [.Name y py] (.ListComp elt [⟨tg, iter, ifs, 0⟩] scope pos) spos) (sSet i (eFz (fLc it g tt te (own.map (·.2))))) := vs_setLc (nw := false) hc hN hy hyl hsw hi ok' hg ht he hv hs
theorem call_isiX : CallR X (.builtin "isinstance") (fun xs H Q => (fun xs H Q => rIsi X.K xs H Q ∨ rIsiT X.K xs H Q) xs H Q ∨ rIsiK X.K xs H Q) := (call_isi.or call_isiT).or call_isiK
end
end VL
set_option Elab.async false
set_option linter.all false
set_option maxRecDepth 100000
set_option maxHeartbeats 4000000
namespace VL
open PySem PySem.Spec L2 RT RZ PyProof.Rows
/-- a set just laid -/
abbrev sObj (w : World) : Obj := { cls := .type "set", dict := none, data := .set #[] 0 (.fresh 0 0 (!w.params.followText "set-order")) }
abbrev liObj (l : Addr) : Obj := { cls := .type "list_iterator", data := .fields #[.ref l, .int 0 0] }
section
variable {P : Program} {w : World} {A : Around} {E : Value → Shared → Prop} {s : Shared}
/-- what the loop of set(l) leaves: the set at S is as Φ says, all else stays -/
def LoopOk (P : Program) (w : World) (l : Addr) (Φ : Heap → Addr → Prop) (A : Around) (s : Shared) : Prop :=
  ∀ (S I : Addr) (R : Result → Shared → Prop), s.heap.get? S = some (sObj w) → s.heap.get? I = some (liObj l) → S ≠ I →
    (∀ (h' : Heap) (tk : Nat), Φ h' S → (∀ b o, b ≠ S → b ≠ I → s.heap.get? b = some o → h'.get? b = some o) → R (.ok (.ret .none)) { s with heap := h', toks := tk }) →
    codeAny (model P w) A (.builtin "set.update.loop" ⟨[.ref S, .ref I], []⟩) R s
theorem set_init_l {l : Addr} {items : Array Value} {Φ : Heap → Addr → Prop} {S : Addr} {Q : Value → Shared → Prop} (hl : s.heap.IsList l items) (hS : s.heap.get? S = some (sObj w))
    (loop : LoopOk P w l Φ A.in1 { s with heap := s.heap.push (liObj l) })
    (h : ∀ (h' : Heap) (tk : Nat), Φ h' S → (∀ b o, b ≠ S → s.heap.get? b = some o → h'.get? b = some o) → Q .none { s with heap := h', toks := tk }) :
    codeAny (model P w) A (.call (.builtin "set.__init__") ⟨[.ref S, .ref l], []⟩) (wants Q E) s := by
  have hT : Shared.TypeIs s (.ref S) "set" := ⟨_, hS, rfl⟩
  refine codeAny_call_builtin F.called_set.init.plain F.entry_set_init (check_set_init_1 hT ?_)
  have hl1 : s.heap.IsList l items := hl
  obtain ⟨ol, hol, hcl, nl, hdl⟩ := hl
  obtain ⟨ocls, odict, odata, oslots⟩ := ol
  simp only at hcl hdl
  subst hcl; subst hdl
  have k1 := F.sub_list_set
  have k2 := F.sub_list_frozenset
  have k3 : (Value.type "list" == Value.type "dict") = false := by decide
  unfold Builtin.«set.__init__» noKeywords Builtin.Frozenset.updateFrom
  generalize hPI : pyIter = PI
  wp_walk
  subst hPI
  refine wpAny_pyIter_list hl1 ?_
  refine wpAny_bind (wpAny_runValue ?_)
  have hI := Heap.get?_push_size s.heap (o := liObj l) rfl
  have hlt : S < s.heap.objs.size := Heap.lt_size hS
  refine loop S s.heap.objs.size _ (Heap.get?_push_of_some _ hS) hI (Nat.ne_of_lt hlt) fun h' tk p k => ?_
  refine wpAny_pure (wpAny_pure ?_)
  exact h h' tk p fun b o hb e => k b o hb (Nat.ne_of_lt (Heap.lt_size e)) (Heap.get?_push_of_some _ e)
set_option maxHeartbeats 4000000 in
theorem call_set_l {l : Addr} {items : Array Value} {Φ : Heap → Addr → Prop} {Q : Value → Shared → Prop} (hl : s.heap.IsList l items)
    (loop : LoopOk P w l Φ A.in1.in1 { s with heap := (s.heap.push (sObj w)).push (liObj l) })
    (h : ∀ (h' : Heap) (tk : Nat), Φ h' s.heap.objs.size → (∀ b o, s.heap.get? b = some o → h'.get? b = some o) → Q (.ref s.heap.objs.size) { s with heap := h', toks := tk }) :
    wpAny (model P w) A (call (.type "set") [.ref l]) Q E s := by
  obtain ⟨c, tl, mro⟩ := F.called_set.mro
  have f1 := F.called_set.made
  have f2 := F.called_set.sub
  refine wpAny_call (codeAny_of_tree ?_)
  show wpAny _ _ (callAny (.type "set") _) _ _ _
  refine wpAny_pure ⟨Code.quiet_builtin _ (by decide +kernel), codeAny_builtin F.entry_type_call ?_⟩
  rw [Around.under_plain (weight_type_call_type "set" [.ref l] []) rfl]
  have f3 := F.called_set.notType
  have f4 := F.called_set.canCreate
  have f5 := F.typeCall_set_1 (.ref l)
  repeat (any_goals (first | assumption | wp_step))
  refine codeAny_mono (code_set_led1 (.ref l) (E := E) (Q₁ := fun o t => o = .ref s.heap.objs.size ∧ t = { s with heap := s.heap.push (sObj w) }) ⟨rfl, rfl⟩) fun r t hr => ?_
  rcases r with e | fl
  · exact hr
  cases fl
  case ret o =>
    obtain ⟨rfl, rfl⟩ := hr
    have hS : (s.heap.push (sObj w)).get? s.heap.objs.size = some (sObj w) := Heap.get?_push_size _ rfl
    have hT : Shared.TypeIs { s with heap := s.heap.push (sObj w) } (.ref s.heap.objs.size) "set" := ⟨_, hS, rfl⟩
    have f6 := F.called_set.init.lookup
    have f7 := F.called_set.init.bind (.ref s.heap.objs.size)
    repeat (any_goals (first | assumption | wp_step))
    refine codeAny_mono (set_init_l (Φ := Φ) (Q := fun r t => r = .none ∧ ∃ h' tk, t = { s with heap := h', toks := tk } ∧ Φ h' s.heap.objs.size ∧ ∀ b o, s.heap.get? b = some o → h'.get? b = some o) (E := E)
      (hl.push _) hS ?_ fun h' tk p k => ⟨rfl, h', tk, rfl, p, fun b o e => k b o (Nat.ne_of_lt (Heap.lt_size e)) (Heap.get?_push_of_some _ e)⟩) fun r t hr => ?_
    · skip
      exact loop
    rcases r with e | fl
    · exact hr
    cases fl
    case ret r =>
      obtain ⟨rfl, h', tk, rfl, p, k⟩ := hr
      repeat (any_goals (first | assumption | wp_step))
      exact h _ _ p k
    all_goals exact hr.elim
  all_goals exact hr.elim
theorem new_set_ints {l : Addr} {items : Array Value} (ns : List Int) (hh : A.handled = none) (hl : s.heap.IsList l items) (hit : IntsAre items.toList ns) (hb : ns.length + 1 < scanBound) :
    LoopOk P w l (fun h S => ∃ c, c ≤ ns.length ∧ SetR w h S (fun j => decide (j ∈ ns)) c) A.in1 s := by
  intro S I R hS hI hSI hR
  have hn : items.size = ns.length := by
    have q := IntsAre.length hit
    rwa [Array.length_toList] at q
  obtain ⟨ol, e0, c0, n0, d0⟩ := id hl
  have hlI : l ≠ I := fun z => by subst z; rw [hI] at e0; cases e0; exact absurd (show Value.type _ = Value.type "list" from c0) (by simp)
  have hlS : l ≠ S := fun z => by subst z; rw [hS] at e0; cases e0; exact absurd (show Value.type _ = Value.type "list" from c0) (by simp)
  refine set_update_ints ((Walks.list (show A.in1.in1.handled = none by simpa using hh) I l hlI items).toS) S (by simp [hSI, Ne.symm hlS]) ns hn hb (fun i v hv => ?_) (items.size - 0) 0 _ (by omega) (Nat.zero_le _) ⟨⟨_, hI, rfl, rfl⟩, hl⟩ ⟨0, Nat.le_refl 0, setR_new_at hS⟩ ?_
  · have hi : i < ns.length := by rw [← hn]; exact (Array.getElem?_eq_some_iff.mp hv).1
    obtain ⟨t, e⟩ := IntsAre.int_at hit i v (by rw [Array.getElem?_toList]; exact hv)
    exact ⟨ns[i], t, List.getElem?_eq_getElem hi, by rw [e, List.getD_eq_getElem?_getD, List.getElem?_eq_getElem hi]; rfl⟩
  · intro s' c hm hc hS'
    obtain ⟨h', g2, d', tk', os'⟩ := s'
    have eg : g2 = s.gens := hm.gens
    have ed : d' = s.drawn := hm.drawn
    have eo : os' = s.os := hm.os
    subst eg; subst ed; subst eo
    rw [hn] at hc
    exact hR h' tk' ⟨c, hc, hS'⟩ fun b o h1 h2 e => hm.heap b o (by simp [h1, h2]) e
end
end VL
set_option Elab.async false
set_option linter.all false
set_option maxRecDepth 100000
set_option maxHeartbeats 4000000
namespace VL
open PySem PySem.Spec L2 RT RZ PyProof.Rows
def uins (x : Int) : List Int → List Int
  | [] => [x]
  | y :: ys => if x < y then x :: y :: ys else if x = y then y :: ys else y :: uins x ys
def usort : List Int → List Int
  | [] => []
  | x :: xs => uins x (usort xs)
theorem uins_mem {x k : Int} : ∀ {l : List Int}, k ∈ uins x l ↔ k = x ∨ k ∈ l
  | [] => by simp [uins]
  | y :: ys => by
    unfold uins
    split
    · simp
    · split
      · rename_i h; subst h; simp
      · simp only [List.mem_cons, uins_mem (l := ys)]
        constructor
        · rintro (h | h | h) <;> simp [h]
        · rintro (h | h | h) <;> simp [h]
theorem usort_mem {k : Int} : ∀ {l : List Int}, k ∈ usort l ↔ k ∈ l
  | [] => Iff.rfl
  | y :: ys => by
    rw [show usort (y :: ys) = uins y (usort ys) from rfl, uins_mem, usort_mem, List.mem_cons]
theorem uins_lt {x : Int} : ∀ {l : List Int}, l.Pairwise (· < ·) → (uins x l).Pairwise (· < ·)
  | [], _ => by simp [uins]
  | y :: ys, h => by
    obtain ⟨h1, h2⟩ := List.pairwise_cons.mp h
    unfold uins
    split
    · rename_i hx
      refine List.pairwise_cons.mpr ⟨fun z hz => ?_, h⟩
      rcases List.mem_cons.mp hz with rfl | hz
      · exact hx
      · exact Int.lt_trans hx (h1 z hz)
    · split
      · exact h
      · refine List.pairwise_cons.mpr ⟨fun z hz => ?_, uins_lt h2⟩
        rcases uins_mem.mp hz with rfl | hz
        · omega
        · exact h1 z hz
theorem usort_lt : ∀ l : List Int, (usort l).Pairwise (· < ·)
  | [] => .nil
  | _ :: ys => uins_lt (usort_lt ys)
theorem lt_nodup {l : List Int} (h : l.Pairwise (· < ·)) : l.Nodup := h.imp fun h => by omega
theorem lt_unique {a b : List Int} (ha : a.Pairwise (· < ·)) (hb : b.Pairwise (· < ·)) (h : ∀ k, k ∈ a ↔ k ∈ b) : a = b :=
  List.Perm.eq_of_pairwise (le := (· ≤ ·)) (fun a b _ _ h1 h2 => by omega) (ha.imp fun h => Int.le_of_lt h) (hb.imp fun h => Int.le_of_lt h) ((List.perm_ext_iff_of_nodup (lt_nodup ha) (lt_nodup hb)).mpr h)
theorem usort_eq {ns ms : List Int} (o : ms.Pairwise (· < ·)) (h : ∀ k, k ∈ ms ↔ k ∈ ns) : ms = usort ns := lt_unique o (usort_lt ns) fun k => (h k).trans usort_mem.symm
theorem uins_len {x : Int} : ∀ {l : List Int}, (uins x l).length ≤ l.length + 1
  | [] => Nat.le_refl _
  | y :: ys => by
    unfold uins
    split
    · simp
    · split
      · simp
      · have := uins_len (x := x) (l := ys); simp; omega
theorem usort_len : ∀ l : List Int, (usort l).length ≤ l.length
  | [] => Nat.le_refl _
  | y :: ys => by
    have := usort_len ys
    have := uins_len (x := y) (l := usort ys)
    simp only [usort, List.length_cons]; omega
theorem setR_size {w : World} {h : Heap} {a : Addr} {ns : List Int} {c : Nat} (R : SetR w h a (fun j => decide (j ∈ ns)) c) : c = (usort ns).length := by
  obtain ⟨o, es, ep, t, _, _, _, _, nd, hm, _, _, hn, _⟩ := R
  have p := (List.perm_ext_iff_of_nodup nd (lt_nodup (usort_lt ns))).mpr fun k => by rw [← hm k, usort_mem]; simp
  have := p.length_eq
  rw [List.length_map, Array.length_toList] at this
  omega
theorem rangeSize_nn {i j c : Int} (hc : c ≠ 0) : 0 ≤ Builtin.Range.rangeSize i j c := by
  unfold Builtin.Range.rangeSize
  split
  · split
    · have := Int.ediv_nonneg (a := j - i - 1) (b := c) (by omega) (by omega); omega
    · omega
  · split
    · have := Int.ediv_nonneg (a := i - j - 1) (b := -c) (by omega) (by omega); omega
    · omega
def soSetF (M : Mem) (x : Sv) : Option (List D) := (lstD M x).bind fun ds => (intsOf ds).bind fun ns => gd (ns.length ≤ 4000 ∧ (usort ns).length < 64) ((usort ns).map .int)
theorem bt_set : bootBuiltins "set" = some (.type "set") := by decide +kernel
section
variable {X : Cx} {G : Gd} {a e : Expr} {p p2 q pos : Pos} {ta : TE'}
/-- set(a), then more -/
theorem set_of_ints {A : Around} {E : Value → Shared → Prop} {pins : List (Addr × Obj)} {s1 : Shared} {σ : L2.St} {H1 : Hp} {l : Addr} {ns : List Int} {Q : Value → Shared → Prop} (hh : A.handled = none) (I1 : Inv X pins σ H1 s1) (hq : SqL X.K H1 l (ns.map V.int)) (hl : ns.length ≤ 4000)
    (k : ∀ (s2 : Shared) (c : Nat) (S : Addr), Inv X pins σ H1 s2 → H1 S = none → c = (usort ns).length → SetR X.w s2.heap S (fun j => decide (j ∈ ns)) c → Q (.ref S) s2) :
    wpAny (model X.prog X.w) A (call (.type "set") [.ref l]) Q E s1 := by
  obtain ⟨its, r, pl, hz⟩ := I1.list hq
  have hi := intsAre_vals r
  have hl1 : s1.heap.IsList l its.toArray := pl.isList
  have hb : ns.length + 1 < scanBound := by unfold scanBound; omega
  refine call_set_l (Φ := fun h S => ∃ c, c ≤ ns.length ∧ SetR X.w h S (fun j => decide (j ∈ ns)) c) hl1 (new_set_ints (items := its.toArray) ns (by simpa using hh) ((hl1.push _).push _) (by simpa using hi) hb) fun h' tk ⟨c, hc, R⟩ k' => ?_
  exact k _ c _ (I1.kept (t' := tk) fun b o e => k' b o e) (I1.hok.fresh (Nat.le_refl _)) (setR_size R) R
def tSoSet (K : PySem.W.Frag) (ta : TE) : TE := fun σ H Q => ta σ H fun x H1 => ∃ (l : Addr) (ns : List Int), x = .ref l ∧ SqL K H1 l (ns.map V.int) ∧ ns.length ≤ 4000 ∧ (usort ns).length < 64 ∧ ∀ p, H1 p = none → Q (.ref p) (upd H1 p (.lst ((usort ns).map V.int)))
theorem pe_sortedSet {ta : TE} (hc : X.calm = true) (hg : Gl X "sorted") (hm : X.mg "sorted" = none) (hg2 : Gl X "set") (hm2 : X.mg "set" = none) (ha : PE X a ta)
    (na : starEach [a] X.env = (false, eval a X.env) :: starEach [] X.env := by rfl) : PE X (.Call (.Name "sorted" p) [.Call (.Name "set" p2) [a] [] q] [] pos) (tSoSet X.K ta) := by
  refine ⟨fun pins s σ H Q I h => ?_⟩
  refine Call_ (ld_blt I hg hm bt_sorted ?_)
  refine PyProof.Rows.callWith_builtin1 (PyProof.Rows.args_cons ?_ rfl) rfl rfl
  refine Call_ (ld_blt I hg2 hm2 bt_set ?_)
  refine PyProof.Rows.callWith_type1 (PyProof.Rows.args_cons (thn (ha.run pins s σ H _ I h) fun v s1 ⟨x, H1, I1, r1, q1⟩ => PyProof.Rows.args_nil ?_) na) na rfl
  obtain ⟨l, ns, rfl, hq, hl, h64, q1⟩ := q1
  cases r1
  refine set_of_ints (I1.ok.hd hc) I1 hq hl fun s2 c S I2 hS e R => ?_
  refine PyProof.Rows.args_nil ?_
  refine sorted_set R (I2.ok.hd hc) (by omega) fun s' p out c' ms k g o hp hgp hi hs hm' hlen => ?_
  have hms : ms = usort ns := usort_eq hs fun k => by rw [hm' k]; simp
  subst hms
  have hn : H1 p = none := I2.hok.fresh hp
  have J : Inv X pins σ (upd H1 p (.lst ((usort ns).map V.int))) { s2 with heap := s'.heap, gens := s'.gens, drawn := s'.drawn, toks := s'.toks } :=
    I2.call (ch := []) (Un.laid k hp hn) (I2.hok.laid k hp ⟨by rw [List.length_map, sizeLine_eq]; omega, out.toList, c', vals_of_ints hi, hgp⟩) (by rw [g]; exact I2.bare) (fun _ z => nomatch z)
  have e' : s' = { s2 with heap := s'.heap, gens := s'.gens, drawn := s'.drawn, toks := s'.toks } := by
    cases s'; cases s2; cases o; rfl
  rw [e']
  exact ⟨.ref p, _, J, rfl, q1 p hn⟩
theorem vf_sortedSet (hc : X.calm = true) (hg : Gl X "sorted") (hm : X.mg "sorted" = none) (hg2 : Gl X "set") (hm2 : X.mg "set" = none) (ha : VE X G a ta)
    (na : starEach [a] X.env = (false, eval a X.env) :: starEach [] X.env := by rfl) : VF X G (.Call (.Name "sorted" p) [.Call (.Name "set" p2) [a] [] q] [] pos) (f1 soSetF ta) :=
  PE.weak (pe_sortedSet hc hg hm hg2 hm2 ha na) fun σ H Q ⟨δ, M, ι, Q0, S, h, z⟩ => th1 S h fun x M1 ι1 H1 v q1 p1 k1 S1 r1 => by
    obtain ⟨ds, e, q1⟩ := ok_elim q1
    obtain ⟨es, e1, e2⟩ := Option.bind_eq_some_iff.mp e
    obtain ⟨ns, e3, e4⟩ := Option.bind_eq_some_iff.mp e2
    obtain ⟨hc, rfl⟩ := gd_some e4
    obtain ⟨b, xs, rfl, hq, rx⟩ := lst_of S1 r1 e1
    rw [intsOf_some e3] at rx
    rw [rx.ints] at hq
    exact ⟨b, ns, rfl, hq, hc.1, hc.2, fun p hp => z _ M1 ι1 H1 _ p q1 p1 k1 S1 (RDs.of_ints _) (by rw [List.length_map, sizeLine_eq]; omega) hp⟩
def rgLF (_ : Mem) : List Sv → Option (List D)
  | [.d (.int j)] => gd (-(2 ^ 62) ≤ j ∧ j ≤ 16777216) (rgL 0 j.toNat)
  | [.d (.int i), .d (.int j)] => gd ((0 ≤ i ∧ i ≤ 16777216) ∧ (-(2 ^ 62) ≤ j ∧ j ≤ 16777216)) (rgL i (j - i).toNat)
  | _ => none
theorem rgV_of {K : PySem.W.Frag} {N : Bool → Addr → Prop} {H : Hp} {ι : Ix} (i j : Int) : RDs K N H ι (rgL i (j - i).toNat) (rgV i j) := by
  unfold rgL rgV
  generalize List.range (j - i).toNat = l
  induction l with
  | nil => rfl
  | cons x l ih => exact ⟨_, _, rfl, rfl, ih⟩
theorem vf_listRg1 (hc : X.calm = true) (hg : Gl X "list") (hm : X.mg "list" = none) (hg2 : Gl X "range") (hm2 : X.mg "range" = none) (ha : VE X G a ta)
    (na : starEach [a] X.env = (false, eval a X.env) :: starEach [] X.env := by rfl) (na2 : starEach [.Call (.Name "range" p2) [a] [] q] X.env = (false, eval (.Call (.Name "range" p2) [a] [] q) X.env) :: starEach [] X.env := by rfl) :
    VF X G (.Call (.Name "list" p) [.Call (.Name "range" p2) [a] [] q] [] pos) (fN rgLF (aCons ta (aP []))) :=
  PE.weak (pe_listRg hc hg hm (prg_1 hg2 hm2 ha na) na2) fun σ H Q ⟨δ, M, ι, Q0, S, h, z⟩ => th1 S h fun x M1 ι1 H1 v q1 p1 k1 S1 r1 => by
    have q1 : ok (rgLF M1 [x]) fun ds => Q0 ds M1 := q1
    obtain ⟨ds, e, q1⟩ := ok_elim q1
    unfold rgLF at e
    split at e
    · rename_i j hj
      cases hj
      obtain ⟨hc, rfl⟩ := gd_some e
      cases (show _ = _ from r1)
      refine ⟨j, rfl, ⟨by omega, by omega, by omega, by omega, by omega⟩, fun p hp => z _ M1 ι1 H1 _ p q1 p1 k1 S1 (by simpa using rgV_of 0 j) (by rw [rgL_len, sizeLine_eq]; omega) hp⟩
    · rename_i hj; cases hj
    · cases e
theorem VF.aP1 {f : Mem → List Sv → Option (List D)} {u : PV} (h : VF X G e (fN f (aCons (eP u) (aP [])))) : VF X G e (fN f (aP [u])) := h.weak fun δ M Q h => by
  have h : ok (pArgs [u] δ M) fun xs => ok (f M xs) fun ds => Q ds M := h
  unfold pArgs at h
  rw [ok_bind] at h
  obtain ⟨d, e1, h⟩ := ok_elim h
  rw [ok_map] at h
  exact ok_of e1 h
/-- range(a, b, c) -/
theorem vi_range3 {bd : Bool} {b c tg : Expr} {tA : TA'} (hg : Gl X "range") (hm : X.mg "range" = none) (ha : VA X G [a, b, c] 3 tA) (hs : starEach [a, b, c] X.env = (false, eval a X.env) :: starEach [b, c] X.env := by rfl) (hpl : (backTo pos (starEach [b, c] X.env)).any (·.1) = false := by rfl) :
    VI X G bd tg (.Call (.Name "range" p) [a, b, c] [] pos) (iRg bd tA) := by
  have hi := pi_range3 (tg := tg) (p := p) (pos := pos) hg hm ha hs hpl
  refine ⟨fun pins s σ H R I ⟨δ, M, ι, Q0, S, q, z⟩ => hi.run pins s σ H R I ?_⟩
  refine thA S q fun xs M1 ι1 H1 vs hl q1 p1 k1 S1 r1 => ?_
  obtain ⟨x, y, w, rfl⟩ := len3 hl
  obtain ⟨v, vs1, rfl, rv, r1⟩ := r1
  obtain ⟨u, t, rfl, ru, rt⟩ := two_of r1
  unfold rngD at q1
  split at q1
  · rename_i hj; cases hj
  · rename_i hj; cases hj
  · rename_i i j c hj
    cases hj
    cases (show _ = _ from rv); cases (show _ = _ from ru); cases (show _ = _ from rt)
    have hb : 0 ≤ Builtin.Range.rangeSize i j c := rangeSize_nn q1.1.1
    exact ⟨_, _, _, _, rfl, ⟨q1.1.1, q1.1.2.1, q1.1.2.2, (Int.toNat_of_nonneg hb).symm⟩, z _ _ M1 ι1 H1 _ q1.2.1 q1.2.2 p1 k1 S1 iter_rc⟩
  · exact q1.elim
end
end VL
set_option Elab.async false
set_option linter.all false
set_option maxRecDepth 100000
set_option maxHeartbeats 4000000
namespace VL
open PySem PySem.Spec L2 RT RZ PyProof.Rows
/-- over a tuple -/
def iTq (t : TE') : TI' := fun δ M Q => t δ M fun s M1 => ok (tupD s) fun ds => Q ds gdT M1
end VL
set_option Elab.async false
set_option linter.all false
set_option maxRecDepth 100000
set_option maxHeartbeats 4000000
namespace VL
open PySem PySem.Spec L2 RT RZ
def cellK : Option Cell → Option (List (Key × D))
  | some (.dk kvs) => some kvs
  | _ => none
theorem cellK_some {c : Option Cell} {kvs : List (Key × D)} (h : cellK c = some kvs) : c = some (.dk kvs) := by
  cases c with
  | none => cases h
  | some c => cases c <;> first | (cases h; rfl) | cases h
def keyD : D → Option Key
  | .int i => some (.inl i)
  | .str s => some (.inr s)
  | _ => none
def valK (kvs : List (Key × D)) (k : Key) : Option D := (kvs.find? fun kv => decide (kv.1 = k)).map (·.2)
def putKD (kvs : List (Key × D)) (k : Key) (v : D) : List (Key × D) := if (kvs.any fun kv => decide (kv.1 = k)) = true then kvs.map (fun kv => if kv.1 = k then (kv.1, v) else kv) else kvs ++ [(k, v)]
def mrgK (kvs more : List (Key × D)) : List (Key × D) := more.foldl (fun acc kv => putKD acc kv.1 kv.2) kvs
def pairK : D → Option (Key × D)
  | .tup [k, v] => (keyD k).map fun k => (k, v)
  | _ => none
def pairsK : List D → Option (List (Key × D))
  | [] => some []
  | d :: ds => (pairK d).bind fun p => (pairsK ds).map fun ps => p :: ps
section
variable {K : PySem.W.Frag} {X : Cx} {N : Bool → Addr → Prop} {H : Hp} {ι : Ix} {G : Gd} {a b e o i : Expr} {es : List Expr} {pos cpos apos p1' : Pos} {ta tb te to ti t : TE'} {tA : TA'}
theorem key_rd {d : D} {v : V} {k : Key} (e : keyD d = some k) (h : RD K N H ι d v) : v = kV k := by
  cases d <;> cases e <;> exact h
def RK (K : PySem.W.Frag) (N : Bool → Addr → Prop) (H : Hp) (ι : Ix) (kvs : List (Key × D)) (ws : List (Key × V)) : Prop := kvs.map (·.1) = ws.map (·.1) ∧ RDs K N H ι (kvs.map (·.2)) (ws.map (·.2))
theorem RK.inv {k : Key} {d : D} {kvs : List (Key × D)} {ws : List (Key × V)} (h : RK K N H ι ((k, d) :: kvs) ws) : ∃ v ws', ws = (k, v) :: ws' ∧ RD K N H ι d v ∧ RK K N H ι kvs ws' := by
  obtain ⟨h1, h2⟩ := h
  cases ws with
  | nil => cases h1
  | cons w ws =>
    simp only [List.map_cons, List.cons.injEq] at h1
    obtain ⟨x, r, e, g1, g2⟩ := h2
    simp only [List.map_cons, List.cons.injEq] at e
    obtain ⟨rfl, rfl⟩ := e
    exact ⟨w.2, ws, by rw [h1.1], g1, h1.2, g2⟩
theorem RK.nil : RK K N H ι [] [] := ⟨rfl, rfl⟩
theorem RK.cons {k : Key} {d : D} {v : V} {kvs : List (Key × D)} {ws : List (Key × V)} (r : RD K N H ι d v) (h : RK K N H ι kvs ws) : RK K N H ι ((k, d) :: kvs) ((k, v) :: ws) :=
  ⟨by simp [h.1], v, _, rfl, r, h.2⟩
theorem RK.nil_inv {ws : List (Key × V)} (h : RK K N H ι [] ws) : ws = [] := by
  have := h.1
  cases ws with
  | nil => rfl
  | cons w ws => simp at this
theorem RK.length {kvs : List (Key × D)} {ws : List (Key × V)} (h : RK K N H ι kvs ws) : kvs.length = ws.length := by
  have := congrArg List.length h.1
  simpa using this
theorem RK.val : ∀ {kvs : List (Key × D)} {ws : List (Key × V)}, RK K N H ι kvs ws → ∀ k, (valK kvs k = none ∧ valV ws k = none) ∨ ∃ d v, valK kvs k = some d ∧ valV ws k = some v ∧ RD K N H ι d v
  | [], ws, h, k => by
    rw [h.nil_inv]; exact .inl ⟨rfl, rfl⟩
  | (j, d) :: kvs, ws, h, k => by
    obtain ⟨v, ws', rfl, r, h'⟩ := h.inv
    by_cases e : j = k
    · refine .inr ⟨d, v, by simp [valK, e], by simp [valV, e], r⟩
    · rcases RK.val h' k with ⟨h1, h2⟩ | ⟨d', v', h1, h2, r'⟩
      · refine .inl ⟨?_, ?_⟩
        · simp only [valK, List.find?_cons, e, decide_false]; exact h1
        · simp only [valV, List.find?_cons, e, decide_false]; exact h2
      · refine .inr ⟨d', v', ?_, ?_, r'⟩
        · simp only [valK, List.find?_cons, e, decide_false]; exact h1
        · simp only [valV, List.find?_cons, e, decide_false]; exact h2
theorem RK.any {kvs : List (Key × D)} {ws : List (Key × V)} (h : RK K N H ι kvs ws) (k : Key) : (kvs.any fun kv => decide (kv.1 = k)) = ws.any fun kv => decide (kv.1 = k) := by
  have e1 : (kvs.any fun kv => decide (kv.1 = k)) = (kvs.map (·.1)).any fun j => decide (j = k) := by rw [List.any_map]; rfl
  have e2 : (ws.any fun kv => decide (kv.1 = k)) = (ws.map (·.1)).any fun j => decide (j = k) := by rw [List.any_map]; rfl
  rw [e1, e2, h.1]
theorem RK.repl {k : Key} {d : D} {v : V} (r : RD K N H ι d v) : ∀ {kvs : List (Key × D)} {ws : List (Key × V)}, RK K N H ι kvs ws → RK K N H ι (kvs.map fun kv => if kv.1 = k then (kv.1, d) else kv) (ws.map fun kv => if kv.1 = k then (kv.1, v) else kv)
  | [], ws, h => by rw [h.nil_inv]; exact RK.nil
  | (j, d') :: kvs, ws, h => by
    obtain ⟨v', ws', rfl, r', h'⟩ := h.inv
    simp only [List.map_cons]
    by_cases e : j = k
    · simp only [e, if_true]; exact RK.cons r (RK.repl r h')
    · simp only [e, if_false]; exact RK.cons r' (RK.repl r h')
theorem RK.snoc {k : Key} {d : D} {v : V} (r : RD K N H ι d v) : ∀ {kvs : List (Key × D)} {ws : List (Key × V)}, RK K N H ι kvs ws → RK K N H ι (kvs ++ [(k, d)]) (ws ++ [(k, v)])
  | [], ws, h => by rw [h.nil_inv]; exact RK.cons r RK.nil
  | (j, d') :: kvs, ws, h => by
    obtain ⟨v', ws', rfl, r', h'⟩ := h.inv
    exact RK.cons r' (RK.snoc r h')
theorem RK.put {k : Key} {d : D} {v : V} {kvs : List (Key × D)} {ws : List (Key × V)} (h : RK K N H ι kvs ws) (r : RD K N H ι d v) : RK K N H ι (putKD kvs k d) (putK ws k v) := by
  unfold putKD putK
  rw [h.any k]
  by_cases q : (ws.any fun kv => decide (kv.1 = k)) = true
  · rw [if_pos q, if_pos q]; exact RK.repl r h
  · rw [if_neg q, if_neg q]; exact RK.snoc r h
theorem RK.merge : ∀ {more : List (Key × D)} {ms : List (Key × V)} {kvs : List (Key × D)} {ws : List (Key × V)}, RK K N H ι kvs ws → RK K N H ι more ms → RK K N H ι (mrgK kvs more) (mergeK ws ms)
  | [], ms, kvs, ws, h, hm => by rw [hm.nil_inv]; exact h
  | (j, d) :: more, ms, kvs, ws, h, hm => by
    obtain ⟨v, ms', rfl, r, hm'⟩ := hm.inv
    show RK K N H ι (mrgK (putKD kvs j d) more) (mergeK (putK ws j v) ms')
    exact RK.merge (h.put r) hm'
theorem RK.mono {N' : Bool → Addr → Prop} {H' : Hp} {ι' : Ix} {kvs : List (Key × D)} {ws : List (Key × V)} (k : Kp ι H ι' H') (hn : ∀ b a o, H a = some o → N b a → N' b a) (h : RK K N H ι kvs ws) : RK K N' H' ι' kvs ws := ⟨h.1, h.2.mono k hn⟩
def inKD (M : Mem) (x y : Sv) : Option Bool := match x, y with
  | .d k, .ref n => (cellK M[n]?).bind fun kvs => (keyD k).map fun k => (valK kvs k).isSome
  | _, _ => none
def dninD (M : Mem) (x y : Sv) : Option Sv := (inKD M x y).map fun b => blS (!b)
def rDIn (neg : Bool) : R2 := fun x y H Q => ∃ a o, y = .ref a ∧ DGet H a x o ∧ Q (.bl (if neg then !o.isSome else o.isSome)) H
theorem op_dnin (hu : X.A.units + 1 < cLine) : OpR X (compareOp .NotIn) (rDIn true) := by
  intro pins s σ H x y v u Q I rx ry ⟨a, o, e, g, q⟩
  subst e
  cases (show u = Value.ref a from ry)
  exact d_notIn hu I g rx fun s' I' => ⟨.bl _, H, I', rfl, q⟩
theorem inKD_rd {neg : Bool} {δ : DS} {M : Mem} {σ : L2.St} {x y : Sv} {v u : V} {c : Bool} {Q : VK} (S : Sr K G δ M ι σ H) (rx : RS K G.N H ι x v) (ry : RS K G.N H ι y u) (e : inKD M x y = some c) (q : Q (.bl (if neg then !c else c)) H) : rDIn neg v u H Q := by
  cases x with
  | d k =>
    cases y with
    | ref n =>
      obtain ⟨kvs, e1, e2⟩ := Option.bind_eq_some_iff.mp (show (cellK M[n]?).bind _ = some c from e)
      obtain ⟨k', e3, e4⟩ := Option.map_eq_some_iff.mp e2
      obtain ⟨a, rfl, hn, ws, hH, hk⟩ := S.mem.at ry (cellK_some e1) (fun z => nomatch z)
      have hv := key_rd e3 (show RD K G.N H ι k v from rx)
      subst hv
      refine ⟨a, _, rfl, DGet.k hH, ?_⟩
      have : (valV ws k').isSome = c := by
        rcases RK.val (show RK K G.N H ι kvs ws from hk) k' with ⟨h1, h2⟩ | ⟨d, v, h1, h2, _⟩
        · rw [h2, ← e4, h1]; rfl
        · rw [h2, ← e4, h1]; rfl
      rw [this]; exact q
    | _ => cases e
  | _ => cases e
theorem rd_dnin : Rd2 K (rDIn true) dninD := by
  intro G δ M ι σ H x y v u d S rx ry e Q z
  obtain ⟨c, e1, rfl⟩ := Option.map_eq_some_iff.mp (show (inKD M x y).map _ = some d from e)
  exact inKD_rd S rx ry e1 (fin_same S z rfl)
def dgetD (M : Mem) (x y : Sv) : Option Sv := match x, y with
  | .ref n, .d k => (cellK M[n]?).bind fun kvs => (keyD k).bind fun k => (valK kvs k).map .d
  | _, _ => none
def rDGet : R2 := fun x y H Q => ∃ a v, x = .ref a ∧ DGet H a y (some v) ∧ Q v H
theorem rd_dget : Rd2 K rDGet dgetD := by
  intro G δ M ι σ H x y v u d S rx ry e Q z
  unfold dgetD at e
  split at e
  · rename_i n k
    obtain ⟨kvs, e1, e2⟩ := Option.bind_eq_some_iff.mp e
    obtain ⟨k', e3, e4⟩ := Option.bind_eq_some_iff.mp e2
    obtain ⟨d', e5, rfl⟩ := Option.map_eq_some_iff.mp e4
    obtain ⟨a, rfl, hn, ws, hH, hk⟩ := S.mem.at rx (cellK_some e1) (fun z => nomatch z)
    have hv := key_rd e3 (show RD K G.N H ι k u from ry)
    subst hv
    rcases RK.val (show RK K G.N H ι kvs ws from hk) k' with ⟨h1, h2⟩ | ⟨d, w, h1, h2, r⟩
    · rw [h1] at e5; cases e5
    · rw [h1] at e5; cases e5
      exact ⟨a, w, rfl, by rw [← h2]; exact DGet.k hH, fin_same S z r⟩
  · cases e
theorem ve_dget (hu : X.A.units + 1 < cLine) (ha : VE X G a ta) (hb : VE X G b tb) (hs : NoSl b := by exact fun _ _ => rfl) : VE X G (.Subscript a b pos) (eo2 dgetD ta tb) :=
  PE.weak (pe_dget hu ha hb hs) fun σ H Q h => fin2 rd_dget h
def eDkN : TE' := fun _ M Q => Q (.ref M.length) (M ++ [.dk []])
theorem ve_dnew : VE X G (.Dict [] [] pos) eDkN :=
  PE.weak pe_dnewK fun σ H Q ⟨δ, M, ι, Q0, S, q, z⟩ => fun p hp =>
    z _ _ _ _ _ q (Ex.app _ _) (Kp.named hp) (S.named (c := .dk []) hp ⟨[], upd_same, rfl, rfl⟩) ⟨p, rfl, .inl (by rw [S.mem.len]; simp)⟩
def stK (o i : Sv) (d : D) (M : Mem) (Q : Mem → Prop) : Prop := match o, i with
  | .ref n, .d k => ok (cellK M[n]?) fun kvs => ok (keyD k) fun k => kvs.length < sizeLine ∧ Q (M.set n (.dk (putKD kvs k d)))
  | _, _ => False
def sSubK (te to ti : TE') : TS' := fun E δ M => te δ M fun s M1 => ok (dataS s) fun d => to δ M1 fun o M2 => ti δ M2 fun i M3 => stK o i d M3 fun M4 => E.nx δ M4
theorem vs_subK (hu : X.A.units + 1 < cLine) (he : VE X G e te) (ho : VE X G o to) (hi : VE X G i ti) (hs : swapsWithSole [.Subscript o i p1'] e pos.line X.env = pure false := by rfl) (hw : swappedStores [.Subscript o i p1'] e X.env = pure none := by rfl)
    (h1 : (assignEach [.Subscript o i p1'] X.env).map (·.2) = [assign (.Subscript o i p1') X.env] := by rfl)
    (ha : ∀ v, assign (.Subscript o i p1') X.env v = (do
      let ov ← holding [v] (eval o X.env)
      let iv ← holding [v, ov] (eval i X.env)
      standAt p1'
      holding [v, ov, iv] (setItem ov iv v)
      release [v, ov, iv] []) := by intro _; rfl) : VS X G (.Assign [.Subscript o i p1'] e pos) (sSubK te to ti) :=
  PS.weak (ps_asg he (pg_sub ho hi (set_dict hu) ha) hs hw h1) fun E σ H ⟨δ, M, ι, E0, S, q, z⟩ => th1 S q fun s M1 ι1 H1 v q1 p1 k1 S1 r1 => by
    obtain ⟨d, e9, q1⟩ := ok_elim q1
    refine th1 S1 q1 fun x M2 ι2 H2 u q2 p2 k2 S2 r2 => th1 S2 q2 fun y M3 ι3 H3 w q3 p3 k3 S3 r3 => ?_
    have r1' := r1.mono (k2.trans k3) (p2.trans p3) (fun _ _ _ _ z => z)
    have r2' := r2.mono k3 p3 (fun _ _ _ _ z => z)
    unfold stK at q3
    split at q3
    · rename_i n k
      obtain ⟨kvs, e1, q3⟩ := ok_elim q3
      obtain ⟨k', e2, hl, q3⟩ := ok_elim q3
      obtain ⟨a, rfl, hn, ws, hH, r⟩ := S3.mem.at r2' (cellK_some e1) (fun z => nomatch z)
      have hv := key_rd e2 (show RD X.K G.N H3 ι3 k w from r3)
      subst hv
      cases s with
      | d x =>
        cases e9
        have hm := List.mem_of_getElem? hn
        have r' : RK X.K G.N H3 ι3 kvs ws := r
        have k : Kp ι3 H3 ι3 (upd H3 a (.dK (putK ws k' v))) := Kp.turned hm
        refine ⟨a, _, rfl, DPut.k hH (by rw [← r'.length]; exact hl), ?_⟩
        exact z.nx _ _ _ _ _ q3 ((p1.trans p2).trans p3) (((k1.trans k2).trans k3).trans k) (S3.turned hn ⟨_, upd_same, (r'.put (show RD _ _ _ _ _ _ from r1')).mono k fun _ _ _ _ z => z⟩)
      | ref n => cases e9
      | bor n => cases e9
    · exact q3.elim
theorem pairK_rd {d : D} {v : V} {kd : Key × D} (e : pairK d = some kd) (h : RD K N H ι d v) : ∃ p w, v = .ref p ∧ SqT K H p [kV kd.1, w] ∧ RD K N H ι kd.2 w := by
  unfold pairK at e
  split at e
  · rename_i k x
    obtain ⟨k', e1, rfl⟩ := Option.map_eq_some_iff.mp e
    obtain ⟨a, xs, rfl, q, l, u, r, rfl, g1, w, r2, rfl, g2, rfl⟩ := h
    have hv := key_rd e1 g1
    subst hv
    exact ⟨a, w, rfl, tup_sq q, g2⟩
  · cases e
theorem pairs_rd : ∀ {ds : List D} {xs : List V} {kvs : List (Key × D)}, pairsK ds = some kvs → RDs K N H ι ds xs → ∃ ps ws, xs = ps.map V.ref ∧ Paired (fun p kv => SqT K H p [kV kv.1, kv.2]) ps ws ∧ RK K N H ι kvs ws
  | [], xs, kvs, e, r => by
    cases e
    cases (show xs = [] from r)
    exact ⟨[], [], rfl, .nil, RK.nil⟩
  | d :: ds, xs, kvs, e, r => by
    obtain ⟨kd, e1, e2⟩ := Option.bind_eq_some_iff.mp (show (pairK d).bind _ = some kvs from e)
    obtain ⟨kvs', e3, rfl⟩ := Option.map_eq_some_iff.mp e2
    obtain ⟨x, rest, rfl, g1, g2⟩ := r
    obtain ⟨p, w, rfl, hp, rw'⟩ := pairK_rd e1 g1
    obtain ⟨ps, ws, rfl, h1, h2⟩ := pairs_rd e3 g2
    exact ⟨p :: ps, (kd.1, w) :: ws, rfl, .cons hp h1, RK.cons rw' h2⟩
def eDictOf (t : TE') : TE' := fun δ M Q => t δ M fun s M1 => ok (lstD M1 s) fun ds => ok (pairsK ds) fun kvs => Q (.ref M1.length) (M1 ++ [.dk (mrgK [] kvs)])
theorem ve_dictOf {p : Pos} (hc : X.calm = true) (hg : Gl X "dict") (hm : X.mg "dict" = none) (h : VE X G e t) (he : starEach [e] X.env = (false, eval e X.env) :: starEach [] X.env := by rfl) (hpl : (backTo pos (starEach [] X.env)).any (·.1) = false := by rfl) :
    VE X G (.Call (.Name "dict" p) [e] [] pos) (eDictOf t) := by
  have ha := va_cons (n := 0) h va_nil (hs := he)
  refine PE.weak (pe_callTy (call_dictP hc) hg hm rfl ha (he := he) (hpl := hpl)) fun σ H Q ⟨δ, M, ι, Q0, S, q, z⟩ => ?_
  refine thA S (show aCons t aNil δ M (fun xs M1 => match xs with | [s] => ok (lstD M1 s) fun ds => ok (pairsK ds) fun kvs => Q0 (.ref M1.length) (M1 ++ [.dk (mrgK [] kvs)]) | _ => False) from q) fun xs M1 ι1 H1 vs hl q1 p1 k1 S1 r1 => ?_
  cases xs with
  | nil => exact q1.elim
  | cons s xs =>
    cases xs with
    | cons _ _ => exact q1.elim
    | nil =>
      obtain ⟨ds, e1, q1⟩ := ok_elim q1
      obtain ⟨kvs, e2, q1⟩ := ok_elim q1
      obtain ⟨y, rfl, ry⟩ := one_of r1
      obtain ⟨l, xs, rfl, hq, r2⟩ := lst_of S1 ry e1
      obtain ⟨ps, ws, rfl, h1, h2⟩ := pairs_rd e2 r2
      refine ⟨l, ps, ws, rfl, hq, h1, fun p hp => ?_⟩
      have kk : Kp ι1 H1 (ι1 ++ [some p]) (upd H1 p (.dK (mergeK [] ws))) := Kp.named hp
      exact z _ _ _ _ _ q1 (p1.trans (Ex.app _ _)) (k1.trans kk) (S1.named (c := .dk (mrgK [] kvs)) hp ⟨_, upd_same, (RK.merge RK.nil h2).mono kk fun _ _ _ _ z => z⟩) ⟨p, rfl, .inl (by rw [S1.mem.len]; simp)⟩
end
end VL
set_option Elab.async false
set_option linter.all false
set_option maxRecDepth 100000
set_option maxHeartbeats 4000000
namespace VL
open PySem PySem.Spec L2 RT RZ
/-- a plain list of these items -/
def PlnL (h : Heap) (l : Addr) (vs : List Value) : Prop := ∃ n, h.get? l = some { cls := .type "list", data := .seq vs.toArray n }
theorem PlnL.keep {h h' : Heap} {l : Addr} {vs : List Value} (p : PlnL h l vs) (k : ∀ b o, h.get? b = some o → h'.get? b = some o) : PlnL h' l vs := let ⟨n, e⟩ := p; ⟨n, k _ _ e⟩
end VL
set_option Elab.async false
set_option linter.all false
set_option maxRecDepth 100000
set_option maxHeartbeats 4000000
namespace VL
open PySem PySem.Spec L2 RT RZ
end VL
set_option Elab.async false
set_option linter.all false
set_option maxRecDepth 100000
set_option maxHeartbeats 4000000
namespace VL
open PySem PySem.Spec L2 RT RZ
end VL
set_option Elab.async false
set_option linter.all false
set_option maxRecDepth 100000
set_option maxHeartbeats 4000000
namespace VL
open PySem PySem.Spec L2 RT RZ PyProof.Rows
end VL
set_option Elab.async false
set_option linter.all false
set_option maxRecDepth 100000
set_option maxHeartbeats 4000000
namespace VL
open PySem PySem.Spec L2 RT RZ PyProof.Rows
theorem sSeq_app {a b : TS'} {E : Ends'} {δ : DS} {M : Mem} : sSeq a b E δ M = a ⟨fun δ' M' => b E δ' M', E.rt, E.bk, E.ct⟩ δ M := Eq.trans (Eq.refl _) (Eq.refl _)
variable {K : PySem.W.Frag} {X : Cx} {G : Gd} {e tg : Expr} {pos p : Pos} {t : TE'}
end VL
set_option Elab.async false
set_option linter.all false
set_option maxRecDepth 100000
set_option maxHeartbeats 4000000
namespace VL
open PySem PySem.Spec L2 RT RZ PyProof.Rows
end VL
set_option Elab.async false
set_option linter.all false
set_option maxRecDepth 100000
set_option maxHeartbeats 4000000
namespace VL
open PySem PySem.Spec L2 RT RZ PyProof.Rows
end VL
set_option Elab.async false
set_option linter.all false
set_option maxRecDepth 100000
set_option maxHeartbeats 4000000
namespace VL
open PySem PySem.Spec L2 RT RZ PyProof.Rows
theorem rng_down {k : List D → Prop} {n : Nat} (hn : n ≤ 1000000) (h : k (rgC ((n : Int) - 1) (-1) n)) : rngD [.d (.int ((n : Int) - 1)), .d (.int (-1)), .d (.int (-1))] k := by
  have e : Builtin.Range.rangeSize ((n : Int) - 1) (-1) (-1) = (n : Int) := by rw [PySem.W.rangeSize_downNat]; omega
  refine ⟨⟨by decide, by decide, PySem.W.small_down (by omega) (by omega) (by decide) (by decide)⟩, ?_⟩
  rw [e, Int.toNat_natCast]
  exact h
end VL
set_option Elab.async false
set_option linter.all false
set_option maxRecDepth 100000
set_option maxHeartbeats 4000000
namespace VL
open PySem PySem.Spec L2 RT RZ
/-- names from k on are forgotten but one -/
def mvO (k q : Nat) : Option Sv → Option Sv
  | some (.d x) => some (.d x)
  | some (.ref n) => if n < k then some (.ref n) else if n = q then some (.ref k) else none
  | some (.bor ds) => some (.bor ds)
  | none => none
section
variable {K : PySem.W.Frag} {G : Gd} {δ : DS} {M : Mem} {ι : Ix} {σ : L2.St} {H : Hp}
theorem ix_mv {α : Type} {l : List α} {k q n : Nat} {o : α} (hq : k ≤ q) (hl : q < l.length) : (l.take k ++ (l[q]?).toList)[n]? = some o ↔ (n < k ∧ l[n]? = some o) ∨ (n = k ∧ l[q]? = some o) := by
  have ht : (l.take k).length = k := by rw [List.length_take]; omega
  by_cases h : n < k
  · rw [List.getElem?_append_left (by omega), List.getElem?_take, if_pos h]
    constructor
    · exact fun e => .inl ⟨h, e⟩
    · rintro (⟨_, e⟩ | ⟨e, _⟩)
      · exact e
      · omega
  · rw [List.getElem?_append_right (by omega), ht, List.getElem?_eq_getElem hl]
    by_cases e : n = k
    · subst e
      rw [Nat.sub_self]
      constructor
      · exact fun e => .inr ⟨rfl, e⟩
      · rintro (⟨e, _⟩ | ⟨_, e⟩)
        · omega
        · exact e
    · constructor
      · intro g
        have := (List.getElem?_eq_some_iff.mp g).1
        simp at this
        omega
      · rintro (⟨g, _⟩ | ⟨g, _⟩)
        · omega
        · exact absurd g e
def flatO : Option Cell → Bool
  | some (.nd _ _) => false
  | _ => true
theorem flatO_wf {c : Cell} {n : Nat} (h : flatO (some c) = true) : c.wf n := by
  cases c with
  | nd k its => cases h
  | _ => trivial
theorem Sr.mv (S : Sr K G δ M ι σ H) {k q : Nat} (hk : G.i0.length ≤ k) (hq : k ≤ q) (hl : q < M.length) (hf : flatO M[q]? = true) :
    Sr K G (δ.map (mvO k q)) (M.take k ++ (M[q]?).toList) (ι.take k ++ (ι[q]?).toList) σ H ∧ Kp ι H (ι.take k ++ (ι[q]?).toList) H := by
  have hli : q < ι.length := by rw [← S.mem.len]; exact hl
  have sub : ∀ a, some a ∈ ι.take k ++ (ι[q]?).toList → some a ∈ ι := fun a h => by
    rcases List.mem_append.mp h with h | h
    · exact List.mem_of_mem_take h
    · rw [List.getElem?_eq_getElem hli] at h
      rw [List.mem_singleton.mp (show some a ∈ [ι[q]] from h)]
      exact List.getElem_mem hli
  have kk : Kp ι H (ι.take k ++ (ι[q]?).toList) H := fun a o h n => ⟨h, fun hm => n (sub a hm)⟩
  refine ⟨⟨by simp [S.len], fun i d e => ?_, ⟨?_, fun n m a e1 e2 => ?_, fun n c a e1 e2 => ?_, fun n e => ?_, fun n c e1 => ?_⟩, fun n a e => ?_, S.kp.trans kk, fun a ha hn => S.new a (sub a ha) hn, S.bad, fun a ha => ⟨fun hm => (S.hid a ha).1 (sub a hm), (S.hid a ha).2⟩, S.obk⟩, kk⟩
  · rw [List.getElem?_map] at e
    cases z : δ[i]? with
    | none => rw [z] at e; cases e
    | some o =>
      rw [z] at e
      cases o with
      | none => cases e
      | some w =>
        obtain ⟨v, e1, r⟩ := S.slot i w z
        cases w with
        | d x => cases e; exact ⟨v, e1, RD.mono kk (fun _ _ _ _ z => z) x v r⟩
        | bor ds =>
          cases e
          obtain ⟨a, xs, e2, q1, q2, q4, l, q3⟩ := r
          exact ⟨v, e1, a, xs, e2, q1, (kk a _ q1 q2).2, q4, l, q3.mono kk fun _ _ _ _ z => z⟩
        | ref n =>
          simp only [Option.map_some, mvO] at e
          obtain ⟨a, e2, z⟩ := r
          split at e
          · rename_i hn
            cases e
            refine ⟨v, e1, a, e2, ?_⟩
            rcases z with z | z
            · exact .inl ((ix_mv hq hli).mpr (.inl ⟨hn, z⟩))
            · exact .inr ((ix_mv hq hli).mpr (.inl ⟨hn, z⟩))
          · split at e
            · rename_i hn
              cases e
              subst hn
              refine ⟨v, e1, a, e2, ?_⟩
              rcases z with z | z
              · exact .inl ((ix_mv hq hli).mpr (.inr ⟨rfl, z⟩))
              · exact .inr ((ix_mv hq hli).mpr (.inr ⟨rfl, z⟩))
            · cases e
  · rw [List.getElem?_eq_getElem hl, List.getElem?_eq_getElem hli]
    simp [S.mem.len]
  · rcases (ix_mv hq hli).mp e1 with ⟨h1, g1⟩ | ⟨h1, g1⟩ <;> rcases (ix_mv hq hli).mp e2 with ⟨h2, g2⟩ | ⟨h2, g2⟩
    · exact S.mem.nod n m a g1 g2
    · have := S.mem.nod n q a g1 g2; omega
    · have := S.mem.nod q m a g1 g2; omega
    · omega
  · rcases (ix_mv hq hl).mp e1 with ⟨h1, g1⟩ | ⟨h1, g1⟩ <;> rcases (ix_mv hq hli).mp e2 with ⟨h2, g2⟩ | ⟨h2, g2⟩
    · exact (S.mem.cell n c a g1 g2).monoB (n := n) kk (fun j hj o e => .inl ((ix_mv hq hli).mpr (.inl ⟨by omega, e⟩))) (fun _ _ _ _ z => z) (S.mem.wf n c g1) rfl
    · omega
    · omega
    · exact (S.mem.cell q c a g1 g2).monoB (n := 0) kk (fun j hj => by omega) (fun _ _ _ _ z => z) (flatO_wf (by rw [← g1]; exact hf)) rfl
  · rcases (ix_mv hq hli).mp e with ⟨h1, g1⟩ | ⟨h1, g1⟩
    · exact (ix_mv hq hl).mpr (.inl ⟨h1, S.mem.gone n g1⟩)
    · exact (ix_mv hq hl).mpr (.inr ⟨h1, S.mem.gone q g1⟩)
  · rcases (ix_mv hq hl).mp e1 with ⟨h1, g1⟩ | ⟨h1, g1⟩
    · exact S.mem.wf n c g1
    · exact flatO_wf (by rw [← g1]; exact hf)
  · have h1 := (List.getElem?_eq_some_iff.mp e).1
    exact (ix_mv hq hli).mpr (.inl ⟨by omega, S.pre n a e⟩)
end
/-- the slot's name, when it is one from k on -/
def reQ (i k : Nat) (δ : DS) (M : Mem) : Option Nat := match (δ[i]?).join with
  | some (.ref q) => if k ≤ q ∧ q < M.length ∧ flatO M[q]? = true then some q else none
  | _ => none
def reS (i k : Nat) (δ : DS) (M : Mem) : DS := match reQ i k δ M with
  | some q => δ.map (mvO k q)
  | none => gcS k δ
def reM (i k : Nat) (δ : DS) (M : Mem) : Mem := match reQ i k δ M with
  | some q => M.take k ++ (M[q]?).toList
  | none => M.take k
def whR (i k : Nat) (c : TT') (b : TS') (E : Ends') : Nat → DS → Mem → Prop
  | 0, _, _ => False
  | n + 1, δ, M => c δ M fun t M' => if t then b ⟨fun δ' M'' => whR i k c b E n (reS i k δ' M'') (reM i k δ' M''), E.rt, E.nx, fun δ' M'' => whR i k c b E n (reS i k δ' M'') (reM i k δ' M'')⟩ δ M' else E.nx δ M'
def sWhR (i : Nat) (c : TT') (b : TS') : TS' := fun E δ M => ∃ n, whR i M.length c b E n δ M
section
variable {K : PySem.W.Frag} {X : Cx} {G : Gd} {c : Expr} {body : List Stmt} {pos : Pos} {tc : TT'} {s : TS'} {δ : DS} {M : Mem} {ι : Ix} {σ : L2.St} {H : Hp}
theorem Sr.re (S : Sr K G δ M ι σ H) (i : Nat) {k : Nat} (hk : G.i0.length ≤ k) : ∃ ι', Sr K G (reS i k δ M) (reM i k δ M) ι' σ H ∧ Kp ι H ι' H ∧ Ex (ι.take k) ι' := by
  unfold reS reM
  cases e : reQ i k δ M with
  | none => exact ⟨_, S.gc k hk, Kp.take _, Ex.refl _⟩
  | some q =>
    have hq : k ≤ q ∧ q < M.length ∧ flatO M[q]? = true := by
      unfold reQ at e
      split at e
      · split at e
        · rename_i h; cases e; exact h
        · cases e
      · cases e
    exact ⟨_, (S.mv hk hq.1 hq.2.1 hq.2.2).1, (S.mv hk hq.1 hq.2.1 hq.2.2).2, Ex.app _ _⟩
theorem vs_whileR (i : Nat) (hp : PassesOwn (model X.prog X.w) X.A X.env X.xe) (hc : VT X G c tc) (hb : VSs X G body s) : VS X G (.While c body [] pos) (sWhR i tc s) := by
  refine PS.weak (ps_while hp hc hb) fun E σ H ⟨δ, M, ι, E0, S, q, z⟩ => ?_
  obtain ⟨n0, q⟩ := q
  have hk : G.i0.length ≤ M.length := S.i0len
  have hlen : M.length = ι.length := S.mem.len
  refine ⟨fun m σ2 H2 => ∃ δ2 M2 ι2, Sr X.K G δ2 M2 ι2 σ2 H2 ∧ Ex ι ι2 ∧ Kp ι H ι2 H2 ∧ whR i M.length tc s E0 m δ2 M2, ⟨n0, δ, M, ι, S, Ex.refl _, Kp.refl _ _, q⟩, ?_⟩
  rintro m σ2 H2 ⟨δ2, M2, ι2, S2, e2, k2, q2⟩
  cases m with
  | zero => exact q2.elim
  | succ m =>
    refine ⟨δ2, M2, ι2, _, S2, q2, fun t M3 ι3 H3 q3 p3 k3 S3 => ?_⟩
    cases t with
    | false => exact z.nx δ2 M3 ι3 σ2 H3 q3 (e2.trans p3) (k2.trans k3) S3
    | true =>
      simp only [if_true] at q3 ⊢
      refine ⟨fun σ5 H5 => ∃ δ2 M2 ι2, Sr X.K G δ2 M2 ι2 σ5 H5 ∧ Ex ι ι2 ∧ Kp ι H ι2 H5 ∧ whR i M.length tc s E0 m δ2 M2, fun σ5 H5 h => ⟨m, Nat.lt_succ_self _, h⟩, ?_⟩
      have fin : ∀ δ5 M5 ι5 σ5 H5, Sr X.K G δ5 M5 ι5 σ5 H5 → Ex ι ι5 → Kp ι H ι5 H5 → whR i M.length tc s E0 m (reS i M.length δ5 M5) (reM i M.length δ5 M5) →
          ∃ δ3 M3 ι3, Sr X.K G δ3 M3 ι3 σ5 H5 ∧ Ex ι ι3 ∧ Kp ι H ι3 H5 ∧ whR i M.length tc s E0 m δ3 M3 := fun δ5 M5 ι5 σ5 H5 S5 e5 k5 q5 => by
        obtain ⟨ι6, S6, k6, x6⟩ := S5.re i hk
        refine ⟨_, _, _, S6, ?_, k5.trans k6, q5⟩
        refine Ex.trans ?_ x6
        rw [hlen]; exact ex_take e5
      refine ⟨δ2, M3, ι3, _, S3, q3, ⟨fun δ5 M5 ι5 σ5 H5 q5 e5 k5 S5 => ?_, fun d5 δ5 M5 ι5 σ5 H5 v5 q5 S5 r5 => ?_, fun δ5 M5 ι5 σ5 H5 q5 e5 k5 S5 => ?_, fun δ5 M5 ι5 σ5 H5 q5 e5 k5 S5 => ?_⟩⟩
      · exact fin δ5 M5 ι5 σ5 H5 S5 ((e2.trans p3).trans e5) ((k2.trans k3).trans k5) q5
      · exact z.rt d5 δ5 M5 ι5 σ5 H5 v5 q5 S5 r5
      · exact z.nx δ5 M5 ι5 σ5 H5 q5 ((e2.trans p3).trans e5) ((k2.trans k3).trans k5) S5
      · exact fin δ5 M5 ι5 σ5 H5 S5 ((e2.trans p3).trans e5) ((k2.trans k3).trans k5) q5
end
end VL
set_option Elab.async false
set_option linter.all false
set_option maxRecDepth 100000
set_option maxHeartbeats 4000000
namespace VL
open PySem PySem.Spec L2 RT RZ PyProof.Rows
end VL
set_option Elab.async false
set_option linter.all false
set_option maxRecDepth 100000
set_option maxHeartbeats 4000000
namespace VL
open PySem PySem.Spec L2 RT RZ
def bI (b : Bool) : Int := if b = true then 1 else 0
end VL
set_option Elab.async false
set_option linter.all false
set_option maxRecDepth 100000
set_option maxHeartbeats 4000000
namespace VL
open PySem PySem.Spec L2 RT RZ
end VL
set_option Elab.async false
set_option linter.all false
set_option maxRecDepth 100000
set_option maxHeartbeats 4000000
namespace VL
open PySem PySem.Spec L2 RT RZ
end VL
set_option Elab.async false
set_option linter.all false
set_option maxRecDepth 100000
set_option maxHeartbeats 4000000
namespace VL
open PySem PySem.Spec L2 RT RZ PyProof.Rows
theorem nodup_sub_len {α : Type} [DecidableEq α] : ∀ {a b : List α}, a.Nodup → (∀ x ∈ a, x ∈ b) → a.length ≤ b.length
  | [], _, _, _ => Nat.zero_le _
  | x :: a, b, h, hs => by
    rw [List.nodup_cons] at h
    have hx := hs x List.mem_cons_self
    have ih := nodup_sub_len (a := a) (b := b.erase x) h.2 fun y hy => (List.mem_erase_of_ne (fun (e : y = x) => h.1 (by rw [← e]; exact hy))).mpr (hs y (List.mem_cons_of_mem _ hy))
    rw [List.length_erase_of_mem hx] at ih
    have := List.length_pos_of_mem hx
    rw [List.length_cons]; omega
def dstT : List (List Int) → List (List Int)
  | [] => []
  | x :: xs => if x ∈ xs then dstT xs else x :: dstT xs
end VL
set_option Elab.async false
set_option linter.all false
set_option maxRecDepth 100000
set_option maxHeartbeats 4000000
namespace VL
open PySem PySem.Spec L2 RT RZ PyProof.Rows
/-- each slot begins a run of each hash's way, soon enough -/
def FullM (m : Nat) : Prop := ∀ (h : Int) (j : Nat), j ≤ m → ∃ n, n ≤ m + 12 ∧ runI m (SetTable.bits h) n = j
theorem FullM.old {m : Nat} (hm : MaskOk m) : FullM m := fun h _ hj => run_meets hm h hj
/-- the round, written out -/
def orb (m : Nat) : Nat → Nat → List Nat
  | 0, _ => []
  | n + 1, i => i :: orb m n ((i * 5 + 1) % (m + 1))
theorem lcg_front (m i : Nat) : ∀ k, lcgI m ((i * 5 + 1) % (m + 1)) k = lcgI m i (k + 1)
  | 0 => rfl
  | k + 1 => by
    show (lcgI m ((i * 5 + 1) % (m + 1)) k * 5 + 1) % (m + 1) = (lcgI m i (k + 1) * 5 + 1) % (m + 1)
    rw [lcg_front m i k]
theorem orb_mem {m j : Nat} : ∀ {n i : Nat}, j ∈ orb m n i → ∃ b, b < n ∧ lcgI m i b = j
  | 0, _, h => absurd h List.not_mem_nil
  | n + 1, i, h => by
    rcases List.mem_cons.mp h with e | h
    · exact ⟨0, Nat.succ_pos _, e.symm⟩
    · obtain ⟨b, hb, e⟩ := orb_mem h
      exact ⟨b + 1, Nat.succ_lt_succ hb, by rw [← lcg_front]; exact e⟩
theorem lcgI_zero (m : Nat) : ∀ k, lcgI m 0 k = lcgN m k
  | 0 => rfl
  | k + 1 => by
    show (lcgI m 0 k * 5 + 1) % (m + 1) = (lcgN m k * 5 + 1) % (m + 1)
    rw [lcgI_zero m k]
/-- a round that meets all, and closes, makes a full mask -/
theorem FullM.of {m : Nat} (all : ((List.range (m + 1)).all fun j => (orb m (m + 1) 0).contains j) = true) (close : lcgN m (m + 1) = 0) : FullM m := by
  have met : ∀ j, j ≤ m → ∃ b, b ≤ m ∧ lcgN m b = j := fun j hj => by
    have h := List.all_eq_true.mp all j (List.mem_range.mpr (Nat.lt_succ_of_le hj))
    obtain ⟨b, hb, e⟩ := orb_mem (List.contains_iff_mem.mp h)
    exact ⟨b, Nat.le_of_lt_succ hb, by rw [← lcgI_zero]; exact e⟩
  have again : ∀ k, lcgN m (m + 1 + k) = lcgN m k := fun k => by
    induction k with
    | zero => exact close
    | succ k ih => exact congrArg (fun x => (x * 5 + 1) % (m + 1)) ih
  intro h j hj
  obtain ⟨a, ha, ea⟩ := met _ (runI_le m (SetTable.bits h) 12)
  obtain ⟨b, hb, eb⟩ := met j hj
  have tail := runI_tail (m := m) (bits_lt h)
  by_cases c : a ≤ b
  · refine ⟨12 + (b - a), by omega, ?_⟩
    rw [tail, ← ea, lcgN_add, Nat.add_sub_cancel' c, eb]
  · refine ⟨12 + (m + 1 + b - a), by omega, ?_⟩
    rw [tail, ← ea, lcgN_add, Nat.add_sub_cancel' (by omega), again, eb]
theorem full_511 : FullM 511 := FullM.of (by decide +kernel) (by decide +kernel)
theorem wayG_le (m : Nat) (h : Int) (k : Nat) : way m h k ≤ m := by
  have b := runEnd_bd (show SetTable.bits h % (m + 1) ≤ m from Nat.le_of_lt_succ (Nat.mod_lt _ (Nat.succ_pos _)))
  have q := nth_in k (runAt m (SetTable.bits h % (m + 1)) (SetTable.bits h)) (m := m) (show SetTable.bits h % (m + 1) + (SetTable.runEnd m (SetTable.bits h % (m + 1)) - SetTable.bits h % (m + 1)) ≤ m by omega)
  exact Nat.le_trans (Nat.le_add_right _ _) q
/-- a slot's step on a hash's way -/
theorem FullM.step {m : Nat} (F : FullM m) (h : Int) {j : Nat} (hj : j ≤ m) : ∃ n, n < SetTable.turns m ∧ way m h (off m (SetTable.bits h % (m + 1)) (SetTable.bits h) n) = j ∧ ∃ k, k ≤ 10 * n ∧ way m h k = j := by
  obtain ⟨n, hn, e⟩ := F h j hj
  obtain ⟨k, kn, ek⟩ := run_nth m (SetTable.bits h) n
  refine ⟨n, by unfold SetTable.turns; omega, ?_, k, kn, ?_⟩
  · show (nth m _ _).j = j
    rw [nth_off, itL_run]
    exact e
  · show (nth m _ k).j = j
    rw [ek]
    exact e
def insL {α : Type} (l : List α) (p : Nat) (x : α) : List α := l.take p ++ x :: l.drop p
theorem insL_mem {α : Type} {l : List α} {p : Nat} {x y : α} (h : x ∈ insL l p y) : x = y ∨ x ∈ l := by
  rcases List.mem_append.mp h with h | h
  · exact .inr (List.mem_of_mem_take h)
  · rcases List.mem_cons.mp h with h | h
    · exact .inl h
    · exact .inr (List.mem_of_mem_drop h)
theorem insL_up {α : Type} {l : List α} {p : Nat} {x y : α} (h : x ∈ l) : x ∈ insL l p y := by
  rw [← List.take_append_drop p l] at h
  rcases List.mem_append.mp h with h | h
  · exact List.mem_append_left _ h
  · exact List.mem_append_right _ (List.mem_cons_of_mem _ h)
theorem insL_perm {α : Type} (l : List α) (p : Nat) (x : α) : (insL l p x).Perm (x :: l) := by
  have h : (insL l p x).Perm (x :: (l.take p ++ l.drop p)) := List.perm_middle
  rwa [List.take_append_drop] at h
theorem insL_map {α β : Type} (f : α → β) (l : List α) (p : Nat) (x : α) : (insL l p x).map f = insL (l.map f) p (f x) := by
  simp only [insL, List.map_append, List.map_cons, List.map_take, List.map_drop]
theorem insL_zip {α β : Type} : ∀ (p : Nat) (a : List α) (b : List β) (x : α) (y : β), a.length = b.length → (insL a p x).zip (insL b p y) = insL (a.zip b) p (x, y)
  | 0, a, b, x, y, _ => rfl
  | p + 1, [], [], x, y, _ => rfl
  | p + 1, u :: a, v :: b, x, y, h => by
    have ih := insL_zip p a b x y (by simpa using h)
    show (u :: insL a p x).zip (v :: insL b p y) = (u, v) :: insL (a.zip b) p (x, y)
    rw [List.zip_cons_cons, ih]
structure TabG (t : SetTable) (hs : List Int) : Prop where
  ris : Ris t.place.toList
  clean : t.dummies = #[]
  len : t.place.size = hs.length
  full : FullM t.mask
  inn : ∀ x ∈ t.place.toList, x ≤ t.mask
  met : ∀ q ∈ hs.zip t.place.toList, ∃ k, way t.mask q.1 k = q.2 ∧ ∀ c, c < k → way t.mask q.1 c ∈ t.place.toList
theorem TabG.at {t : SetTable} {hs : List Int} (T : TabG t hs) {i j : Nat} {h : Int} (e1 : hs[i]? = some h) (e2 : t.place.toList[i]? = some j) : ∃ k, way t.mask h k = j ∧ ∀ c, c < k → way t.mask h c ∈ t.place.toList :=
  T.met (h, j) (List.mem_of_getElem? (List.getElem?_zip_eq_some.mpr ⟨e1, e2⟩))
/-- the first free slot on a way -/
theorem TabG.gap {t : SetTable} {hs : List Int} (T : TabG t hs) (room : hs.length ≤ t.mask) (h : Int) : ∃ K, K < 10 * SetTable.turns t.mask ∧ way t.mask h K ∉ t.place.toList ∧ ∀ c, c < K → way t.mask h c ∈ t.place.toList := by
  obtain ⟨j, hj, hn⟩ := st_missing t.place.toList (t.mask + 1) (by rw [Array.length_toList, T.len]; omega)
  obtain ⟨n, hn2, _, k, hk, e⟩ := T.full.step h (Nat.le_of_lt_succ hj)
  obtain ⟨K, a, b, c⟩ := st_least (p := fun k => way t.mask h k ∉ t.place.toList) k (by rw [e]; exact hn)
  exact ⟨K, by omega, b, fun q hq => Classical.byContradiction (c q hq)⟩
/-- what has a hash stands ahead of the free slot -/
theorem TabG.ahead {t : SetTable} {hs : List Int} (T : TabG t hs) {h : Int} {K i j : Nat} (hK : way t.mask h K ∉ t.place.toList) (e1 : hs[i]? = some h) (e2 : t.place.toList[i]? = some j) : ∃ k, k < K ∧ way t.mask h k = j := by
  obtain ⟨k, e, b⟩ := T.at e1 e2
  refine ⟨k, Classical.byContradiction fun z => ?_, e⟩
  by_cases c : k = K
  · subst c; exact hK (by rw [e]; exact List.mem_of_getElem? e2)
  · exact hK (b K (by omega))
theorem TabG.putG {t : SetTable} {hs : List Int} (T : TabG t hs) {h : Int} {K : Nat} (hK : way t.mask h K ∉ t.place.toList) (hb : ∀ c, c < K → way t.mask h c ∈ t.place.toList) :
    SetTable.below t.place (way t.mask h K) ≤ hs.length ∧ TabG (t.put (way t.mask h K)).1 (insL hs (SetTable.below t.place (way t.mask h K)) h) ∧ (t.put (way t.mask h K)).1.fill = hs.length + 1 := by
  have hj := wayG_le t.mask h K
  generalize ew : way t.mask h K = j at hK hj
  have c1 := (below_cut T.ris j).1
  have epl : (t.put j).1.place.toList = insL t.place.toList (SetTable.below t.place j) j := put_place t j
  have eln : t.place.toList.length = hs.length := by rw [Array.length_toList]; exact T.len
  have esz : (t.put j).1.place.size = hs.length + 1 := by
    rw [← Array.length_toList, epl, (insL_perm _ _ _).length_eq, List.length_cons, eln]
  have edm := put_dm T.clean j
  have ris' := ris_insert T.ris (j := j) fun e => hK (List.mem_of_getElem? (by rw [Array.getElem?_toList]; exact e))
  refine ⟨by rw [← T.len]; exact c1, ⟨ris', edm, by rw [esz, (insL_perm _ _ _).length_eq]; rfl, T.full, fun x hx => ?_, fun q hq => ?_⟩, ?_⟩
  · rw [epl] at hx
    rcases insL_mem hx with e | hx
    · rw [e]; exact hj
    · exact T.inn x hx
  · rw [epl, insL_zip _ _ _ _ _ eln.symm] at hq
    rw [epl]
    rcases insL_mem hq with e | hq
    · subst e
      exact ⟨K, ew, fun c hc => insL_up (hb c hc)⟩
    · obtain ⟨k, e, b⟩ := T.met q hq
      exact ⟨k, e, fun c hc => insL_up (b c hc)⟩
  · show (t.put j).1.place.size + (t.put j).1.dummies.size = _
    rw [esz, edm]; rfl
theorem FullM.found {m : Nat} (F : FullM m) {owner : Array (Option Nat)} (h : Int) {j : Nat} (hj : j ≤ m) (e : oAt owner j = none) :
    ∃ K, SetTable.layClean.free m owner (SetTable.turns m) (SetTable.bits h % (m + 1)) (SetTable.bits h) = some (way m h K) ∧ oAt owner (way m h K) = none ∧ ∀ c, c < K → oAt owner (way m h c) ≠ none := by
  obtain ⟨n, hn, ew, _⟩ := F.step h hj
  obtain ⟨K, a, b, c⟩ := st_least (p := fun k => oAt owner (way m h k) = none) _ (show oAt owner (way m h (off m (SetTable.bits h % (m + 1)) (SetTable.bits h) n)) = none by rw [ew]; exact e)
  refine ⟨K, free_spec m owner _ n _ _ K hn a (fun k hk => ?_) ?_, b, c⟩
  · have := c k hk
    exact Option.isNone_eq_false_iff.mpr (Option.isSome_iff_ne_none.mpr this)
  · have b' : oAt owner (nth m (runAt m (SetTable.bits h % (m + 1)) (SetTable.bits h)) K).j = none := b
    rw [b']; rfl
theorem ownG_step {m : Nat} (F : FullM m) {done : List Int} {owner : Array (Option Nat)} (W : Own m done owner) (room : done.length ≤ m) (h : Int) :
    ∃ slot, SetTable.layClean.free m owner (SetTable.turns m) (SetTable.bits h % (m + 1)) (SetTable.bits h) = some slot ∧
      Own m (done ++ [h]) (owner.setIfInBounds slot (some done.length)) := by
  obtain ⟨ps, hl, hp⟩ := W.ps
  obtain ⟨q, hq, nq⟩ := st_missing ps (m + 1) (by omega)
  have hq := Nat.le_of_lt_succ hq
  obtain ⟨K, e, free, before⟩ := F.found (owner := owner) h hq (Classical.byContradiction fun z => nq (hp q hq z))
  have hj := wayG_le m h K
  generalize ew : way m h K = j at e free hj
  have here := oAt_set_self (some done.length) (show j < owner.size by rw [W.sz]; omega)
  have there : ∀ {i}, i ≠ j → oAt (owner.setIfInBounds j (some done.length)) i = oAt owner i := fun hi => oAt_set_ne _ hi
  have still : ∀ {i}, oAt owner i ≠ none → oAt (owner.setIfInBounds j (some done.length)) i ≠ none := fun {i} hi => by
    by_cases c : i = j
    · subst c; exact absurd free hi
    · rw [there c]; exact hi
  refine ⟨j, e, ⟨?_, fun i k hi ei => ?_, fun k hk => ?_, j :: ps, ?_, fun i hi ei => ?_⟩⟩
  · rw [Array.size_setIfInBounds]; exact W.sz
  · by_cases c : i = j
    · subst c
      rw [here] at ei
      cases ei
      exact ⟨h, K, by simp, ew, fun c hc => still (before c hc)⟩
    · rw [there c] at ei
      obtain ⟨h', K', a1, a2, a3⟩ := W.at_ i k hi ei
      exact ⟨h', K', by rw [List.getElem?_append_left (List.getElem?_eq_some_iff.mp a1).1]; exact a1, a2, fun c hc => still (a3 c hc)⟩
  · rcases Nat.lt_or_ge k done.length with c | c
    · obtain ⟨i, hi, ei⟩ := W.all k c
      exact ⟨i, hi, by rw [there fun z => by subst z; rw [free] at ei; cases ei]; exact ei⟩
    · have : k = done.length := by simp at hk; omega
      subst this
      exact ⟨j, hj, here⟩
  · simp [hl]
  · by_cases c : i = j
    · subst c; exact List.mem_cons_self
    · rw [there c] at ei
      exact List.mem_cons_of_mem _ (hp i hi ei)
theorem foldG {m : Nat} (F : FullM m) : ∀ (rest done : List Int) (owner : Array (Option Nat)), Own m done owner → done.length + rest.length ≤ m →
    ∃ o2, rest.foldl (stepF m) (some (owner, done.length)) = some (o2, done.length + rest.length) ∧ Own m (done ++ rest) o2
  | [], done, owner, W, _ => ⟨owner, rfl, by rw [List.append_nil]; exact W⟩
  | h :: rest, done, owner, W, room => by
    have room' : done.length + (rest.length + 1) ≤ m := room
    obtain ⟨j, e, W1⟩ := ownG_step F W (by omega) h
    have el : (done ++ [h]).length = done.length + 1 := by simp
    obtain ⟨o2, f, W2⟩ := foldG F rest _ _ W1 (by rw [el]; omega)
    rw [el] at f
    rw [List.append_assoc] at W2
    refine ⟨o2, ?_, W2⟩
    rw [List.foldl_cons, stepF_some e, f, List.length_cons]
    congr 2; omega
theorem relaidG (t : SetTable) {hs : Array Int} {wanted M : Nat} (F : FullM M) (room : hs.size ≤ M) (hw : SetTable.sizeAbove wanted - 1 = M) :
    ∃ t' order, t.relaid hs wanted = some (t', order) ∧ order.toList.Perm (List.range hs.size) ∧ TabG t' (order.toList.map fun i => hs.getD i 0) ∧ t'.mask = M ∧ t'.led = t.led ∧ t'.plain = t.plain := by
  obtain ⟨owner, f, W⟩ := foldG F hs.toList [] _ (Own.init M) (by rw [Array.length_toList]; simpa using room)
  have e : SetTable.layClean M hs = some owner := by
    rw [layClean_eq]
    have f' : hs.toList.foldl (stepF M) (some (Array.replicate (M + 1) none, 0)) = some (owner, 0 + hs.toList.length) := f
    rw [f']; rfl
  rw [List.nil_append] at W
  have ris := ris_live (fun j => owner.getD j none) (List.range (M + 1)) (by unfold Ris; exact List.pairwise_lt_range)
  obtain ⟨r1, r2⟩ : Ris ((liveOf M owner).map (·.1)) ∧ ∀ x ∈ (liveOf M owner).map (·.1), x ∈ List.range (M + 1) := ris
  have mem : ∀ {j k : Nat}, (j, k) ∈ liveOf M owner ↔ j ≤ M ∧ oAt owner j = some k := mem_live W.sz
  have hasAll : ∀ k, k < hs.size → k ∈ (liveOf M owner).map (·.2) := fun k hk => by
    obtain ⟨j, b1, b2⟩ := W.all k (by rw [Array.length_toList]; exact hk)
    exact List.mem_map.mpr ⟨(j, k), mem.mpr ⟨b1, b2⟩, rfl⟩
  have many : (liveOf M owner).length = hs.size := by
    obtain ⟨ps, p1, p2⟩ := W.ps
    have nd : ((liveOf M owner).map (·.1)).Nodup := (show List.Pairwise (· < ·) ((liveOf M owner).map (·.1)) from r1).imp fun h => Nat.ne_of_lt h
    have a := nat_nodup_len _ ps nd fun x hx => by
      obtain ⟨⟨y, k⟩, hq, rfl⟩ := List.mem_map.mp hx
      obtain ⟨b1, b2⟩ := mem.mp hq
      refine p2 y b1 fun z => ?_
      rw [b2] at z; cases z
    have b := nat_nodup_len (List.range hs.size) ((liveOf M owner).map (·.2)) List.nodup_range fun k hk => hasAll k (List.mem_range.mp hk)
    rw [List.length_map, p1] at a
    rw [List.length_range, List.length_map] at b
    exact Nat.le_antisymm a b
  refine ⟨tabOf t M owner, ((liveOf M owner).map (·.2)).toArray, by rw [relaid_eq, hw, e]; rfl, ?_, ⟨r1, rfl, ?_, F, fun x hx => Nat.le_of_lt_succ (List.mem_range.mp (r2 x hx)), fun q hq => ?_⟩, rfl, rfl, rfl⟩
  · exact perm_range hs.size ((liveOf M owner).map (·.2)) (by rw [List.length_map, many]) hasAll
  · simp [tabOf]
  · have hq : q ∈ (((liveOf M owner).map (·.2)).map fun i => hs.getD i 0).zip ((liveOf M owner).map (·.1)) := hq
    rw [List.map_map, List.zip_map'] at hq
    obtain ⟨⟨j, k⟩, hm, rfl⟩ := List.mem_map.mp hq
    obtain ⟨b1, b2⟩ := mem.mp hm
    obtain ⟨h0, K, a1, a2, a3⟩ := W.at_ j k b1 b2
    have its : hs.getD k 0 = h0 := by
      rw [Array.getD_eq_getD_getElem?, ← Array.getElem?_toList, a1]; rfl
    refine ⟨K, by show way M (hs.getD k 0) K = j; rw [its]; exact a2, fun c hc => ?_⟩
    show way M (hs.getD k 0) c ∈ (liveOf M owner).map (·.1)
    rw [its]
    cases z : oAt owner (way M h0 c) with
    | none => exact absurd z (a3 c hc)
    | some k2 => exact List.mem_map.mpr ⟨(_, k2), mem.mpr ⟨wayG_le M h0 c, z⟩, rfl⟩
end VL
set_option Elab.async false
set_option linter.all false
set_option maxRecDepth 100000
set_option maxHeartbeats 4000000
namespace VL
open PySem PySem.Spec L2 RT RZ PyProof.Rows
/-- the tuple at a is this key -/
def NKey (h : Heap) (k : NestedKey) (a : Addr) : Prop := NestedIs h k (.ref a) ∧ k.depth ≤ 8
theorem NKey.kept {h h' : Heap} {k : NestedKey} {a : Addr} (x : NKey h k a) (e : ∀ b o, h.get? b = some o → h'.get? b = some o) : NKey h' k a :=
  ⟨NestedIs.at (fun b o vs n hb _ => e b o hb) k _ x.1, x.2⟩
/-- a write to a set leaves the keys -/
theorem NKey.beside {h h' : Heap} {k : NestedKey} {a d : Addr} {o : Obj} {es : Array (Int × Value)} {ep : Nat} {t : SetTable} (x : NKey h k a) (ho : h.get? d = some o) (hd : o.data = .set es ep t) (e : Heap.SameBut d h h') : NKey h' k a := by
  refine ⟨NestedIs.at (fun b u vs n hb hu => ?_) k _ x.1, x.2⟩
  have ne : b ≠ d := by
    rintro rfl
    cases ho.symm.trans hb
    rw [hd] at hu
    cases hu
  exact (e.2 b ne).trans hb
section
variable {P : Program} {w : World}
/-- a walk over values that finds nothing -/
theorem walk_none {ρ : Type} {A : Around} {E : Value → Shared → Prop} {s : Shared} {l : List Value} {R : Value → Prop} {body : Value → Option ρ × Unit → Sem (ForInStep (Option ρ × Unit))} {Q : Option ρ × Unit → Shared → Prop}
    (all : ∀ v ∈ l, R v) (turn : ∀ v, R v → ∀ Q' : ForInStep (Option ρ × Unit) → Shared → Prop, Q' (.yield (none, ())) s → wpAny (model P w) A (body v (none, ())) Q' E s) (fin : Q (none, ()) s) :
    wpAny (model P w) A (forIn l (none, ()) body) Q E s := by
  induction l with
  | nil => rw [List.forIn_nil]; exact wpAny_pure fin
  | cons v l ih =>
    rw [List.forIn_cons]
    exact wpAny_bind (turn v (all v List.mem_cons_self) _ (ih fun u hu => all u (List.mem_cons_of_mem _ hu)))
def NoCls (P : Program) (w : World) (n : Nat) (s : Shared) (v : Value) : Prop := ∀ (A : Around) (E : Value → Shared → Prop) (Q : Bool → Shared → Prop), Q false s → wpAny (model P w) A (ofAClassStatement n v) Q E s
theorem NoCls.atom {n : Nat} {s : Shared} {v : Value} (h : ofAClassStatement n v = pure false) : NoCls P w n s v := fun A E Q q => by
  rw [h]; exact wpAny_pure q
theorem NoCls.tuple {n : Nat} {s : Shared} {a : Addr} {o : Obj} {vs : Array Value} {m : Nat} (ho : s.heap.get? a = some o) (hc : o.cls = .type "tuple") (hd : o.data = .seq vs m) (all : ∀ v ∈ vs.toList, NoCls P w n s v) : NoCls P w (n + 1) s (.ref a) := fun A E Q q => by
  unfold ofAClassStatement
  refine wpAny_bind (wpAny_typeOf ⟨o, ho, hc⟩ ?_)
  dsimp only
  rw [if_pos (show (("tuple" : String) == "tuple") = true by decide)]
  try refine wpAny_bind (wpAny_pure ?_)
  try simp only [Bool.not_true, Bool.false_eq_true, if_false]
  show wpAny _ _ (seqItems? (.ref a) >>= _) _ _ s
  refine wpAny_bind (wpAny_seqItems ho hd ?_)
  dsimp only
  rw [← Array.forIn_toList]
  refine wpAny_bind (walk_none all (fun v hv Q' q' => wpAny_bind (hv _ _ _ ?_)) ?_)
  · simp only [Bool.false_eq_true, if_false]
    exact wpAny_pure q'
  · exact wpAny_pure q
mutual
theorem noCls_key : ∀ (k : NestedKey) (v : Value) (n : Nat) (s : Shared), NestedIs s.heap k v → k.depth ≤ n → NoCls P w n s v
  | .none, _, n, s, x, _ => by cases x; cases n <;> exact .atom rfl
  | .num i, _, n, s, x, _ => by cases x <;> cases n <;> exact .atom rfl
  | .text y, _, n, s, x, _ => by cases x; cases n <;> exact .atom rfl
  | .tup ks, _, n, s, x, hn => by
    cases x with
    | tup hg hc hd hk =>
      simp only [NestedKey.depth] at hn
      obtain ⟨n, rfl⟩ : ∃ q, n = q + 1 := ⟨n - 1, by omega⟩
      exact .tuple hg hc hd (noCls_keys ks _ n s hk (by omega))
theorem noCls_keys : ∀ (ks : List NestedKey) (vs : List Value) (n : Nat) (s : Shared), NestedAll s.heap ks vs → NestedKey.depthAll ks ≤ n → ∀ v ∈ vs, NoCls P w n s v
  | [], _, n, s, x, _ => by cases x; exact fun _ h => absurd h List.not_mem_nil
  | k :: ks, _, n, s, x, hn => by
    cases x with
    | cons x1 x2 =>
      simp only [NestedKey.depthAll] at hn
      intro v hv
      rcases List.mem_cons.mp hv with rfl | hv
      · exact noCls_key k _ n s x1 (by omega)
      · exact noCls_keys ks _ n s x2 (by omega) v hv
end
/-- whether all hash by value is answered, one way or the other -/
def ByVal (P : Program) (w : World) (n : Nat) (s : Shared) (v : Value) : Prop := ∀ (A : Around) (E : Value → Shared → Prop) (Q : Bool → Shared → Prop), (∀ b, Q b s) → wpAny (model P w) A (hashByValue n v) Q E s
theorem ByVal.atom {n : Nat} {s : Shared} {v : Value} {b : Bool} (h : hashByValue n v = pure b) : ByVal P w n s v := fun A E Q q => by
  rw [h]; exact wpAny_pure (q b)
theorem walk_some {ρ : Type} {A : Around} {E : Value → Shared → Prop} {s : Shared} {l : List Value} {R : Value → Prop} {x : ρ} {body : Value → Option ρ × Unit → Sem (ForInStep (Option ρ × Unit))} {Q : Option ρ × Unit → Shared → Prop}
    (all : ∀ v ∈ l, R v) (turn : ∀ v, R v → ∀ Q' : ForInStep (Option ρ × Unit) → Shared → Prop, Q' (.yield (none, ())) s → Q' (.done (some x, ())) s → wpAny (model P w) A (body v (none, ())) Q' E s) (fin : Q (none, ()) s) (fin2 : Q (some x, ()) s) :
    wpAny (model P w) A (forIn l (none, ()) body) Q E s := by
  induction l with
  | nil => rw [List.forIn_nil]; exact wpAny_pure fin
  | cons v l ih =>
    rw [List.forIn_cons]
    exact wpAny_bind (turn v (all v List.mem_cons_self) _ (ih fun u hu => all u (List.mem_cons_of_mem _ hu)) (wpAny_pure fin2))
theorem ByVal.tuple {n : Nat} {s : Shared} {a : Addr} {o : Obj} {vs : Array Value} {m : Nat} (ho : s.heap.get? a = some o) (hc : o.cls = .type "tuple") (hd : o.data = .seq vs m) (all : ∀ v ∈ vs.toList, ByVal P w n s v) : ByVal P w (n + 1) s (.ref a) := fun A E Q q => by
  unfold hashByValue
  refine wpAny_bind (wpAny_specialOf ⟨o, ho, hc⟩ F.slot_tuple_hash.lookup ?_)
  show wpAny _ _ (seqItems? (.ref a) >>= _) _ _ s
  refine wpAny_bind (wpAny_seqItems ho hd ?_)
  show wpAny _ _ (forIn vs _ _ >>= _) _ _ s
  rw [← Array.forIn_toList]
  refine wpAny_bind (walk_some (x := false) all (fun v hv Q' q1 q2 => wpAny_bind (hv _ _ _ fun b => ?_)) ?_ ?_)
  · cases b
    · exact wpAny_pure q2
    · exact wpAny_pure q1
  · exact wpAny_pure (q _)
  · exact wpAny_pure (q _)
mutual
theorem byVal_key : ∀ (k : NestedKey) (v : Value) (n : Nat) (s : Shared), NestedIs s.heap k v → k.depth ≤ n → ByVal P w n s v
  | .none, _, n, s, x, _ => by cases x; cases n <;> exact .atom rfl
  | .num i, _, n, s, x, _ => by cases x <;> cases n <;> exact .atom rfl
  | .text y, _, n, s, x, _ => by cases x; cases n <;> exact .atom rfl
  | .tup ks, _, n, s, x, hn => by
    cases x with
    | tup hg hc hd hk =>
      simp only [NestedKey.depth] at hn
      obtain ⟨n, rfl⟩ : ∃ q, n = q + 1 := ⟨n - 1, by omega⟩
      exact .tuple hg hc hd (byVal_keys ks _ n s hk (by omega))
theorem byVal_keys : ∀ (ks : List NestedKey) (vs : List Value) (n : Nat) (s : Shared), NestedAll s.heap ks vs → NestedKey.depthAll ks ≤ n → ∀ v ∈ vs, ByVal P w n s v
  | [], _, n, s, x, _ => by cases x; exact fun _ h => absurd h List.not_mem_nil
  | k :: ks, _, n, s, x, hn => by
    cases x with
    | cons x1 x2 =>
      simp only [NestedKey.depthAll] at hn
      intro v hv
      rcases List.mem_cons.mp hv with rfl | hv
      · exact byVal_key k _ n s x1 (by omega)
      · exact byVal_keys ks _ n s x2 (by omega) v hv
end
/-- a search among keys shows nothing -/
theorem seen_key {A : Around} {E : Value → Shared → Prop} {s : Shared} {k : NestedKey} {b : Addr} {Q : Bool → Shared → Prop} (hk : NKey s.heap k b) {ys : List Value} (hy : ∀ y ∈ ys, ∃ q c, y = Value.ref c ∧ NKey s.heap q c) (h : Q false s) :
    wpAny (model P w) A (searchCouldBeSeen (.ref b) ys) Q E s := by
  unfold searchCouldBeSeen
  refine wpAny_bind ?_
  refine walk_none (R := fun y => ∃ q c, y = Value.ref c ∧ NKey s.heap q c) hy ?_ (wpAny_pure h)
  rintro _ ⟨q, c, rfl, hc⟩ Q' q'
  dsimp only
  by_cases same : (b == c || (carriedByValue (.ref b) && carriedByValue (.ref c))) = true
  · exact wp_if_pos same (wpAny_pure q')
  · refine wp_if_neg same (wpAny_bind (quiet_key k _ 8 s hk.1 hk.2 _ _ _ ?_))
    simp only [Bool.not_true, Bool.false_eq_true, if_false]
    refine wpAny_bind (quiet_key q _ 8 s hc.1 hc.2 _ _ _ ?_)
    simp only [Bool.not_true, Bool.false_eq_true, if_false]
    refine wpAny_bind (noCls_key k _ 8 s hk.1 hk.2 _ _ _ ?_)
    simp only [Bool.false_eq_true, if_false]
    refine wpAny_bind (noCls_key q _ 8 s hc.1 hc.2 _ _ _ ?_)
    simp only [Bool.false_eq_true, if_false]
    exact wpAny_pure q'
end
end VL
set_option Elab.async false
set_option linter.all false
set_option maxRecDepth 100000
set_option maxHeartbeats 4000000
namespace VL
open PySem PySem.Spec L2 RT RZ PyProof.Rows
abbrev KyL := List (Addr × NestedKey)
def khs (w : World) (L : KyL) : List Int := L.map fun p => p.2.hash w
def kents (w : World) (L : KyL) : List (Int × Value) := L.map fun p => (p.2.hash w, Value.ref p.1)
/-- the masks of sets of up to 306 -/
def Grows (m : Nat) : Prop := m = 7 ∨ m = 31 ∨ m = 127 ∨ m = 511
theorem Grows.full {m : Nat} (g : Grows m) : FullM m := by
  rcases g with e | e | e | e
  · exact .old (.inl e)
  · exact .old (.inr (.inl e))
  · exact .old (.inr (.inr e))
  · rw [e]; exact full_511
structure SetG (w : World) (h : Heap) (a : Addr) (L : KyL) (es : Array (Int × Value)) (ep : Nat) (t : SetTable) : Prop where
  obj : ∃ o, h.get? a = some o ∧ o.ExactSet ∧ o.data = .set es ep t
  ents : es.toList = kents w L
  tab : TabG t (khs w L)
  unl : (L.map (·.2)).Nodup
  keys : ∀ p ∈ L, NKey h p.2 p.1
  seen : w.params.followText "set-order" = true ∨ t.led = true
  mask : Grows t.mask
  room : L.length * 5 < t.mask * 3
section
variable {P : Program} {w : World} {A : Around} {E : Value → Shared → Prop} {s : Shared} {a : Addr} {L : KyL} {es : Array (Int × Value)} {ep : Nat} {t : SetTable}
theorem SetG.size (R : SetG w s.heap a L es ep t) : es.size = L.length := by
  have := congrArg List.length R.ents
  simpa [kents] using this
theorem SetG.fits (R : SetG w s.heap a L es ep t) : t.fits es.size = true := by
  have h1 : t.place.size = L.length := by simpa [khs] using R.tab.len
  have h2 := R.size
  have h3 := R.room
  have h4 : t.fill = t.place.size + 0 := by unfold SetTable.fill; rw [R.tab.clean]; rfl
  unfold SetTable.fits
  rw [h4, h1, h2, beq_self_eq_true, Bool.true_and, decide_eq_true_eq]
  omega
theorem SetG.odd (R : SetG w s.heap a L es ep t) : ¬ t.gaveWay = true := by
  unfold SetTable.gaveWay
  rcases R.mask with e | e | e | e <;> rw [e] <;> decide
theorem SetG.nth (R : SetG w s.heap a L es ep t) {i : Nat} {p : Addr × NestedKey} (h : L[i]? = some p) : es[i]? = some (p.2.hash w, Value.ref p.1) := by
  rw [← Array.getElem?_toList, R.ents, kents, List.getElem?_map, h]; rfl
/-- the state of a search behind c steps -/
def stAt (m : Nat) (h : Int) (c : Nat) : SetTable.Probe := L2.nth m (runAt m (SetTable.bits h % (m + 1)) (SetTable.bits h)) c
theorem stAt_plus (m : Nat) (h : Int) (c q : Nat) : L2.nth m (stAt m h c) q = stAt m h (c + q) := (nth_add m c _ q).symm
theorem stAt_dummy (m : Nat) (h : Int) : ∀ c, (stAt m h c).dummy = none
  | 0 => rfl
  | c + 1 => by
    have e : stAt m h (c + 1) = adv m (stAt m h c) := nth_succ m _ c
    rw [e]
    unfold adv
    split <;> exact stAt_dummy m h c
/-- the search, from its c-th step on -/
theorem SetG.seek (R : SetG w s.heap a L es ep t) {x : Addr} {k : NestedKey} (hx : NKey s.heap k x) (hu : A.units + 8 < cLine) {K : Nat} (low : K < 10 * SetTable.turns t.mask)
    (free : way t.mask (k.hash w) K ∉ t.place.toList) (taken : ∀ c, c < K → way t.mask (k.hash w) c ∈ t.place.toList) {Q : SetFound → Shared → Prop}
    (yes : k ∈ L.map (·.2) → Q (.there none) s) (no : k ∉ L.map (·.2) → Q (.free (way t.mask (k.hash w) K) false) s) :
    ∀ (f c : Nat) (from_ : Option SetTable.Probe), from_.getD (t.probeStart (k.hash w)) = stAt t.mask (k.hash w) c → c ≤ K → K - c < f →
      (∀ (i : Nat) p, L[i]? = some p → p.2 = k → ∃ b, c ≤ b ∧ b < K ∧ t.place.toList[i]? = some (way t.mask (k.hash w) b)) →
      wpAny (model P w) A (setSearchFrom a (.ref x) (k.hash w) true f from_) Q E s
  | 0, _, _, _, _, hf, _ => absurd hf (Nat.not_lt_zero _)
  | f + 1, c, from_, est, hc, hf, later => by
    obtain ⟨o, ho, hex, hd⟩ := R.obj
    rw [setSearchFrom_succ]
    refine wpAny_bind (wpAny_setState_of ho hd R.fits ?_)
    dsimp only
    refine wp_if_neg R.odd ?_
    try refine wpAny_bind (wpAny_pure ?_)
    have posOf : ∀ q, (L2.nth t.mask (stAt t.mask (k.hash w) c) q).j = way t.mask (k.hash w) (c + q) := fun q => congrArg SetTable.Probe.j (stAt_plus _ _ _ _)
    have hashOf : ∀ {i : Nat} {p : Addr × NestedKey}, L[i]? = some p → (fun i : Nat => (es[i]?.map (·.1)).getD 0) i = p.2.hash w := fun {i p} hp => by
      show (es[i]?.map (·.1)).getD 0 = _
      rw [R.nth hp]; rfl
    rcases go_spec t R.tab.ris R.tab.clean (fun i => (es[i]?.map (·.1)).getD 0) (k.hash w) (10 * SetTable.turns t.mask) (K - c) (stAt t.mask (k.hash w) c) (stAt_dummy _ _ _) (by omega)
      (fun q hq => by rw [posOf]; exact taken _ (by omega)) (by rw [posOf, Nat.add_sub_cancel' hc]; exact free) with ⟨q, i, hq, hi, hh, first, pr⟩ | ⟨first, pr⟩
    · -- one of the same hash
      have pr' : t.probe (fun i => (es[i]?.map (·.1)).getD 0) (k.hash w) (from_.getD (t.probeStart (k.hash w))) = some (.candidate (way t.mask (k.hash w) (c + q)) i (stAt t.mask (k.hash w) (c + (q + 1)))) := by
        rw [est, ← posOf, ← stAt_plus]; exact pr
      rw [pr']
      dsimp only
      rw [posOf] at hi
      have il : i < L.length := by
        have h1 := (List.getElem?_eq_some_iff.mp hi).1
        have h2 : t.place.size = L.length := by simpa [khs] using R.tab.len
        rwa [Array.length_toList, h2] at h1
      obtain ⟨p, hp⟩ : ∃ p, L[i]? = some p := ⟨_, List.getElem?_eq_getElem il⟩
      have pin := List.mem_of_getElem? hp
      have live : t.slot (way t.mask (k.hash w) (c + q)) = .live i := slot_live R.tab.ris hi
      have go : wpAny (model P w) A (searchRest a (.ref x) (k.hash w) true f es t (way t.mask (k.hash w) (c + q)) i (stAt t.mask (k.hash w) (c + (q + 1)))) Q E s := by
        unfold searchRest
        rw [R.nth hp]
        dsimp only
        refine wpAny_bind (wpAny_holding ((nestedKind P w).eqBool (x := p.2) (y := k) hu (R.keys p pin) hx ?_))
        refine wpAny_bind (wpAny_setState_of ho hd R.fits ?_)
        dsimp only
        by_cases same : p.2 = k
        · refine wp_if_pos (by simp [same]) (wpAny_pure (yes (List.mem_map.mpr ⟨p, pin, same⟩)))
        · refine wp_if_neg (by simp [same]) ?_
          try refine wpAny_bind (wpAny_pure ?_)
          rw [sameMem]
          dsimp only
          simp only [if_true, live, R.nth hp]
          refine wpAny_bind (wpAny_isSame_ref_self (wpAny_bind (wpAny_pure ?_)))
          simp only [if_true]
          refine wp_if_neg (by simp [same]) ?_
          refine R.seek hx hu low free taken yes no f (c + (q + 1)) _ rfl (by omega) (by omega) fun i0 p0 h0 e0 => ?_
          obtain ⟨b, b1, b2, b3⟩ := later i0 p0 h0 e0
          refine ⟨b, Classical.byContradiction fun z => ?_, b2, b3⟩
          by_cases eb : b = c + q
          · subst eb
            have l0 := slot_live R.tab.ris b3
            rw [live] at l0
            cases l0
            rw [hp] at h0
            cases h0
            exact same e0
          · exact first (b - c) i0 (by omega) (by rw [posOf, Nat.add_sub_cancel' b1]; exact b3) ((hashOf h0).trans (by rw [e0]))
      by_cases led : t.led = true
      · refine wp_if_neg (by simp [led]) ?_
        try refine wpAny_bind (wpAny_pure ?_)
        exact go
      · refine wp_if_pos (by simp [led]) ?_
        refine wpAny_bind (seen_key hx (fun y hy => ?_) ?_)
        · obtain ⟨e, he, rfl⟩ := List.mem_map.mp hy
          have he : e ∈ es.toList := by
            have : e ∈ es ∧ e.1 = k.hash w := by simpa using he
            simpa using this.1
          rw [R.ents] at he
          obtain ⟨p2, m2, rfl⟩ := List.mem_map.mp he
          exact ⟨p2.2, p2.1, rfl, R.keys p2 m2⟩
        · refine wp_if_neg (by decide) ?_
          try refine wpAny_bind (wpAny_pure ?_)
          exact go
    · -- the free slot
      have pr' : t.probe (fun i => (es[i]?.map (·.1)).getD 0) (k.hash w) (from_.getD (t.probeStart (k.hash w))) = some (.empty (way t.mask (k.hash w) K) none) := by
        have e2 : way t.mask (k.hash w) K = (L2.nth t.mask (stAt t.mask (k.hash w) c) (K - c)).j := by rw [posOf, Nat.add_sub_cancel' hc]
        rw [est, e2]; exact pr
      rw [pr']
      dsimp only
      refine wpAny_pure (no fun m => ?_)
      obtain ⟨p0, m0, e0⟩ := List.mem_map.mp m
      obtain ⟨i0, h0⟩ := List.getElem?_of_mem m0
      obtain ⟨b, b1, b2, b3⟩ := later i0 p0 h0 e0
      exact first (b - c) i0 (by omega) (by rw [posOf, Nat.add_sub_cancel' b1]; exact b3) ((hashOf h0).trans (by rw [e0]))
theorem SetG.search (R : SetG w s.heap a L es ep t) {x : Addr} {k : NestedKey} (hx : NKey s.heap k x) (hu : A.units + 8 < cLine) {Q : SetFound → Shared → Prop} (yes : k ∈ L.map (·.2) → Q (.there none) s)
    (no : ∀ K, k ∉ L.map (·.2) → way t.mask (k.hash w) K ∉ t.place.toList → (∀ c, c < K → way t.mask (k.hash w) c ∈ t.place.toList) → Q (.free (way t.mask (k.hash w) K) false) s) :
    wpAny (model P w) A (setSearch a (.ref x) (k.hash w) true) Q E s := by
  have room := R.room
  obtain ⟨K, low, free, taken⟩ := R.tab.gap (by rw [khs, List.length_map]; omega) (k.hash w)
  have small : K < 100000 := by
    unfold SetTable.turns at low
    rcases R.mask with e | e | e | e <;> omega
  unfold setSearch
  refine R.seek hx hu low free taken yes (fun n => no K n free taken) 100000 0 none rfl (Nat.zero_le _) (by omega) fun i p hp e => ?_
  have h1 : (khs w L)[i]? = some (k.hash w) := by rw [khs, List.getElem?_map, hp, ← e]; rfl
  have il : i < t.place.toList.length := by
    have := (List.getElem?_eq_some_iff.mp h1).1
    rw [Array.length_toList, R.tab.len]; exact this
  have hj := List.getElem?_eq_getElem il
  obtain ⟨b, b1, b2⟩ := R.tab.ahead free h1 hj
  exact ⟨b, Nat.zero_le _, b1, by rw [hj, b2]⟩
end
end VL
set_option Elab.async false
set_option linter.all false
set_option maxRecDepth 100000
set_option maxHeartbeats 4000000
namespace VL
open PySem PySem.Spec L2 RT RZ PyProof.Rows
section
variable {P : Program} {w : World} {A : Around} {E : Value → Shared → Prop} {s : Shared} {a : Addr} {L : KyL} {es : Array (Int × Value)} {ep : Nat} {t : SetTable}
theorem picked {α β : Type} {L : List α} (g : α → β) (d : β) : ∀ l : List Nat, (∀ i ∈ l, i < L.length) → (l.filterMap fun i => L[i]?).map g = l.map fun i => (L.map g).getD i d
  | [], _ => rfl
  | i :: l, h => by
    have hi := h i List.mem_cons_self
    have e : L[i]? = some L[i] := List.getElem?_eq_getElem hi
    rw [List.filterMap_cons_some e, List.map_cons, List.map_cons, picked g d l fun j hj => h j (List.mem_cons_of_mem _ hj), List.getD_eq_getElem?_getD, List.getElem?_map, e]
    rfl
theorem picked_all {α : Type} (L : List α) : (List.range L.length).filterMap (fun i => L[i]?) = L := by
  have key : ∀ n, n ≤ L.length → (List.range n).filterMap (fun i => L[i]?) = L.take n := fun n => by
    induction n with
    | zero => intro _; rfl
    | succ n ih =>
      intro hn
      rw [List.range_succ, List.filterMap_append, ih (by omega), List.take_add_one]
      congr 1
  rw [key _ (Nat.le_refl _), List.take_length]
theorem relayG {o : Obj} (ho : s.heap.get? a = some o) (hex : o.ExactSet) (hd : o.data = .set es ep t) (ents : es.toList = kents w L) (tab : TabG t (khs w L)) (fl : L.length ≤ t.mask) (unl : (L.map (·.2)).Nodup) (keys : ∀ p ∈ L, NKey s.heap p.2 p.1)
    (seen : w.params.followText "set-order" = true ∨ t.led = true) {wanted M : Nat} (hw : SetTable.sizeAbove wanted - 1 = M) (g : Grows M) (le : SetTable.sizeAbove wanted ≤ 512) (room : L.length * 5 < M * 3) {Q : Unit → Shared → Prop}
    (hQ : ∀ h' L' es' ep' t', Heap.SameBut a s.heap h' → SetG w h' a L' es' ep' t' → L'.Perm L → Q () { s with heap := h' }) : wpAny (model P w) A (setRelay a wanted) Q E s := by
  have esz : es.size = L.length := by simpa [kents] using congrArg List.length ents
  have psz : t.place.size = L.length := by simpa [khs] using tab.len
  have fits : t.fits es.size = true := by
    have h4 : t.fill = t.place.size + 0 := by unfold SetTable.fill; rw [tab.clean]; rfl
    unfold SetTable.fits
    rw [h4, psz, esz, beq_self_eq_true, Bool.true_and, decide_eq_true_eq]
    omega
  obtain ⟨t', order, er, pm, T, em, el, -⟩ := relaidG t (hs := es.map (·.1)) (wanted := wanted) g.full (by rw [Array.size_map, esz]; omega) hw
  rw [Array.size_map, esz] at pm
  have inr : ∀ i ∈ order.toList, i < L.length := fun i hi => List.mem_range.mp (pm.mem_iff.mp hi)
  obtain ⟨L2, e2⟩ : ∃ L2, order.toList.filterMap (fun i => L[i]?) = L2 := ⟨_, rfl⟩
  have pm2 : L2.Perm L := by
    have h := pm.filterMap (fun i => L[i]?)
    rwa [picked_all, e2] at h
  have esn : (order.filterMap (es[·]?)).toList = kents w L2 := by
    rw [Array.toList_filterMap, ← e2, kents, List.map_filterMap]
    congr 1
    funext i
    rw [← Array.getElem?_toList, ents, kents, List.getElem?_map]
  have ehs : order.toList.map (fun i => (es.map (·.1)).getD i 0) = khs w L2 := by
    rw [khs, ← e2, picked (fun p => p.2.hash w) 0 _ inr]
    refine List.map_congr_left fun i _ => ?_
    rw [Array.getD_eq_getD_getElem?, ← Array.getElem?_toList, Array.toList_map, ents, kents, List.map_map, List.getD_eq_getElem?_getD]
    rfl
  rw [ehs] at T
  have sz2 : (order.filterMap (es[·]?)).size = es.size := by
    have := congrArg List.length esn
    rw [kents, List.length_map, pm2.length_eq, Array.length_toList] at this
    rw [this, esz]
  rw [setRelay_eq]
  refine wpAny_bind (wpAny_setState_of ho hd fits ?_)
  dsimp only
  refine wp_if_neg (by rw [sizeLine_eq]; omega) ?_
  try refine wpAny_bind (wpAny_pure ?_)
  rw [er]
  dsimp only
  refine wpAny_bind (wp_if_neg (by rw [sz2]; simp) ?_)
  try refine wpAny_bind (wpAny_pure ?_)
  refine wpAny_pure ?_
  dsimp only
  refine wpAny_storeSet_of ho hd ?_ (by rw [sz2, esz, sizeLine_eq]; omega)
  have sb : Heap.SameBut a s.heap (s.heap.update a (Obj.putSet (order.filterMap (es[·]?)) t')) := Heap.SameBut.update ..
  exact hQ _ L2 _ (ep + 1) t' sb ⟨⟨_, store_at ho hd, ⟨hex.1, hex.2.1, hex.2.2⟩, rfl⟩, esn, T, (pm2.map (·.2)).nodup_iff.mpr unl, fun p hp => (keys p (pm2.mem_iff.mp hp)).beside ho hd sb, by rw [el]; exact seen, by rw [em]; exact g, by rw [pm2.length_eq, em]; exact room⟩ pm2
theorem up_20 : SetTable.sizeAbove (SetTable.grown 5) - 1 = 31 := by decide +kernel
theorem up_76 : SetTable.sizeAbove (SetTable.grown 19) - 1 = 127 := by decide +kernel
theorem up_308 : SetTable.sizeAbove (SetTable.grown 77) - 1 = 511 := by decide +kernel
theorem SetG.add (R : SetG w s.heap a L es ep t) {x : Addr} {k : NestedKey} (hx : NKey s.heap k x) (hu : A.units + 8 < cLine) (few : L.length < 306) {Q : Bool → Shared → Prop}
    (hQ : ∀ b h' L' es' ep' t', Heap.SameBut a s.heap h' → SetG w h' a L' es' ep' t' → (k ∈ L.map (·.2) → L' = L) → (k ∉ L.map (·.2) → L'.Perm ((x, k) :: L)) → Q b { s with heap := h' }) :
    wpAny (model P w) A (setAddHashed a (.ref x) (k.hash w)) Q E s := by
  obtain ⟨o, ho, hex, hd⟩ := R.obj
  have esz := R.size
  have room := R.room
  unfold setAddHashed
  refine wpAny_holding ?_
  rw [show (100000 : Nat) = 99999 + 1 from rfl, setAddHashedIn_succ]
  refine wpAny_bind (wpAny_setState_of ho hd R.fits ?_)
  dsimp only
  refine wp_if_neg (by simp [byScan, Value.scannable]) ?_
  try refine wpAny_bind (wpAny_pure ?_)
  refine wpAny_bind (R.search hx hu (fun m => ?_) fun K nm free taken => ?_)
  · dsimp only
    exact wpAny_pure (hQ false s.heap L es ep t (Heap.SameBut.refl a s.heap) R (fun _ => rfl) fun z => absurd m z)
  · dsimp only
    refine wpAny_bind (wpAny_setState_of ho hd R.fits ?_)
    dsimp only
    obtain ⟨hle, T1, ef⟩ := R.tab.putG free taken
    have e1 : (t.put (way t.mask (k.hash w) K)).2 = SetTable.below t.place (way t.mask (k.hash w) K) := rfl
    have e2 : (t.put (way t.mask (k.hash w) K)).1.mask = t.mask := rfl
    have e3 : (t.put (way t.mask (k.hash w) K)).1.led = t.led := rfl
    generalize t.put (way t.mask (k.hash w) K) = pt at e1 e2 e3 T1 ef ⊢
    obtain ⟨t1, p⟩ := pt
    dsimp only at e1 e2 e3 T1 ef ⊢
    rw [← e1] at T1 hle
    clear e1
    have rest : ∀ b : Bool, wpAny (model P w) A (do
        storeSet a (SetTable.insertAt es p (k.hash w, .ref x)) (if b then t1 else { t1 with plain := false })
        if !false && (if b then t1 else { t1 with plain := false }).tooFull then setRelay a (SetTable.grown (es.size + 1))
        return true) Q E s := by
      intro b
      obtain ⟨t2, et2⟩ : ∃ t2, (if b = true then t1 else { t1 with plain := false }) = t2 := ⟨_, rfl⟩
      have m2 : t2.mask = t.mask := by rw [← et2]; cases b <;> exact e2
      have l2 : t2.led = t.led := by rw [← et2]; cases b <;> exact e3
      have f2 : t2.fill = (khs w L).length + 1 := by rw [← et2]; cases b <;> exact ef
      have T2 : TabG t2 (insL (khs w L) p (k.hash w)) := by
        rw [← et2]
        cases b
        · exact ⟨T1.ris, T1.clean, T1.len, T1.full, T1.inn, T1.met⟩
        · exact T1
      rw [et2]
      have pm : (insL L p (x, k)).Perm ((x, k) :: L) := insL_perm L p (x, k)
      have ents1 : (SetTable.insertAt es p (k.hash w, Value.ref x)).toList = kents w (insL L p (x, k)) := by
        rw [SetTable.toList_insertAt, kents, insL_map, R.ents]; rfl
      have T3 : TabG t2 (khs w (insL L p (x, k))) := by
        rw [khs, insL_map]; exact T2
      have ln : (insL L p (x, k)).length = L.length + 1 := pm.length_eq
      generalize insL L p (x, k) = L1 at pm ents1 T3 ln
      have unl1 : (L1.map (·.2)).Nodup := (pm.map (·.2)).nodup_iff.mpr (by rw [List.map_cons, List.nodup_cons]; exact ⟨nm, R.unl⟩)
      have esz1 : (SetTable.insertAt es p (k.hash w, Value.ref x)).size = L.length + 1 := by
        have := congrArg List.length ents1
        rwa [kents, List.length_map, ln, Array.length_toList] at this
      generalize SetTable.insertAt es p (k.hash w, Value.ref x) = es1 at ents1 esz1
      refine wpAny_bind (wpAny_storeSet_of ho hd ?_ (by rw [esz1, sizeLine_eq]; omega))
      have sb : Heap.SameBut a s.heap (s.heap.update a (Obj.putSet es1 t2)) := Heap.SameBut.update ..
      have ho1 := store_at (es' := es1) (t' := t2) ho hd
      generalize s.heap.update a (Obj.putSet es1 t2) = h1 at sb ho1
      have keys1 : ∀ q ∈ L1, NKey h1 q.2 q.1 := fun q hq => by
        rcases List.mem_cons.mp (pm.mem_iff.mp hq) with rfl | hq
        · exact hx.beside ho hd sb
        · exact (R.keys q hq).beside ho hd sb
      have fill : (decide (t2.fill * 5 ≥ t2.mask * 3)) = decide ((L.length + 1) * 5 ≥ t.mask * 3) := by rw [f2, m2, khs, List.length_map]
      by_cases full : (L.length + 1) * 5 ≥ t.mask * 3
      · have tf : t2.tooFull = true := by unfold SetTable.tooFull; rw [fill, decide_eq_true full]
        rw [tf]
        simp only [Bool.not_false, Bool.and_self, if_true]
        obtain ⟨M, eM, g, hM⟩ : ∃ M, SetTable.sizeAbove (SetTable.grown (L.length + 1)) - 1 = M ∧ Grows M ∧ (L.length + 1) * 5 < M * 3 := by
          rcases R.mask with e | e | e | e <;> rw [e] at full room
          · have : L.length = 4 := by omega
            rw [this]; exact ⟨31, up_20, .inr (.inl rfl), by decide⟩
          · have : L.length = 18 := by omega
            rw [this]; exact ⟨127, up_76, .inr (.inr (.inl rfl)), by decide⟩
          · have : L.length = 76 := by omega
            rw [this]; exact ⟨511, up_308, .inr (.inr (.inr rfl)), by decide⟩
          · omega
        have le5 : SetTable.sizeAbove (SetTable.grown (L.length + 1)) ≤ 512 := by
          rcases g with e | e | e | e <;> omega
        rw [esz]
        refine wpAny_bind (relayG (s := { s with heap := h1 }) (L := L1) ho1 ⟨hex.1, hex.2.1, hex.2.2⟩ rfl ents1 T3 (by rw [ln, m2]; omega) unl1 keys1 (by rw [l2]; exact R.seen) eM g le5 (by rw [ln]; exact hM) fun h2 L2 es2 ep2 t3 sb2 R2 pm2 => ?_)
        exact wpAny_pure (hQ true h2 L2 es2 ep2 t3 (sb.trans sb2) R2 (fun z => absurd z nm) fun _ => pm2.trans pm)
      · have tf : t2.tooFull = false := by unfold SetTable.tooFull; rw [fill, decide_eq_false full]
        rw [tf]
        simp only [Bool.not_false, Bool.and_false, Bool.false_eq_true, if_false]
        try refine wpAny_bind (wpAny_pure ?_)
        exact wpAny_pure (hQ true h1 L1 es1 (ep + 1) t2 sb ⟨⟨_, ho1, ⟨hex.1, hex.2.1, hex.2.2⟩, rfl⟩, ents1, T3, unl1, keys1, by rw [l2]; exact R.seen, by rw [m2]; exact R.mask, by rw [ln, m2]; omega⟩ (fun z => absurd z nm) fun _ => pm)
    by_cases pl : t1.plain = true
    · first
        | (refine wpAny_bind ?_; refine wp_if_pos pl ?_; refine byVal_key k _ 8 s hx.1 hx.2 _ _ _ fun b => ?_)
        | refine wp_if_pos pl (wpAny_bind (byVal_key k _ 8 s hx.1 hx.2 _ _ _ fun b => ?_))
      exact rest b
    · first
        | (refine wpAny_bind ?_; refine wp_if_neg pl ?_; refine wpAny_pure ?_)
        | refine wp_if_neg pl (wpAny_bind (wpAny_pure ?_))
      exact rest true
end
end VL
set_option Elab.async false
set_option linter.all false
set_option maxRecDepth 100000
set_option maxHeartbeats 4000000
namespace VL
open PySem PySem.Spec L2 RT RZ PyProof.Rows
/-- the unlike ones -/
def dstK : List NestedKey → List NestedKey
  | [] => []
  | x :: xs => if x ∈ xs then dstK xs else x :: dstK xs
theorem dstK_mem {y : NestedKey} : ∀ {l : List NestedKey}, y ∈ dstK l ↔ y ∈ l
  | [] => Iff.rfl
  | x :: l => by
    unfold dstK
    by_cases h : x ∈ l
    · rw [if_pos h, dstK_mem, List.mem_cons]
      exact ⟨.inr, fun z => z.elim (fun e => e ▸ h) id⟩
    · rw [if_neg h, List.mem_cons, List.mem_cons, dstK_mem]
theorem dstK_nodup : ∀ {l : List NestedKey}, (dstK l).Nodup
  | [] => List.nodup_nil
  | x :: l => by
    unfold dstK
    by_cases h : x ∈ l
    · rw [if_pos h]; exact dstK_nodup
    · rw [if_neg h, List.nodup_cons]
      exact ⟨fun z => h (dstK_mem.mp z), dstK_nodup⟩
theorem dstK_le : ∀ l : List NestedKey, (dstK l).length ≤ l.length
  | [] => Nat.le_refl _
  | x :: l => by
    have := dstK_le l
    unfold dstK
    by_cases h : x ∈ l
    · rw [if_pos h, List.length_cons]; omega
    · rw [if_neg h, List.length_cons, List.length_cons]; omega
/-- what a set has got of the first i items -/
structure GotK (ks : KyL) (i : Nat) (L : KyL) : Prop where
  sub : ∀ p ∈ L, p ∈ ks.take i
  all : ∀ p ∈ ks.take i, p.2 ∈ L.map (·.2)
theorem GotK.same {ks L : KyL} {i : Nat} {x : Addr × NestedKey} (g : GotK ks i L) (h : ks[i]? = some x) (hm : x.2 ∈ L.map (·.2)) : GotK ks (i + 1) L := by
  refine ⟨fun p hp => List.mem_of_mem_take (i := i) (l := ks.take (i + 1)) (by rw [List.take_take, Nat.min_eq_left (Nat.le_succ i)]; exact g.sub p hp), fun p hp => ?_⟩
  rw [List.take_add_one, h] at hp
  rcases List.mem_append.mp hp with hp | hp
  · exact g.all p hp
  · rw [List.mem_singleton.mp hp]; exact hm
theorem GotK.more {ks L L' : KyL} {i : Nat} {x : Addr × NestedKey} (g : GotK ks i L) (h : ks[i]? = some x) (pm : L'.Perm (x :: L)) : GotK ks (i + 1) L' := by
  refine ⟨fun p hp => ?_, fun p hp => (pm.map (·.2)).mem_iff.mpr ?_⟩
  · rw [List.take_add_one, h]
    rcases List.mem_cons.mp (pm.mem_iff.mp hp) with rfl | hp
    · exact List.mem_append_right _ List.mem_cons_self
    · exact List.mem_append_left _ (g.sub p hp)
  · rw [List.map_cons]
    rw [List.take_add_one, h] at hp
    rcases List.mem_append.mp hp with hp | hp
    · exact List.mem_cons_of_mem _ (g.all p hp)
    · rw [List.mem_singleton.mp hp]; exact List.mem_cons_self
section
variable {P : Program} {w : World} {A : Around} {E : Value → Shared → Prop} {s : Shared}
theorem fewK_of {ks L : KyL} {i : Nat} (nd : (L.map (·.2)).Nodup) (g : GotK ks i L) : L.length ≤ (dstK (ks.map (·.2))).length := by
  have := nodup_sub_len (b := dstK (ks.map (·.2))) nd fun x hx => by
    obtain ⟨p, hp, rfl⟩ := List.mem_map.mp hx
    exact dstK_mem.mpr (List.mem_map_of_mem (List.mem_of_mem_take (g.sub p hp)))
  rwa [List.length_map] at this
theorem gotK_len {ks L : KyL} (nd : (L.map (·.2)).Nodup) (g : GotK ks ks.length L) : L.length = (dstK (ks.map (·.2))).length := by
  refine Nat.le_antisymm (fewK_of nd g) ?_
  have := nodup_sub_len (a := dstK (ks.map (·.2))) (b := L.map (·.2)) dstK_nodup fun x hx => by
    obtain ⟨p, hp, rfl⟩ := List.mem_map.mp (dstK_mem.mp hx)
    exact g.all p (by rw [List.take_length]; exact hp)
  rwa [List.length_map] at this
theorem SetG.stays {h h' : Heap} {a : Addr} {L : KyL} {es : Array (Int × Value)} {ep : Nat} {t : SetTable} (R : SetG w h a L es ep t) (ha : ∀ o, h.get? a = some o → h'.get? a = some o) (hk : ∀ p ∈ L, NKey h' p.2 p.1) : SetG w h' a L es ep t :=
  let ⟨o, ho, r⟩ := R.obj
  ⟨⟨o, ha o ho, r⟩, R.ents, R.tab, R.unl, hk, R.seen, R.mask, R.room⟩
theorem setG_fresh {h : Heap} {a : Addr} (ho : h.get? a = some { cls := .type "set", dict := none, data := .set #[] 0 (.fresh 0 0 (!w.params.followText "set-order")) }) : SetG w h a [] #[] 0 (.fresh 0 0 (!w.params.followText "set-order")) := by
  refine ⟨⟨_, ho, ⟨rfl, rfl, rfl⟩, rfl⟩, rfl, ⟨List.Pairwise.nil, rfl, rfl, .old (.inl rfl), fun _ hx => absurd hx List.not_mem_nil, fun _ hx => absurd hx List.not_mem_nil⟩, List.nodup_nil, fun _ hp => absurd hp List.not_mem_nil, ?_, .inl rfl, by show 0 * 5 < 7 * 3; decide⟩
  show _ ∨ (!w.params.followText "set-order") = true
  cases w.params.followText "set-order"
  · exact .inr rfl
  · exact .inl rfl
/-- one turn of the loop, and the next ones -/
theorem loop_keys {I S : Addr} {fp wr : List Addr} {G : Array GenState → Array GenState → Prop} {n : Nat} {Pv : Nat → Value → Prop} {St : Nat → Shared → Prop} {R : Result → Shared → Prop} (W : WalksS P w A.in1 I fp wr G n Pv St) (ks : KyL)
    (a1 : S ∉ fp) (a2 : n = ks.length) (a3 : (dstK (ks.map (·.2))).length < 306) (a4 : ∀ i v, Pv i v → ∃ p, ks[i]? = some p ∧ v = .ref p.1) (a7 : ∀ i s, St i s → ∀ b ∈ wr, ∀ o vs m, s.heap.get? b = some o → o.data ≠ .seq vs m) (a8 : A.in1.units + 8 < cLine) :
    ∀ (d i : Nat) (s : Shared), i + d = n → St i s → (∀ p ∈ ks, NKey s.heap p.2 p.1) → ∀ L es ep t, SetG w s.heap S L es ep t → GotK ks i L →
      (∀ s' L es ep t, Moved (S :: wr) G s s' → SetG w s'.heap S L es ep t → GotK ks n L → (∀ p ∈ ks, NKey s'.heap p.2 p.1) → R (.ok (.ret .none)) s') →
      codeAny (model P w) A (.builtin "set.update.loop" ⟨[.ref S, .ref I], []⟩) R s := by
  have keep : ∀ {i} {s s' : Shared}, St i s → Moved wr G s s' → (∀ p ∈ ks, NKey s.heap p.2 p.1) → ∀ p ∈ ks, NKey s'.heap p.2 p.1 := fun {i s s'} st m k p hp =>
    ⟨NestedIs.at (fun b o vs m' hb hd => m.heap b o (fun z => a7 i s st b z o vs m' hb hd) hb) _ _ (k p hp).1, (k p hp).2⟩
  have sw : S ∉ wr := fun z => a1 (W.sub _ z)
  intro d
  induction d with
  | zero =>
    intro i s e st k L es ep t r g z
    obtain rfl : i = n := e
    refine codeAny_builtin F.entry_set_update_loop ?_
    rw [Around.under_plainId F.plain_set_update_loop _]
    refine wpAny_bind (m := pyNext (.ref I)) (W.done s _ _ st fun s' m => ?_)
    have k' := keep st m k
    exact wpAny_pure (z s' L es ep t (m.mono fun b => List.mem_cons_of_mem _) (r.stays (fun o h => m.heap S o sw h) fun p hp => k' p (List.mem_of_mem_take (g.sub p hp))) g k')
  | succ d ih =>
    intro i s e st k L es ep t r g z
    refine codeAny_builtin F.entry_set_update_loop ?_
    rw [Around.under_plainId F.plain_set_update_loop _]
    refine wpAny_bind (m := pyNext (.ref I)) (W.item i s _ _ (by omega) st fun v s' pv st' m => ?_)
    obtain ⟨p, hp, rfl⟩ := a4 i v pv
    have k' := keep st m k
    have pin := List.mem_of_getElem? hp
    have r' : SetG w s'.heap S L es ep t := r.stays (fun o h => m.heap S o sw h) fun q hq => k' q (List.mem_of_mem_take (g.sub q hq))
    have fw := fewK_of r'.unl g
    refine wpAny_bind (m := holding [Value.ref p.1] (setAdd S (.ref p.1))) (wpAny_holding ?_)
    unfold setAdd
    refine wpAny_holding (wpAny_bind ((nestedKind P w).pyHash (k := p.2) a8 (k' p pin) ?_))
    refine SetG.add (s := { s' with toks := s'.toks + (nestedKind P w).draws p.2 }) r' (k' p pin) a8 (by omega) fun b h' L2 es2 ep2 t2 sb r2 c1 c2 => ?_
    have g2 : GotK ks (i + 1) L2 := by
      by_cases c : p.2 ∈ L.map (·.2)
      · rw [c1 c]; exact g.same hp c
      · exact g.more hp (c2 c)
    have k2 : ∀ q ∈ ks, NKey h' q.2 q.1 := fun q hq => by
      obtain ⟨o, ho, _, hd⟩ := r'.obj
      exact (k' q hq).beside ho hd sb
    refine wpAny_pure ⟨plainId_quiet F.plain_set_update_loop _, ih (i + 1) _ (by omega) (W.frame _ s' _ _ st' (Nat.le_add_right _ _) fun b hb o h => ?_) k2 L2 es2 ep2 t2 r2 g2 fun s'' L3 es3 ep3 t3 m3 r3 g3 k3 => ?_⟩
    · rw [sb.2 b (fun h : b = S => a1 (h ▸ hb))]; exact h
    · refine z s'' L3 es3 ep3 t3 (Moved.trans W.gtrans ((m.mono fun b => List.mem_cons_of_mem _).then_heap (Nat.le_add_right _ _) fun b o hb h => ?_) m3) r3 g3 k3
      rw [sb.2 b (fun h : b = S => hb (h ▸ List.mem_cons_self))]; exact h
theorem new_set_keys {l : Addr} {items : Array Value} (ks : KyL) (hh : A.handled = none) (hl : s.heap.IsList l items) (hit : items.toList = ks.map fun p => Value.ref p.1) (hk : ∀ p ∈ ks, NKey s.heap p.2 p.1)
    (hf : (dstK (ks.map (·.2))).length < 306) (hu : A.in1.in1.units + 8 < cLine) : LoopOk P w l (fun h S => ∃ L es ep t, SetG w h S L es ep t ∧ GotK ks ks.length L ∧ ∀ p ∈ ks, NKey h p.2 p.1) A.in1 s := by
  intro S I R hS hI hSI hR
  have hn : items.size = ks.length := by
    have q := congrArg List.length hit
    rwa [Array.length_toList, List.length_map] at q
  obtain ⟨ol, e0, c0, n0, d0⟩ := id hl
  have hlI : l ≠ I := fun z => by subst z; rw [hI] at e0; cases e0; exact absurd (show Value.type _ = Value.type "list" from c0) (by simp)
  have hlS : l ≠ S := fun z => by subst z; rw [hS] at e0; cases e0; exact absurd (show Value.type _ = Value.type "list" from c0) (by simp)
  refine loop_keys ((Walks.list (show A.in1.in1.handled = none by simpa using hh) I l hlI items).toS) ks (by simp [hSI, Ne.symm hlS]) hn hf (fun i v hv => ?_) (fun i s st b hb o vs m ho hd => ?_) hu (items.size - 0) 0 _ (by omega) ⟨⟨_, hI, rfl, rfl⟩, hl⟩ hk [] #[] 0 _ (setG_fresh hS) ⟨fun _ h => absurd h List.not_mem_nil, fun _ h => by simp at h⟩ ?_
  · have q : items.toList[i]? = some v := by rw [Array.getElem?_toList]; exact hv
    rw [hit, List.getElem?_map] at q
    obtain ⟨p, hp, e⟩ := Option.map_eq_some_iff.mp q
    exact ⟨p, hp, e.symm⟩
  · rw [List.mem_singleton.mp hb] at ho
    obtain ⟨⟨oi, e1, _, e2⟩, _⟩ := st
    rw [ho] at e1
    cases e1
    rw [hd] at e2; cases e2
  · intro s' L es ep t hm r g k3
    obtain ⟨h', g2, d', tk', os'⟩ := s'
    have eg : g2 = s.gens := hm.gens
    have ed : d' = s.drawn := hm.drawn
    have eo : os' = s.os := hm.os
    subst eg; subst ed; subst eo
    rw [hn] at g
    exact hR h' tk' ⟨L, es, ep, t, r, g, k3⟩ fun b o h1 h2 e => hm.heap b o (by simp [h1, h2]) e
end
end VL
set_option Elab.async false
set_option linter.all false
set_option maxRecDepth 100000
set_option maxHeartbeats 4000000
namespace VL
open PySem PySem.Spec L2 RT RZ PyProof.Rows
end VL
set_option Elab.async false
set_option linter.all false
set_option maxRecDepth 100000
set_option maxHeartbeats 4000000
namespace VL
open PySem PySem.Spec L2 RT RZ PyProof.Rows
end VL
set_option Elab.async false
set_option linter.all false
set_option maxRecDepth 100000
set_option maxHeartbeats 1000000
namespace VL
open PySem PySem.Spec L2 RT RZ
/-- a dict of truths by ints -/
def kbE (L : List (Int × Bool)) : List (Key × D) := L.map fun p => (Sum.inl p.1, .bl p.2)
def kbV (L : List (Int × Bool)) : List (Key × V) := L.map fun p => (Sum.inl p.1, .bl p.2)
def fKif (sd sk : Nat) : TF' := fun δ M Q => sk < δ.length ∧ ∃ (n : Nat) (L : List (Int × Bool)), (δ[sd]?).join = some (.ref n) ∧ M[n]? = some (.dk (kbE L)) ∧ (L.map (·.1)).Nodup ∧ L.length < sizeLine ∧ Q ((L.filter (·.2)).map fun p => .int p.1) M
section
variable {K : PySem.W.Frag} {X : Cx} {N : Bool → Addr → Prop} {H : Hp} {ι : Ix} {G : Gd}
theorem kb_ws : ∀ {L : List (Int × Bool)} {ws : List (Key × V)}, RK K N H ι (kbE L) ws → ws = kbV L
  | [], ws, h => RK.nil_inv h
  | p :: L, ws, h => by
    obtain ⟨v, ws', rfl, r, h'⟩ := RK.inv (show RK K N H ι ((Sum.inl p.1, .bl p.2) :: kbE L) ws from h)
    have hv : v = .bl p.2 := r
    rw [hv, kb_ws h']; rfl
theorem kb_val {L : List (Int × Bool)} (hn : (L.map (·.1)).Nodup) : ∀ {i : Nat} {p : Int × Bool}, L[i]? = some p → valV (kbV L) (Sum.inl p.1 : Key) = some (.bl p.2) := by
  induction L with
  | nil => intro i p h; simp at h
  | cons q L ih =>
    intro i p h
    rw [List.map_cons, List.nodup_cons] at hn
    unfold valV kbV
    rw [List.map_cons, List.find?_cons]
    cases i with
    | zero =>
      simp only [List.getElem?_cons_zero, Option.some.injEq] at h
      subst h
      simp
    | succ i =>
      rw [List.getElem?_cons_succ] at h
      have ne : decide ((Sum.inl q.1 : Key) = Sum.inl p.1) = false := decide_eq_false fun e => by
        injection e with e
        exact hn.1 (by rw [e]; exact List.mem_map.mpr ⟨p, List.mem_of_getElem? h, rfl⟩)
      simp only [ne]
      exact ih hn.2 h
def kbA (L : List (Int × Bool)) (i : Nat) : List V := ((L.take i).filter (·.2)).map fun p => .int p.1
theorem kbA_succ {L : List (Int × Bool)} {i : Nat} {p : Int × Bool} (h : L[i]? = some p) : kbA L (i + 1) = kbA L i ++ if p.2 then [V.int p.1] else [] := by
  unfold kbA
  rw [List.take_add_one, h, Option.toList_some, List.filter_append, List.map_append]
  congr 1
  cases e : p.2 <;> simp [e]
theorem kbA_len {L : List (Int × Bool)} {i : Nat} : (kbA L i).length ≤ L.length := by
  unfold kbA
  rw [List.length_map]
  exact Nat.le_trans (List.length_filter_le _ _) (by rw [List.length_take]; omega)
theorem rds_ints : ∀ l : List (Int × Bool), RDs K N H ι (l.map fun p => D.int p.1) (l.map fun p => V.int p.1)
  | [] => rfl
  | p :: l => ⟨_, _, rfl, rfl, rds_ints l⟩
theorem vf_kif {k d : Str} {sk sd : Nat} {p1 p2 p3 p4 p5 p6 pos : Pos} {scope : Scope} (hu : X.A.units + 1 < cLine) (hc : X.calm = true) (hN : X.N.Nodup) (hsk : sd ≠ sk) (hvd : PE X (.Name d p3) (tVar sd)) (ok' : BlkOk X.N X.env.scope scope [(k, sk)])
    (hg : ∀ (s : Shared) (H : Hp) (C : Addr) (cl : List (Str × Addr)) (fp : List Addr), PG (X.blk s H scope (compEnvC scope cl C X.env) fp) (.Name k p2) (gName sk))
    (hd : ∀ (s : Shared) (H : Hp) (C : Addr) (cl : List (Str × Addr)) (fp : List Addr), PE (X.blk s H scope (compEnvC scope cl C X.env) fp) (.Name d p4) (tVar sd))
    (hk5 : ∀ (s : Shared) (H : Hp) (C : Addr) (cl : List (Str × Addr)) (fp : List Addr), PE (X.blk s H scope (compEnvC scope cl C X.env) fp) (.Name k p5) (tVar sk))
    (hk1 : ∀ (s : Shared) (H : Hp) (C : Addr) (cl : List (Str × Addr)) (fp : List Addr), PE (X.blk s H scope (compEnvC scope cl C X.env) fp) (.Name k p1) (tVar sk))
    (hs : ∀ x, foldedSetIterable (.Name d p3) X.env x = pure x := by intro _; rfl) :
    VF X G (.ListComp (.Name k p1) [⟨.Name k p2, .Name d p3, [.Subscript (.Name d p4) (.Name k p5) p6], 0⟩] scope pos) (fKif sd sk) := by
  have h := pe_lock (pe_lc (pos := pos) (own := [(k, sk)]) hc hN (pi_keys (tg := .Name k p2) hvd) ok' hg (fun s H C cl fp => pts_one (pt_val (pe_dget (pos := p6) hu (hd s H C cl fp) (hk5 s H C cl fp) (fun _ _ => rfl)))) hk1 hs)
  refine PE.weak h fun σ H Q q => ?_
  obtain ⟨δ, M, ι, Q0, S, ⟨hskl, n, L, e0, e1, hnd, hL, q⟩, z⟩ := q
  have e2 : δ[sd]? = some (some (.ref n)) := by
    cases q : δ[sd]? with
    | none => rw [q] at e0; cases e0
    | some o =>
      rw [q] at e0
      cases o with
      | none => cases e0
      | some u => cases e0; rfl
  obtain ⟨v, hv, hr⟩ := S.slot sd _ e2
  obtain ⟨a, rfl, hn, ws, hH, hk⟩ := S.mem.at hr e1 (fun z => nomatch z)
  have hws := kb_ws (show RK X.K G.N H ι (kbE L) ws from hk)
  subst hws
  have hlen : (kbV L).length = L.length := by unfold kbV; rw [List.length_map]
  refine ⟨a, .dK (kbV L), hH, trivial, fun od => ?_⟩
  have hlt : sd < σ.length := (List.getElem?_eq_some_iff.mp hv).1
  refine ⟨.ref a, hv, a, od, rfl, .inl ⟨kbV L, upd_same, fun Dd hD => ?_⟩⟩
  have hDa : a ≠ Dd := fun e => by subst e; rw [upd_same] at hD; cases hD
  have hDH : H Dd = none := by rw [upd_ne (Ne.symm hDa)] at hD; exact hD
  refine ⟨fun i m H' => m = L.length - i ∧ i ≤ L.length ∧ H' = upd (upd H a (.frz od (.dK (kbV L)))) Dd (.lst (kbA L i)), ⟨L.length, by simp, Nat.zero_le _, rfl⟩, ?_⟩
  rintro i m _ ⟨rfl, hi, rfl⟩
  have hA : ∀ l, (upd (upd H a (.frz od (.dK (kbV L)))) Dd (.lst l)) a = some (.frz od (.dK (kbV L))) := fun l => by rw [upd_ne hDa, upd_same]
  by_cases hil : i < L.length
  · refine .inr ⟨⟨hA _, by rw [hlen]; exact hil⟩, fun H' => H' = upd (upd H a (.frz od (.dK (kbV L)))) Dd (.lst (kbA L (i + 1))), fun H' e => ⟨L.length - (i + 1), by omega, rfl, hil, e⟩, fun x H' y => ?_⟩
    obtain ⟨rfl, k', v', hkv, rfl⟩ := y
    obtain ⟨p, hp⟩ : ∃ p, L[i]? = some p := ⟨_, List.getElem?_eq_getElem hil⟩
    have hkv' : (k', v') = (Sum.inl p.1, V.bl p.2) := by
      have : (kbV L)[i]? = some (Sum.inl p.1, V.bl p.2) := by unfold kbV; rw [List.getElem?_map, hp]; rfl
      exact Option.some.inj (hkv.symm.trans this)
    injection hkv' with h1 h2
    subst h1; subst h2
    have hw : wipe (wipe σ [sk]) [sk] = wipe σ [sk] := wipe_wipe σ [sk]
    have g1 : ((wipe σ [sk]).set sk (some (kV (Sum.inl p.1))))[sd]? = some (some (.ref a)) := by
      show ((σ.set sk none).set sk _)[sd]? = _
      rw [List.getElem?_set_ne (Ne.symm hsk), List.getElem?_set_ne (Ne.symm hsk)]; exact hv
    have hsl : sk < σ.length := by rw [← S.len]; exact hskl
    have g2 : ((wipe σ [sk]).set sk (some (kV (Sum.inl p.1))))[sk]? = some (some (V.int p.1)) := by
      show ((σ.set sk none).set sk _)[sk]? = _
      rw [List.getElem?_set_self (by rw [List.length_set]; exact hsl)]; rfl
    refine ⟨?_, .ref a, g1, V.int p.1, g2, a, .bl p.2, rfl, .inl ⟨kbV L, Sum.inl p.1, .inr ⟨od, hA _⟩, rfl, (kb_val hnd hp).symm⟩, p.2, rfl, ?_⟩
    · show wipe ((wipe σ [sk]).set sk _) [sk] = wipe σ [sk]
      exact (wipe_set _ [sk] _ (by simp)).trans hw
    · rw [kbA_succ hp]
      cases p.2 with
      | false =>
        simp only [Bool.false_eq_true, if_false, List.append_nil]
      | true =>
        simp only [if_true]
        refine ⟨V.int p.1, g2, kbA L i, upd_same, Nat.lt_of_le_of_lt kbA_len hL, ?_⟩
        funext b
        by_cases hb : b = Dd
        · subst hb; rw [upd_same, upd_same]
        · rw [upd_ne hb, upd_ne hb, upd_ne hb]
  · have e : i = L.length := by omega
    subst e
    refine .inl ⟨⟨hA _, by rw [hlen]; exact Nat.le_refl _⟩, hA _, ?_⟩
    have hH : upd (upd (upd H a (.frz od (.dK (kbV L)))) Dd (.lst (kbA L L.length))) a (.dK (kbV L)) = upd H Dd (.lst (kbA L L.length)) := by
      funext b
      by_cases hb : b = a
      · subst hb; rw [upd_same, upd_ne hDa, hH]
      · rw [upd_ne hb]
        by_cases hb2 : b = Dd
        · subst hb2; rw [upd_same, upd_same]
        · rw [upd_ne hb2, upd_ne hb2, upd_ne hb]
    rw [hH]
    refine z _ M ι H _ Dd q (Ex.refl _) (Kp.refl _ _) S ?_ ?_ hDH
    · unfold kbA
      rw [List.take_length]
      exact rds_ints _
    · rw [List.length_map]
      exact Nat.le_trans (List.length_filter_le _ _) (Nat.le_of_lt hL)
end
end VL
set_option Elab.async false
set_option linter.all false
set_option maxRecDepth 100000
set_option maxHeartbeats 4000000
namespace VL
open PySem PySem.Spec L2
end VL
set_option Elab.async false
set_option linter.all false
set_option maxRecDepth 100000
set_option maxHeartbeats 1000000
namespace VL
open PySem PySem.Spec L2 RT RZ
end VL
set_option Elab.async false
set_option linter.all false
set_option maxRecDepth 100000
set_option maxHeartbeats 1000000
namespace VL
open PySem PySem.Spec L2 RT RZ
def sealL (m0 : Nat) : Mem → List Sv → Option (List Sv × Mem)
  | M, [] => some ([], M)
  | M, x :: xs => (sealD m0 M x).bind fun r => (sealL m0 r.2 xs).map fun q => (r.1 :: q.1, q.2)
def aSeal (m0 : Nat) (t : TA') : TA' := fun δ M Q => t δ M fun xs M1 => ok (sealL m0 M1 xs) fun r => Q r.1 r.2
section
variable {K : PySem.W.Frag} {X : Cx} {G : Gd} {es : List Expr} {tA : TA'} {δ : DS} {M : Mem} {ι : Ix} {σ : L2.St} {H : Hp}
theorem seal_rd {m0 : Nat} (hG : G.i0.length = m0) {d : Sv} {v : V} {r : Sv × Mem} (S : Sr K G δ M ι σ H) (rx : RS K G.N H ι d v) (e : sealD m0 M d = some r) :
    ∃ ι', Sr K G δ r.2 ι' σ H ∧ Ex ι ι' ∧ Kp ι H ι' H ∧ RS K G.N H ι' r.1 v := by
  cases d with
  | d x => cases e; exact ⟨ι, S, Ex.refl _, Kp.refl _ _, rx⟩
  | bor ds => cases e; exact ⟨ι, S, Ex.refl _, Kp.refl _ _, rx⟩
  | ref n =>
    by_cases hn : m0 ≤ n
    · rw [show sealD m0 M (.ref n) = (if m0 ≤ n then (cellL M[n]?).map fun ds => (.d (.lst ds), M.set n .gone) else none) from rfl, if_pos hn] at e
      obtain ⟨ds, e1, rfl⟩ := Option.map_eq_some_iff.mp e
      obtain ⟨a, rfl, ha, _⟩ := S.mem.at rx (cellL_some e1) (fun z => nomatch z)
      obtain ⟨S2, e2, k2, r2⟩ := S.seal ha (by omega) (cellL_some e1)
      exact ⟨_, S2, e2, k2, r2⟩
    · rw [show sealD m0 M (.ref n) = (if m0 ≤ n then (cellL M[n]?).map fun ds => (.d (.lst ds), M.set n .gone) else none) from rfl, if_neg hn] at e; cases e
theorem sealL_rd {m0 : Nat} (hG : G.i0.length = m0) : ∀ {xs : List Sv} {vs : List V} {M : Mem} {ι : Ix} {r : List Sv × Mem}, Sr K G δ M ι σ H → RSs K G.N H ι xs vs → sealL m0 M xs = some r →
    ∃ ι', Sr K G δ r.2 ι' σ H ∧ Ex ι ι' ∧ Kp ι H ι' H ∧ RSs K G.N H ι' r.1 vs ∧ r.1.length = xs.length
  | [], vs, M, ι, r, S, rx, e => by cases e; exact ⟨ι, S, Ex.refl _, Kp.refl _ _, rx, rfl⟩
  | x :: xs, vs, M, ι, r, S, rx, e => by
    obtain ⟨v, vr, rfl, r1, r2⟩ := rx
    obtain ⟨q1, e1, e⟩ := Option.bind_eq_some_iff.mp (show (sealD m0 M x).bind _ = some r from e)
    obtain ⟨q2, e2, rfl⟩ := Option.map_eq_some_iff.mp e
    obtain ⟨ι1, S1, p1, k1, z1⟩ := seal_rd hG S r1 e1
    obtain ⟨ι2, S2, p2, k2, z2, l2⟩ := sealL_rd hG S1 (r2.mono k1 p1 fun _ _ _ _ z => z) e2
    exact ⟨ι2, S2, p1.trans p2, k1.trans k2, ⟨v, vr, rfl, z1.mono k2 p2 fun _ _ _ _ z => z, z2⟩, by simp [l2]⟩
theorem VA.seal {m0 n : Nat} (hG : G.i0.length = m0) (h : VA X G es n tA) : VA X G es n (aSeal m0 tA) :=
  ⟨fun pos pins s σ H Q I ⟨δ, M, ι, Q0, S, q, z⟩ => h.run pos pins s σ H Q I ⟨δ, M, ι, _, S, q, fun xs M' ι' H' vs hl h1 p1 k1 S1 r1 => by
    obtain ⟨r, e, h1⟩ := ok_elim h1
    obtain ⟨ι2, S2, e2, k2, r2, l2⟩ := sealL_rd hG S1 r1 e
    exact z _ _ _ _ vs (by first | exact hl | (rw [l2]; exact hl)) h1 (p1.trans e2) (k1.trans k2) S2 r2⟩⟩
end
end VL
set_option Elab.async false
set_option linter.all false
set_option maxRecDepth 100000
set_option maxHeartbeats 2000000
namespace VL
open PySem PySem.Spec L2 RT RZ PyProof.Rows
mutual
/-- a value that is this key -/
def KeyV (K : PySem.W.Frag) (H : Hp) : NestedKey → V → Prop
  | .none, v => v = .non
  | .num i, v => v = .int i ∨ ∃ b : Bool, v = .bl b ∧ i = if b = true then 1 else 0
  | .text _, _ => False
  | .tup ks, v => ∃ a xs, v = .ref a ∧ SqT K H a xs ∧ KeyVs K H ks xs
def KeyVs (K : PySem.W.Frag) (H : Hp) : List NestedKey → List V → Prop
  | [], xs => xs = []
  | k :: ks, xs => ∃ x r, xs = x :: r ∧ KeyV K H k x ∧ KeyVs K H ks r
end
def KeyT (K : PySem.W.Frag) (H : Hp) (k : NestedKey) (b : Addr) : Prop := KeyV K H k (.ref b) ∧ k.depth ≤ 8 ∧ nplain k = true
def DnAll (K : PySem.W.Frag) (H : Hp) (xs : List (NestedKey × Addr × V)) : Prop := ∀ x ∈ xs, KeyT K H x.1 x.2.1
def valNV (xs : List (NestedKey × Addr × V)) (k : NestedKey) : Option V := (xs.find? fun x => decide (x.1 = k)).map fun x => x.2.2
def putNV (xs : List (NestedKey × Addr × V)) (k : NestedKey) (b : Addr) (v : V) : List (NestedKey × Addr × V) :=
  if (xs.any fun x => decide (x.1 = k)) = true then xs.map (fun x => if x.1 = k then (x.1, x.2.1, v) else x) else xs ++ [(k, b, v)]
abbrev PN : List (NestedKey × Addr × V) → List (NestedKey × Addr × Value) → Prop := Paired (fun (p : NestedKey × Addr × V) (q : NestedKey × Addr × Value) => p.1 = q.1 ∧ p.2.1 = q.2.1 ∧ RelV p.2.2 q.2.2)
theorem PN.any {xs : List (NestedKey × Addr × V)} {ys : List (NestedKey × Addr × Value)} (r : PN xs ys) (k : NestedKey) : (xs.any fun x => decide (x.1 = k)) = (atKey ys k).isSome := by
  induction r with
  | nil => rfl
  | @cons p q ps qs h t ih =>
    rw [List.any_cons, ih]
    unfold atKey
    rw [List.find?_cons, h.1]
    by_cases e : q.1 = k
    · rw [decide_eq_true e]; rfl
    · rw [decide_eq_false e, Bool.false_or]
theorem PN.val {xs : List (NestedKey × Addr × V)} {ys : List (NestedKey × Addr × Value)} (r : PN xs ys) (k : NestedKey) : RelO (valNV xs k) ((atKey ys k).map (·.2)) := by
  induction r with
  | nil => trivial
  | @cons p q ps qs h t ih =>
    unfold valNV atKey at *
    rw [List.find?_cons, List.find?_cons, h.1]
    by_cases e : q.1 = k
    · rw [decide_eq_true e]; exact h.2.2
    · rw [decide_eq_false e]; exact ih
theorem PN.repl {xs : List (NestedKey × Addr × V)} {ys : List (NestedKey × Addr × Value)} (r : PN xs ys) (k : NestedKey) {v : V} {u : Value} (ru : RelV v u) : PN (xs.map fun x => if x.1 = k then (x.1, x.2.1, v) else x) (ys.map (putAt k u)) := by
  induction r with
  | nil => exact .nil
  | @cons p q ps qs h t ih =>
    rw [List.map_cons, List.map_cons]
    refine .cons ?_ ih
    unfold putAt
    by_cases e : q.1 = k
    · rw [if_pos (h.1.trans e), if_pos e]; exact ⟨h.1, h.2.1, ru⟩
    · rw [if_neg (fun z => e (h.1.symm.trans z)), if_neg e]; exact h
theorem PN.put {xs : List (NestedKey × Addr × V)} {ys : List (NestedKey × Addr × Value)} (r : PN xs ys) (k : NestedKey) (b : Addr) {v : V} {u : Value} (ru : RelV v u) : PN (putNV xs k b v) (storedH ys k b u) := by
  unfold putNV storedH
  rw [r.any k]
  by_cases q : (atKey ys k).isSome = true
  · rw [if_pos q, if_pos q]; exact r.repl k ru
  · rw [if_neg q, if_neg q]; exact Paired.snoc r ⟨rfl, rfl, ru⟩
end VL
set_option Elab.async false
set_option linter.all false
set_option maxRecDepth 100000
set_option maxHeartbeats 2000000
namespace VL
open PySem PySem.Spec L2 RT RZ
def valN (kvs : List (D × D)) (k : NestedKey) : Option D := (kvs.find? fun p => decide (nkD p.1 = some k)).map (·.2)
def putN (kvs : List (D × D)) (d : D) (k : NestedKey) (v : D) : List (D × D) := if (kvs.any fun p => decide (nkD p.1 = some k)) = true then kvs.map (fun p => if nkD p.1 = some k then (p.1, v) else p) else kvs ++ [(d, v)]
section
variable {K : PySem.W.Frag} {X : Cx} {N : Bool → Addr → Prop} {H : Hp} {ι : Ix} {G : Gd} {δ : DS} {M : Mem} {σ : L2.St}
mutual
theorem key_of_rd : ∀ (d : D) (v : V) (k : NestedKey), RD K N H ι d v → nk0 d = some k → KeyV K H k v ∧ nplain k = true
  | .non, v, k, h, e => by cases e; exact ⟨h, rfl⟩
  | .int i, v, k, h, e => by cases e; exact ⟨.inl h, rfl⟩
  | .bl b, v, k, h, e => by cases e; exact ⟨.inr ⟨b, h, rfl⟩, rfl⟩
  | .tup ds, v, k, h, e => by
    obtain ⟨ks, e1, rfl⟩ := Option.map_eq_some_iff.mp (show (nk0s ds).map NestedKey.tup = some k from e)
    obtain ⟨a, xs, rfl, q, _, r⟩ := h
    obtain ⟨h1, h2⟩ := keys_of_rd ds xs ks r e1
    exact ⟨⟨a, xs, rfl, tup_sq q, h1⟩, h2⟩
  | .str _, _, _, _, e => by cases e
  | .lst _, _, _, _, e => by cases e
  | .scr _, _, _, _, e => by cases e
  | .fn _, _, _, _, e => by cases e
  | .ty _, _, _, _, e => by cases e
  | .dn _ _, _, _, _, e => by cases e
  | .dk _ _, _, _, _, e => by cases e
  | .cls _, _, _, _, e => by cases e
  | .exc _ _, _, _, _, e => by cases e
theorem keys_of_rd : ∀ (ds : List D) (vs : List V) (ks : List NestedKey), RDs K N H ι ds vs → nk0s ds = some ks → KeyVs K H ks vs ∧ nplains ks = true
  | [], vs, ks, h, e => by cases e; exact ⟨h, rfl⟩
  | d :: ds, vs, ks, h, e => by
    obtain ⟨k, e1, e2⟩ := Option.bind_eq_some_iff.mp (show (nk0 d).bind _ = some ks from e)
    obtain ⟨ks', e3, rfl⟩ := Option.map_eq_some_iff.mp e2
    obtain ⟨x, r, rfl, h1, h2⟩ := h
    obtain ⟨g1, g2⟩ := key_of_rd d x k h1 e1
    obtain ⟨g3, g4⟩ := keys_of_rd ds r ks' h2 e3
    exact ⟨⟨x, r, rfl, g1, g3⟩, by show (nplain k && nplains ks') = true; rw [g2, g4]; rfl⟩
end
theorem nkD_some {d : D} {k : NestedKey} (e : nkD d = some k) : ∃ ds ks, d = .tup ds ∧ k = .tup ks ∧ nk0s ds = some ks ∧ (NestedKey.tup ks).depth ≤ 8 := by
  cases d with
  | tup ds =>
    obtain ⟨ks, e1, e2⟩ := Option.bind_eq_some_iff.mp (show (nk0s ds).bind _ = some k from e)
    by_cases h : (NestedKey.tup ks).depth ≤ 8
    · rw [if_pos h] at e2; cases e2; exact ⟨ds, ks, rfl, rfl, e1, h⟩
    · rw [if_neg h] at e2; cases e2
  | _ => cases e
theorem keyT_of {d : D} {v : V} {k : NestedKey} (e : nkD d = some k) (h : RD K N H ι d v) : ∃ b, v = .ref b ∧ KeyT K H k b := by
  obtain ⟨ds, ks, rfl, rfl, e1, hd⟩ := nkD_some e
  obtain ⟨h1, h2⟩ := key_of_rd (.tup ds) v (.tup ks) h (by show (nk0s ds).map _ = _; rw [e1]; rfl)
  obtain ⟨b, xs, rfl, _⟩ := id h1
  exact ⟨b, rfl, h1, hd, h2⟩
def RNk (K : PySem.W.Frag) (N : Bool → Addr → Prop) (H : Hp) (ι : Ix) (kvs : List (D × D)) (xs : List (NestedKey × Addr × V)) : Prop :=
  (kvs.map (·.1)).map nkD = xs.map (fun x => some x.1) ∧ RDs K N H ι (kvs.map (·.1)) (xs.map fun x => V.ref x.2.1) ∧ RDs K N H ι (kvs.map (·.2)) (xs.map fun x => x.2.2)
theorem RNk.nil_inv {xs : List (NestedKey × Addr × V)} (h : RNk K N H ι [] xs) : xs = [] := by
  have := h.1
  cases xs with
  | nil => rfl
  | cons x xs => simp at this
theorem RNk.nil : RNk K N H ι [] [] := ⟨rfl, rfl, rfl⟩
theorem RNk.inv {d v : D} {kvs : List (D × D)} {xs : List (NestedKey × Addr × V)} (h : RNk K N H ι ((d, v) :: kvs) xs) : ∃ k b x xs', xs = (k, b, x) :: xs' ∧ nkD d = some k ∧ RD K N H ι d (.ref b) ∧ RD K N H ι v x ∧ RNk K N H ι kvs xs' := by
  obtain ⟨h1, h2, h3⟩ := h
  cases xs with
  | nil => simp at h1
  | cons x xs =>
    simp only [List.map_cons, List.cons.injEq] at h1
    obtain ⟨y, r, e, g1, g2⟩ := h2
    simp only [List.map_cons, List.cons.injEq] at e
    obtain ⟨rfl, rfl⟩ := e
    obtain ⟨y2, r2, e2, g3, g4⟩ := h3
    simp only [List.map_cons, List.cons.injEq] at e2
    obtain ⟨rfl, rfl⟩ := e2
    exact ⟨x.1, x.2.1, x.2.2, xs, rfl, h1.1, g1, g3, h1.2, g2, g4⟩
theorem RNk.cons {d v : D} {k : NestedKey} {b : Addr} {x : V} {kvs : List (D × D)} {xs : List (NestedKey × Addr × V)} (e : nkD d = some k) (r1 : RD K N H ι d (.ref b)) (r2 : RD K N H ι v x) (h : RNk K N H ι kvs xs) : RNk K N H ι ((d, v) :: kvs) ((k, b, x) :: xs) :=
  ⟨by simp only [List.map_cons]; rw [e, h.1], ⟨_, _, rfl, r1, h.2.1⟩, ⟨_, _, rfl, r2, h.2.2⟩⟩
theorem RNk.length {kvs : List (D × D)} {xs : List (NestedKey × Addr × V)} (h : RNk K N H ι kvs xs) : kvs.length = xs.length := by
  have := congrArg List.length h.1
  simpa using this
theorem RNk.all : ∀ {kvs : List (D × D)} {xs : List (NestedKey × Addr × V)}, RNk K N H ι kvs xs → DnAll K H xs
  | [], xs, h => by rw [h.nil_inv]; intro x hx; cases hx
  | (d, v) :: kvs, xs, h => by
    obtain ⟨k, b, x, xs', rfl, e, r1, r2, h'⟩ := h.inv
    intro y hy
    rcases List.mem_cons.mp hy with rfl | hy
    · obtain ⟨b', eb, kt⟩ := keyT_of e r1
      cases eb
      exact kt
    · exact RNk.all h' y hy
theorem RNk.val : ∀ {kvs : List (D × D)} {xs : List (NestedKey × Addr × V)}, RNk K N H ι kvs xs → ∀ k, (valN kvs k = none ∧ valNV xs k = none) ∨ ∃ d v, valN kvs k = some d ∧ valNV xs k = some v ∧ RD K N H ι d v
  | [], xs, h, k => by rw [h.nil_inv]; exact .inl ⟨rfl, rfl⟩
  | (d, v) :: kvs, xs, h, k => by
    obtain ⟨j, b, x, xs', rfl, e, r1, r2, h'⟩ := h.inv
    by_cases q : j = k
    · exact .inr ⟨v, x, by simp [valN, e, q], by simp [valNV, q], r2⟩
    · have q2 : ¬ (nkD d = some k) := fun z => q (by rw [e] at z; exact Option.some.inj z)
      rcases RNk.val h' k with ⟨h1, h2⟩ | ⟨d', v', h1, h2, r'⟩
      · refine .inl ⟨?_, ?_⟩
        · simp only [valN, List.find?_cons, q2, decide_false]; exact h1
        · simp only [valNV, List.find?_cons, q, decide_false]; exact h2
      · refine .inr ⟨d', v', ?_, ?_, r'⟩
        · simp only [valN, List.find?_cons, q2, decide_false]; exact h1
        · simp only [valNV, List.find?_cons, q, decide_false]; exact h2
theorem RNk.any : ∀ {kvs : List (D × D)} {xs : List (NestedKey × Addr × V)}, RNk K N H ι kvs xs → ∀ k, (kvs.any fun p => decide (nkD p.1 = some k)) = xs.any fun x => decide (x.1 = k)
  | [], xs, h, k => by rw [h.nil_inv]; rfl
  | (d, v) :: kvs, xs, h, k => by
    obtain ⟨j, b, x, xs', rfl, e, r1, r2, h'⟩ := h.inv
    rw [List.any_cons, List.any_cons, RNk.any h' k]
    congr 1
    show decide (nkD d = some k) = decide (j = k)
    rw [e]
    simp
theorem RNk.repl {k : NestedKey} {d : D} {v : V} (r : RD K N H ι d v) : ∀ {kvs : List (D × D)} {xs : List (NestedKey × Addr × V)}, RNk K N H ι kvs xs →
    RNk K N H ι (kvs.map fun p => if nkD p.1 = some k then (p.1, d) else p) (xs.map fun x => if x.1 = k then (x.1, x.2.1, v) else x)
  | [], xs, h => by rw [h.nil_inv]; exact RNk.nil
  | (d', v') :: kvs, xs, h => by
    obtain ⟨j, b, x, xs', rfl, e, r1, r2, h'⟩ := h.inv
    rw [List.map_cons, List.map_cons]
    by_cases q : j = k
    · have q2 : nkD d' = some k := by rw [e, q]
      simp only [q2, q, if_true]
      exact RNk.cons (by rw [e, q]) r1 r (RNk.repl r h')
    · have q2 : ¬ (nkD d' = some k) := fun z => q (by rw [e] at z; exact Option.some.inj z)
      simp only [q2, q, if_false]
      exact RNk.cons e r1 r2 (RNk.repl r h')
theorem RNk.snoc {k : NestedKey} {b : Addr} {dk d : D} {v : V} (e : nkD dk = some k) (rk : RD K N H ι dk (.ref b)) (r : RD K N H ι d v) : ∀ {kvs : List (D × D)} {xs : List (NestedKey × Addr × V)}, RNk K N H ι kvs xs → RNk K N H ι (kvs ++ [(dk, d)]) (xs ++ [(k, b, v)])
  | [], xs, h => by rw [h.nil_inv]; exact RNk.cons e rk r RNk.nil
  | (d', v') :: kvs, xs, h => by
    obtain ⟨j, b', x, xs', rfl, e', r1, r2, h'⟩ := h.inv
    exact RNk.cons e' r1 r2 (RNk.snoc e rk r h')
theorem RNk.put {k : NestedKey} {b : Addr} {dk d : D} {v : V} {kvs : List (D × D)} {xs : List (NestedKey × Addr × V)} (h : RNk K N H ι kvs xs) (e : nkD dk = some k) (rk : RD K N H ι dk (.ref b)) (r : RD K N H ι d v) : RNk K N H ι (putN kvs dk k d) (putNV xs k b v) := by
  unfold putN putNV
  rw [h.any k]
  by_cases q : (xs.any fun x => decide (x.1 = k)) = true
  · rw [if_pos q, if_pos q]; exact RNk.repl r h
  · rw [if_neg q, if_neg q]; exact RNk.snoc e rk r h
theorem RNk.mono {N' : Bool → Addr → Prop} {H' : Hp} {ι' : Ix} {kvs : List (D × D)} {xs : List (NestedKey × Addr × V)} (k : Kp ι H ι' H') (hn : ∀ b a o, H a = some o → N b a → N' b a) (h : RNk K N H ι kvs xs) : RNk K N' H' ι' kvs xs :=
  ⟨h.1, h.2.1.mono k hn, h.2.2.mono k hn⟩
variable {a b e o i : Expr} {pos p1' : Pos} {ta tb te to ti : TE'}
end
end VL
set_option Elab.async false
set_option linter.all false
set_option maxRecDepth 100000
set_option maxHeartbeats 2000000
namespace VL
open PySem PySem.Spec L2 RT RZ PyProof.Rows
section
variable {K : PySem.W.Frag} {X : Cx} {N : Bool → Addr → Prop} {H : Hp} {ι : Ix} {G : Gd} {δ : DS} {M : Mem} {σ : L2.St} {a b e o i : Expr} {pos p1' : Pos} {ta tb te to ti t : TE'}
theorem Sr.frz {n : Nat} {a : Addr} {kvs : List (D × D)} (S : Sr K G δ M ι σ H) (hn : ι[n]? = some (some a)) (h0 : G.i0.length ≤ n) (hc : M[n]? = some (.dn kvs)) :
    ∃ xs, H a = some (DnO a xs) ∧ ∀ od, Sr K G δ (M.set n .gone) (ι.set n none) σ (upd H a (.frz od (DnO a xs))) ∧ Ex ι (ι.set n none) ∧ Kp ι H (ι.set n none) (upd H a (.frz od (DnO a xs))) ∧ RD K G.N (upd H a (.frz od (DnO a xs))) (ι.set n none) (.dn (kvs.map (·.1)) (kvs.map (·.2))) (.ref a) := by
  obtain ⟨xs, hH, h1, h2, h3⟩ := S.mem.cell n _ a hc hn
  have hmem : some a ∈ ι := List.mem_of_getElem? hn
  refine ⟨xs, hH, fun od => ?_⟩
  have kk : Kp ι H (ι.set n none) (upd H a (.frz od (DnO a xs))) := fun b o e h => ⟨by rw [upd_ne (fun z => h (by rw [z]; exact hmem))]; exact e, fun z => by
    rcases List.mem_or_eq_of_mem_set z with z | z
    · exact h z
    · cases z⟩
  have ee : Ex ι (ι.set n none) := fun m o e => by
    by_cases h : n = m
    · subst h
      exact .inr (List.getElem?_set_self (List.getElem?_eq_some_iff.mp e).1)
    · rw [List.getElem?_set_ne h]; exact .inl e
  have back : ∀ (m : Nat) (b : Addr), (ι.set n none)[m]? = some (some b) → n ≠ m ∧ ι[m]? = some (some b) := fun m b e => by
    by_cases h : n = m
    · subst h
      rw [List.getElem?_set_self (List.getElem?_eq_some_iff.mp hn).1] at e; cases e
    · rw [List.getElem?_set_ne h] at e; exact ⟨h, e⟩
  have hno : some a ∉ ι.set n none := fun z => by
    obtain ⟨m, hm⟩ := List.getElem?_of_mem z
    obtain ⟨h1, h2⟩ := back m a hm
    exact h1 (S.mem.nod _ _ _ hn h2)
  refine ⟨⟨S.len, fun i d e => ?_, ⟨by simp [S.mem.len], fun m m' b e1 e2 => S.mem.nod _ _ _ (back m b e1).2 (back m' b e2).2, fun m c b e1 e2 => ?_, fun m e => ?_, fun m c e1 => ?_⟩, fun m b e => ?_, S.kp.trans kk, fun b hb h1 => ?_, S.bad, fun b hb => ⟨fun z => ?_, ?_⟩, S.obk.turn (by refine ObT.of hH ?_ ?_ <;> (intro C dx fs z; cases z))⟩, ee, kk,
    a, xs, od, rfl, upd_same, hno, h1, h2.mono kk fun _ _ _ _ z => z, h3.mono kk fun _ _ _ _ z => z⟩
  · obtain ⟨v, e1, r⟩ := S.slot i d e
    exact ⟨v, e1, r.mono kk ee fun _ _ _ _ z => z⟩
  · obtain ⟨h1, h2⟩ := back m b e2
    rw [List.getElem?_set_ne h1] at e1
    refine (S.mem.cell m c b e1 h2).mono kk ee (fun _ _ _ _ z => z) (upd_ne fun z => ?_)
    exact h1 (S.mem.nod _ _ _ (z ▸ hn) h2)
  · by_cases h : n = m
    · subst h; exact List.getElem?_set_self (List.getElem?_eq_some_iff.mp hc).1
    · rw [List.getElem?_set_ne h] at e ⊢; exact S.mem.gone m e
  · by_cases h : n = m
    · subst h
      rw [List.getElem?_set_self (List.getElem?_eq_some_iff.mp hc).1] at e1
      cases e1; trivial
    · rw [List.getElem?_set_ne h] at e1; exact S.mem.wf m c e1
  · rw [List.getElem?_set_ne (fun h => by have := (List.getElem?_eq_some_iff.mp e).1; omega)]; exact S.pre m b e
  · rcases List.mem_or_eq_of_mem_set hb with z | z
    · exact S.new b z h1
    · cases z
  · rcases List.mem_or_eq_of_mem_set z with z | z
    · exact (S.hid b hb).1 z
    · cases z
  · obtain ⟨o, ho⟩ := (S.hid b hb).2
    by_cases z : b = a
    · rw [z]; exact ⟨_, upd_same⟩
    · exact ⟨o, by rw [upd_ne z]; exact ho⟩
end
end VL
set_option Elab.async false
set_option linter.all false
set_option maxRecDepth 100000
set_option maxHeartbeats 4000000
namespace VL
open PySem PySem.Spec L2 RT RZ PyProof.Rows
end VL
set_option Elab.async false
set_option linter.all false
set_option maxRecDepth 100000
set_option maxHeartbeats 4000000
namespace VL
open PySem PySem.Spec L2 RT RZ PyProof.Rows
end VL
set_option Elab.async false
set_option linter.all false
set_option maxRecDepth 100000
set_option maxHeartbeats 1000000
namespace VL
open PySem PySem.Spec L2 RT RZ
end VL
set_option Elab.async false
set_option linter.all false
set_option maxRecDepth 100000
set_option maxHeartbeats 4000000
namespace VL
open PySem PySem.Spec L2 RT RZ PyProof.Rows
end VL
set_option Elab.async false
set_option linter.all false
set_option maxRecDepth 100000
set_option maxHeartbeats 1000000
namespace VL
open PySem PySem.Spec L2 RT RZ PyProof.Rows
end VL
set_option Elab.async false
set_option linter.all false
set_option maxRecDepth 100000
set_option maxHeartbeats 1000000
namespace VL
open PySem PySem.Spec L2 RT RZ PyProof.Rows
end VL
set_option Elab.async false
set_option linter.all false
set_option maxRecDepth 100000
set_option maxHeartbeats 1000000
namespace VL
open PySem PySem.Spec L2 RT RZ PyProof.Rows
end VL
set_option Elab.async false
set_option linter.all false
set_option maxRecDepth 100000
set_option maxHeartbeats 1000000
namespace VL
open PySem PySem.Spec L2 RT RZ PyProof.Rows
end VL
set_option Elab.async false
set_option linter.all false
set_option maxRecDepth 100000
set_option maxHeartbeats 4000000
namespace VL
open PySem PySem.Spec L2 RT RZ PyProof.Rows
end VL
set_option Elab.async false
set_option linter.all false
set_option maxRecDepth 100000
set_option maxHeartbeats 4000000
namespace VL
open PySem PySem.Spec L2 RT RZ PyProof.Rows
end VL
set_option Elab.async false
set_option linter.all false
set_option maxRecDepth 100000
set_option maxHeartbeats 1000000
namespace VL
open PySem PySem.Spec L2 RT RZ PyProof.Rows
end VL
set_option Elab.async false
set_option linter.all false
set_option maxRecDepth 100000
set_option maxHeartbeats 1000000
namespace VL
open PySem PySem.Spec L2 RT RZ PyProof.Rows HT
end VL
set_option Elab.async false
set_option linter.all false
set_option maxRecDepth 100000
set_option maxHeartbeats 1000000
namespace VL
open PySem PySem.Spec L2 RT RZ PyProof.Rows HT
end VL
set_option Elab.async false
set_option linter.all false
set_option maxRecDepth 100000
set_option maxHeartbeats 2000000
set_option Elab.async false
set_option linter.all false
set_option maxRecDepth 100000
set_option maxHeartbeats 2000000
namespace ZL
open PySem PySem.Calls PyProof.Rows PySem.Spec
def ZS (h : Heap) (z TI TO i1 i2 : Addr) (St1 St2 : Nat → Heap → Prop) (S : Addr) (i : Nat) : Prop :=
  IsTupOf2 h TI (.ref i1) (.ref i2) ∧ St1 i h ∧ St2 i h ∧ ((IsZip h z TI TO .none ∧ ∃ a b, IsTupOf2 h TO a b) ∨ ∃ T f oT, IsZipHeld h z TI TO T f ∧ h.get? T = some oT ∧ T ≠ z ∧ T ≠ i1 ∧ T ≠ i2 ∧ T ≠ S)
structure PairsAt (P1 P2 : Nat → Value → Prop) (lo : Addr) (h : Heap) (as : List Addr) : Prop where
  rise : as.Pairwise (· < ·)
  above : ∀ a ∈ as, lo < a
  pairs : ∀ (j : Nat) (a : Addr), as[j]? = some a → ∃ x y, P1 j x ∧ P2 j y ∧ h.get? a = some { cls := .type "tuple", data := .seq #[x, y] }
theorem PairsAt.there {P1 P2 : Nat → Value → Prop} {lo : Addr} {h : Heap} {as : List Addr} (g : PairsAt P1 P2 lo h as) {a : Addr} (ha : a ∈ as) : a < h.objs.size := by
  obtain ⟨j, hj⟩ := List.mem_iff_getElem?.mp ha
  obtain ⟨_, _, _, _, e⟩ := g.pairs j a hj
  exact Heap.lt_size e
theorem PairsAt.keep {P1 P2 : Nat → Value → Prop} {lo : Addr} {h h' : Heap} {as : List Addr} (g : PairsAt P1 P2 lo h as) (hk : ∀ b o, lo < b → h.get? b = some o → h'.get? b = some o) : PairsAt P1 P2 lo h' as :=
  ⟨g.rise, g.above, fun j a hj => let ⟨x, y, p, q, e⟩ := g.pairs j a hj; ⟨x, y, p, q, hk a _ (g.above a (List.mem_of_getElem? hj)) e⟩⟩
section
variable {prog : Program} {w : World} {A : Around} {E : Value → Shared → Prop} {s : Shared} {z TI TO i1 i2 S : Addr} {fp1 fp2 : List Addr} {n1 n2 i : Nat} {P1 P2 : Nat → Value → Prop} {St1 St2 : Nat → Heap → Prop}
theorem ZS.keep {h h' : Heap} (Z : ZipSep2 z TI TO i1 i2 fp1 fp2) (D1 : Draws prog w A i1 fp1 n1 P1 St1) (D2 : Draws prog w A i2 fp2 n2 P2 St2) (hlt : ∀ b ∈ z :: TI :: TO :: (fp1 ++ fp2), b < S) (g : ZS h z TI TO i1 i2 St1 St2 S i)
    (hk : ∀ b o, b ≠ S → h.get? b = some o → h'.get? b = some o) : ZS h' z TI TO i1 i2 St1 St2 S i := by
  have ne : ∀ b ∈ z :: TI :: TO :: (fp1 ++ fp2), b ≠ S := fun b hb => Nat.ne_of_lt (hlt b hb)
  obtain ⟨hTI, st1, st2, hz⟩ := g
  refine ⟨hk _ _ (ne _ (by simp)) hTI, D1.frame _ _ _ st1 fun b hb o e => hk b o (ne b (by simp [hb])) e, D2.frame _ _ _ st2 fun b hb o e => hk b o (ne b (by simp [hb])) e, ?_⟩
  rcases hz with ⟨hz, a, b, hTO⟩ | ⟨T, f, oT, hz, hT, r1, r2, r3, r4⟩
  · exact .inl ⟨hk _ _ (ne _ (by simp)) hz, a, b, hk _ _ (ne _ (by simp)) hTO⟩
  · exact .inr ⟨T, f, oT, hk _ _ (ne _ (by simp)) hz, hk _ _ r4 hT, r1, r2, r3, r4⟩
end
end ZL
set_option Elab.async false
set_option linter.all false
set_option maxRecDepth 100000
set_option maxHeartbeats 2000000
namespace VL
open PySem PySem.Spec L2 RT RZ PyProof.Rows
end VL
set_option Elab.async false
set_option linter.all false
set_option maxRecDepth 100000
set_option maxHeartbeats 1000000
namespace VL
open PySem PySem.Spec L2 RT RZ PyProof.Rows HT
end VL
set_option Elab.async false
set_option linter.all false
set_option maxRecDepth 100000
set_option maxHeartbeats 4000000
namespace VL
open PySem PySem.Spec L2 RT RZ PyProof.Rows HT
def refsI : List (D ⊕ Nat) → List Nat
  | [] => []
  | .inl _ :: r => refsI r
  | .inr n :: r => n :: refsI r
def reI (ns : List Nat) : D ⊕ Nat → D ⊕ Nat
  | .inl d => .inl d
  | .inr n => .inr (ns.idxOf n)
/-- what is lent: alive, once, the cells of an object ahead of it -/
structure Lent (M : Mem) (ι : Ix) (ns : List Nat) : Prop where
  nd : ns.Nodup
  al : ∀ n ∈ ns, ∃ a, ι[n]? = some (some a)
  bf : ∀ (p n : Nat) (k : Kd) (its : List (D ⊕ Nat)), ns[p]? = some n → M[n]? = some (.nd k its) → ∀ j ∈ refsI its, ∃ q, q < p ∧ ns[q]? = some j
theorem Lent.nil {M : Mem} {ι : Ix} : Lent M ι [] := ⟨List.nodup_nil, fun _ h => by simp at h, fun p n k its h => by simp at h⟩
section
variable {K : PySem.W.Frag} {G : Gd} {δ : DS} {M : Mem} {ι : Ix} {σ : L2.St} {H : Hp} {i0 : List Addr}
theorem Lent.sub {ns : List Nat} (L : Lent M ι ns) (hi : i0.map some = ns.map (fun n => (ι[n]?).join)) : ∀ b ∈ i0, some b ∈ ι := fun b hb => by
  have : some b ∈ i0.map some := by simpa using hb
  rw [hi] at this
  obtain ⟨m, hm1, hm2⟩ := List.mem_map.mp this
  obtain ⟨c, hb⟩ := L.al m hm1
  rw [hb] at hm2; cases hm2
  exact List.mem_of_getElem? hb
theorem Lent.one {ns : List Nat} {n : Nat} {a : Addr} (L : Lent M ι ns) (hn : n ∉ ns) (ha : ι[n]? = some (some a)) (hf : ∀ k its, M[n]? ≠ some (.nd k its)) : Lent M ι (ns ++ [n]) := by
  refine ⟨?_, fun m hm => ?_, fun p m k its hp hm j hj => ?_⟩
  · rw [List.nodup_append]; refine ⟨L.nd, by simp, fun x hx y hy => ?_⟩
    simp only [List.mem_singleton] at hy; subst hy; rintro rfl; exact hn hx
  · rcases List.mem_append.mp hm with hm | hm
    · exact L.al m hm
    · simp only [List.mem_singleton] at hm; subst hm; exact ⟨a, ha⟩
  · by_cases hl : p < ns.length
    · rw [List.getElem?_append_left hl] at hp
      obtain ⟨q, hq, e⟩ := L.bf p m k its hp hm j hj
      exact ⟨q, hq, by rw [List.getElem?_append_left (by omega)]; exact e⟩
    · rw [List.getElem?_append_right (by omega)] at hp
      have := List.mem_of_getElem? hp
      rw [List.mem_singleton.mp this] at hm
      exact absurd hm (hf k its)
theorem Lent.many {ns rs : List Nat} (L : Lent M ι ns) (nd : rs.Nodup) (h : ∀ r ∈ rs, r ∉ ns ∧ (∃ a, ι[r]? = some (some a)) ∧ ∀ k its, M[r]? ≠ some (.nd k its)) : Lent M ι (ns ++ rs) := by
  induction rs generalizing ns with
  | nil => simpa using L
  | cons r rs ih =>
    obtain ⟨h1, ⟨a, h2⟩, h3⟩ := h r List.mem_cons_self
    have L2 := L.one h1 h2 h3
    have := ih L2 (List.nodup_cons.mp nd).2 fun q hq => by
      obtain ⟨g1, g2, g3⟩ := h q (List.mem_cons_of_mem _ hq)
      refine ⟨fun hm => ?_, g2, g3⟩
      rcases List.mem_append.mp hm with hm | hm
      · exact g1 hm
      · rw [List.mem_singleton.mp hm] at hq
        exact (List.nodup_cons.mp nd).1 hq
    rw [List.append_assoc] at this
    exact this
theorem Lent.obj {ns : List Nat} {n : Nat} {a : Addr} {k : Kd} {its : List (D ⊕ Nat)} (L : Lent M ι ns) (hn : n ∉ ns) (ha : ι[n]? = some (some a)) (hM : M[n]? = some (.nd k its)) (nd : (refsI its).Nodup)
    (h : ∀ r ∈ refsI its, r ∉ ns ∧ (∃ a, ι[r]? = some (some a)) ∧ ∀ k its, M[r]? ≠ some (.nd k its)) : Lent M ι (ns ++ (refsI its ++ [n])) := by
  have L2 := L.many nd h
  have hn2 : n ∉ ns ++ refsI its := fun hm => by
    rcases List.mem_append.mp hm with hm | hm
    · exact hn hm
    · exact (h n hm).2.2 _ _ hM
  rw [← List.append_assoc]
  refine ⟨?_, fun m hm => ?_, fun p m k' its' hp hm j hj => ?_⟩
  · rw [List.nodup_append]; refine ⟨L2.nd, by simp, fun x hx y hy => ?_⟩
    simp only [List.mem_singleton] at hy; subst hy; rintro rfl; exact hn2 hx
  · rcases List.mem_append.mp hm with hm | hm
    · exact L2.al m hm
    · simp only [List.mem_singleton] at hm; subst hm; exact ⟨a, ha⟩
  · by_cases hl : p < (ns ++ refsI its).length
    · rw [List.getElem?_append_left hl] at hp
      obtain ⟨q, hq, e⟩ := L2.bf p m k' its' hp hm j hj
      exact ⟨q, hq, by rw [List.getElem?_append_left (by omega)]; exact e⟩
    · rw [List.getElem?_append_right (by omega)] at hp
      have := List.mem_of_getElem? hp
      rw [List.mem_singleton.mp this, hM] at hm
      cases hm
      obtain ⟨q, hq⟩ := List.getElem?_of_mem (show j ∈ ns ++ refsI its from List.mem_append_right _ hj)
      have hql := (List.getElem?_eq_some_iff.mp hq).1
      exact ⟨q, by omega, by rw [List.getElem?_append_left hql]; exact hq⟩
end
end VL
set_option Elab.async false
set_option linter.all false
set_option maxRecDepth 100000
set_option maxHeartbeats 4000000
namespace VL
open PySem PySem.Spec L2 RT RZ PyProof.Rows HT
end VL
set_option Elab.async false
set_option linter.all false
set_option maxRecDepth 100000
set_option maxHeartbeats 4000000
namespace VL
open PySem PySem.Spec L2 RT RZ PyProof.Rows HT
theorem SameF.names : ∀ {a b : List (Str × V)}, SameF a b → a.map (·.1) = b.map (·.1)
  | _, _, .nil => rfl
  | _, _, .cons h t => by rw [List.map_cons, List.map_cons, h.1, SameF.names t]
end VL
set_option Elab.async false
set_option linter.all false
set_option maxRecDepth 100000
set_option maxHeartbeats 4000000
namespace VL
open PySem PySem.Spec L2 RT RZ PyProof.Rows HT
section
variable {K : PySem.W.Frag} {G : Gd} {δ : DS} {M : Mem} {ι : Ix} {σ : L2.St} {H : Hp} {i0 : List Addr}
theorem at_idx {ns : List Nat} {t : Nat} (h : t ∈ ns) : ns[ns.idxOf t]? = some t := by
  have hl := List.idxOf_lt_length_of_mem h
  rw [List.getElem?_eq_getElem hl, List.getElem_idxOf hl]
theorem RIs.re {ns : List Nat} (L : Lent M ι ns) (hi : i0.map some = ns.map (fun n => (ι[n]?).join)) : ∀ {its : List (D ⊕ Nat)} {xs : List V}, (∀ t ∈ refsI its, t ∈ ns) → RIs K G.N H ι its xs → RIs K (NB (Bc G ι i0)) H (i0.map some) (its.map (reI ns)) xs
  | [], _, _, h => h
  | .inl d :: its, xs, hl, h => by
    obtain ⟨x, r, rfl, h1, h2⟩ := h
    exact ⟨x, r, rfl, RD.dn (L.sub hi) h1, RIs.re L hi hl h2⟩
  | .inr t :: its, xs, hl, h => by
    obtain ⟨x, r, rfl, ⟨a, e, q⟩, h2⟩ := h
    have ht : t ∈ ns := hl t List.mem_cons_self
    obtain ⟨b, hb⟩ := L.al t ht
    have hab : a = b := by
      rcases q with q | q
      · rw [hb] at q; cases q; rfl
      · rw [hb] at q; cases q
    refine ⟨x, r, rfl, ⟨a, e, .inl ?_⟩, RIs.re L hi (fun q hq => hl q (List.mem_cons_of_mem _ hq)) h2⟩
    rw [hi, List.getElem?_map, at_idx ht]
    simp [hb, hab]
end
end VL
set_option Elab.async false
set_option linter.all false
set_option maxRecDepth 100000
set_option maxHeartbeats 2000000
namespace VL
open PySem PySem.Spec L2 RT RZ PyProof.Rows HT
end VL
set_option Elab.async false
set_option linter.all false
set_option maxRecDepth 100000
set_option maxHeartbeats 2000000
namespace VL
open PySem PySem.Spec L2 RT RZ PyProof.Rows HT
end VL
set_option Elab.async false
set_option linter.all false
set_option maxRecDepth 100000
set_option maxHeartbeats 2000000
namespace VL
open PySem PySem.Spec L2 RT RZ PyProof.Rows HT
end VL
set_option Elab.async false
set_option linter.all false
set_option maxRecDepth 100000
set_option maxHeartbeats 2000000
namespace VL
open PySem PySem.Spec L2 RT RZ PyProof.Rows HT
end VL
set_option Elab.async false
set_option linter.all false
set_option maxRecDepth 100000
set_option maxHeartbeats 2000000
namespace VL
open PySem PySem.Spec L2 RT RZ PyProof.Rows HT
theorem RIs.app {K : PySem.W.Frag} {N : Bool → Addr → Prop} {H : Hp} {ι : Ix} {it : D ⊕ Nat} {v : V} (h : RI K N H ι it v) : ∀ {its : List (D ⊕ Nat)} {xs : List V}, RIs K N H ι its xs → RIs K N H ι (its ++ [it]) (xs ++ [v])
  | [], xs, g => by cases (show _ = _ from g); exact ⟨v, [], rfl, h, rfl⟩
  | d :: its, xs, g => by
    obtain ⟨y, r, rfl, g1, g2⟩ := g
    exact ⟨y, r ++ [v], rfl, g1, RIs.app h g2⟩
end VL
set_option Elab.async false
set_option linter.all false
set_option maxRecDepth 100000
set_option maxHeartbeats 4000000
namespace VL
open PySem PySem.Spec L2 RT RZ PyProof.Rows HT
end VL
set_option Elab.async false
set_option linter.all false
set_option maxRecDepth 100000
set_option maxHeartbeats 4000000
namespace VL
open PySem PySem.Spec L2 RT RZ PyProof.Rows HT
end VL
set_option Elab.async false
set_option linter.all false
set_option maxRecDepth 100000
set_option maxHeartbeats 4000000
namespace VL
open PySem PySem.Spec L2 RT RZ PyProof.Rows HT
section
variable {K : PySem.W.Frag} {G : Gd} {δ : DS} {M : Mem} {ι : Ix} {σ : L2.St} {H : Hp} {i0 : List Addr}
/-- names of new cells, as the caller counts them -/
def shI (k n : Nat) : D ⊕ Nat → D ⊕ Nat
  | .inl d => .inl d
  | .inr j => .inr (j - k + n)
theorem RIs.sh {H' : Hp} {r : Ix} (S : Sr K G δ M ι σ H) (kp : Kp (i0.map some) H (i0.map some ++ r) H') (kk : ∀ a o, H' a = some o → some a ∉ ι ++ r → True) : ∀ {its : List (D ⊕ Nat)} {xs : List V}, (∀ j, Sum.inr j ∈ its → i0.length ≤ j) → RIs K (NB (Bc G ι i0)) H' (i0.map some ++ r) its xs → RIs K G.N H' (ι ++ r) (its.map (shI i0.length ι.length)) xs
  | [], _, _, h => h
  | .inl d :: its, xs, hl, h => by
    obtain ⟨x, t, rfl, h1, h2⟩ := h
    exact ⟨x, t, rfl, RD.up S kp h1, RIs.sh S kp kk (fun j hj => hl j (List.mem_cons_of_mem _ hj)) h2⟩
  | .inr n :: its, xs, hl, h => by
    obtain ⟨x, t, rfl, ⟨a, e, q⟩, h2⟩ := h
    have hn := hl n List.mem_cons_self
    have at1 : (ι ++ r)[n - i0.length + ι.length]? = (i0.map some ++ r)[n]? := by
      rw [List.getElem?_append_right (by omega), List.getElem?_append_right (by simpa using hn)]
      congr 1
      simp
    refine ⟨x, t, rfl, ⟨a, e, ?_⟩, RIs.sh S kp kk (fun j hj => hl j (List.mem_cons_of_mem _ hj)) h2⟩
    rw [at1]; exact q
end
end VL
set_option Elab.async false
set_option linter.all false
set_option maxRecDepth 100000
set_option maxHeartbeats 4000000
namespace VL
open PySem PySem.Spec L2 RT RZ PyProof.Rows HT
end VL
set_option Elab.async false
set_option linter.all false
set_option maxRecDepth 100000
set_option maxHeartbeats 2000000
namespace VL
open PySem PySem.Spec L2 RT RZ PyProof.Rows HT
end VL
set_option Elab.async false
set_option linter.all false
set_option maxRecDepth 100000
set_option maxHeartbeats 2000000
namespace VL
open PySem PySem.Spec L2 RT RZ PyProof.Rows HT
end VL
set_option Elab.async false
set_option linter.all false
set_option maxRecDepth 100000
set_option maxHeartbeats 4000000
namespace VL
open PySem PySem.Spec L2 RT RZ PyProof.Rows
end VL
set_option Elab.async false
set_option linter.all false
set_option maxRecDepth 100000
set_option maxHeartbeats 2000000
namespace VL
open PySem PySem.Spec L2 RT RZ PyProof.Rows
end VL
set_option Elab.async false
set_option linter.all false
set_option maxRecDepth 100000
set_option maxHeartbeats 2000000
namespace VL
open PySem PySem.Spec L2 RT RZ PyProof.Rows
end VL
set_option Elab.async false
set_option linter.all false
set_option maxRecDepth 100000
set_option maxHeartbeats 2000000
namespace VL
open PySem PySem.Spec L2 RT RZ PyProof.Rows HT
def dropKD (kvs : List (Key × D)) (k : Key) : List (Key × D) := kvs.filter fun kv => decide (kv.1 ≠ k)
section
variable {K : PySem.W.Frag} {X : Cx} {N : Bool → Addr → Prop} {H : Hp} {ι : Ix} {G : Gd} {δ : DS} {M : Mem} {σ : L2.St}
theorem RK.drop {k : Key} : ∀ {kvs : List (Key × D)} {ws : List (Key × V)}, RK K N H ι kvs ws → RK K N H ι (dropKD kvs k) (dropK ws k)
  | [], ws, h => by rw [h.nil_inv]; exact RK.nil
  | (j, d) :: kvs, ws, h => by
    obtain ⟨v, ws', rfl, r, h'⟩ := h.inv
    have ih := RK.drop (k := k) h'
    unfold dropKD dropK at ih ⊢
    by_cases e : j = k
    · rw [List.filter_cons_of_neg (by simp [e]), List.filter_cons_of_neg (by simp [e])]; exact ih
    · rw [List.filter_cons_of_pos (by simp [e]), List.filter_cons_of_pos (by simp [e])]; exact RK.cons r ih
end
end VL
set_option Elab.async false
set_option linter.all false
set_option maxRecDepth 100000
set_option maxHeartbeats 4000000
namespace VL
open PySem PySem.Spec L2 RT RZ PyProof.Rows HT
open L2.DX (itemsO itemsO_ok takeT)
section
variable {X : Cx}
/-- pairs of an int and something -/
def IsIP (h : Heap) (v : Value) (n : Int) : Prop := ∃ a o t u k, v = .ref a ∧ h.get? a = some o ∧ o.cls = .type "tuple" ∧ o.data = .seq #[.int n t, u] k
theorem IsIP.keeps {h h' : Heap} {v : Value} {n : Int} (p : IsIP h v n) (k : ∀ b o, h.get? b = some o → o.cls = .type "tuple" → h'.get? b = some o) : IsIP h' v n := by
  obtain ⟨a, o, t, u, m, e, ho, hc, hd⟩ := p
  exact ⟨a, o, t, u, m, e, k _ _ ho hc, hc, hd⟩
end
end VL
set_option Elab.async false
set_option linter.all false
set_option maxRecDepth 100000
set_option maxHeartbeats 4000000
namespace VL
open PySem PySem.Spec L2 RT RZ
/-- a list that was not there at the start -/
abbrev NF (H : Hp) (ι : Ix) : Bool → Addr → Prop := fun b a => b = true → ∀ o, H a = some o → some a ∈ ι
section
variable {K : PySem.W.Frag} {G : Gd} {δ : DS} {M : Mem} {ι : Ix} {σ : L2.St} {H : Hp}
theorem NF.to {ι' : Ix} {H' : Hp} (k : Kp ι H ι' H') {b : Bool} {a : Addr} (h : NF H' ι' b a) : NF H ι b a := fun hb o e => by
  by_cases hi : some a ∈ ι
  · exact hi
  · obtain ⟨q, n⟩ := k a o e hi
    exact absurd (h hb o q) n
mutual
/-- what is known of the lists' places may be told otherwise -/
theorem RD.nn {N N' : Bool → Addr → Prop} (h : ∀ a xs, H a = some (.lst xs) → some a ∉ ι → N true a → N' true a) : ∀ (d : D) (v : V), RD K N H ι d v → RD K N' H ι d v := RD.go (fun a xs q n => ⟨q, n⟩) (fun a o l q n => ⟨q, n⟩) (fun a xs q n z => ⟨q, n, h a xs q n z⟩)
theorem RDs.nn {N N' : Bool → Addr → Prop} (h : ∀ a xs, H a = some (.lst xs) → some a ∉ ι → N true a → N' true a) : ∀ (d : List D) (v : List V), RDs K N H ι d v → RDs K N' H ι d v := RDs.go (fun a xs q n => ⟨q, n⟩) (fun a o l q n => ⟨q, n⟩) (fun a xs q n z => ⟨q, n, h a xs q n z⟩)
end
/-- all that is there stays -/
theorem Sr.grown {H' : Hp} (S : Sr K G δ M ι σ H) (k : ∀ a o, H a = some o → H' a = some o) : Sr K G δ M ι σ H' := by
  have kk : Kp ι H ι H' := fun a o e n => ⟨k a o e, n⟩
  refine ⟨S.len, fun i d e => ?_, ⟨S.mem.len, S.mem.nod, fun n c a e1 e2 => ?_, S.mem.gone, S.mem.wf⟩, S.pre, S.kp.trans kk, S.new, S.bad, fun a ha => ⟨(S.hid a ha).1, ?_⟩, ?_⟩
  · obtain ⟨v, e1, r⟩ := S.slot i d e
    exact ⟨v, e1, r.mono kk (Ex.refl _) (fun _ _ _ _ z => z)⟩
  · have q := S.mem.cell n c a e1 e2
    obtain ⟨o, ho⟩ := q.has
    exact q.mono kk (Ex.refl _) (fun _ _ _ _ z => z) (by rw [ho, k a o ho])
  · obtain ⟨u, q⟩ := (S.hid a ha).2
    exact ⟨u, k a u q⟩
  · intro a ha
    obtain ⟨u, hu⟩ := S.i0there a ha
    obtain ⟨o1, o2⟩ := S.obk a ha
    refine ⟨fun C dx fs e => ?_, fun C dx fs e => ?_⟩
    · obtain ⟨fs', e', s⟩ := o1 C dx fs e
      exact ⟨fs', k a _ e', s⟩
    · rw [k a u hu] at e
      exact o2 C dx fs (by rw [hu]; exact e)
end
end VL
set_option Elab.async false
set_option linter.all false
set_option maxRecDepth 100000
set_option maxHeartbeats 2000000
namespace VL
open PySem PySem.Spec L2 RT RZ PyProof.Rows HT
open L2.DX (itemsO)
end VL
set_option Elab.async false
set_option linter.all false
set_option maxRecDepth 100000
set_option maxHeartbeats 2000000
namespace VL
open PySem PySem.Spec L2 RT RZ PyProof.Rows HT
end VL
set_option Elab.async false
set_option linter.all false
set_option maxRecDepth 100000
set_option maxHeartbeats 2000000
namespace VL
open PySem PySem.Spec L2 RT RZ PyProof.Rows HT
end VL
set_option Elab.async false
set_option linter.all false
set_option maxRecDepth 100000
set_option maxHeartbeats 4000000
namespace VL
open PySem PySem.Spec L2 RT RZ PyProof.Rows HT
end VL
set_option Elab.async false
set_option linter.all false
set_option maxRecDepth 100000
set_option maxHeartbeats 4000000
namespace VL
open PySem PySem.Spec L2 RT RZ PyProof.Rows
end VL
set_option Elab.async false
set_option linter.all false
set_option maxRecDepth 100000
set_option maxHeartbeats 4000000
namespace VL
open PySem PySem.Spec L2 RT RZ PyProof.Rows
def tkDs : List D → Option (List NestedKey)
  | [] => some []
  | d :: ds => (tkD d).bind fun k => (tkDs ds).map fun ks => k :: ks
mutual
theorem tk0_inj : ∀ (a b : D) (k : NestedKey), tk0 a = some k → tk0 b = some k → a = b
  | .non, b, k, h1, h2 => by
    cases h1
    cases b with
    | non => rfl
    | tup ds => obtain ⟨ks, _, e⟩ := Option.map_eq_some_iff.mp (show (tk0s ds).map NestedKey.tup = _ from h2); cases e
    | _ => cases h2
  | .int i, b, k, h1, h2 => by
    cases h1
    cases b with
    | int j => cases h2; rfl
    | tup ds => obtain ⟨ks, _, e⟩ := Option.map_eq_some_iff.mp (show (tk0s ds).map NestedKey.tup = _ from h2); cases e
    | _ => cases h2
  | .str x, b, k, h1, h2 => by
    cases h1
    cases b with
    | str y => cases h2; rfl
    | tup ds => obtain ⟨ks, _, e⟩ := Option.map_eq_some_iff.mp (show (tk0s ds).map NestedKey.tup = _ from h2); cases e
    | _ => cases h2
  | .tup ds, b, k, h1, h2 => by
    obtain ⟨ks, e1, rfl⟩ := Option.map_eq_some_iff.mp (show (tk0s ds).map NestedKey.tup = some k from h1)
    cases b with
    | tup es =>
      obtain ⟨ks', e2, e3⟩ := Option.map_eq_some_iff.mp (show (tk0s es).map NestedKey.tup = _ from h2)
      cases e3
      rw [tk0s_inj ds es ks e1 e2]
    | _ => cases h2
  | .bl _, _, _, h1, _ => by cases h1
  | .lst _, _, _, h1, _ => by cases h1
  | .scr _, _, _, h1, _ => by cases h1
  | .fn _, _, _, h1, _ => by cases h1
  | .ty _, _, _, h1, _ => by cases h1
  | .dn _ _, _, _, h1, _ => by cases h1
  | .dk _ _, _, _, h1, _ => by cases h1
  | .cls _, _, _, h1, _ => by cases h1
  | .exc _ _, _, _, h1, _ => by cases h1
theorem tk0s_inj : ∀ (as bs : List D) (ks : List NestedKey), tk0s as = some ks → tk0s bs = some ks → as = bs
  | [], [], _, _, _ => rfl
  | [], b :: bs, ks, h1, h2 => by
    cases h1
    obtain ⟨k, _, e⟩ := Option.bind_eq_some_iff.mp (show (tk0 b).bind _ = _ from h2)
    obtain ⟨_, _, e⟩ := Option.map_eq_some_iff.mp e
    cases e
  | a :: as, [], ks, h1, h2 => by
    cases h2
    obtain ⟨k, _, e⟩ := Option.bind_eq_some_iff.mp (show (tk0 a).bind _ = _ from h1)
    obtain ⟨_, _, e⟩ := Option.map_eq_some_iff.mp e
    cases e
  | a :: as, b :: bs, ks, h1, h2 => by
    obtain ⟨k, e1, e2⟩ := Option.bind_eq_some_iff.mp (show (tk0 a).bind _ = _ from h1)
    obtain ⟨ks1, e3, rfl⟩ := Option.map_eq_some_iff.mp e2
    obtain ⟨k', e4, e5⟩ := Option.bind_eq_some_iff.mp (show (tk0 b).bind _ = _ from h2)
    obtain ⟨ks2, e6, e7⟩ := Option.map_eq_some_iff.mp e5
    cases e7
    rw [tk0_inj a b k e1 e4, tk0s_inj as bs ks1 e3 e6]
end
theorem tkD_some {d : D} {k : NestedKey} (e : tkD d = some k) : ∃ ds ks, d = .tup ds ∧ k = .tup ks ∧ tk0s ds = some ks ∧ (NestedKey.tup ks).depth ≤ 8 := by
  cases d with
  | tup ds =>
    obtain ⟨ks, e1, e2⟩ := Option.bind_eq_some_iff.mp (show (tk0s ds).bind _ = some k from e)
    by_cases h : (NestedKey.tup ks).depth ≤ 8
    · rw [if_pos h] at e2; cases e2; exact ⟨ds, ks, rfl, rfl, e1, h⟩
    · rw [if_neg h] at e2; cases e2
  | _ => cases e
theorem tkD_inj {a b : D} {k : NestedKey} (h1 : tkD a = some k) (h2 : tkD b = some k) : a = b := by
  obtain ⟨ds, ks, rfl, rfl, e1, _⟩ := tkD_some h1
  obtain ⟨es, ks', rfl, e, e2, _⟩ := tkD_some h2
  cases e
  rw [tk0s_inj ds es ks e1 e2]
section
variable {X : Cx} {pins : List (Addr × Obj)} {σ : L2.St} {H : Hp} {s : Shared} {N : Bool → Addr → Prop} {ι : Ix}
mutual
theorem rd_key (I : Inv X pins σ H s) : ∀ (d : D) (v : V) (k : NestedKey) (u : Value), RD X.K N H ι d v → tk0 d = some k → RelV v u → NestedIs s.heap k u
  | .non, v, k, u, r, e, ru => by
    cases e
    rw [show v = .non from r] at ru
    rw [show u = Value.none from ru]; exact .none
  | .int i, v, k, u, r, e, ru => by
    cases e
    rw [show v = .int i from r] at ru
    obtain ⟨t, rfl⟩ := ru
    exact .int i t
  | .str x, v, k, u, r, e, ru => by
    cases e
    rw [show v = .str x from r] at ru
    obtain ⟨t, rfl⟩ := ru
    exact .text x t
  | .tup ds, v, k, u, r, e, ru => by
    obtain ⟨ks, e1, rfl⟩ := Option.map_eq_some_iff.mp (show (tk0s ds).map NestedKey.tup = some k from e)
    obtain ⟨a, xs, rfl, q, _, r⟩ := r
    obtain ⟨its, rv, ⟨o, ho, hc, n, hd⟩, _⟩ := I.tuple (tup_sq q)
    rw [show u = Value.ref a from ru]
    exact .tup ho hc hd (by simpa using rds_key I ds xs ks its r e1 rv)
  | .bl _, _, _, _, _, e, _ => by cases e
  | .lst _, _, _, _, _, e, _ => by cases e
  | .scr _, _, _, _, _, e, _ => by cases e
  | .fn _, _, _, _, _, e, _ => by cases e
  | .ty _, _, _, _, _, e, _ => by cases e
  | .dn _ _, _, _, _, _, e, _ => by cases e
  | .dk _ _, _, _, _, _, e, _ => by cases e
  | .cls _, _, _, _, _, e, _ => by cases e
  | .exc _ _, _, _, _, _, e, _ => by cases e
theorem rds_key (I : Inv X pins σ H s) : ∀ (ds : List D) (vs : List V) (ks : List NestedKey) (us : List Value), RDs X.K N H ι ds vs → tk0s ds = some ks → Vals vs us → NestedAll s.heap ks us
  | [], vs, ks, us, r, e, rv => by
    cases e
    rw [show vs = [] from r] at rv
    cases rv; exact .nil
  | d :: ds, vs, ks, us, r, e, rv => by
    obtain ⟨k, e1, e2⟩ := Option.bind_eq_some_iff.mp (show (tk0 d).bind _ = _ from e)
    obtain ⟨ks1, e3, rfl⟩ := Option.map_eq_some_iff.mp e2
    obtain ⟨x, rest, rfl, h1, h2⟩ := r
    cases rv with
    | cons r1 rv => exact .cons (rd_key I d x k _ h1 e1 r1) (rds_key I ds rest ks1 _ h2 e3 rv)
end
/-- in every heap that H tells of, the tuple at a is this key -/
def HKey (K : PySem.W.Frag) (H : Hp) (k : NestedKey) (a : Addr) : Prop := ∀ (X : Cx) (pins : List (Addr × Obj)) (σ : L2.St) (s : Shared), X.K = K → Inv X pins σ H s → NKey s.heap k a
theorem rds_keys {K : PySem.W.Frag} : ∀ {ds : List D} {vs : List V} {kss : List NestedKey}, tkDs ds = some kss → RDs K N H ι ds vs → ∃ ks : KyL, vs = ks.map (fun p => V.ref p.1) ∧ ks.map (·.2) = kss ∧ ∀ p ∈ ks, HKey K H p.2 p.1 ∧ ∃ d ∈ ds, tkD d = some p.2 ∧ RD K N H ι d (.ref p.1)
  | [], vs, kss, e, r => by cases e; cases (show vs = [] from r); exact ⟨[], rfl, rfl, fun p h => absurd h List.not_mem_nil⟩
  | d :: ds, vs, kss, e, r => by
    obtain ⟨k, e1, e2⟩ := Option.bind_eq_some_iff.mp (show (tkD d).bind _ = some kss from e)
    obtain ⟨kss', e3, rfl⟩ := Option.map_eq_some_iff.mp e2
    obtain ⟨x, rest, rfl, g1, g2⟩ := r
    obtain ⟨ks, rfl, rfl, h⟩ := rds_keys e3 g2
    obtain ⟨es, ks', rfl, rfl, e4, hd⟩ := tkD_some e1
    obtain ⟨b, ys, rfl, _⟩ := id g1
    refine ⟨(b, .tup ks') :: ks, rfl, rfl, fun p hp => ?_⟩
    rcases List.mem_cons.mp hp with rfl | hp
    · exact ⟨fun X pins σ s hK I => by subst hK; exact ⟨rd_key I (.tup es) (.ref b) (.tup ks') (.ref b) g1 (by show (tk0s es).map _ = _; rw [e4]; rfl) rfl, hd⟩, .tup es, List.mem_cons_self, e1, g1⟩
    · obtain ⟨h1, d', h2, h3⟩ := h p hp
      exact ⟨h1, d', List.mem_cons_of_mem _ h2, h3⟩
end
theorem refs_of_keys : ∀ {ks : KyL} {us : List Value}, Vals (ks.map fun p => V.ref p.1) us → us = ks.map fun p => Value.ref p.1
  | [], _, .nil => rfl
  | p :: ks, _, .cons r t => by
    cases r
    rw [refs_of_keys t]; rfl
section
variable {X : Cx} {G : Gd} {K : PySem.W.Frag} {a e : Expr} {p p2 q pos : Pos} {ta : TE'}
def leSetN (M : Mem) (x : Sv) : Option Sv := (lstD M x).bind fun ds => (tkDs ds).bind fun kss => gd ((dstK kss).length < 306) (.d (.int (dstK kss).length))
def tLeSetN (K : PySem.W.Frag) (ta : TE) : TE := fun σ H Q => ta σ H fun x H1 => ∃ (l : Addr) (ks : KyL), x = .ref l ∧ SqL K H1 l (ks.map fun p => V.ref p.1) ∧ (∀ p ∈ ks, HKey K H1 p.2 p.1) ∧ (dstK (ks.map (·.2))).length < 306 ∧ Q (.int (dstK (ks.map (·.2))).length) H1
theorem pe_lenSetN {ta : TE} (hu : X.A.units + 63 < cLine) (hc : X.calm = true) (hg : Gl X "len") (hm : X.mg "len" = none) (hg2 : Gl X "set") (hm2 : X.mg "set" = none) (ha : PE X a ta)
    (na : starEach [a] X.env = (false, eval a X.env) :: starEach [] X.env := by rfl) : PE X (.Call (.Name "len" p) [.Call (.Name "set" p2) [a] [] q] [] pos) (tLeSetN X.K ta) := by
  refine ⟨fun pins s σ H Q I h => Call_ (ld_blt I hg hm bt_len (PyProof.Rows.callWith_builtin1 (PyProof.Rows.args_cons (Call_ (ld_blt I hg2 hm2 bt_set (PyProof.Rows.callWith_type1 (PyProof.Rows.args_cons (thn (ha.run pins s σ H _ I h) fun v s1 ⟨x, H1, I1, r1, q1⟩ => PyProof.Rows.args_nil ?_) na) na rfl))) rfl) rfl rfl))⟩
  obtain ⟨l, ks, rfl, hq, hk, hf, q1⟩ := q1
  cases r1
  obtain ⟨its, rv, pl, hz⟩ := I1.list hq
  have hit := refs_of_keys rv
  have ht : ∀ p ∈ ks, NKey s1.heap p.2 p.1 := fun p hp => hk p hp X _ _ _ rfl I1
  refine call_set_l (Φ := fun h S => ∃ L es ep t, SetG X.w h S L es ep t ∧ GotK ks ks.length L ∧ ∀ p ∈ ks, NKey h p.2 p.1) pl.isList (new_set_keys (P := X.prog) (items := its.toArray) ks (by simpa using I1.ok.hd hc) ((pl.isList.push _).push _) (by simpa using hit) (fun p hp => (ht p hp).kept fun b o e => Heap.get?_push_of_some _ (Heap.get?_push_of_some _ e)) hf (by show X.A.units + 1 + 1 + 1 + 8 < cLine; omega)) fun h' tk ⟨L, es, ep, t, R, g, k3⟩ k' => ?_
  refine PyProof.Rows.args_nil ?_
  obtain ⟨o, ho, hex, hd⟩ := R.obj
  have hsz := R.size (s := { s1 with heap := h' })
  have hgl := gotK_len R.unl g
  have I2 : Inv X pins σ H1 { s1 with heap := h', toks := tk } := I1.kept fun b o e => k' b o e
  exact call_len_set ho hex hd (R.fits (s := { s1 with heap := h' })) (by omega) ⟨.int (dstK (ks.map (·.2))).length, H1, I2.tok _, ⟨_, by rw [hsz, hgl]⟩, q1⟩
theorem ve_lenSetN (hu : X.A.units + 63 < cLine) (hc : X.calm = true) (hg : Gl X "len") (hm : X.mg "len" = none) (hg2 : Gl X "set") (hm2 : X.mg "set" = none) (ha : VE X G a ta)
    (na : starEach [a] X.env = (false, eval a X.env) :: starEach [] X.env := by rfl) : VE X G (.Call (.Name "len" p) [.Call (.Name "set" p2) [a] [] q] [] pos) (eo1 leSetN ta) :=
  PE.weak (pe_lenSetN hu hc hg hm hg2 hm2 ha na) fun σ H Q ⟨δ, M, ι, Q0, S, h, z⟩ => th1 S h fun x M1 ι1 H1 v q1 p1 k1 S1 r1 => by
    obtain ⟨d, e, q1⟩ := ok_elim q1
    obtain ⟨es, e1, e2⟩ := Option.bind_eq_some_iff.mp e
    obtain ⟨kss, e3, e4⟩ := Option.bind_eq_some_iff.mp e2
    obtain ⟨hf, rfl⟩ := gd_some e4
    obtain ⟨b, xs, rfl, hq, rx⟩ := lst_of S1 r1 e1
    obtain ⟨ks, rfl, rfl, hk⟩ := rds_keys e3 rx
    exact ⟨b, ks, rfl, hq, fun p hp => (hk p hp).1, hf, z _ M1 ι1 H1 _ q1 p1 k1 S1 rfl⟩
end
end VL
set_option Elab.async false
set_option linter.all false
set_option maxRecDepth 100000
set_option maxHeartbeats 4000000
namespace VL
open PySem PySem.Spec L2 RT RZ PyProof.Rows
end VL
set_option Elab.async false
set_option linter.all false
set_option maxRecDepth 100000
set_option maxHeartbeats 4000000
namespace VL
open PySem PySem.Spec L2 RT RZ PyProof.Rows PySem.W PySem.Calls PyProof.V
end VL
set_option Elab.async false
set_option linter.all false
set_option maxRecDepth 100000
set_option maxHeartbeats 4000000
namespace VL
open PySem PySem.Spec L2 RT RZ PyProof.Rows
theorem bls_reads {h : Heap} : ∀ {bs : List Bool} {its : List Value}, Vals (bs.map V.bl) its → ReadsAll h its (bs.map PyData.bool) []
  | [], _, .nil => .nil
  | b :: bs, _, .cons r t => by
    cases r
    exact .cons (.bool b) (bls_reads t)
theorem min_bls : ∀ (bs : List Bool) (b : Bool), PySem.W.minD (.bool b) (bs.map PyData.bool) = .bool (b && bs.all id)
  | [], b => by simp [PySem.W.minD]
  | c :: bs, b => by
    have h : PySem.W.minD (.bool b) ((c :: bs).map PyData.bool) = PySem.W.minD (if PySem.W.dataLt (.bool c) (.bool b) then .bool c else .bool b) (bs.map PyData.bool) := rfl
    have e : (if PySem.W.dataLt (.bool c) (.bool b) then PyData.bool c else .bool b) = .bool (b && c) := by cases b <;> cases c <;> rfl
    rw [h, e, min_bls bs, List.all_cons, Bool.and_assoc]; rfl
theorem max_bls : ∀ (bs : List Bool) (b : Bool), PySem.W.maxD (.bool b) (bs.map PyData.bool) = .bool (b || bs.any id)
  | [], b => by simp [PySem.W.maxD]
  | c :: bs, b => by
    have h : PySem.W.maxD (.bool b) ((c :: bs).map PyData.bool) = PySem.W.maxD (if PySem.W.dataLt (.bool b) (.bool c) then .bool c else .bool b) (bs.map PyData.bool) := rfl
    have e : (if PySem.W.dataLt (.bool b) (.bool c) then PyData.bool c else .bool b) = .bool (b || c) := by cases b <;> cases c <;> rfl
    rw [h, e, max_bls bs, List.any_cons, Bool.or_assoc]; rfl
theorem alike_bls (bs : List Bool) : PySem.W.AlikeAll (bs.map PyData.bool) := by
  refine ⟨fun x hx y hy => ?_, fun x hx => ?_⟩
  · obtain ⟨a, _, rfl⟩ := List.mem_map.mp hx
    obtain ⟨b, _, rfl⟩ := List.mem_map.mp hy
    rfl
  · obtain ⟨a, _, rfl⟩ := List.mem_map.mp hx
    exact fun z => by cases z
theorem dep_bls : ∀ bs : List Bool, PyData.depthAll (bs.map PyData.bool) = 0
  | [] => rfl
  | b :: bs => by
    simp only [List.map_cons, PyData.depthAll, dep_bls bs]; rfl
def rMinB (g : Bool → List Bool → Bool) (K : PySem.W.Frag) : List V → Hp → VK → Prop := fun vs H Q => ∃ (a : Addr) (b : Bool) (bs : List Bool), vs = [.ref a] ∧ SqT K H a ((b :: bs).map V.bl) ∧ Q (.bl (g b bs)) H
theorem cr_minB {X : Cx} (hc : X.calm = true) (hu : X.A.units + 1 < cLine) : CallR X (.builtin "min") (rMinB (fun b bs => b && bs.all id) X.K) := by
  intro pins s σ H vs us Q I r ⟨a, b, bs, e, hq, q⟩
  subst e
  obtain ⟨its, rv, pl, hlz⟩ := I.tuple hq
  rw [Vals.ref1 r]
  refine PySem.W.min_tuple_data (x := .bool b) (xs := bs.map PyData.bool) (I.ok.hd hc) (vs := its.toArray) pl (by simpa using bls_reads (h := s.heap) rv) (alike_bls (b :: bs)) (by rw [show (PyData.bool b :: bs.map PyData.bool) = (b :: bs).map PyData.bool from rfl, dep_bls]; exact hu) fun i v h' tk bs' hv hr hk => ?_
  rw [min_bls] at hr
  cases hr
  exact ⟨.bl _, H, I.kept hk, rfl, q⟩
theorem cr_maxB {X : Cx} (hc : X.calm = true) (hu : X.A.units + 1 < cLine) : CallR X (.builtin "max") (rMinB (fun b bs => b || bs.any id) X.K) := by
  intro pins s σ H vs us Q I r ⟨a, b, bs, e, hq, q⟩
  subst e
  obtain ⟨its, rv, pl, hlz⟩ := I.tuple hq
  rw [Vals.ref1 r]
  refine PySem.W.max_tuple_data (x := .bool b) (xs := bs.map PyData.bool) (I.ok.hd hc) (vs := its.toArray) pl (by simpa using bls_reads (h := s.heap) rv) (alike_bls (b :: bs)) (by rw [show (PyData.bool b :: bs.map PyData.bool) = (b :: bs).map PyData.bool from rfl, dep_bls]; exact hu) fun i v h' tk bs' hv hr hk => ?_
  rw [max_bls] at hr
  cases hr
  exact ⟨.bl _, H, I.kept hk, rfl, q⟩
def minBD (g : Bool → List Bool → Bool) (_ : Mem) : List Sv → Option Sv
  | [.d (.tup ds)] => match blsOf ds with
    | some (b :: bs) => some (.d (.bl (g b bs)))
    | _ => none
  | _ => none
abbrev minBB : Mem → List Sv → Option Sv := minBD fun b bs => b && bs.all id
abbrev maxBB : Mem → List Sv → Option Sv := minBD fun b bs => b || bs.any id
theorem rd_minB {g : Bool → List Bool → Bool} {K : PySem.W.Frag} : RdN K (rMinB g K) (minBD g) := by
  intro G δ M ι σ H xs vs d S r e Q z
  unfold minBD at e
  split at e
  · rename_i ds
    split at e
    · rename_i b bs hb
      cases e
      have hds := blsOf_some hb
      subst hds
      obtain ⟨v, rfl, ra⟩ := one_of r
      obtain ⟨a, ws, rfl, hq, _, r2⟩ := ra
      have key : ∀ (l : List Bool) (ws : List V), RDs K G.N H ι (l.map D.bl) ws → ws = l.map V.bl := fun l => by
        induction l with
        | nil => intro ws h; exact h
        | cons c l ih =>
          intro ws h
          obtain ⟨x, rest, rfl, h1, h2⟩ := h
          rw [ih rest h2, show x = .bl c from h1]; rfl
      have hw := key (b :: bs) ws r2
      subst hw
      exact ⟨a, b, bs, rfl, tup_sq hq, z _ _ _ (Ex.refl _) (Kp.refl _ _) S rfl⟩
    · cases e
  · cases e
end VL
set_option Elab.async false
set_option linter.all false
set_option maxRecDepth 100000
set_option maxHeartbeats 4000000
namespace VL
open PySem PySem.Spec L2 RT RZ
/-- all but these stays -/
def Kept (A : Addr → Prop) (H H' : Hp) : Prop := ∀ a o, H a = some o → ¬ A a → H' a = some o
/-- these are lists, of at most n items -/
def Lsts (A : Addr → Prop) (n : Nat) (H : Hp) : Prop := ∀ a, A a → ∃ xs, H a = some (.lst xs) ∧ xs.length ≤ n
theorem Kept.refl {A : Addr → Prop} {H : Hp} : Kept A H H := fun _ _ e _ => e
theorem Kept.trans {A B C : Addr → Prop} {H H1 H2 : Hp} (h : Kept A H H1) (g : Kept B H1 H2) (ha : ∀ a, A a → C a) (hb : ∀ a, B a → C a) : Kept C H H2 := fun a o e n => g a o (h a o e fun z => n (ha a z)) fun z => n (hb a z)
theorem Lsts.grown {A : Addr → Prop} {n : Nat} {H H' : Hp} (h : Lsts A n H) (k : ∀ a o, H a = some o → H' a = some o) : Lsts A n H' := fun a ha => by
  obtain ⟨xs, e, l⟩ := h a ha
  exact ⟨xs, k a _ e, l⟩
/-- where a record's parts lie: a tuple, or a list that stays -/
def RecAt (K : PySem.W.Frag) (H : Hp) (p : Addr) (xs : List V) : Prop := KT K p xs ∨ H p = some (.tup xs) ∨ H p = some (.lst xs)
theorem RecAt.kept {K : PySem.W.Frag} {H H' : Hp} {p : Addr} {xs : List V} {A : Addr → Prop} (h : RecAt K H p xs) (k : Kept A H H') (n : KT K p xs ∨ ¬ A p) : RecAt K H' p xs := by
  rcases n with n | n
  · exact .inl n
  rcases h with h | h | h
  · exact .inl h
  · exact .inr (.inl (k p _ h n))
  · exact .inr (.inr (k p _ h n))
end VL
set_option Elab.async false
set_option linter.all false
set_option maxRecDepth 100000
set_option maxHeartbeats 4000000
namespace VL
open PySem PySem.Spec L2 RT RZ
end VL
set_option Elab.async false
set_option linter.all false
set_option maxRecDepth 100000
set_option maxHeartbeats 1000000
namespace Zk17
open PySem PySem.Spec L2 RT RZ VL
def top (i : Nat) : Stmt := PySem.Challenge.pw_countforms_k17_ladders_looked_at.main.body.getD i (.Pass ⟨0, 0, 0, 0⟩)
def c_PARTED : D := (.tup [(.str "and"), (.str "or")])
abbrev s_rows_below : Stmt := top 2
def N_rows_below : List Str := ["row"]
def t_rows_below  : TS' :=
  (sSeq (sIf (cP (bB (po2 inD (po2 ixD (pV 0) (pC (.int 0))) (pC c_PARTED))))
  (sRet (eNw (fP (plN listF [(po2 ixD (pV 0) (pC (.int 1)))]))))
  sNil)
  (sRet (eIf (cP (bB (po2 eqD (po2 ixD (pV 0) (pC (.int 0))) (pC (.str "pick"))))) (eNw (fP (plN listF [(poSl (pV 0) (poI (pC (.int 2))) poNo)]))) (eNw (fP (plLst []))))))
theorem sc_rows_below : FnScope N_rows_below ["row"] (defScope s_rows_below) := C8.fnScope_by (by decide +kernel)
theorem d_rows_below {P : Program} {w : World} {K : PySem.W.Frag} {mg : Str → Option Value} {base : Heap} {f : Addr} {k : Nat} (m_list : mg "list" = none) {u_PARTED : Value} (hm_PARTED : mg "PARTED" = some u_PARTED) (kv_PARTED : KV K c_PARTED u_PARTED) :
    ∀ (cdv : Value) (A : Around) (outer : List Env) (s : Shared) (H : Hp) (E : XK) (G : Gd), RoomG k (A.deeper (PyProof.Rows.envOfC "rows_below" (defScope s_rows_below) s.heap.objs.size f cdv)) → G.i0.length = 0 →
      VSs (cxOf C8.CX0 P w K mg base N_rows_below "rows_below" (defScope s_rows_below) f cdv A outer s H E).nox G (defBody s_rows_below) (t_rows_below ) := by
  intro cdv A outer s H E G hr hG
  have hU : ∀ n : Nat, n ≤ 200 → (A.deeper (PyProof.Rows.envOfC "rows_below" (defScope s_rows_below) s.heap.objs.size f cdv)).units + n < cLine := fun n hn => by have := hr.rm.un; omega
  exact (vss_cons (vs_if (VT.pureB2 (vt_cmp (op_inX (hU 65 (by decide))) rd_in (VE.pure2 (ve_idx (ve_v 0) ve_int)) (ve_glob rfl hm_PARTED kv_PARTED) rfl)) (vss_one (vs_ret (VF.nw (VF.pN (vf_callTy call_list_of rd_list rfl m_list bt_list (va_p (VE.pure2 (ve_idx (ve_v 0) ve_int)) va_p0)))))) vss_nil)
  (vss_one (vs_ret (ve_if (VT.pureB2 (vt_cmp (op_eqX (hU 64 (by decide))) rd_eq (VE.pure2 (ve_idx (ve_v 0) ve_int)) ve_str (nomark _))) (VF.nw (VF.pN (vf_callTy call_list_of rd_list rfl m_list bt_list (va_p (ve_slice (ve_v 0) (vo_some ve_int) vo_none) va_p0)))) (VF.nw (VF.pLst (vf_lst va_p0)))))))
abbrev s_reached : Stmt := top 3
def N_reached : List Str := ["web", "there", "place", "part", "one"]
def t_reached (sp_rows_below : SpD) : TS' :=
  (sSeq (sSet 1 (eNw (fP (pl2 repF (pFz (plLst [(pC (.bl false))])) (poN lenD [(pV 0)])))))
  (sSeq (sSub (eP (pC (.bl true))) (eP (pV 1)) (eP (po1 negD (pC (.int 1)))))
  (sSeq (sFor (iRg false (aP [(po2 subD (poN lenD [(pV 0)]) (pC (.int 1))), (po1 negD (pC (.int 1))), (po1 negD (pC (.int 1)))])) (gNm 2)
  (sIf (cP (bTr (po2 ixD (pV 1) (pV 2))))
  (sFor (iSq (eSeal 0 (eCall [false] sp_rows_below (aP [(po2 ixD (pV 0) (pV 2))])))) (gNm 3)
  (sSub (eP (pC (.bl true))) (eP (pV 1)) (eP (pV 3))))
  sNil))
  (sRet (eNw (fLc (iEn (eP (pV 1))) (.tp [2, 4]) (cP (bTr (pV 4))) (eP (pV 2)) [2, 4]))))))
theorem nd_reached : N_reached.Nodup := by decide
theorem sc_reached : FnScope N_reached ["web"] (defScope s_reached) := C8.fnScope_by (by decide +kernel)
theorem d_reached {P : Program} {w : World} {K : PySem.W.Frag} {mg : Str → Option Value} {base : Heap} {f : Addr} {k : Nat} (m_len : mg "len" = none) (m_range : mg "range" = none) (m_enumerate : mg "enumerate" = none) {sp_rows_below : SpD} {k_rows_below : Nat} (ca_rows_below : Ca P w K mg base k_rows_below "rows_below" 1 sp_rows_below) (hk_rows_below : k_rows_below ≤ k) :
    ∀ (cdv : Value) (A : Around) (outer : List Env) (s : Shared) (H : Hp) (E : XK) (G : Gd), RoomG k (A.deeper (PyProof.Rows.envOfC "reached" (defScope s_reached) s.heap.objs.size f cdv)) → G.i0.length = 0 →
      VSs (cxOf C8.CX0 P w K mg base N_reached "reached" (defScope s_reached) f cdv A outer s H E).nox G (defBody s_reached) (t_reached sp_rows_below) := by
  intro cdv A outer s H E G hr hG
  have hU : ∀ n : Nat, n ≤ 200 → (A.deeper (PyProof.Rows.envOfC "reached" (defScope s_reached) s.heap.objs.size f cdv)).units + n < cLine := fun n hn => by have := hr.rm.un; omega
  exact (vss_cons (vs_set nd_reached rfl (by first | exact Or.inl rfl | exact Or.inr rfl) (VF.nw (VF.p2 (vf_rep (VF.pure (VF.pLst (vf_lst (va_p ve_bl va_p0)))) (VE.pureN (ve_callB call_lenX rd_len rfl m_len bt_len (va_p (ve_v 0) va_p0)))))))
  (vss_cons (vs_sub ve_bl (ve_v 1) (VE.pure1 (ve_neg ve_int)))
  (vss_cons (vs_for (bd := false) PassesOwn.never rfl (vi_range3 rfl m_range (va_p (VE.pure2 (ve_sub (VE.pureN (ve_callB call_lenX rd_len rfl m_len bt_len (va_p (ve_v 0) va_p0))) ve_int)) (va_p (VE.pure1 (ve_neg ve_int)) (va_p (VE.pure1 (ve_neg ve_int)) va_p0)))) (vg_name nd_reached rfl (by first | exact Or.inl rfl | exact Or.inr rfl)) (vss_one (vs_if (VT.pure (vt_val (VE.pure2 (ve_idx (ve_v 1) (ve_v 2))))) (vss_one (vs_for (bd := false) PassesOwn.never rfl (vi_sq (VE.seal hG (ve_call [false] ca_rows_below hr hk_rows_below rfl (va_p (VE.pure2 (ve_idx (ve_v 0) (ve_v 2))) va_p0)))) (vg_name nd_reached rfl (by first | exact Or.inl rfl | exact Or.inr rfl)) (vss_one (vs_sub ve_bl (ve_v 1) (ve_v 3))))) vss_nil)))
  (vss_one (vs_ret (VF.nw (vf_lc (own := [("place", 2), ("one", 4)]) rfl nd_reached (vi_enum rfl m_enumerate (ve_v 1)) (blkOk_by (show blkC N_reached (defScope s_reached) _ _ = true by decide +kernel)) (fun s H C cl fp => pg_tup rfl (pgs_cons (pg_name nd_reached rfl (by first | exact Or.inl rfl | exact Or.inr rfl) (by first | exact Or.inr rfl | exact Or.inl rfl)) (pgs_cons (pg_name nd_reached rfl (by first | exact Or.inl rfl | exact Or.inr rfl) (by first | exact Or.inr rfl | exact Or.inl rfl)) pgs_nil))) (fun s H C cl fp G hG' => vts_one (VT.pure (vt_val (ve_v 4)))) (fun s H C cl fp G hG' => (ve_v 2)) (by decide))))))))
abbrev s_next_asked : Stmt := top 5
def N_next_asked : List Str := ["web", "place", "found", "left", "part"]
def t_next_asked (sp_rows_below : SpD) : TS' :=
  (sSeq (sSet 2 eDkN)
  (sSeq (sSet 3 (eCall [false] sp_rows_below (aP [(po2 ixD (pV 0) (pV 1))])))
  (sSeq (sWh (cP (bB (po2 gtD (poN lenD [(pV 3)]) (pC (.int 0)))))
  (sSeq (sSet 4 (eMt "list" mPop (eP (pV 3)) (aP [])))
  (sIf (cP (bB (po2 dninD (pV 4) (pV 2))))
  (sSeq (sSubK (eP (po2 inD (po2 ixD (po2 ixD (pV 0) (pV 4)) (pC (.int 0))) (poTup [(pC (.str "pick")), (pC (.str "has"))]))) (eP (pV 2)) (eP (pV 4)))
  (sIf (cP (bNt (bTr (po2 dgetD (pV 2) (pV 4)))))
  (sDrop (eMt "list" mExt (eP (pV 3)) (aCons (eSeal 0 (eCall [false] sp_rows_below (aP [(po2 ixD (pV 0) (pV 4))]))) (aP []))))
  sNil))
  sNil)))
  (sRet (eNw (fN sortF (aCons (eFz (fKif 2 4)) (aP []))))))))
theorem nd_next_asked : N_next_asked.Nodup := by decide
theorem sc_next_asked : FnScope N_next_asked ["web", "place"] (defScope s_next_asked) := C8.fnScope_by (by decide +kernel)
theorem d_next_asked {P : Program} {w : World} {K : PySem.W.Frag} {mg : Str → Option Value} {base : Heap} {f : Addr} {k : Nat} (m_len : mg "len" = none) (m_sorted : mg "sorted" = none) {sp_rows_below : SpD} {k_rows_below : Nat} (ca_rows_below : Ca P w K mg base k_rows_below "rows_below" 1 sp_rows_below) (hk_rows_below : k_rows_below ≤ k) :
    ∀ (cdv : Value) (A : Around) (outer : List Env) (s : Shared) (H : Hp) (E : XK) (G : Gd), RoomG k (A.deeper (PyProof.Rows.envOfC "next_asked" (defScope s_next_asked) s.heap.objs.size f cdv)) → G.i0.length = 0 →
      VSs (cxOf C8.CX0 P w K mg base N_next_asked "next_asked" (defScope s_next_asked) f cdv A outer s H E).nox G (defBody s_next_asked) (t_next_asked sp_rows_below) := by
  intro cdv A outer s H E G hr hG
  have hU : ∀ n : Nat, n ≤ 200 → (A.deeper (PyProof.Rows.envOfC "next_asked" (defScope s_next_asked) s.heap.objs.size f cdv)).units + n < cLine := fun n hn => by have := hr.rm.un; omega
  exact (vss_cons (vs_set nd_next_asked rfl (by first | exact Or.inl rfl | exact Or.inr rfl) ve_dnew)
  (vss_cons (vs_set nd_next_asked rfl (by first | exact Or.inl rfl | exact Or.inr rfl) (ve_call [false] ca_rows_below hr hk_rows_below rfl (va_p (VE.pure2 (ve_idx (ve_v 0) (ve_v 1))) va_p0)))
  (vss_cons (vs_while PassesOwn.never (VT.pureB2 (vt_cmp op_gt rd_gt (VE.pureN (ve_callB call_lenX rd_len rfl m_len bt_len (va_p (ve_v 3) va_p0))) ve_int (nomark _))) (vss_cons (vs_set nd_next_asked rfl (by first | exact Or.inl rfl | exact Or.inr rfl) (ve_mt0 F.plainAttrs_list F.slot_list_pop rfl mt_pop rd_pop (ve_v 3)))
  (vss_one (vs_if (VT.pureB2 (vt_cmp (op_dnin (hU 1 (by decide))) rd_dnin (ve_v 4) (ve_v 2) rfl)) (vss_cons (vs_subK (hU 1 (by decide)) (VE.pure2 (ve_cmp (op_inX (hU 65 (by decide))) rd_in (VE.pure2 (ve_idx (VE.pure2 (ve_idx (ve_v 0) (ve_v 4))) ve_int)) (VE.pTup (ve_tup (va_p ve_str (va_p ve_str va_p0)))) rfl)) (ve_v 2) (ve_v 4))
  (vss_one (vs_if (VT.pNot (vt_not (VT.pure (vt_val (VE.pure2 (ve_dget (hU 1 (by decide)) (ve_v 2) (ve_v 4))))))) (vss_one (vs_expr (ve_mt F.plainAttrs_list F.slot_list_extend rfl mt_extend rd_ext (ve_v 3) (va_cons (VE.seal hG (ve_call [false] ca_rows_below hr hk_rows_below rfl (va_p (VE.pure2 (ve_idx (ve_v 0) (ve_v 4))) va_p0))) va_p0)))) vss_nil))) vss_nil))))
  (vss_one (vs_ret (VF.nw (vf_callB cr_sortedI rd_sort rfl m_sorted bt_sorted (va_cons (VF.fz (vf_kif (hU 1 (by decide)) rfl nd_next_asked (by decide) (pe_var rfl (by first | exact Or.inl rfl | exact Or.inr (Or.inl rfl) | exact Or.inr (Or.inr rfl))) (blkOk_by (show blkC N_next_asked (defScope s_next_asked) _ _ = true by decide +kernel)) (fun s H C cl fp => pg_name nd_next_asked rfl (by first | exact Or.inl rfl | exact Or.inr rfl) (by first | exact Or.inr rfl | exact Or.inl rfl)) (fun s H C cl fp => pe_var rfl (by first | exact Or.inl rfl | exact Or.inr (Or.inl rfl) | exact Or.inr (Or.inr rfl))) (fun s H C cl fp => pe_var rfl (by first | exact Or.inl rfl | exact Or.inr (Or.inl rfl) | exact Or.inr (Or.inr rfl))) (fun s H C cl fp => pe_var rfl (by first | exact Or.inl rfl | exact Or.inr (Or.inl rfl) | exact Or.inr (Or.inr rfl))))) va_p0))))))))
abbrev s_late_in : Stmt := top 6
def N_late_in : List Str := ["web", "order", "spots", "place", "row", "part", "spot", "name"]
def t_late_in (sp_next_asked : SpD) : TS' :=
  (sSeq (sSet 2 (eDictOf (eFz (fLc (iEn (eP (pV 1))) (.tp [6, 7]) tYs (eP (poTup [(pV 7), (pV 6)])) [6, 7]))))
  (sSeq (sFor (iEn (eP (pV 0))) (gTp [3, 4])
  (sIf (cP (bB (po2 eqD (po2 ixD (pV 4) (pC (.int 0))) (pC (.str "pick")))))
  (sFor (iSq (eSeal 0 (eCall [false, false] sp_next_asked (aP [(pV 0), (pV 3)])))) (gNm 5)
  (sIf (cP (bB (po2 leD (po2 dgetD (pV 2) (po2 ixD (po2 ixD (pV 0) (pV 5)) (pC (.int 1)))) (po2 dgetD (pV 2) (po2 ixD (pV 4) (pC (.int 1)))))))
  (sRet (eP (poTup [(pV 3), (pV 5)])))
  sNil))
  sNil))
  (sRet (eP (pC .non)))))
theorem nd_late_in : N_late_in.Nodup := by decide
theorem sc_late_in : FnScope N_late_in ["web", "order"] (defScope s_late_in) := C8.fnScope_by (by decide +kernel)
theorem d_late_in {P : Program} {w : World} {K : PySem.W.Frag} {mg : Str → Option Value} {base : Heap} {f : Addr} {k : Nat} (m_enumerate : mg "enumerate" = none) (m_dict : mg "dict" = none) {sp_next_asked : SpD} {k_next_asked : Nat} (ca_next_asked : Ca P w K mg base k_next_asked "next_asked" 2 sp_next_asked) (hk_next_asked : k_next_asked ≤ k) :
    ∀ (cdv : Value) (A : Around) (outer : List Env) (s : Shared) (H : Hp) (E : XK) (G : Gd), RoomG k (A.deeper (PyProof.Rows.envOfC "late_in" (defScope s_late_in) s.heap.objs.size f cdv)) → G.i0.length = 0 →
      VSs (cxOf C8.CX0 P w K mg base N_late_in "late_in" (defScope s_late_in) f cdv A outer s H E).nox G (defBody s_late_in) (t_late_in sp_next_asked) := by
  intro cdv A outer s H E G hr hG
  have hU : ∀ n : Nat, n ≤ 200 → (A.deeper (PyProof.Rows.envOfC "late_in" (defScope s_late_in) s.heap.objs.size f cdv)).units + n < cLine := fun n hn => by have := hr.rm.un; omega
  exact (vss_cons (vs_set nd_late_in rfl (by first | exact Or.inl rfl | exact Or.inr rfl) (ve_dictOf rfl rfl m_dict (VF.fz (vf_lc (own := [("spot", 6), ("name", 7)]) rfl nd_late_in (vi_enum rfl m_enumerate (ve_v 1)) (blkOk_by (show blkC N_late_in (defScope s_late_in) _ _ = true by decide +kernel)) (fun s H C cl fp => pg_tup rfl (pgs_cons (pg_name nd_late_in rfl (by first | exact Or.inl rfl | exact Or.inr rfl) (by first | exact Or.inr rfl | exact Or.inl rfl)) (pgs_cons (pg_name nd_late_in rfl (by first | exact Or.inl rfl | exact Or.inr rfl) (by first | exact Or.inr rfl | exact Or.inl rfl)) pgs_nil))) (fun s H C cl fp G hG' => vts_nil) (fun s H C cl fp G hG' => (VE.pTup (ve_tup (va_p (ve_v 7) (va_p (ve_v 6) va_p0))))) (by decide)))))
  (vss_cons (vs_for (bd := false) PassesOwn.never rfl (vi_enum rfl m_enumerate (ve_v 0)) (vg_tup rfl (vgs_cons nd_late_in rfl (by first | exact Or.inl rfl | exact Or.inr rfl) (vgs_cons nd_late_in rfl (by first | exact Or.inl rfl | exact Or.inr rfl) vgs_nil))) (vss_one (vs_if (VT.pureB2 (vt_cmp (op_eqX (hU 64 (by decide))) rd_eq (VE.pure2 (ve_idx (ve_v 4) ve_int)) ve_str (nomark _))) (vss_one (vs_for (bd := false) PassesOwn.never rfl (vi_sq (VE.seal hG (ve_call [false, false] ca_next_asked hr hk_next_asked rfl (va_p (ve_v 0) (va_p (ve_v 3) va_p0))))) (vg_name nd_late_in rfl (by first | exact Or.inl rfl | exact Or.inr rfl)) (vss_one (vs_if (VT.pureB2 (vt_cmp op_le rd_le (VE.pure2 (ve_dget (hU 1 (by decide)) (ve_v 2) (VE.pure2 (ve_idx (VE.pure2 (ve_idx (ve_v 0) (ve_v 5))) ve_int)))) (VE.pure2 (ve_dget (hU 1 (by decide)) (ve_v 2) (VE.pure2 (ve_idx (ve_v 4) ve_int)))) (nomark _))) (vss_one (vs_ret (VE.pTup (ve_tup (va_p (ve_v 3) (va_p (ve_v 5) va_p0)))))) vss_nil)))) vss_nil)))
  (vss_one (vs_ret ve_non))))
abbrev s_is_ladder : Stmt := top 7
def N_is_ladder : List Str := ["web", "order", "row"]
def t_is_ladder (sp_late_in : SpD) (sp_reached : SpD) : TS' :=
  (sSeq (sIf (tOrr (tNt (tTr (eoN allD (aCons (eFz (fLc (iPq (pV 0)) (.nm 2) tYs (eP (po2 inD (po2 ixD (pV 2) (pC (.int 0))) (poTup [(pC (.str "yes")), (pC (.str "no")), (pC (.str "pick"))]))) [2])) (aP []))))) (tTb (eo2 isntD (eCall [false, false] sp_late_in (aP [(pV 0), (pV 1)])) (eP (pC .non)))))
  (sRet (eP (pC (.bl false))))
  sNil)
  (sSeq (sIf (tOrr (cP (bB (po2 ltD (po1 leSetN (pV 0)) (poN lenD [(pV 0)])))) (tTb (eo2 ltD (eoN lenD (aCons (eSeal 0 (eCall [false] sp_reached (aP [(pV 0)]))) (aP []))) (eP (poN lenD [(pV 0)])))))
  (sRet (eP (pC (.bl false))))
  sNil)
  (sRet (eNt (eoN anyD (aCons (eFz (fLc (iPq (pV 0)) (.nm 2) tYs (eP (poAn (po2 eqD (po2 ixD (pV 2) (pC (.int 0))) (pC (.str "pick"))) (po2 eqD (po2 ixD (pV 2) (pC (.int 2))) (po2 ixD (pV 2) (pC (.int 3)))))) [2])) (aP [])))))))
theorem nd_is_ladder : N_is_ladder.Nodup := by decide
theorem sc_is_ladder : FnScope N_is_ladder ["web", "order"] (defScope s_is_ladder) := C8.fnScope_by (by decide +kernel)
theorem d_is_ladder {P : Program} {w : World} {K : PySem.W.Frag} {mg : Str → Option Value} {base : Heap} {f : Addr} {k : Nat} (m_all : mg "all" = none) (m_len : mg "len" = none) (m_set : mg "set" = none) (m_any : mg "any" = none) {sp_late_in : SpD} {k_late_in : Nat} (ca_late_in : Ca P w K mg base k_late_in "late_in" 2 sp_late_in) (hk_late_in : k_late_in ≤ k) {sp_reached : SpD} {k_reached : Nat} (ca_reached : Ca P w K mg base k_reached "reached" 1 sp_reached) (hk_reached : k_reached ≤ k) :
    ∀ (cdv : Value) (A : Around) (outer : List Env) (s : Shared) (H : Hp) (E : XK) (G : Gd), RoomG k (A.deeper (PyProof.Rows.envOfC "is_ladder" (defScope s_is_ladder) s.heap.objs.size f cdv)) → G.i0.length = 0 →
      VSs (cxOf C8.CX0 P w K mg base N_is_ladder "is_ladder" (defScope s_is_ladder) f cdv A outer s H E).nox G (defBody s_is_ladder) (t_is_ladder sp_late_in sp_reached) := by
  intro cdv A outer s H E G hr hG
  have hU : ∀ n : Nat, n ≤ 200 → (A.deeper (PyProof.Rows.envOfC "is_ladder" (defScope s_is_ladder) s.heap.objs.size f cdv)).units + n < cLine := fun n hn => by have := hr.rm.un; omega
  exact (vss_cons (vs_if (VW.vt (vw_or (vt_not (vt_val (ve_callB (cr_all rfl) rd_all rfl m_all bt_all (va_cons (VF.fz (vf_lc (own := [("row", 2)]) rfl nd_is_ladder (vi_pq (ve_v 0)) (blkOk_by (show blkC N_is_ladder (defScope s_is_ladder) _ _ = true by decide +kernel)) (fun s H C cl fp => pg_name nd_is_ladder rfl (by first | exact Or.inl rfl | exact Or.inr rfl) (by first | exact Or.inr rfl | exact Or.inl rfl)) (fun s H C cl fp G hG' => vts_nil) (fun s H C cl fp G hG' => (VE.pure2 (ve_cmp (op_inX (hU 65 (by decide))) rd_in (VE.pure2 (ve_idx (ve_v 2) ve_int)) (VE.pTup (ve_tup (va_p ve_str (va_p ve_str (va_p ve_str va_p0))))) rfl))) (by decide))) va_p0)))) (vw_or1 (vt_cmp op_isntX rd_isnt (ve_call [false, false] ca_late_in hr hk_late_in rfl (va_p (ve_v 0) (va_p (ve_v 1) va_p0))) ve_non (nomark _))))) (vss_one (vs_ret ve_bl)) vss_nil)
  (vss_cons (vs_if (VW.vt (vw_or (VT.pureB2 (vt_cmp op_lt rd_lt (VE.pure1 (ve_lenSetN (hU 63 (by decide)) rfl rfl m_len rfl m_set (ve_v 0))) (VE.pureN (ve_callB call_lenX rd_len rfl m_len bt_len (va_p (ve_v 0) va_p0))) (nomark _))) (vw_or1 (vt_cmp op_lt rd_lt (ve_callB call_lenX rd_len rfl m_len bt_len (va_cons (VE.seal hG (ve_call [false] ca_reached hr hk_reached rfl (va_p (ve_v 0) va_p0))) va_p0)) (VE.pureN (ve_callB call_lenX rd_len rfl m_len bt_len (va_p (ve_v 0) va_p0))) (nomark _))))) (vss_one (vs_ret ve_bl)) vss_nil)
  (vss_one (vs_ret (ve_not (ve_callB (cr_any rfl) rd_any rfl m_any bt_any (va_cons (VF.fz (vf_lc (own := [("row", 2)]) rfl nd_is_ladder (vi_pq (ve_v 0)) (blkOk_by (show blkC N_is_ladder (defScope s_is_ladder) _ _ = true by decide +kernel)) (fun s H C cl fp => pg_name nd_is_ladder rfl (by first | exact Or.inl rfl | exact Or.inr rfl) (by first | exact Or.inr rfl | exact Or.inl rfl)) (fun s H C cl fp G hG' => vts_nil) (fun s H C cl fp G hG' => (VE.pAn (ve_and (VE.pure2 (ve_cmp (op_eqX (hU 64 (by decide))) rd_eq (VE.pure2 (ve_idx (ve_v 2) ve_int)) ve_str (nomark _))) (ve_one (VE.pure2 (ve_cmp (op_eqX (hU 64 (by decide))) rd_eq (VE.pure2 (ve_idx (ve_v 2) ve_int)) (VE.pure2 (ve_idx (ve_v 2) ve_int)) (nomark _))))))) (by decide))) va_p0)))))))
abbrev s__law_cell_at : Stmt := top 9
def N__law_cell_at : List Str := ["_law_script", "_law_k"]
def t__law_cell_at  : TS' :=
  (sRet (eP (poIf (bB (po2 ltD (pV 1) (poN lenD [(pV 0)]))) (po2 ixD (pV 0) (pV 1)) (pC (.int 0)))))
theorem sc__law_cell_at : FnScope N__law_cell_at ["_law_script", "_law_k"] (defScope s__law_cell_at) := C8.fnScope_by (by decide +kernel)
theorem d__law_cell_at {P : Program} {w : World} {K : PySem.W.Frag} {mg : Str → Option Value} {base : Heap} {f : Addr} {k : Nat} (m_len : mg "len" = none) :
    ∀ (cdv : Value) (A : Around) (outer : List Env) (s : Shared) (H : Hp) (E : XK) (G : Gd), RoomG k (A.deeper (PyProof.Rows.envOfC "_law_cell_at" (defScope s__law_cell_at) s.heap.objs.size f cdv)) → G.i0.length = 0 →
      VSs (cxOf C8.CX0 P w K mg base N__law_cell_at "_law_cell_at" (defScope s__law_cell_at) f cdv A outer s H E).nox G (defBody s__law_cell_at) (t__law_cell_at ) := by
  intro cdv A outer s H E G hr hG
  have hU : ∀ n : Nat, n ≤ 200 → (A.deeper (PyProof.Rows.envOfC "_law_cell_at" (defScope s__law_cell_at) s.heap.objs.size f cdv)).units + n < cLine := fun n hn => by have := hr.rm.un; omega
  exact (vss_one (vs_ret (VE.pIf (ve_if (VT.pureB2 (vt_cmp op_lt rd_lt (ve_v 1) (VE.pureN (ve_callB call_lenX rd_len rfl m_len bt_len (va_p (ve_v 0) va_p0))) (nomark _))) (VE.pure2 (ve_idx (ve_v 0) (ve_v 1))) ve_int))))
abbrev s__law_tape : Stmt := top 10
def N__law_tape : List Str := ["_law_script", "_law_k", "_law_cell"]
def t__law_tape (sp__law_cell_at : SpD) : TS' :=
  (sSeq (sSet 2 (eCall [false, false] sp__law_cell_at (aP [(pV 0), (pV 1)])))
  (sRet (eNw (fP (plLst [(po2 mulD (poN absD [(pV 2)]) (poN intD [(po2 geD (poN absD [(pV 2)]) (po2 powD (pC (.int 10)) (pC (.int 18))))])), (po2 modD (po2 mulD (po2 addD (po2 addD (po2 modD (pV 2) (pC (.int 2147483647))) (po2 mulD (po2 mulD (pC (.int 7753)) (pV 1)) (pV 1))) (pC (.int 41))) (pC (.int 48271))) (pC (.int 2147483629))), (pC (.int 0))])))))
theorem nd__law_tape : N__law_tape.Nodup := by decide
theorem sc__law_tape : FnScope N__law_tape ["_law_script", "_law_k"] (defScope s__law_tape) := C8.fnScope_by (by decide +kernel)
theorem d__law_tape {P : Program} {w : World} {K : PySem.W.Frag} {mg : Str → Option Value} {base : Heap} {f : Addr} {k : Nat} (m_abs : mg "abs" = none) (m_int : mg "int" = none) {sp__law_cell_at : SpD} {k__law_cell_at : Nat} (ca__law_cell_at : Ca P w K mg base k__law_cell_at "_law_cell_at" 2 sp__law_cell_at) (hk__law_cell_at : k__law_cell_at ≤ k) :
    ∀ (cdv : Value) (A : Around) (outer : List Env) (s : Shared) (H : Hp) (E : XK) (G : Gd), RoomG k (A.deeper (PyProof.Rows.envOfC "_law_tape" (defScope s__law_tape) s.heap.objs.size f cdv)) → G.i0.length = 0 →
      VSs (cxOf C8.CX0 P w K mg base N__law_tape "_law_tape" (defScope s__law_tape) f cdv A outer s H E).nox G (defBody s__law_tape) (t__law_tape sp__law_cell_at) := by
  intro cdv A outer s H E G hr hG
  have hU : ∀ n : Nat, n ≤ 200 → (A.deeper (PyProof.Rows.envOfC "_law_tape" (defScope s__law_tape) s.heap.objs.size f cdv)).units + n < cLine := fun n hn => by have := hr.rm.un; omega
  exact (vss_cons (vs_set nd__law_tape rfl (by first | exact Or.inl rfl | exact Or.inr rfl) (ve_call [false, false] ca__law_cell_at hr hk__law_cell_at rfl (va_p (ve_v 0) (va_p (ve_v 1) va_p0))))
  (vss_one (vs_ret (VF.nw (VF.pLst (vf_lst (va_p (VE.pure2 (ve_mul (VE.pureN (ve_callB call_abs rd_abs rfl m_abs bt_abs (va_p (ve_v 2) va_p0))) (VE.pureN (ve_callTy call_int1 rd_intC rfl m_int bt_int (va_p (VE.pure2 (ve_cmp op_ge rd_ge (VE.pureN (ve_callB call_abs rd_abs rfl m_abs bt_abs (va_p (ve_v 2) va_p0))) (VE.pure2 (ve_pow ve_int ve_int)) (nomark _))) va_p0))))) (va_p (VE.pure2 (ve_mod (VE.pure2 (ve_mul (VE.pure2 (ve_add (VE.pure2 (ve_add (VE.pure2 (ve_mod (ve_v 2) ve_int)) (VE.pure2 (ve_mul (VE.pure2 (ve_mul ve_int (ve_v 1))) (ve_v 1))))) ve_int)) ve_int)) ve_int)) (va_p ve_int va_p0)))))))))
abbrev s__law_take : Stmt := top 11
def N__law_take : List Str := ["_law_tape_here", "_law_many_here", "_law_prime", "_law_once", "_law_found"]
def t__law_take (sp__law_take : SpD) : TS' :=
  (sSeq (sIf (cP (bB (po2 gtD (po2 ixD (pV 0) (pC (.int 0))) (pC (.int 0)))))
  (sSeq (sSet 4 (eP (po2 modD (po2 ixD (pV 0) (pC (.int 0))) (pV 1))))
  (sSeq (sSub (eP (po2 fdivD (po2 ixD (pV 0) (pC (.int 0))) (pV 1))) (eP (pV 0)) (eP (pC (.int 0))))
  (sRet (eP (pV 4)))))
  sNil)
  (sSeq (sSub (eP (po2 addD (po2 ixD (pV 0) (pC (.int 2))) (pC (.int 1)))) (eP (pV 0)) (eP (pC (.int 2))))
  (sSeq (sSet 2 (eP (po2 ixD (pFz (plLst [(pC (.int 2147483587)), (pC (.int 2147483579)), (pC (.int 2147483563)), (pC (.int 2147483549)), (pC (.int 2147483543)), (pC (.int 2147483497)), (pC (.int 2147483489))])) (po2 modD (po2 ixD (pV 0) (pC (.int 2))) (pC (.int 7))))))
  (sSeq (sSet 3 (eP (po2 modD (po2 mulD (po2 addD (po2 ixD (pV 0) (pC (.int 1))) (po2 mulD (pC (.int 39373)) (po2 ixD (pV 0) (pC (.int 2))))) (po2 addD (pC (.int 48271)) (po2 ixD (pV 0) (pC (.int 2))))) (pV 2))))
  (sSeq (sSub (eP (po2 modD (po2 addD (po2 mulD (pV 3) (po2 addD (po2 modD (pV 3) (pC (.int 40009))) (pC (.int 7)))) (po2 ixD (pV 0) (pC (.int 2)))) (pC (.int 2147483629)))) (eP (pV 0)) (eP (pC (.int 1))))
  (sSeq (sSet 4 (eP (po2 fdivD (po2 modD (po2 mulD (po2 ixD (pV 0) (pC (.int 1))) (po2 addD (po2 modD (po2 ixD (pV 0) (pC (.int 1))) (pC (.int 1009))) (pC (.int 3)))) (pC (.int 998244353))) (pC (.int 7)))))
  (sRet (eIf (cP (bB (po2 ltD (pV 1) (po2 powD (pC (.int 10)) (pC (.int 6)))))) (eP (po2 modD (pV 4) (pV 1))) (eo2 modD (eo2 addD (eP (po2 mulD (pV 4) (pC (.int 99991)))) (eCall [true, false] sp__law_take (aP [(pV 0), (pC (.int 99991))]))) (eP (pV 1)))))))))))
theorem nd__law_take : N__law_take.Nodup := by decide
theorem sc__law_take : FnScope N__law_take ["_law_tape_here", "_law_many_here"] (defScope s__law_take) := C8.fnScope_by (by decide +kernel)
theorem d__law_take {P : Program} {w : World} {K : PySem.W.Frag} {mg : Str → Option Value} {base : Heap} {f : Addr} {k : Nat} {sp__law_take : SpD} {k__law_take : Nat} (ca__law_take : Ca P w K mg base k__law_take "_law_take" 2 sp__law_take) (hk__law_take : k__law_take ≤ k) :
    ∀ (cdv : Value) (A : Around) (outer : List Env) (s : Shared) (H : Hp) (E : XK) (G : Gd), RoomG k (A.deeper (PyProof.Rows.envOfC "_law_take" (defScope s__law_take) s.heap.objs.size f cdv)) → G.i0.length = 1 →
      VSs (cxOf C8.CX0 P w K mg base N__law_take "_law_take" (defScope s__law_take) f cdv A outer s H E).nox G (defBody s__law_take) (t__law_take sp__law_take) := by
  intro cdv A outer s H E G hr hG
  have hU : ∀ n : Nat, n ≤ 200 → (A.deeper (PyProof.Rows.envOfC "_law_take" (defScope s__law_take) s.heap.objs.size f cdv)).units + n < cLine := fun n hn => by have := hr.rm.un; omega
  exact (vss_cons (vs_if (VT.pureB2 (vt_cmp op_gt rd_gt (VE.pure2 (ve_idx (ve_v 0) ve_int)) ve_int (nomark _))) (vss_cons (vs_set nd__law_take rfl (by first | exact Or.inl rfl | exact Or.inr rfl) (VE.pure2 (ve_mod (VE.pure2 (ve_idx (ve_v 0) ve_int)) (ve_v 1))))
  (vss_cons (vs_sub (VE.pure2 (ve_fdiv (VE.pure2 (ve_idx (ve_v 0) ve_int)) (ve_v 1))) (ve_v 0) ve_int)
  (vss_one (vs_ret (ve_v 4))))) vss_nil)
  (vss_cons (vs_sub (VE.pure2 (ve_add (VE.pure2 (ve_idx (ve_v 0) ve_int)) ve_int)) (ve_v 0) ve_int)
  (vss_cons (vs_set nd__law_take rfl (by first | exact Or.inl rfl | exact Or.inr rfl) (VE.pure2 (ve_idx (VF.pure (VF.pLst (vf_lst (va_p ve_int (va_p ve_int (va_p ve_int (va_p ve_int (va_p ve_int (va_p ve_int (va_p ve_int va_p0)))))))))) (VE.pure2 (ve_mod (VE.pure2 (ve_idx (ve_v 0) ve_int)) ve_int)))))
  (vss_cons (vs_set nd__law_take rfl (by first | exact Or.inl rfl | exact Or.inr rfl) (VE.pure2 (ve_mod (VE.pure2 (ve_mul (VE.pure2 (ve_add (VE.pure2 (ve_idx (ve_v 0) ve_int)) (VE.pure2 (ve_mul ve_int (VE.pure2 (ve_idx (ve_v 0) ve_int)))))) (VE.pure2 (ve_add ve_int (VE.pure2 (ve_idx (ve_v 0) ve_int)))))) (ve_v 2))))
  (vss_cons (vs_sub (VE.pure2 (ve_mod (VE.pure2 (ve_add (VE.pure2 (ve_mul (ve_v 3) (VE.pure2 (ve_add (VE.pure2 (ve_mod (ve_v 3) ve_int)) ve_int)))) (VE.pure2 (ve_idx (ve_v 0) ve_int)))) ve_int)) (ve_v 0) ve_int)
  (vss_cons (vs_set nd__law_take rfl (by first | exact Or.inl rfl | exact Or.inr rfl) (VE.pure2 (ve_fdiv (VE.pure2 (ve_mod (VE.pure2 (ve_mul (VE.pure2 (ve_idx (ve_v 0) ve_int)) (VE.pure2 (ve_add (VE.pure2 (ve_mod (VE.pure2 (ve_idx (ve_v 0) ve_int)) ve_int)) ve_int)))) ve_int)) ve_int)))
  (vss_one (vs_ret (ve_if (VT.pureB2 (vt_cmp op_lt rd_lt (ve_v 1) (VE.pure2 (ve_pow ve_int ve_int)) (nomark _))) (VE.pure2 (ve_mod (ve_v 4) (ve_v 1))) (ve_mod (ve_add (VE.pure2 (ve_mul (ve_v 4) ve_int)) (ve_call [true, false] ca__law_take hr hk__law_take rfl (va_p (ve_v 0) (va_p ve_int va_p0)))) (ve_v 1)))))))))))
abbrev s__law_mixed : Stmt := top 12
def N__law_mixed : List Str := ["_law_tape_here", "_law_some", "_law_left", "_law_found"]
def t__law_mixed (sp__law_take : SpD) : TS' :=
  (sSeq (sPar 2 3 (aCons (eNw (fP (plN listF [(pV 1)]))) (aCons (eNw (fP (plLst []))) (aP []))))
  (sSeq (sWh (cP (bB (po2 neD (pV 2) (pFz (plLst [])))))
  (sDrop (eMt "list" mApp (eP (pV 3)) (aCons (eMt "list" mPopAt (eP (pV 2)) (aCons (eCall [true, false] sp__law_take (aP [(pV 0), (poN lenD [(pV 2)])])) (aP []))) (aP [])))))
  (sRet (eP (pV 3)))))
theorem nd__law_mixed : N__law_mixed.Nodup := by decide
theorem sc__law_mixed : FnScope N__law_mixed ["_law_tape_here", "_law_some"] (defScope s__law_mixed) := C8.fnScope_by (by decide +kernel)
theorem d__law_mixed {P : Program} {w : World} {K : PySem.W.Frag} {mg : Str → Option Value} {base : Heap} {f : Addr} {k : Nat} (m_list : mg "list" = none) (m_len : mg "len" = none) {sp__law_take : SpD} {k__law_take : Nat} (ca__law_take : Ca P w K mg base k__law_take "_law_take" 2 sp__law_take) (hk__law_take : k__law_take ≤ k) :
    ∀ (cdv : Value) (A : Around) (outer : List Env) (s : Shared) (H : Hp) (E : XK) (G : Gd), RoomG k (A.deeper (PyProof.Rows.envOfC "_law_mixed" (defScope s__law_mixed) s.heap.objs.size f cdv)) → G.i0.length = 1 →
      VSs (cxOf C8.CX0 P w K mg base N__law_mixed "_law_mixed" (defScope s__law_mixed) f cdv A outer s H E).nox G (defBody s__law_mixed) (t__law_mixed sp__law_take) := by
  intro cdv A outer s H E G hr hG
  have hU : ∀ n : Nat, n ≤ 200 → (A.deeper (PyProof.Rows.envOfC "_law_mixed" (defScope s__law_mixed) s.heap.objs.size f cdv)).units + n < cLine := fun n hn => by have := hr.rm.un; omega
  exact (vss_cons (vs_par rfl nd__law_mixed rfl rfl (by decide) rfl rfl (va_cons (VF.nw (VF.pN (vf_callTy call_list_of rd_list rfl m_list bt_list (va_p (ve_v 1) va_p0)))) (va_cons (VF.nw (VF.pLst (vf_lst va_p0))) va_p0)) rfl)
  (vss_cons (vs_while PassesOwn.never (VT.pureB2 (vt_cmp (op_neX (hU 64 (by decide))) rd_ne (ve_v 2) (VF.pure (VF.pLst (vf_lst va_p0))) (nomark _))) (vss_one (vs_expr (ve_mt F.plainAttrs_list F.slot_list_append rfl mt_append rd_app (ve_v 3) (va_cons (ve_mt F.plainAttrs_list F.slot_list_pop rfl mt_popAt rd_popAt (ve_v 2) (va_cons (ve_call [true, false] ca__law_take hr hk__law_take rfl (va_p (ve_v 0) (va_p (VE.pureN (ve_callB call_lenX rd_len rfl m_len bt_len (va_p (ve_v 2) va_p0))) va_p0))) va_p0)) va_p0)))))
  (vss_one (vs_ret (ve_v 3)))))
abbrev s__law_many : Stmt := top 13
def N__law_many : List Str := ["_law_tape_here", "_law_great"]
def t__law_many (sp__law_take : SpD) : TS' :=
  (sSeq (sSet 1 (eo2 eqD (eCall [true, false] sp__law_take (aP [(pV 0), (pC (.int 8))])) (eP (pC (.int 0)))))
  (sRet (eIf (cP (bTr (pV 1))) (eo2 addD (eP (pC (.int 7))) (eCall [true, false] sp__law_take (aP [(pV 0), (pC (.int 2))]))) (eCall [true, false] sp__law_take (aP [(pV 0), (pC (.int 7))])))))
theorem nd__law_many : N__law_many.Nodup := by decide
theorem sc__law_many : FnScope N__law_many ["_law_tape_here"] (defScope s__law_many) := C8.fnScope_by (by decide +kernel)
theorem d__law_many {P : Program} {w : World} {K : PySem.W.Frag} {mg : Str → Option Value} {base : Heap} {f : Addr} {k : Nat} {sp__law_take : SpD} {k__law_take : Nat} (ca__law_take : Ca P w K mg base k__law_take "_law_take" 2 sp__law_take) (hk__law_take : k__law_take ≤ k) :
    ∀ (cdv : Value) (A : Around) (outer : List Env) (s : Shared) (H : Hp) (E : XK) (G : Gd), RoomG k (A.deeper (PyProof.Rows.envOfC "_law_many" (defScope s__law_many) s.heap.objs.size f cdv)) → G.i0.length = 1 →
      VSs (cxOf C8.CX0 P w K mg base N__law_many "_law_many" (defScope s__law_many) f cdv A outer s H E).nox G (defBody s__law_many) (t__law_many sp__law_take) := by
  intro cdv A outer s H E G hr hG
  have hU : ∀ n : Nat, n ≤ 200 → (A.deeper (PyProof.Rows.envOfC "_law_many" (defScope s__law_many) s.heap.objs.size f cdv)).units + n < cLine := fun n hn => by have := hr.rm.un; omega
  exact (vss_cons (vs_set nd__law_many rfl (by first | exact Or.inl rfl | exact Or.inr rfl) (ve_cmp (op_eqX (hU 64 (by decide))) rd_eq (ve_call [true, false] ca__law_take hr hk__law_take rfl (va_p (ve_v 0) (va_p ve_int va_p0))) ve_int (nomark _)))
  (vss_one (vs_ret (ve_if (VT.pure (vt_val (ve_v 1))) (ve_add ve_int (ve_call [true, false] ca__law_take hr hk__law_take rfl (va_p (ve_v 0) (va_p ve_int va_p0)))) (ve_call [true, false] ca__law_take hr hk__law_take rfl (va_p (ve_v 0) (va_p ve_int va_p0)))))))
abbrev s__law_below : Stmt := top 14
def N__law_below : List Str := ["_law_row"]
def t__law_below  : TS' :=
  (sSeq (sIf (cP (bB (po2 inD (po2 ixD (pV 0) (pC (.int 0))) (poTup [(pC (.str "and")), (pC (.str "or"))]))))
  (sRet (eNw (fP (plN listF [(po2 ixD (pV 0) (pC (.int 1)))]))))
  sNil)
  (sRet (eIf (cP (bB (po2 eqD (po2 ixD (pV 0) (pC (.int 0))) (pC (.str "pick"))))) (eNw (fP (plN listF [(poSl (pV 0) (poI (pC (.int 2))) poNo)]))) (eNw (fP (plLst []))))))
theorem sc__law_below : FnScope N__law_below ["_law_row"] (defScope s__law_below) := C8.fnScope_by (by decide +kernel)
theorem d__law_below {P : Program} {w : World} {K : PySem.W.Frag} {mg : Str → Option Value} {base : Heap} {f : Addr} {k : Nat} (m_list : mg "list" = none) :
    ∀ (cdv : Value) (A : Around) (outer : List Env) (s : Shared) (H : Hp) (E : XK) (G : Gd), RoomG k (A.deeper (PyProof.Rows.envOfC "_law_below" (defScope s__law_below) s.heap.objs.size f cdv)) → G.i0.length = 0 →
      VSs (cxOf C8.CX0 P w K mg base N__law_below "_law_below" (defScope s__law_below) f cdv A outer s H E).nox G (defBody s__law_below) (t__law_below ) := by
  intro cdv A outer s H E G hr hG
  have hU : ∀ n : Nat, n ≤ 200 → (A.deeper (PyProof.Rows.envOfC "_law_below" (defScope s__law_below) s.heap.objs.size f cdv)).units + n < cLine := fun n hn => by have := hr.rm.un; omega
  exact (vss_cons (vs_if (VT.pureB2 (vt_cmp (op_inX (hU 65 (by decide))) rd_in (VE.pure2 (ve_idx (ve_v 0) ve_int)) (VE.pTup (ve_tup (va_p ve_str (va_p ve_str va_p0)))) rfl)) (vss_one (vs_ret (VF.nw (VF.pN (vf_callTy call_list_of rd_list rfl m_list bt_list (va_p (VE.pure2 (ve_idx (ve_v 0) ve_int)) va_p0)))))) vss_nil)
  (vss_one (vs_ret (ve_if (VT.pureB2 (vt_cmp (op_eqX (hU 64 (by decide))) rd_eq (VE.pure2 (ve_idx (ve_v 0) ve_int)) ve_str (nomark _))) (VF.nw (VF.pN (vf_callTy call_list_of rd_list rfl m_list bt_list (va_p (ve_slice (ve_v 0) (vo_some ve_int) vo_none) va_p0)))) (VF.nw (VF.pLst (vf_lst va_p0)))))))
abbrev s__law_wild_web : Stmt := top 15
def N__law_wild_web : List Str := ["_law_tape_here", "_law_many_here", "_law_rows", "_law_at", "_law_way", "_law_k", "_law_parts", "_law_turn"]
def t__law_wild_web (sp__law_take : SpD) : TS' :=
  (sSeq (sSet 2 (eNw (fP (plLst []))))
  (sSeq (sFor (iRg false (aCons (eo2 addD (eP (pC (.int 2))) (eCall [true, false] sp__law_take (aP [(pV 0), (pC (.int 13))]))) (aP []))) (gNm 3)
  (sSeq (sPar 4 5 (aCons (eCall [true, false] sp__law_take (aP [(pV 0), (pC (.int 9))])) (aCons (eCall [true, false] sp__law_take (aP [(pV 0), (pV 1)])) (aP []))))
  (sIf (cP (bOr (bB (po2 ltD (pV 4) (pC (.int 2)))) (bB (po2 ltD (pV 3) (pC (.int 2))))))
  (sDrop (eMt "list" mApp (eP (pV 2)) (aCons (eo2 ixD (eP (pFz (plLst [(poTup [(pC (.str "yes"))]), (poTup [(pC (.str "no"))]), (poTup [(pC (.str "has")), (pV 5), (pC (.int 0))]), (poTup [(pC (.str "has")), (pV 5), (pC (.int 1))]), (poTup [(pC (.str "has")), (pV 5), (pC (.int 1))])]))) (eCall [true, false] sp__law_take (aP [(pV 0), (pC (.int 5))]))) (aP []))))
  (sIf (cP (bB (po2 ltD (pV 4) (pC (.int 6)))))
  (sSeq (sSet 6 (eFz (f1 soSetF (eFz (f2 catF (eFz (fLc (iRg true (aCons (eo2 addD (eP (pC (.int 2))) (eCall [true, false] sp__law_take (aP [(pV 0), (pC (.int 3))]))) (aP []))) (.nm 7) tYs (eCall [true, false] sp__law_take (aP [(pV 0), (pV 3)])) [7])) (eP (pFz (plLst [(po2 subD (pV 3) (pC (.int 1))), (pC (.int 0))]))))))))
  (sDrop (eMt "list" mApp (eP (pV 2)) (aP [(poTup [(po2 ixD (pFz (plLst [(pC (.str "and")), (pC (.str "or"))])) (po2 modD (pV 4) (pC (.int 2)))), (po1 tupC (poIf (bB (po2 eqD (pV 4) (pC (.int 2)))) (pFz (pl2 catF (pFz (plSl (pV 6) poNo (poI (pC (.int 1))))) (pFz (plSl (pV 6) (poI (po1 negD (pC (.int 1)))) poNo)))) (pV 6)))])]))))
  (sDrop (eMt "list" mApp (eP (pV 2)) (aCons (tTupE (aCons (eP (pC (.str "pick"))) (aCons (eP (pV 5)) (aCons (eCall [true, false] sp__law_take (aP [(pV 0), (pV 3)])) (aCons (eCall [true, false] sp__law_take (aP [(pV 0), (pV 3)])) (aP [])))))) (aP []))))))))
  (sRet (eP (pV 2)))))
theorem nd__law_wild_web : N__law_wild_web.Nodup := by decide
theorem sc__law_wild_web : FnScope N__law_wild_web ["_law_tape_here", "_law_many_here"] (defScope s__law_wild_web) := C8.fnScope_by (by decide +kernel)
theorem d__law_wild_web {P : Program} {w : World} {K : PySem.W.Frag} {mg : Str → Option Value} {base : Heap} {f : Addr} {k : Nat} (m_range : mg "range" = none) (m_sorted : mg "sorted" = none) (m_set : mg "set" = none) (m_tuple : mg "tuple" = none) {sp__law_take : SpD} {k__law_take : Nat} (ca__law_take : Ca P w K mg base k__law_take "_law_take" 2 sp__law_take) (hk__law_take : k__law_take ≤ k) :
    ∀ (cdv : Value) (A : Around) (outer : List Env) (s : Shared) (H : Hp) (E : XK) (G : Gd), RoomG k (A.deeper (PyProof.Rows.envOfC "_law_wild_web" (defScope s__law_wild_web) s.heap.objs.size f cdv)) → G.i0.length = 1 →
      VSs (cxOf C8.CX0 P w K mg base N__law_wild_web "_law_wild_web" (defScope s__law_wild_web) f cdv A outer s H E).nox G (defBody s__law_wild_web) (t__law_wild_web sp__law_take) := by
  intro cdv A outer s H E G hr hG
  have hU : ∀ n : Nat, n ≤ 200 → (A.deeper (PyProof.Rows.envOfC "_law_wild_web" (defScope s__law_wild_web) s.heap.objs.size f cdv)).units + n < cLine := fun n hn => by have := hr.rm.un; omega
  exact (vss_cons (vs_set nd__law_wild_web rfl (by first | exact Or.inl rfl | exact Or.inr rfl) (VF.nw (VF.pLst (vf_lst va_p0))))
  (vss_cons (vs_for (bd := false) PassesOwn.never rfl (vi_range1 rfl m_range (va_cons (ve_add ve_int (ve_call [true, false] ca__law_take hr hk__law_take rfl (va_p (ve_v 0) (va_p ve_int va_p0)))) va_p0)) (vg_name nd__law_wild_web rfl (by first | exact Or.inl rfl | exact Or.inr rfl)) (vss_cons (vs_par rfl nd__law_wild_web rfl rfl (by decide) rfl rfl (va_cons (ve_call [true, false] ca__law_take hr hk__law_take rfl (va_p (ve_v 0) (va_p ve_int va_p0))) (va_cons (ve_call [true, false] ca__law_take hr hk__law_take rfl (va_p (ve_v 0) (va_p (ve_v 1) va_p0))) va_p0)) rfl)
  (vss_one (vs_if (VW.vt (VW.pOr (vw_or (VT.pureB2 (vt_cmp op_lt rd_lt (ve_v 4) ve_int (nomark _))) (vw_or1 (VT.pureB2 (vt_cmp op_lt rd_lt (ve_v 3) ve_int (nomark _))))))) (vss_one (vs_expr (ve_mt F.plainAttrs_list F.slot_list_append rfl mt_append rd_app (ve_v 2) (va_cons (ve_idx (VF.pure (VF.pLst (vf_lst (va_p (VE.pTup (ve_tup (va_p ve_str va_p0))) (va_p (VE.pTup (ve_tup (va_p ve_str va_p0))) (va_p (VE.pTup (ve_tup (va_p ve_str (va_p (ve_v 5) (va_p ve_int va_p0))))) (va_p (VE.pTup (ve_tup (va_p ve_str (va_p (ve_v 5) (va_p ve_int va_p0))))) (va_p (VE.pTup (ve_tup (va_p ve_str (va_p (ve_v 5) (va_p ve_int va_p0))))) va_p0)))))))) (ve_call [true, false] ca__law_take hr hk__law_take rfl (va_p (ve_v 0) (va_p ve_int va_p0)))) va_p0)))) (vss_one (vs_if (VT.pureB2 (vt_cmp op_lt rd_lt (ve_v 4) ve_int (nomark _))) (vss_cons (vs_set nd__law_wild_web rfl (by first | exact Or.inl rfl | exact Or.inr rfl) (VF.fz (vf_sortedSet rfl rfl m_sorted rfl m_set (VF.fz (vf_cat (VF.fz (vf_lc (own := [("_law_turn", 7)]) rfl nd__law_wild_web (vi_range1 rfl m_range (va_cons (ve_add ve_int (ve_call [true, false] ca__law_take hr hk__law_take rfl (va_p (ve_v 0) (va_p ve_int va_p0)))) va_p0)) (blkOk_by (show blkC N__law_wild_web (defScope s__law_wild_web) _ _ = true by decide +kernel)) (fun s H C cl fp => pg_name nd__law_wild_web rfl (by first | exact Or.inl rfl | exact Or.inr rfl) (by first | exact Or.inr rfl | exact Or.inl rfl)) (fun s H C cl fp G hG' => vts_nil) (fun s H C cl fp G hG' => (ve_call [true, false] ca__law_take hr hk__law_take rfl (va_p (ve_v 0) (va_p (ve_v 3) va_p0)))) (by decide))) (VF.pure (VF.pLst (vf_lst (va_p (VE.pure2 (ve_sub (ve_v 3) ve_int)) (va_p ve_int va_p0))))))))))
  (vss_one (vs_expr (ve_mt F.plainAttrs_list F.slot_list_append rfl mt_append rd_app (ve_v 2) (va_p (VE.pTup (ve_tup (va_p (VE.pure2 (ve_idx (VF.pure (VF.pLst (vf_lst (va_p ve_str (va_p ve_str va_p0))))) (VE.pure2 (ve_mod (ve_v 4) ve_int)))) (va_p (VE.pure1 (ve_tupleOf rfl m_tuple (VE.pIf (ve_if (VT.pureB2 (vt_cmp (op_eqX (hU 64 (by decide))) rd_eq (ve_v 4) ve_int (nomark _))) (VF.pure (VF.p2 (vf_cat (VF.pure (vf_slice (ve_v 6) vo_none (vo_some ve_int))) (VF.pure (vf_slice (ve_v 6) (vo_some (VE.pure1 (ve_neg ve_int))) vo_none))))) (ve_v 6))))) va_p0)))) va_p0))))) (vss_one (vs_expr (ve_mt F.plainAttrs_list F.slot_list_append rfl mt_append rd_app (ve_v 2) (va_cons (ve_tup (va_cons ve_str (va_cons (ve_v 5) (va_cons (ve_call [true, false] ca__law_take hr hk__law_take rfl (va_p (ve_v 0) (va_p (ve_v 3) va_p0))) (va_cons (ve_call [true, false] ca__law_take hr hk__law_take rfl (va_p (ve_v 0) (va_p (ve_v 3) va_p0))) va_p0))))) va_p0))))))))))
  (vss_one (vs_ret (ve_v 2)))))
abbrev s__law_order : Stmt := top 16
def N__law_order : List Str := ["_law_tape_here", "_law_many_here"]
def t__law_order (sp__law_take : SpD) (sp__law_mixed : SpD) : TS' :=
  (sRet (eIf (tTb (eo2 eqD (eCall [true, false] sp__law_take (aP [(pV 0), (pC (.int 3))])) (eP (pC (.int 0))))) (eP (pFz (plN rgLF [(pV 1)]))) (eSeal 1 (eCall [true, false] sp__law_mixed (aP [(pV 0), (pFz (plN rgLF [(pV 1)]))])))))
theorem sc__law_order : FnScope N__law_order ["_law_tape_here", "_law_many_here"] (defScope s__law_order) := C8.fnScope_by (by decide +kernel)
theorem d__law_order {P : Program} {w : World} {K : PySem.W.Frag} {mg : Str → Option Value} {base : Heap} {f : Addr} {k : Nat} (m_list : mg "list" = none) (m_range : mg "range" = none) {sp__law_take : SpD} {k__law_take : Nat} (ca__law_take : Ca P w K mg base k__law_take "_law_take" 2 sp__law_take) (hk__law_take : k__law_take ≤ k) {sp__law_mixed : SpD} {k__law_mixed : Nat} (ca__law_mixed : Ca P w K mg base k__law_mixed "_law_mixed" 2 sp__law_mixed) (hk__law_mixed : k__law_mixed ≤ k) :
    ∀ (cdv : Value) (A : Around) (outer : List Env) (s : Shared) (H : Hp) (E : XK) (G : Gd), RoomG k (A.deeper (PyProof.Rows.envOfC "_law_order" (defScope s__law_order) s.heap.objs.size f cdv)) → G.i0.length = 1 →
      VSs (cxOf C8.CX0 P w K mg base N__law_order "_law_order" (defScope s__law_order) f cdv A outer s H E).nox G (defBody s__law_order) (t__law_order sp__law_take sp__law_mixed) := by
  intro cdv A outer s H E G hr hG
  have hU : ∀ n : Nat, n ≤ 200 → (A.deeper (PyProof.Rows.envOfC "_law_order" (defScope s__law_order) s.heap.objs.size f cdv)).units + n < cLine := fun n hn => by have := hr.rm.un; omega
  exact (vss_one (vs_ret (ve_if (vt_cmp (op_eqX (hU 64 (by decide))) rd_eq (ve_call [true, false] ca__law_take hr hk__law_take rfl (va_p (ve_v 0) (va_p ve_int va_p0))) ve_int (nomark _)) (VF.pure (VF.pN (VF.aP1 (vf_listRg1 rfl rfl m_list rfl m_range (ve_v 1))))) (VE.seal hG (ve_call [true, false] ca__law_mixed hr hk__law_mixed rfl (va_p (ve_v 0) (va_p (VF.pure (VF.pN (VF.aP1 (vf_listRg1 rfl rfl m_list rfl m_range (ve_v 1))))) va_p0)))))))
abbrev s__law_is_ladder : Stmt := top 17
def N__law_is_ladder : List Str := ["_law_web", "_law_order_here", "_law_row", "_law_come", "_law_left", "_law_at", "_law_some", "_law_part", "_law_name"]
def t__law_is_ladder (sp__law_below : SpD) : TS' :=
  (sSeq (sPar 3 4 (aCons (eNw (fP (plLst []))) (aCons (eNw (fP (plLst [(po2 subD (poN lenD [(pV 0)]) (pC (.int 1)))]))) (aP []))))
  (sSeq (sWhR 4 (cP (bB (po2 neD (pV 4) (pFz (plLst [])))))
  (sSeq (sSet 5 (eMt "list" mPop (eP (pV 4)) (aP [])))
  (sIf (cP (bB (po2 ninD (pV 5) (pV 3))))
  (sSeq (sDrop (eMt "list" mApp (eP (pV 3)) (aP [(pV 5)])))
  (sSet 4 (eNw (f2 catF (eP (pV 4)) (eSeal 0 (eCall [false] sp__law_below (aP [(po2 ixD (pV 0) (pV 5))])))))))
  sNil)))
  (sSeq (sIf (cP (bOr (bB (po2 ltD (poN lenD [(pV 3)]) (poN lenD [(pV 0)]))) (bB (po2 ltD (po1 leSetN (pV 0)) (poN lenD [(pV 0)])))))
  (sRet (eP (pC (.bl false))))
  sNil)
  (sSeq (sFor (iPq (pV 0)) (gNm 2)
  (sSeq (sIf (cP (bOr (bB (po2 ninD (po2 ixD (pV 2) (pC (.int 0))) (poTup [(pC (.str "yes")), (pC (.str "no")), (pC (.str "pick"))]))) (bAn (bB (po2 eqD (po2 ixD (pV 2) (pC (.int 0))) (pC (.str "pick")))) (bB (po2 eqD (po2 ixD (pV 2) (pC (.int 2))) (po2 ixD (pV 2) (pC (.int 3))))))))
  (sRet (eP (pC (.bl false))))
  sNil)
  (sIf (cP (bB (po2 eqD (po2 ixD (pV 2) (pC (.int 0))) (pC (.str "pick")))))
  (sSeq (sSet 6 (eFz (fLc (iPq (poSl (pV 2) (poI (pC (.int 2))) poNo)) (.nm 7) (cP (bB (po2 eqD (po2 ixD (po2 ixD (pV 0) (pV 7)) (pC (.int 0))) (pC (.str "pick"))))) (eP (po2 ixD (po2 ixD (pV 0) (pV 7)) (pC (.int 1)))) [7])))
  (sIf (tTr (eoN anyD (aCons (eFz (fLc (iPq (pV 6)) (.nm 8) tYs (eP (po2 leD (poMt "list" indexD (pV 1) [(pV 8)]) (poMt "list" indexD (pV 1) [(po2 ixD (pV 2) (pC (.int 1)))]))) [8])) (aP []))))
  (sRet (eP (pC (.bl false))))
  sNil))
  sNil)))
  (sRet (eP (pC (.bl true))))))))
theorem nd__law_is_ladder : N__law_is_ladder.Nodup := by decide
theorem sc__law_is_ladder : FnScope N__law_is_ladder ["_law_web", "_law_order_here"] (defScope s__law_is_ladder) := C8.fnScope_by (by decide +kernel)
theorem d__law_is_ladder {P : Program} {w : World} {K : PySem.W.Frag} {mg : Str → Option Value} {base : Heap} {f : Addr} {k : Nat} (m_len : mg "len" = none) (m_set : mg "set" = none) (m_any : mg "any" = none) {sp__law_below : SpD} {k__law_below : Nat} (ca__law_below : Ca P w K mg base k__law_below "_law_below" 1 sp__law_below) (hk__law_below : k__law_below ≤ k) :
    ∀ (cdv : Value) (A : Around) (outer : List Env) (s : Shared) (H : Hp) (E : XK) (G : Gd), RoomG k (A.deeper (PyProof.Rows.envOfC "_law_is_ladder" (defScope s__law_is_ladder) s.heap.objs.size f cdv)) → G.i0.length = 0 →
      VSs (cxOf C8.CX0 P w K mg base N__law_is_ladder "_law_is_ladder" (defScope s__law_is_ladder) f cdv A outer s H E).nox G (defBody s__law_is_ladder) (t__law_is_ladder sp__law_below) := by
  intro cdv A outer s H E G hr hG
  have hU : ∀ n : Nat, n ≤ 200 → (A.deeper (PyProof.Rows.envOfC "_law_is_ladder" (defScope s__law_is_ladder) s.heap.objs.size f cdv)).units + n < cLine := fun n hn => by have := hr.rm.un; omega
  exact (vss_cons (vs_par rfl nd__law_is_ladder rfl rfl (by decide) rfl rfl (va_cons (VF.nw (VF.pLst (vf_lst va_p0))) (va_cons (VF.nw (VF.pLst (vf_lst (va_p (VE.pure2 (ve_sub (VE.pureN (ve_callB call_lenX rd_len rfl m_len bt_len (va_p (ve_v 0) va_p0))) ve_int)) va_p0)))) va_p0)) rfl)
  (vss_cons (vs_whileR 4 PassesOwn.never (VT.pureB2 (vt_cmp (op_neX (hU 64 (by decide))) rd_ne (ve_v 4) (VF.pure (VF.pLst (vf_lst va_p0))) (nomark _))) (vss_cons (vs_set nd__law_is_ladder rfl (by first | exact Or.inl rfl | exact Or.inr rfl) (ve_mt0 F.plainAttrs_list F.slot_list_pop rfl mt_pop rd_pop (ve_v 4)))
  (vss_one (vs_if (VT.pureB2 (vt_cmp (op_ninX (hU 65 (by decide))) rd_nin (ve_v 5) (ve_v 3) rfl)) (vss_cons (vs_expr (ve_mt F.plainAttrs_list F.slot_list_append rfl mt_append rd_app (ve_v 3) (va_p (ve_v 5) va_p0)))
  (vss_one (vs_set nd__law_is_ladder rfl (by first | exact Or.inl rfl | exact Or.inr rfl) (VF.nw (vf_cat (ve_v 4) (VE.seal hG (ve_call [false] ca__law_below hr hk__law_below rfl (va_p (VE.pure2 (ve_idx (ve_v 0) (ve_v 5))) va_p0)))))))) vss_nil))))
  (vss_cons (vs_if (VW.vt (VW.pOr (vw_or (VT.pureB2 (vt_cmp op_lt rd_lt (VE.pureN (ve_callB call_lenX rd_len rfl m_len bt_len (va_p (ve_v 3) va_p0))) (VE.pureN (ve_callB call_lenX rd_len rfl m_len bt_len (va_p (ve_v 0) va_p0))) (nomark _))) (vw_or1 (VT.pureB2 (vt_cmp op_lt rd_lt (VE.pure1 (ve_lenSetN (hU 63 (by decide)) rfl rfl m_len rfl m_set (ve_v 0))) (VE.pureN (ve_callB call_lenX rd_len rfl m_len bt_len (va_p (ve_v 0) va_p0))) (nomark _))))))) (vss_one (vs_ret ve_bl)) vss_nil)
  (vss_cons (vs_for (bd := false) PassesOwn.never rfl (vi_pq (ve_v 0)) (vg_name nd__law_is_ladder rfl (by first | exact Or.inl rfl | exact Or.inr rfl)) (vss_cons (vs_if (VW.vt (VW.pOr (vw_or (VT.pureB2 (vt_cmp (op_ninX (hU 65 (by decide))) rd_nin (VE.pure2 (ve_idx (ve_v 2) ve_int)) (VE.pTup (ve_tup (va_p ve_str (va_p ve_str (va_p ve_str va_p0))))) rfl)) (vw_or1 (VW.vt (VW.pAn (vw_and (VT.pureB2 (vt_cmp (op_eqX (hU 64 (by decide))) rd_eq (VE.pure2 (ve_idx (ve_v 2) ve_int)) ve_str (nomark _))) (vw_and1 (VT.pureB2 (vt_cmp (op_eqX (hU 64 (by decide))) rd_eq (VE.pure2 (ve_idx (ve_v 2) ve_int)) (VE.pure2 (ve_idx (ve_v 2) ve_int)) (nomark _))))))))))) (vss_one (vs_ret ve_bl)) vss_nil)
  (vss_one (vs_if (VT.pureB2 (vt_cmp (op_eqX (hU 64 (by decide))) rd_eq (VE.pure2 (ve_idx (ve_v 2) ve_int)) ve_str (nomark _))) (vss_cons (vs_setLcF (own := [("_law_part", 7)]) rfl nd__law_is_ladder rfl rfl rfl (vi_pq (ve_slice (ve_v 2) (vo_some ve_int) vo_none)) (blkOk_by (show blkC N__law_is_ladder (defScope s__law_is_ladder) _ _ = true by decide +kernel)) (fun s H C cl fp => pg_name nd__law_is_ladder rfl (by first | exact Or.inl rfl | exact Or.inr rfl) (by first | exact Or.inr rfl | exact Or.inl rfl)) (fun s H C cl fp G hG' => vts_one (VT.pureB2 (vt_cmp (op_eqX (hU 64 (by decide))) rd_eq (VE.pure2 (ve_idx (VE.pure2 (ve_idx (ve_v 0) (ve_v 7))) ve_int)) ve_str (nomark _)))) (fun s H C cl fp G hG' => (VE.pure2 (ve_idx (VE.pure2 (ve_idx (ve_v 0) (ve_v 7))) ve_int))) (by decide))
  (vss_one (vs_if (vt_val (ve_callB (cr_any rfl) rd_any rfl m_any bt_any (va_cons (VF.fz (vf_lc (own := [("_law_name", 8)]) rfl nd__law_is_ladder (vi_pq (ve_v 6)) (blkOk_by (show blkC N__law_is_ladder (defScope s__law_is_ladder) _ _ = true by decide +kernel)) (fun s H C cl fp => pg_name nd__law_is_ladder rfl (by first | exact Or.inl rfl | exact Or.inr rfl) (by first | exact Or.inr rfl | exact Or.inl rfl)) (fun s H C cl fp G hG' => vts_nil) (fun s H C cl fp G hG' => (VE.pure2 (ve_cmp op_le rd_le (VE.pMt (ve_mt F.plainAttrs_list F.slot_list_index rfl (mt_indexD (hU 65 (by decide))) rd_index (ve_v 1) (va_p (ve_v 8) va_p0))) (VE.pMt (ve_mt F.plainAttrs_list F.slot_list_index rfl (mt_indexD (hU 65 (by decide))) rd_index (ve_v 1) (va_p (VE.pure2 (ve_idx (ve_v 2) ve_int)) va_p0))) (nomark _)))) (by decide))) va_p0))) (vss_one (vs_ret ve_bl)) vss_nil))) vss_nil))))
  (vss_one (vs_ret ve_bl))))))
abbrev s__law_made : Stmt := top 19
def N__law_made : List Str := ["_law_rows", "_law_table", "_law_order_here", "_law_row", "_law_half", "_law_low", "_law_high"]
def t__law_made (sp__law_made : SpD) : TS' :=
  (sSeq (sIf (cP (bB (po2 eqD (poN minBB [(pV 1)]) (poN maxBB [(pV 1)]))))
  (sSet 3 (eP (poIf (bTr (po2 ixD (pV 1) (pC (.int 0)))) (poTup [(pC (.str "yes"))]) (poTup [(pC (.str "no"))]))))
  (sSeq (sSet 4 (eP (po2 fdivD (poN lenD [(pV 1)]) (pC (.int 2)))))
  (sSeq (sPar 5 6 (aCons (eCall [true, false, false] sp__law_made (aP [(pV 0), (poSl (pV 1) poNo (poI (pV 4))), (pFz (plSl (pV 2) (poI (pC (.int 1))) poNo))])) (aCons (eCall [true, false, false] sp__law_made (aP [(pV 0), (poSl (pV 1) (poI (pV 4)) poNo), (pFz (plSl (pV 2) (poI (pC (.int 1))) poNo))])) (aP []))))
  (sSeq (sIf (cP (bB (po2 eqD (pV 5) (pV 6))))
  (sRet (eP (pV 5)))
  sNil)
  (sSet 3 (eP (poTup [(pC (.str "pick")), (po2 ixD (pV 2) (pC (.int 0))), (pV 5), (pV 6)])))))))
  (sSeq (sIf (cP (bB (po2 ninD (pV 3) (pV 0))))
  (sDrop (eMt "list" mApp (eP (pV 0)) (aP [(pV 3)])))
  sNil)
  (sRet (eP (poMt "list" indexD (pV 0) [(pV 3)])))))
theorem nd__law_made : N__law_made.Nodup := by decide
theorem sc__law_made : FnScope N__law_made ["_law_rows", "_law_table", "_law_order_here"] (defScope s__law_made) := C8.fnScope_by (by decide +kernel)
theorem d__law_made {P : Program} {w : World} {K : PySem.W.Frag} {mg : Str → Option Value} {base : Heap} {f : Addr} {k : Nat} (m_min : mg "min" = none) (m_max : mg "max" = none) (m_len : mg "len" = none) {sp__law_made : SpD} {k__law_made : Nat} (ca__law_made : Ca P w K mg base k__law_made "_law_made" 3 sp__law_made) (hk__law_made : k__law_made ≤ k) :
    ∀ (cdv : Value) (A : Around) (outer : List Env) (s : Shared) (H : Hp) (E : XK) (G : Gd), RoomG k (A.deeper (PyProof.Rows.envOfC "_law_made" (defScope s__law_made) s.heap.objs.size f cdv)) → G.i0.length = 1 →
      VSs (cxOf C8.CX0 P w K mg base N__law_made "_law_made" (defScope s__law_made) f cdv A outer s H E).nox G (defBody s__law_made) (t__law_made sp__law_made) := by
  intro cdv A outer s H E G hr hG
  have hU : ∀ n : Nat, n ≤ 200 → (A.deeper (PyProof.Rows.envOfC "_law_made" (defScope s__law_made) s.heap.objs.size f cdv)).units + n < cLine := fun n hn => by have := hr.rm.un; omega
  exact (vss_cons (vs_if (VT.pureB2 (vt_cmp (op_eqX (hU 64 (by decide))) rd_eq (VE.pureN (ve_callB (cr_minB rfl (hU 1 (by decide))) rd_minB rfl m_min bt_min (va_p (ve_v 1) va_p0))) (VE.pureN (ve_callB (cr_maxB rfl (hU 1 (by decide))) rd_minB rfl m_max bt_max (va_p (ve_v 1) va_p0))) (nomark _))) (vss_one (vs_set nd__law_made rfl (by first | exact Or.inl rfl | exact Or.inr rfl) (VE.pIf (ve_if (VT.pure (vt_val (VE.pure2 (ve_idx (ve_v 1) ve_int)))) (VE.pTup (ve_tup (va_p ve_str va_p0))) (VE.pTup (ve_tup (va_p ve_str va_p0))))))) (vss_cons (vs_set nd__law_made rfl (by first | exact Or.inl rfl | exact Or.inr rfl) (VE.pure2 (ve_fdiv (VE.pureN (ve_callB call_lenX rd_len rfl m_len bt_len (va_p (ve_v 1) va_p0))) ve_int)))
  (vss_cons (vs_par rfl nd__law_made rfl rfl (by decide) rfl rfl (va_cons (ve_call [true, false, false] ca__law_made hr hk__law_made rfl (va_p (ve_v 0) (va_p (ve_slice (ve_v 1) vo_none (vo_some (ve_v 4))) (va_p (VF.pure (vf_slice (ve_v 2) (vo_some ve_int) vo_none)) va_p0)))) (va_cons (ve_call [true, false, false] ca__law_made hr hk__law_made rfl (va_p (ve_v 0) (va_p (ve_slice (ve_v 1) (vo_some (ve_v 4)) vo_none) (va_p (VF.pure (vf_slice (ve_v 2) (vo_some ve_int) vo_none)) va_p0)))) va_p0)) rfl)
  (vss_cons (vs_if (VT.pureB2 (vt_cmp (op_eqX (hU 64 (by decide))) rd_eq (ve_v 5) (ve_v 6) (nomark _))) (vss_one (vs_ret (ve_v 5))) vss_nil)
  (vss_one (vs_set nd__law_made rfl (by first | exact Or.inl rfl | exact Or.inr rfl) (VE.pTup (ve_tup (va_p ve_str (va_p (VE.pure2 (ve_idx (ve_v 2) ve_int)) (va_p (ve_v 5) (va_p (ve_v 6) va_p0))))))))))))
  (vss_cons (vs_if (VT.pureB2 (vt_cmp (op_ninX (hU 65 (by decide))) rd_nin (ve_v 3) (ve_v 0) rfl)) (vss_one (vs_expr (ve_mt F.plainAttrs_list F.slot_list_append rfl mt_append rd_app (ve_v 0) (va_p (ve_v 3) va_p0)))) vss_nil)
  (vss_one (vs_ret (VE.pMt (ve_mt F.plainAttrs_list F.slot_list_index rfl (mt_indexD (hU 65 (by decide))) rd_index (ve_v 0) (va_p (ve_v 3) va_p0)))))))
abbrev s__law_laddered : Stmt := top 18
def N__law_laddered : List Str := ["_law_meaning", "_law_order_here", "_law_rows"]
def t__law_laddered (sp__law_made : SpD) : TS' :=
  (sSeq (sSet 2 (eNw (fP (plLst []))))
  (sSeq (sDrop (eCall [true, false, false] sp__law_made (aP [(pV 2), (pV 0), (pV 1)])))
  (sRet (eP (pV 2)))))
theorem nd__law_laddered : N__law_laddered.Nodup := by decide
theorem sc__law_laddered : FnScope N__law_laddered ["_law_meaning", "_law_order_here"] (defScope s__law_laddered) := C8.fnScope_by (by decide +kernel)
theorem d__law_laddered {P : Program} {w : World} {K : PySem.W.Frag} {mg : Str → Option Value} {base : Heap} {f : Addr} {k : Nat} {sp__law_made : SpD} {k__law_made : Nat} (ca__law_made : Ca P w K mg base k__law_made "_law_made" 3 sp__law_made) (hk__law_made : k__law_made ≤ k) :
    ∀ (cdv : Value) (A : Around) (outer : List Env) (s : Shared) (H : Hp) (E : XK) (G : Gd), RoomG k (A.deeper (PyProof.Rows.envOfC "_law_laddered" (defScope s__law_laddered) s.heap.objs.size f cdv)) → G.i0.length = 0 →
      VSs (cxOf C8.CX0 P w K mg base N__law_laddered "_law_laddered" (defScope s__law_laddered) f cdv A outer s H E).nox G (defBody s__law_laddered) (t__law_laddered sp__law_made) := by
  intro cdv A outer s H E G hr hG
  have hU : ∀ n : Nat, n ≤ 200 → (A.deeper (PyProof.Rows.envOfC "_law_laddered" (defScope s__law_laddered) s.heap.objs.size f cdv)).units + n < cLine := fun n hn => by have := hr.rm.un; omega
  exact (vss_cons (vs_set nd__law_laddered rfl (by first | exact Or.inl rfl | exact Or.inr rfl) (VF.nw (VF.pLst (vf_lst va_p0))))
  (vss_cons (vs_expr (ve_call [true, false, false] ca__law_made hr hk__law_made rfl (va_p (ve_v 2) (va_p (ve_v 0) (va_p (ve_v 1) va_p0)))))
  (vss_one (vs_ret (ve_v 2)))))
abbrev s__law_spoilt : Stmt := top 20
def N__law_spoilt : List Str := ["_law_tape_here", "_law_web", "_law_many_here", "_law_at", "_law_way", "_law_row", "_law_last"]
def t__law_spoilt (sp__law_take : SpD) : TS' :=
  (sSeq (sPar 3 4 (aCons (eCall [true, false] sp__law_take (aP [(pV 0), (poN lenD [(pV 1)])])) (aCons (eCall [true, false] sp__law_take (aP [(pV 0), (pC (.int 8))])) (aP []))))
  (sSeq (sPar 5 6 (aP [(po2 ixD (pV 1) (pV 3)), (po2 subD (poN lenD [(pV 1)]) (pC (.int 1)))]))
  (sSeq (sIf (cP (bB (po2 eqD (pV 4) (pC (.int 0)))))
  (sRet (eIf (tTb (eo2 eqD (eCall [true, false] sp__law_take (aP [(pV 0), (pC (.int 2))])) (eP (pC (.int 0))))) (eNw (fP (pl2 catF (pFz (plSl (pV 1) poNo (poI (pV 6)))) (pFz (plLst [(pV 5), (po2 ixD (pV 1) (pV 6))]))))) (eNw (fP (pl2 catF (pV 1) (pFz (plLst [(pV 5)])))))))
  sNil)
  (sSeq (sIf (cP (bB (po2 eqD (pV 4) (pC (.int 1)))))
  (sRet (eNw (f2 catF (eP (pV 1)) (eFz (tLstF (aCons (tTupE (aCons (eP (pC (.str "pick"))) (aCons (eCall [true, false] sp__law_take (aP [(pV 0), (pV 2)])) (aP [(pV 6), (pV 6)])))) (aP [])))))))
  sNil)
  (sSeq (sIf (cP (bAn (bB (po2 eqD (pV 4) (pC (.int 2)))) (bB (po2 eqD (po2 ixD (pV 5) (pC (.int 0))) (pC (.str "pick"))))))
  (sRet (eNw (fP (pl2 catF (pFz (pl2 catF (pFz (plSl (pV 1) poNo (poI (pV 3)))) (pFz (plLst [(poTup [(pC (.str "pick")), (po2 ixD (pV 5) (pC (.int 1))), (po2 ixD (pV 5) (pC (.int 3))), (po2 ixD (pV 5) (pC (.int 2)))])])))) (pFz (plSl (pV 1) (poI (po2 addD (pV 3) (pC (.int 1)))) poNo))))))
  sNil)
  (sSeq (sIf (cP (bAn (bB (po2 eqD (pV 4) (pC (.int 3)))) (bB (po2 eqD (po2 ixD (pV 5) (pC (.int 0))) (pC (.str "pick"))))))
  (sRet (eNw (f2 catF (eFz (f2 catF (eP (pFz (plSl (pV 1) poNo (poI (pV 3))))) (eFz (tLstF (aCons (tTupE (aCons (eP (pC (.str "pick"))) (aCons (eCall [true, false] sp__law_take (aP [(pV 0), (pV 2)])) (aP [(po2 ixD (pV 5) (pC (.int 2))), (po2 ixD (pV 5) (pC (.int 3)))])))) (aP [])))))) (eP (pFz (plSl (pV 1) (poI (po2 addD (pV 3) (pC (.int 1)))) poNo))))))
  sNil)
  (sSeq (sIf (cP (bB (po2 eqD (pV 4) (pC (.int 4)))))
  (sRet (eNw (f2 catF (eP (pV 1)) (eFz (tLstF (aCons (tTupE (aCons (eP (pC (.str "has"))) (aCons (eCall [true, false] sp__law_take (aP [(pV 0), (pV 2)])) (aP [(pC (.int 1))])))) (aP [])))))))
  sNil)
  (sSeq (sIf (cP (bAn (bB (po2 eqD (pV 4) (pC (.int 5)))) (bB (po2 gtD (pV 6) (pC (.int 0))))))
  (sRet (eNw (fP (pl2 catF (pV 1) (pFz (plLst [(poTup [(pC (.str "and")), (poIf (bB (po2 ltD (pV 3) (pV 6))) (poTup [(pV 3), (pV 6)]) (poTup [(pC (.int 0)), (pV 6)]))])]))))))
  sNil)
  (sRet (eIf (cP (bB (po2 eqD (pV 4) (pC (.int 6))))) (eNw (f2 catF (eP (pV 1)) (eFz (tLstF (aCons (tTupE (aCons (eP (pC (.str "pick"))) (aCons (eCall [true, false] sp__law_take (aP [(pV 0), (pV 2)])) (aP [(pV 3), (pV 6)])))) (aP [])))))) (eNw (fP (pl2 catF (pFz (plSl (pV 1) poNo (poI (po1 negD (pC (.int 1)))))) (pFz (plLst [(poTup [(pC (.str "no"))]), (po2 ixD (pV 1) (po1 negD (pC (.int 1))))])))))))))))))))
theorem nd__law_spoilt : N__law_spoilt.Nodup := by decide
theorem sc__law_spoilt : FnScope N__law_spoilt ["_law_tape_here", "_law_web", "_law_many_here"] (defScope s__law_spoilt) := C8.fnScope_by (by decide +kernel)
theorem d__law_spoilt {P : Program} {w : World} {K : PySem.W.Frag} {mg : Str → Option Value} {base : Heap} {f : Addr} {k : Nat} (m_len : mg "len" = none) {sp__law_take : SpD} {k__law_take : Nat} (ca__law_take : Ca P w K mg base k__law_take "_law_take" 2 sp__law_take) (hk__law_take : k__law_take ≤ k) :
    ∀ (cdv : Value) (A : Around) (outer : List Env) (s : Shared) (H : Hp) (E : XK) (G : Gd), RoomG k (A.deeper (PyProof.Rows.envOfC "_law_spoilt" (defScope s__law_spoilt) s.heap.objs.size f cdv)) → G.i0.length = 1 →
      VSs (cxOf C8.CX0 P w K mg base N__law_spoilt "_law_spoilt" (defScope s__law_spoilt) f cdv A outer s H E).nox G (defBody s__law_spoilt) (t__law_spoilt sp__law_take) := by
  intro cdv A outer s H E G hr hG
  have hU : ∀ n : Nat, n ≤ 200 → (A.deeper (PyProof.Rows.envOfC "_law_spoilt" (defScope s__law_spoilt) s.heap.objs.size f cdv)).units + n < cLine := fun n hn => by have := hr.rm.un; omega
  exact (vss_cons (vs_par rfl nd__law_spoilt rfl rfl (by decide) rfl rfl (va_cons (ve_call [true, false] ca__law_take hr hk__law_take rfl (va_p (ve_v 0) (va_p (VE.pureN (ve_callB call_lenX rd_len rfl m_len bt_len (va_p (ve_v 1) va_p0))) va_p0))) (va_cons (ve_call [true, false] ca__law_take hr hk__law_take rfl (va_p (ve_v 0) (va_p ve_int va_p0))) va_p0)) rfl)
  (vss_cons (vs_par rfl nd__law_spoilt rfl rfl (by decide) rfl rfl (va_p (VE.pure2 (ve_idx (ve_v 1) (ve_v 3))) (va_p (VE.pure2 (ve_sub (VE.pureN (ve_callB call_lenX rd_len rfl m_len bt_len (va_p (ve_v 1) va_p0))) ve_int)) va_p0)) rfl)
  (vss_cons (vs_if (VT.pureB2 (vt_cmp (op_eqX (hU 64 (by decide))) rd_eq (ve_v 4) ve_int (nomark _))) (vss_one (vs_ret (ve_if (vt_cmp (op_eqX (hU 64 (by decide))) rd_eq (ve_call [true, false] ca__law_take hr hk__law_take rfl (va_p (ve_v 0) (va_p ve_int va_p0))) ve_int (nomark _)) (VF.nw (VF.p2 (vf_cat (VF.pure (vf_slice (ve_v 1) vo_none (vo_some (ve_v 6)))) (VF.pure (VF.pLst (vf_lst (va_p (ve_v 5) (va_p (VE.pure2 (ve_idx (ve_v 1) (ve_v 6))) va_p0)))))))) (VF.nw (VF.p2 (vf_cat (ve_v 1) (VF.pure (VF.pLst (vf_lst (va_p (ve_v 5) va_p0)))))))))) vss_nil)
  (vss_cons (vs_if (VT.pureB2 (vt_cmp (op_eqX (hU 64 (by decide))) rd_eq (ve_v 4) ve_int (nomark _))) (vss_one (vs_ret (VF.nw (vf_cat (ve_v 1) (VF.fz (vf_lst (va_cons (ve_tup (va_cons ve_str (va_cons (ve_call [true, false] ca__law_take hr hk__law_take rfl (va_p (ve_v 0) (va_p (ve_v 2) va_p0))) (va_p (ve_v 6) (va_p (ve_v 6) va_p0))))) va_p0))))))) vss_nil)
  (vss_cons (vs_if (VW.vt (VW.pAn (vw_and (VT.pureB2 (vt_cmp (op_eqX (hU 64 (by decide))) rd_eq (ve_v 4) ve_int (nomark _))) (vw_and1 (VT.pureB2 (vt_cmp (op_eqX (hU 64 (by decide))) rd_eq (VE.pure2 (ve_idx (ve_v 5) ve_int)) ve_str (nomark _))))))) (vss_one (vs_ret (VF.nw (VF.p2 (vf_cat (VF.pure (VF.p2 (vf_cat (VF.pure (vf_slice (ve_v 1) vo_none (vo_some (ve_v 3)))) (VF.pure (VF.pLst (vf_lst (va_p (VE.pTup (ve_tup (va_p ve_str (va_p (VE.pure2 (ve_idx (ve_v 5) ve_int)) (va_p (VE.pure2 (ve_idx (ve_v 5) ve_int)) (va_p (VE.pure2 (ve_idx (ve_v 5) ve_int)) va_p0)))))) va_p0))))))) (VF.pure (vf_slice (ve_v 1) (vo_some (VE.pure2 (ve_add (ve_v 3) ve_int))) vo_none))))))) vss_nil)
  (vss_cons (vs_if (VW.vt (VW.pAn (vw_and (VT.pureB2 (vt_cmp (op_eqX (hU 64 (by decide))) rd_eq (ve_v 4) ve_int (nomark _))) (vw_and1 (VT.pureB2 (vt_cmp (op_eqX (hU 64 (by decide))) rd_eq (VE.pure2 (ve_idx (ve_v 5) ve_int)) ve_str (nomark _))))))) (vss_one (vs_ret (VF.nw (vf_cat (VF.fz (vf_cat (VF.pure (vf_slice (ve_v 1) vo_none (vo_some (ve_v 3)))) (VF.fz (vf_lst (va_cons (ve_tup (va_cons ve_str (va_cons (ve_call [true, false] ca__law_take hr hk__law_take rfl (va_p (ve_v 0) (va_p (ve_v 2) va_p0))) (va_p (VE.pure2 (ve_idx (ve_v 5) ve_int)) (va_p (VE.pure2 (ve_idx (ve_v 5) ve_int)) va_p0))))) va_p0))))) (VF.pure (vf_slice (ve_v 1) (vo_some (VE.pure2 (ve_add (ve_v 3) ve_int))) vo_none)))))) vss_nil)
  (vss_cons (vs_if (VT.pureB2 (vt_cmp (op_eqX (hU 64 (by decide))) rd_eq (ve_v 4) ve_int (nomark _))) (vss_one (vs_ret (VF.nw (vf_cat (ve_v 1) (VF.fz (vf_lst (va_cons (ve_tup (va_cons ve_str (va_cons (ve_call [true, false] ca__law_take hr hk__law_take rfl (va_p (ve_v 0) (va_p (ve_v 2) va_p0))) (va_p ve_int va_p0)))) va_p0))))))) vss_nil)
  (vss_cons (vs_if (VW.vt (VW.pAn (vw_and (VT.pureB2 (vt_cmp (op_eqX (hU 64 (by decide))) rd_eq (ve_v 4) ve_int (nomark _))) (vw_and1 (VT.pureB2 (vt_cmp op_gt rd_gt (ve_v 6) ve_int (nomark _))))))) (vss_one (vs_ret (VF.nw (VF.p2 (vf_cat (ve_v 1) (VF.pure (VF.pLst (vf_lst (va_p (VE.pTup (ve_tup (va_p ve_str (va_p (VE.pIf (ve_if (VT.pureB2 (vt_cmp op_lt rd_lt (ve_v 3) (ve_v 6) (nomark _))) (VE.pTup (ve_tup (va_p (ve_v 3) (va_p (ve_v 6) va_p0)))) (VE.pTup (ve_tup (va_p ve_int (va_p (ve_v 6) va_p0)))))) va_p0)))) va_p0))))))))) vss_nil)
  (vss_one (vs_ret (ve_if (VT.pureB2 (vt_cmp (op_eqX (hU 64 (by decide))) rd_eq (ve_v 4) ve_int (nomark _))) (VF.nw (vf_cat (ve_v 1) (VF.fz (vf_lst (va_cons (ve_tup (va_cons ve_str (va_cons (ve_call [true, false] ca__law_take hr hk__law_take rfl (va_p (ve_v 0) (va_p (ve_v 2) va_p0))) (va_p (ve_v 3) (va_p (ve_v 6) va_p0))))) va_p0))))) (VF.nw (VF.p2 (vf_cat (VF.pure (vf_slice (ve_v 1) vo_none (vo_some (VE.pure1 (ve_neg ve_int))))) (VF.pure (VF.pLst (vf_lst (va_p (VE.pTup (ve_tup (va_p ve_str va_p0))) (va_p (VE.pure2 (ve_idx (ve_v 1) (VE.pure1 (ve_neg ve_int)))) va_p0)))))))))))))))))))
abbrev s__law_renamed : Stmt := top 21
def N__law_renamed : List Str := ["_law_web", "_law_row"]
def t__law_renamed  : TS' :=
  (sRet (eNw (fLc (iPq (pV 0)) (.nm 1) tYs (eP (poIf (bB (po2 inD (po2 ixD (pV 1) (pC (.int 0))) (poTup [(pC (.str "has")), (pC (.str "pick"))]))) (po2 addD (po2 addD (poSl (pV 1) poNo (poI (pC (.int 1)))) (poTup [(po2 addD (po2 mulD (pC (.int 3)) (po2 ixD (pV 1) (pC (.int 1)))) (pC (.int 1)))])) (poSl (pV 1) (poI (pC (.int 2))) poNo)) (pV 1))) [1])))
theorem nd__law_renamed : N__law_renamed.Nodup := by decide
theorem sc__law_renamed : FnScope N__law_renamed ["_law_web"] (defScope s__law_renamed) := C8.fnScope_by (by decide +kernel)
theorem d__law_renamed {P : Program} {w : World} {K : PySem.W.Frag} {mg : Str → Option Value} {base : Heap} {f : Addr} {k : Nat}  :
    ∀ (cdv : Value) (A : Around) (outer : List Env) (s : Shared) (H : Hp) (E : XK) (G : Gd), RoomG k (A.deeper (PyProof.Rows.envOfC "_law_renamed" (defScope s__law_renamed) s.heap.objs.size f cdv)) → G.i0.length = 0 →
      VSs (cxOf C8.CX0 P w K mg base N__law_renamed "_law_renamed" (defScope s__law_renamed) f cdv A outer s H E).nox G (defBody s__law_renamed) (t__law_renamed ) := by
  intro cdv A outer s H E G hr hG
  have hU : ∀ n : Nat, n ≤ 200 → (A.deeper (PyProof.Rows.envOfC "_law_renamed" (defScope s__law_renamed) s.heap.objs.size f cdv)).units + n < cLine := fun n hn => by have := hr.rm.un; omega
  exact (vss_one (vs_ret (VF.nw (vf_lc (own := [("_law_row", 1)]) rfl nd__law_renamed (vi_pq (ve_v 0)) (blkOk_by (show blkC N__law_renamed (defScope s__law_renamed) _ _ = true by decide +kernel)) (fun s H C cl fp => pg_name nd__law_renamed rfl (by first | exact Or.inl rfl | exact Or.inr rfl) (by first | exact Or.inr rfl | exact Or.inl rfl)) (fun s H C cl fp G hG' => vts_nil) (fun s H C cl fp G hG' => (VE.pIf (ve_if (VT.pureB2 (vt_cmp (op_inX (hU 65 (by decide))) rd_in (VE.pure2 (ve_idx (ve_v 1) ve_int)) (VE.pTup (ve_tup (va_p ve_str (va_p ve_str va_p0)))) rfl)) (VE.pure2 (ve_add (VE.pure2 (ve_add (ve_slice (ve_v 1) vo_none (vo_some ve_int)) (VE.pTup (ve_tup (va_p (VE.pure2 (ve_add (VE.pure2 (ve_mul ve_int (VE.pure2 (ve_idx (ve_v 1) ve_int)))) ve_int)) va_p0))))) (ve_slice (ve_v 1) (vo_some ve_int) vo_none))) (ve_v 1)))) (by decide)))))
abbrev s_law : Stmt := top 22
def N_law : List Str := ["_law_script", "_law_k", "_law_tape_here", "_law_many_here", "_law_order_here", "_law_meaning", "_law_web", "_law_some", "_law_far", "_law_one", "_law_other", "_law_kept", "_law_found", "_law_turn", "_law_name"]
def t_law (sp__law_tape : SpD) (sp__law_many : SpD) (sp__law_order : SpD) (sp__law_take : SpD) (sp__law_laddered : SpD) (sp__law_wild_web : SpD) (sp__law_spoilt : SpD) (sp__law_renamed : SpD) (sp_is_ladder : SpD) (sp__law_is_ladder : SpD) : TS' :=
  (sSeq (sFor (iRg false (aP [(po2 addD (pC (.int 1)) (poN minD [(pC (.int 6)), (poN lenD [(pV 0)])]))])) (gNm 1)
  (sSeq (sSet 2 (eCall [false, false] sp__law_tape (aP [(pV 0), (pV 1)])))
  (sSeq (sSet 3 (eo2 addD (eP (pC (.int 1))) (eo2 modD (eCall [true] sp__law_many (aP [(pV 2)])) (eP (pC (.int 8))))))
  (sSeq (sSet 4 (eSeal 0 (eCall [true, false] sp__law_order (aP [(pV 2), (pV 3)]))))
  (sSeq (sSet 5 (eo1 tupC (eFz (fLc (iRg true (aP [(po2 shlD (pC (.int 1)) (pV 3))])) (.nm 9) tYs (eo2 eqD (eCall [true, false] sp__law_take (aP [(pV 2), (pC (.int 2))])) (eP (pC (.int 1)))) [9]))))
  (sSeq (sSet 6 (eSeal 0 (eCall [false, false] sp__law_laddered (aP [(pV 5), (pV 4)]))))
  (sSeq (sSet 7 (eFz (tLstF (aCons (eP (poTup [(pV 6), (pV 4)])) (aCons (eP (poTup [(pV 6), (pFz (pl1 revF (pV 4)))])) (aCons (tTupE (aCons (eSeal 0 (eCall [true, false] sp__law_wild_web (aP [(pV 2), (pV 3)]))) (aP [(pV 4)]))) (aP [])))))))
  (sSeq (sSet 7 (eFz (f2 catF (eP (pV 7)) (eFz (fLc (iRg true (aP [(pC (.int 12))])) (.nm 13) tYs (tTupE (aCons (eSeal 0 (eCall [true, false, false] sp__law_spoilt (aP [(pV 2), (pV 6), (pV 3)]))) (aP [(pV 4)]))) [13])))))
  (sSeq (sSet 8 (eFz (fLc (iPq (pFz (plSl (pV 7) poNo (poI (pC (.int 6)))))) (.tp [9, 10]) tYs (tTupE (aCons (eSeal 0 (eCall [false] sp__law_renamed (aP [(pV 9)]))) (aCons (eFz (fLc (iPq (pV 10)) (.nm 14) tYs (eP (po2 addD (po2 mulD (pC (.int 3)) (pV 14)) (pC (.int 1)))) [14])) (aP [])))) [9, 10])))
  (sSeq (sFor (iSq (eFz (f2 catF (eP (pFz (pl2 catF (pV 7) (pV 8)))) (eFz (tLstF (aCons (tTupE (aCons (eP (pV 6)) (aCons (eSeal 0 (eCall [true, false] sp__law_order (aP [(pV 2), (pV 3)]))) (aP [])))) (aP []))))))) (gTp [9, 10])
  (sSeq (sSet 11 (eP (poN reprD [(pFz (plLst [(pV 9), (pV 10)]))])))
  (sSeq (sSet 12 (eCall [false, false] sp_is_ladder (aP [(pV 9), (pV 10)])))
  (sIf (tOrr (cP (bNt (bTr (poN isiD [(pV 12), (pC (.ty "bool"))])))) (tOrr (tTb (eo2 neD (eP (pV 12)) (eCall [false, false] sp__law_is_ladder (aP [(pV 9), (pV 10)])))) (cP (bB (po2 neD (poN reprD [(pFz (plLst [(pV 9), (pV 10)]))]) (pV 11))))))
  (sRet (eP (pC (.bl false))))
  sNil))))
  (sIf (tTb (eo2 isntD (eCall [false, false] sp_is_ladder (aP [(pV 6), (pV 4)])) (eP (pC (.bl true)))))
  (sRet (eP (pC (.bl false))))
  sNil)))))))))))
  (sRet (eP (pC (.bl true)))))
theorem nd_law : N_law.Nodup := by decide
theorem sc_law : FnScope N_law ["_law_script"] (defScope s_law) := C8.fnScope_by (by decide +kernel)
theorem d_law {P : Program} {w : World} {K : PySem.W.Frag} {mg : Str → Option Value} {base : Heap} {f : Addr} {k : Nat} (m_len : mg "len" = none) (m_min : mg "min" = none) (m_range : mg "range" = none) (m_tuple : mg "tuple" = none) (m_repr : mg "repr" = none) (m_bool : mg "bool" = none) (m_isinstance : mg "isinstance" = none) {sp__law_tape : SpD} {k__law_tape : Nat} (ca__law_tape : Ca P w K mg base k__law_tape "_law_tape" 2 sp__law_tape) (hk__law_tape : k__law_tape ≤ k) {sp__law_many : SpD} {k__law_many : Nat} (ca__law_many : Ca P w K mg base k__law_many "_law_many" 1 sp__law_many) (hk__law_many : k__law_many ≤ k) {sp__law_order : SpD} {k__law_order : Nat} (ca__law_order : Ca P w K mg base k__law_order "_law_order" 2 sp__law_order) (hk__law_order : k__law_order ≤ k) {sp__law_take : SpD} {k__law_take : Nat} (ca__law_take : Ca P w K mg base k__law_take "_law_take" 2 sp__law_take) (hk__law_take : k__law_take ≤ k) {sp__law_laddered : SpD} {k__law_laddered : Nat} (ca__law_laddered : Ca P w K mg base k__law_laddered "_law_laddered" 2 sp__law_laddered) (hk__law_laddered : k__law_laddered ≤ k) {sp__law_wild_web : SpD} {k__law_wild_web : Nat} (ca__law_wild_web : Ca P w K mg base k__law_wild_web "_law_wild_web" 2 sp__law_wild_web) (hk__law_wild_web : k__law_wild_web ≤ k) {sp__law_spoilt : SpD} {k__law_spoilt : Nat} (ca__law_spoilt : Ca P w K mg base k__law_spoilt "_law_spoilt" 3 sp__law_spoilt) (hk__law_spoilt : k__law_spoilt ≤ k) {sp__law_renamed : SpD} {k__law_renamed : Nat} (ca__law_renamed : Ca P w K mg base k__law_renamed "_law_renamed" 1 sp__law_renamed) (hk__law_renamed : k__law_renamed ≤ k) {sp_is_ladder : SpD} {k_is_ladder : Nat} (ca_is_ladder : Ca P w K mg base k_is_ladder "is_ladder" 2 sp_is_ladder) (hk_is_ladder : k_is_ladder ≤ k) {sp__law_is_ladder : SpD} {k__law_is_ladder : Nat} (ca__law_is_ladder : Ca P w K mg base k__law_is_ladder "_law_is_ladder" 2 sp__law_is_ladder) (hk__law_is_ladder : k__law_is_ladder ≤ k) :
    ∀ (cdv : Value) (A : Around) (outer : List Env) (s : Shared) (H : Hp) (E : XK) (G : Gd), RoomG k (A.deeper (PyProof.Rows.envOfC "law" (defScope s_law) s.heap.objs.size f cdv)) → G.i0.length = 0 →
      VSs (cxOf C8.CX0 P w K mg base N_law "law" (defScope s_law) f cdv A outer s H E).nox G (defBody s_law) (t_law sp__law_tape sp__law_many sp__law_order sp__law_take sp__law_laddered sp__law_wild_web sp__law_spoilt sp__law_renamed sp_is_ladder sp__law_is_ladder) := by
  intro cdv A outer s H E G hr hG
  have hU : ∀ n : Nat, n ≤ 200 → (A.deeper (PyProof.Rows.envOfC "law" (defScope s_law) s.heap.objs.size f cdv)).units + n < cLine := fun n hn => by have := hr.rm.un; omega
  exact (vss_cons (vs_for (bd := false) PassesOwn.never rfl (vi_range1 rfl m_range (va_p (VE.pure2 (ve_add ve_int (VE.pureN (ve_callB (call_minX rfl) rd_min rfl m_min bt_min (va_p ve_int (va_p (VE.pureN (ve_callB call_lenX rd_len rfl m_len bt_len (va_p (ve_v 0) va_p0))) va_p0)))))) va_p0)) (vg_name nd_law rfl (by first | exact Or.inl rfl | exact Or.inr rfl)) (vss_cons (vs_set nd_law rfl (by first | exact Or.inl rfl | exact Or.inr rfl) (ve_call [false, false] ca__law_tape hr hk__law_tape rfl (va_p (ve_v 0) (va_p (ve_v 1) va_p0))))
  (vss_cons (vs_set nd_law rfl (by first | exact Or.inl rfl | exact Or.inr rfl) (ve_add ve_int (ve_mod (ve_call [true] ca__law_many hr hk__law_many rfl (va_p (ve_v 2) va_p0)) ve_int)))
  (vss_cons (vs_set nd_law rfl (by first | exact Or.inl rfl | exact Or.inr rfl) (VE.seal hG (ve_call [true, false] ca__law_order hr hk__law_order rfl (va_p (ve_v 2) (va_p (ve_v 3) va_p0)))))
  (vss_cons (vs_set nd_law rfl (by first | exact Or.inl rfl | exact Or.inr rfl) (ve_tupleOf rfl m_tuple (VF.fz (vf_lc (own := [("_law_one", 9)]) rfl nd_law (vi_range1 rfl m_range (va_p (VE.pure2 (ve_shl ve_int (ve_v 3))) va_p0)) (blkOk_by (show blkC N_law (defScope s_law) _ _ = true by decide +kernel)) (fun s H C cl fp => pg_name nd_law rfl (by first | exact Or.inl rfl | exact Or.inr rfl) (by first | exact Or.inr rfl | exact Or.inl rfl)) (fun s H C cl fp G hG' => vts_nil) (fun s H C cl fp G hG' => (ve_cmp (op_eqX (hU 64 (by decide))) rd_eq (ve_call [true, false] ca__law_take hr hk__law_take rfl (va_p (ve_v 2) (va_p ve_int va_p0))) ve_int (nomark _))) (by decide)))))
  (vss_cons (vs_set nd_law rfl (by first | exact Or.inl rfl | exact Or.inr rfl) (VE.seal hG (ve_call [false, false] ca__law_laddered hr hk__law_laddered rfl (va_p (ve_v 5) (va_p (ve_v 4) va_p0)))))
  (vss_cons (vs_set nd_law rfl (by first | exact Or.inl rfl | exact Or.inr rfl) (VF.fz (vf_lst (va_cons (VE.pTup (ve_tup (va_p (ve_v 6) (va_p (ve_v 4) va_p0)))) (va_cons (VE.pTup (ve_tup (va_p (ve_v 6) (va_p (VF.pure (VF.p1 (vf_rev (ve_v 4)))) va_p0)))) (va_cons (ve_tup (va_cons (VE.seal hG (ve_call [true, false] ca__law_wild_web hr hk__law_wild_web rfl (va_p (ve_v 2) (va_p (ve_v 3) va_p0)))) (va_p (ve_v 4) va_p0))) va_p0))))))
  (vss_cons (vs_set nd_law rfl (by first | exact Or.inl rfl | exact Or.inr rfl) (VF.fz (vf_cat (ve_v 7) (VF.fz (vf_lc (own := [("_law_turn", 13)]) rfl nd_law (vi_range1 rfl m_range (va_p ve_int va_p0)) (blkOk_by (show blkC N_law (defScope s_law) _ _ = true by decide +kernel)) (fun s H C cl fp => pg_name nd_law rfl (by first | exact Or.inl rfl | exact Or.inr rfl) (by first | exact Or.inr rfl | exact Or.inl rfl)) (fun s H C cl fp G hG' => vts_nil) (fun s H C cl fp G hG' => (ve_tup (va_cons (VE.seal ((congrArg List.length hG').trans hG) (ve_call [true, false, false] ca__law_spoilt hr hk__law_spoilt rfl (va_p (ve_v 2) (va_p (ve_v 6) (va_p (ve_v 3) va_p0))))) (va_p (ve_v 4) va_p0)))) (by decide))))))
  (vss_cons (vs_setLcF (own := [("_law_one", 9), ("_law_other", 10)]) rfl nd_law rfl rfl rfl (vi_pq (VF.pure (vf_slice (ve_v 7) vo_none (vo_some ve_int)))) (blkOk_by (show blkC N_law (defScope s_law) _ _ = true by decide +kernel)) (fun s H C cl fp => pg_tup rfl (pgs_cons (pg_name nd_law rfl (by first | exact Or.inl rfl | exact Or.inr rfl) (by first | exact Or.inr rfl | exact Or.inl rfl)) (pgs_cons (pg_name nd_law rfl (by first | exact Or.inl rfl | exact Or.inr rfl) (by first | exact Or.inr rfl | exact Or.inl rfl)) pgs_nil))) (fun s H C cl fp G hG' => vts_nil) (fun s H C cl fp G hG' => (ve_tup (va_cons (VE.seal ((congrArg List.length hG').trans hG) (ve_call [false] ca__law_renamed hr hk__law_renamed rfl (va_p (ve_v 9) va_p0))) (va_cons (VF.fz (vf_lc (own := [("_law_name", 14)]) rfl nd_law (vi_pq (ve_v 10)) (blkOk_by (show blkC N_law (relS _ (defScope s_law)) _ _ = true by decide +kernel)) (fun s H C cl fp => pg_name nd_law rfl (by first | exact Or.inl rfl | exact Or.inr rfl) (by first | exact Or.inr rfl | exact Or.inl rfl)) (fun s H C cl fp G hG' => vts_nil) (fun s H C cl fp G hG' => (VE.pure2 (ve_add (VE.pure2 (ve_mul ve_int (ve_v 14))) ve_int))) (by decide))) va_p0)))) (by decide))
  (vss_cons (vs_for (bd := false) PassesOwn.never rfl (vi_sq (VF.fz (vf_cat (VF.pure (VF.p2 (vf_cat (ve_v 7) (ve_v 8)))) (VF.fz (vf_lst (va_cons (ve_tup (va_cons (ve_v 6) (va_cons (VE.seal hG (ve_call [true, false] ca__law_order hr hk__law_order rfl (va_p (ve_v 2) (va_p (ve_v 3) va_p0)))) va_p0))) va_p0)))))) (vg_tup rfl (vgs_cons nd_law rfl (by first | exact Or.inl rfl | exact Or.inr rfl) (vgs_cons nd_law rfl (by first | exact Or.inl rfl | exact Or.inr rfl) vgs_nil))) (vss_cons (vs_set nd_law rfl (by first | exact Or.inl rfl | exact Or.inr rfl) (VE.pureN (ve_callB (call_repr hr.gs (hU 200 (by decide))) rd_repr rfl m_repr bt_repr (va_p (VF.pure (VF.pLst (vf_lst (va_p (ve_v 9) (va_p (ve_v 10) va_p0))))) va_p0))))
  (vss_cons (vs_set nd_law rfl (by first | exact Or.inl rfl | exact Or.inr rfl) (ve_call [false, false] ca_is_ladder hr hk_is_ladder rfl (va_p (ve_v 9) (va_p (ve_v 10) va_p0))))
  (vss_one (vs_if (VW.vt (vw_or (VT.pNot (vt_not (VT.pure (vt_val (VE.pureN (ve_callB call_isiX rd_isi rfl m_isinstance bt_isinstance (va_p (ve_v 12) (va_p (ve_ty rfl m_bool bt_bool) va_p0)))))))) (vw_or (vt_cmp (op_neX (hU 64 (by decide))) rd_ne (ve_v 12) (ve_call [false, false] ca__law_is_ladder hr hk__law_is_ladder rfl (va_p (ve_v 9) (va_p (ve_v 10) va_p0))) (nomark _)) (vw_or1 (VT.pureB2 (vt_cmp (op_neX (hU 64 (by decide))) rd_ne (VE.pureN (ve_callB (call_repr hr.gs (hU 200 (by decide))) rd_repr rfl m_repr bt_repr (va_p (VF.pure (VF.pLst (vf_lst (va_p (ve_v 9) (va_p (ve_v 10) va_p0))))) va_p0))) (ve_v 11) (nomark _))))))) (vss_one (vs_ret ve_bl)) vss_nil)))))
  (vss_one (vs_if (vt_cmp op_isntX rd_isnt (ve_call [false, false] ca_is_ladder hr hk_is_ladder rfl (va_p (ve_v 6) (va_p (ve_v 4) va_p0))) ve_bl (nomark _)) (vss_one (vs_ret ve_bl)) vss_nil))))))))))))
  (vss_one (vs_ret ve_bl)))
end Zk17
set_option Elab.async false
set_option linter.all false
set_option maxRecDepth 100000
set_option maxHeartbeats 1000000
open PySem PySem.Spec L2 RT RZ VL
namespace Zk17
def dd_rows_below : He.DefD := ⟨("rows_below", none), "rows_below", "rows_below", defArgs s_rows_below, defBody s_rows_below, defScope s_rows_below, [], []⟩
def dd_reached : He.DefD := ⟨("reached", none), "reached", "reached", defArgs s_reached, defBody s_reached, defScope s_reached, [], []⟩
def dd_next_asked : He.DefD := ⟨("next_asked", none), "next_asked", "next_asked", defArgs s_next_asked, defBody s_next_asked, defScope s_next_asked, [], []⟩
def dd_late_in : He.DefD := ⟨("late_in", none), "late_in", "late_in", defArgs s_late_in, defBody s_late_in, defScope s_late_in, [], []⟩
def dd_is_ladder : He.DefD := ⟨("is_ladder", none), "is_ladder", "is_ladder", defArgs s_is_ladder, defBody s_is_ladder, defScope s_is_ladder, [], []⟩
def dd__law_cell_at : He.DefD := ⟨("_law_cell_at", none), "_law_cell_at", "_law_cell_at", defArgs s__law_cell_at, defBody s__law_cell_at, defScope s__law_cell_at, [], []⟩
def dd__law_tape : He.DefD := ⟨("_law_tape", none), "_law_tape", "_law_tape", defArgs s__law_tape, defBody s__law_tape, defScope s__law_tape, [], []⟩
def dd__law_take : He.DefD := ⟨("_law_take", none), "_law_take", "_law_take", defArgs s__law_take, defBody s__law_take, defScope s__law_take, [], []⟩
def dd__law_mixed : He.DefD := ⟨("_law_mixed", none), "_law_mixed", "_law_mixed", defArgs s__law_mixed, defBody s__law_mixed, defScope s__law_mixed, [], []⟩
def dd__law_many : He.DefD := ⟨("_law_many", none), "_law_many", "_law_many", defArgs s__law_many, defBody s__law_many, defScope s__law_many, [], []⟩
def dd__law_below : He.DefD := ⟨("_law_below", none), "_law_below", "_law_below", defArgs s__law_below, defBody s__law_below, defScope s__law_below, [], []⟩
def dd__law_wild_web : He.DefD := ⟨("_law_wild_web", none), "_law_wild_web", "_law_wild_web", defArgs s__law_wild_web, defBody s__law_wild_web, defScope s__law_wild_web, [], []⟩
def dd__law_order : He.DefD := ⟨("_law_order", none), "_law_order", "_law_order", defArgs s__law_order, defBody s__law_order, defScope s__law_order, [], []⟩
def dd__law_is_ladder : He.DefD := ⟨("_law_is_ladder", none), "_law_is_ladder", "_law_is_ladder", defArgs s__law_is_ladder, defBody s__law_is_ladder, defScope s__law_is_ladder, [], []⟩
def dd__law_made : He.DefD := ⟨("_law_made", none), "_law_made", "_law_made", defArgs s__law_made, defBody s__law_made, defScope s__law_made, [], []⟩
def dd__law_laddered : He.DefD := ⟨("_law_laddered", none), "_law_laddered", "_law_laddered", defArgs s__law_laddered, defBody s__law_laddered, defScope s__law_laddered, [], []⟩
def dd__law_spoilt : He.DefD := ⟨("_law_spoilt", none), "_law_spoilt", "_law_spoilt", defArgs s__law_spoilt, defBody s__law_spoilt, defScope s__law_spoilt, [], []⟩
def dd__law_renamed : He.DefD := ⟨("_law_renamed", none), "_law_renamed", "_law_renamed", defArgs s__law_renamed, defBody s__law_renamed, defScope s__law_renamed, [], []⟩
def dd_law : He.DefD := ⟨("law", none), "law", "law", defArgs s_law, defBody s_law, defScope s_law, [], []⟩
def fn : List He.DefD := [dd_rows_below, dd_reached, dd_next_asked, dd_late_in, dd_is_ladder, dd__law_cell_at, dd__law_tape, dd__law_take, dd__law_mixed, dd__law_many, dd__law_below, dd__law_wild_web, dd__law_order, dd__law_is_ladder, dd__law_made, dd__law_laddered, dd__law_spoilt, dd__law_renamed, dd_law]
def fa : List He.Fa := [.glo "rows_below", .glo "reached", .glo "next_asked", .glo "late_in", .glo "is_ladder", .glo "_law_cell_at", .glo "_law_tape", .glo "_law_take", .glo "_law_mixed", .glo "_law_many", .glo "_law_below", .glo "_law_wild_web", .glo "_law_order", .glo "_law_is_ladder", .glo "_law_made", .glo "_law_laddered", .glo "_law_spoilt", .glo "_law_renamed", .glo "law", .free "list", .free "len", .free "range", .free "enumerate", .free "sorted", .free "dict", .free "all", .free "set", .free "any", .free "abs", .free "int", .free "tuple", .free "min", .free "max", .free "repr", .free "bool", .free "isinstance"]
def cs : List (Str × D) := [("PARTED", c_PARTED)]
abbrev hk : PySem.W.Hook := hookV 4 fa fn cs
def ob (s : PySem.W.SharedT) : AlV := obsVG 4 fa fn cs (HandSHeadRun.getT s)
theorem ob_eq (s : PySem.W.SharedT) : ob s = hk.obs s.abs := obsVG_eq (HandSHeadRun.getT_eq s)
abbrev R : PySem.W.OpenRow := PySem.W.OpenLaw.row PySem.Challenge.rw_countforms_k17_ladders_looked_at
theorem run (w : World) : HandSHeadRun.RunEq R (PySem.W.view R.prog [22]) hk ob 20000 ["PARTED", "rows_below", "reached", "next_asked", "late_in", "is_ladder", "_law_cell_at", "_law_tape", "_law_take", "_law_mixed", "_law_many", "_law_below", "_law_wild_web", "_law_order", "_law_is_ladder", "_law_laddered", "_law_made", "_law_spoilt", "_law_renamed"] w := by
  intro os
  kernel_rfl
end Zk17
set_option Elab.async false
set_option linter.all false
set_option maxRecDepth 100000
set_option maxHeartbeats 1000000
namespace VL
open PySem PySem.Spec L2
theorem ok_gd {α : Type} {c : Prop} [Decidable c] {x : α} {k : α → Prop} : ok (gd c x) k ↔ c ∧ k x := by
  unfold gd
  by_cases h : c
  · simp [h, ok]
  · simp [h, ok]
theorem ok_ite {α : Type} {c : Prop} [Decidable c] {a b : Option α} {k : α → Prop} : ok (if c then a else b) k ↔ if c then ok a k else ok b k := by
  by_cases h : c <;> simp [h]
section
variable {M : Mem} {Q : QD} {i j : Int} {n m : Nat} {x y z u v : D} {a b : List D} {s t : Str} {p q : Bool} {ns : List Int} {c : Cell}
theorem ix_ref : ixD M (.ref n) (.d (.int i)) = (cellL M[n]?).bind fun ds => (atI ds i).map .d := rfl
theorem ix_tup : ixD M (.d (.tup a)) (.d (.int i)) = (atI a i).map .d := rfl
theorem ix_lst : ixD M (.d (.lst a)) (.d (.int i)) = (atI a i).map .d := rfl
theorem ix_bor : ixD M (.bor a) (.d (.int i)) = (atI a i).map .d := rfl
theorem ix_scr : ixD M (.d (.scr ns)) (.d (.int i)) = (atI (ns.map D.int) i).map .d := rfl
theorem add_int : addD M (.d (.int i)) (.d (.int j)) = some (.d (.int (i + j))) := rfl
theorem add_str : addD M (.d (.str s)) (.d (.str t)) = gd (s.length + t.length ≤ sizeLine) (.d (.str (s ++ t))) := rfl
theorem add_tup : addD M (.d (.tup a)) (.d (.tup b)) = gd (a.length + b.length ≤ sizeLine) (.d (.tup (a ++ b))) := rfl
theorem sub_int : subD M (.d (.int i)) (.d (.int j)) = some (.d (.int (i - j))) := rfl
theorem mul_int : mulD M (.d (.int i)) (.d (.int j)) = gd (MulOk i j) (.d (.int (i * j))) := rfl
theorem fdiv_int : fdivD M (.d (.int i)) (.d (.int j)) = gd (0 < j ∧ j.natAbs.log2 < 9000) (.d (.int (i / j))) := rfl
theorem mod_int : modD M (.d (.int i)) (.d (.int j)) = gd (0 < j) (.d (.int (i % j))) := rfl
theorem pow_int : powD M (.d (.int i)) (.d (.int j)) = gd (CPow i j) (.d (.int (i ^ j.toNat))) := rfl
theorem neg_int : negD M (.d (.int i)) = some (.d (.int (-i))) := rfl
theorem lt_int : ltD M (.d (.int i)) (.d (.int j)) = some (.d (.bl (decide (i < j)))) := rfl
theorem le_int : leD M (.d (.int i)) (.d (.int j)) = some (.d (.bl (decide (i ≤ j)))) := rfl
theorem gt_int : gtD M (.d (.int i)) (.d (.int j)) = some (.d (.bl (decide (j < i)))) := rfl
theorem ge_int : geD M (.d (.int i)) (.d (.int j)) = some (.d (.bl (decide (j ≤ i)))) := rfl
theorem eq_int : eqD M (.d (.int i)) (.d (.int j)) = some (.d (.bl (decide (i = j)))) := rfl
theorem eq_str : eqD M (.d (.str s)) (.d (.str t)) = some (.d (.bl (decide (s = t)))) := rfl
theorem eq_bl : eqD M (.d (.bl p)) (.d (.bl q)) = some (.d (.bl (decide (p = q)))) := rfl
theorem ne_int : neD M (.d (.int i)) (.d (.int j)) = some (.d (.bl (!decide (i = j)))) := rfl
theorem ne_str : neD M (.d (.str s)) (.d (.str t)) = some (.d (.bl (!decide (s = t)))) := rfl
theorem ne_bl : neD M (.d (.bl p)) (.d (.bl q)) = some (.d (.bl (!decide (p = q)))) := rfl
theorem is_bl : isD M (.d (.bl p)) (.d (.bl q)) = some (.d (.bl (decide (p = q)))) := rfl
theorem isnt_bl : isntD M (.d (.bl p)) (.d (.bl q)) = some (.d (.bl (!decide (p = q)))) := rfl
theorem is_non {w : Sv} : isD M w (.d .non) = some (.d (.bl (nonB w))) := by cases w with | d x => cases x <;> rfl | _ => rfl
theorem isnt_non {w : Sv} : isntD M w (.d .non) = some (.d (.bl (!nonB w))) := by cases w with | d x => cases x <;> rfl | _ => rfl
theorem len_tup : lenD M [.d (.tup a)] = some (.d (.int a.length)) := rfl
theorem len_lst : lenD M [.d (.lst a)] = some (.d (.int a.length)) := rfl
theorem len_bor : lenD M [.bor a] = some (.d (.int a.length)) := rfl
theorem len_scr : lenD M [.d (.scr ns)] = some (.d (.int ns.length)) := by simp [lenD, lenOf, seqD, intS]
theorem len_ref (h : M[n]? = some (.lst a)) : lenD M [.ref n] = some (.d (.int a.length)) := by simp [lenD, lenOf, h, intS]
theorem int_bl : intD M [.d (.bl p)] = some (.d (.int (if p then 1 else 0))) := rfl
theorem int_int : intD M [.d (.int i)] = some (.d (.int i)) := rfl
theorem abs_int : absD M [.d (.int i)] = some (.d (.int (if i < 0 then -i else i))) := rfl
theorem min_int : minD M [.d (.int i), .d (.int j)] = some (.d (.int (if j < i then j else i))) := rfl
theorem max_int : maxD M [.d (.int i), .d (.int j)] = some (.d (.int (if j > i then j else i))) := rfl
theorem blD_bl : blD (.d (.bl p)) = some p := rfl
theorem cell_lst : cellL (some (.lst a)) = some a := rfl
theorem st_ref {R : Mem → Prop} : stD (.ref n) (.d (.int i)) x M R = ok (cellL M[n]?) fun ds => ok (ixN ds.length i) fun j => R (M.set n (.lst (ds.set j x))) := rfl
theorem at_nat {α : Type} {xs : List α} {k : Nat} : atI xs ((k : Nat) : Int) = xs[k]? := by
  unfold atI ixN
  rw [if_pos (by omega)]
  split
  · simp
  · rw [List.getElem?_eq_none (by omega)]; rfl
theorem at_0 {α : Type} {x : α} {xs : List α} : atI (x :: xs) 0 = some x := at_nat (k := 0)
theorem at_1 {α : Type} {x y : α} {xs : List α} : atI (x :: y :: xs) 1 = some y := at_nat (k := 1)
theorem at_2 {α : Type} {x y z : α} {xs : List α} : atI (x :: y :: z :: xs) 2 = some z := at_nat (k := 2)
theorem at_3 {α : Type} {x y z u : α} {xs : List α} : atI (x :: y :: z :: u :: xs) 3 = some u := at_nat (k := 3)
theorem at_4 {α : Type} {x y z u v : α} {xs : List α} : atI (x :: y :: z :: u :: v :: xs) 4 = some v := at_nat (k := 4)
theorem ixN_10 : ixN 1 0 = some 0 := by decide
theorem ixN_20 : ixN 2 0 = some 0 := by decide
theorem ixN_21 : ixN 2 1 = some 1 := by decide
theorem ixN_30 : ixN 3 0 = some 0 := by decide
theorem ixN_31 : ixN 3 1 = some 1 := by decide
theorem ixN_32 : ixN 3 2 = some 2 := by decide
theorem dataS_d : dataS (.d x) = some x := rfl
theorem datas_nil : datas [] = some [] := rfl
theorem datas_cons {xs : List Sv} : datas (.d x :: xs) = (datas xs).map fun ds => x :: ds := rfl
theorem truth_bl : truth M (.d (.bl p)) = some p := rfl
theorem endsF_rt {R : Rv → Mem → Prop} {k : Nat} {w : Sv} : (endsF k R).rt w M = (okRef k w ∧ ok (resD M w) fun r => R r (M.take k)) := rfl
theorem endsF_nx {R : Rv → Mem → Prop} {k : Nat} {δ : DS} : (endsF k R).nx δ M = R (.d .non) (M.take k) := rfl
theorem rv_d : resD M (.d x) = some (.d x) := rfl
theorem rv_ref : resD M (.ref n) = resC M[n]? := rfl
theorem rv_cl {ds : List D} : resC (some (.lst ds)) = some (.new ds) := rfl
theorem rv_ck {kvs : List (Key × D)} : resC (some (.dk kvs)) = some (.newK kvs) := rfl
theorem rvQ_d : rvQ Q (.d x) M = Q (.d x) M := rfl
theorem rvQ_new : rvQ Q (.new a) M = Q (.ref M.length) (M ++ [.lst a]) := rfl
theorem rvQ_newK {kvs : List (Key × D)} : rvQ Q (.newK kvs) M = Q (.ref M.length) (M ++ [.dk kvs]) := rfl
theorem okRef_d {k : Nat} : okRef k (.d x) = True := rfl
theorem okRef_ref {k : Nat} : okRef k (.ref n) = (k ≤ n) := rfl
theorem at_pick {P : D → Prop} {R : D → Prop} {ds : List D} {i : Int} (h0 : 0 ≤ i) (h1 : i < ds.length) (h : ∀ d ∈ ds, P d) (k : ∀ d, P d → R d) : ok (atI ds i) R := by
  obtain ⟨j, rfl⟩ := Int.eq_ofNat_of_zero_le h0
  have hj : j < ds.length := by omega
  rw [at_nat, List.getElem?_eq_getElem hj]
  exact k _ (h _ (List.getElem_mem hj))
theorem handS_n {ks : List Nat} : handS M [] [] ks = some ([], ks) := rfl
theorem handS_tr {ms : List Bool} {xs : List Sv} {ks : List Nat} : handS M (true :: ms) (.ref n :: xs) ks = if n ∈ ks then none else (cellA M[n]?).bind fun _ => (handS M ms xs (ks ++ [n])).map fun r => (.ref ks.length :: r.1, r.2) := rfl
theorem handS_fr {ms : List Bool} {xs : List Sv} {ks : List Nat} : handS M (false :: ms) (.ref n :: xs) ks = (cellL M[n]?).bind fun ds => (handS M ms xs ks).bind fun r => if n ∈ r.2 then none else some (.bor ds :: r.1, r.2) := rfl
theorem handS_fd {ms : List Bool} {xs : List Sv} {ks : List Nat} : handS M (false :: ms) (.d x :: xs) ks = (handS M ms xs ks).map fun r => (.d x :: r.1, r.2) := rfl
theorem handS_fb {ms : List Bool} {xs : List Sv} {ks : List Nat} : handS M (false :: ms) (.bor a :: xs) ks = (handS M ms xs ks).map fun r => (.bor a :: r.1, r.2) := rfl
theorem cellA_lst {a : List D} : cellA (some (.lst a)) = some () := rfl
theorem cellA_dk {a : List (Key × D)} : cellA (some (.dk a)) = some () := rfl
theorem cellsAt_0 : cellsAt M [] = [] := rfl
theorem cellsAt_c {ks : List Nat} : cellsAt M (n :: ks) = M[n]?.getD .gone :: cellsAt M ks := rfl
theorem tup_lst : tupC M (.d (.lst a)) = some (.d (.tup a)) := rfl
theorem tup_tup : tupC M (.d (.tup a)) = some (.d (.tup a)) := rfl
theorem tup_ref : tupC M (.ref n) = (cellL M[n]?).map fun ds => .d (.tup ds) := rfl
theorem rng_1 {k : List D → Prop} : rngD [.d (.int j)] k = (I62 j ∧ k (rgL 0 j.toNat)) := rfl
theorem rng_2 {k : List D → Prop} : rngD [.d (.int i), .d (.int j)] k = ((I62 i ∧ I62 j) ∧ k (rgL i (j - i).toNat)) := rfl
theorem wipeS_c {δ : DS} {vs : List Nat} : wipeS δ (n :: vs) = (wipeS δ vs).set n none := rfl
theorem wipeS_n {δ : DS} : wipeS δ [] = δ := rfl
theorem ite_two {p q : Prop} [Decidable p] [Decidable q] {A B : Prop} (a : A) (b : ¬p → ¬q → B) : if p then A else if q then A else B := by
  by_cases h : p
  · rw [if_pos h]; exact a
  · rw [if_neg h]
    by_cases h2 : q
    · rw [if_pos h2]; exact a
    · rw [if_neg h2]; exact b h h2
theorem seq_tup : seqD M (.d (.tup a)) = some a := rfl
theorem seq_lst : seqD M (.d (.lst a)) = some a := rfl
theorem seq_bor : seqD M (.bor a) = some a := rfl
theorem lst_lst : lstD M (.d (.lst a)) = some a := rfl
theorem lst_bor : lstD M (.bor a) = some a := rfl
theorem gdS_d : gdS (.d x) a = fun _ => True := rfl
theorem gdS_b : gdS (.bor b) a = fun _ => True := rfl
theorem gcS_c {k : Nat} {o : Option Sv} {δ : DS} : gcS k (o :: δ) = gcO k o :: gcS k δ := rfl
theorem gcS_n {k : Nat} : gcS k [] = [] := rfl
theorem gcO_d {k : Nat} : gcO k (some (.d x)) = some (.d x) := rfl
theorem gcO_n {k : Nat} : gcO k none = none := rfl
theorem gcO_z : gcO 0 (some (.ref n)) = none := rfl
theorem seal_d {m0 : Nat} : sealD m0 M (.d x) = some (.d x, M) := rfl
theorem gcO_r0 {k : Nat} : gcO (k + 1) (some (.ref 0)) = some (.ref 0) := rfl
theorem gcO_r1 {k : Nat} : gcO (k + 2) (some (.ref 1)) = some (.ref 1) := rfl
theorem gcO_r {k : Nat} (h : n < k) : gcO k (some (.ref n)) = some (.ref n) := if_pos h
theorem mapp {R : QD} : mApp (.ref n) [.d x] M R = ok (cellL M[n]?) fun ds => ds.length < sizeLine ∧ R (.d .non) (M.set n (.lst (ds ++ [x]))) := rfl
theorem rcv_0 : rcv (.lst a :: M) (.ref 0) = some "list" := rfl
theorem rcv_1 : rcv (c :: .lst a :: M) (.ref 1) = some "list" := rfl
theorem rcv_l : rcv M (.d (.lst a)) = some "list" := rfl
theorem backS_0 {cs : Mem} : backS [] cs M = M := by cases cs <;> rfl
theorem backS_1 : backS [n] [c] M = M.set n c := rfl
end
/-- the tape: its third number at most b -/
structure Tp (b : Nat) (ds : List D) : Prop where
  ex : ∃ t0 t1 t2 : Int, ds = [.int t0, .int t1, .int t2] ∧ 0 ≤ t0 ∧ 0 ≤ t1 ∧ t1 < 2147483629 ∧ 0 ≤ t2 ∧ t2 ≤ b
theorem Tp.mono {b c : Nat} {ds : List D} (h : Tp b ds) (hb : b ≤ c) : Tp c ds := by
  obtain ⟨t0, t1, t2, rfl, h0, h1, h2, h3, h4⟩ := h.ex
  exact ⟨t0, t1, t2, rfl, h0, h1, h2, h3, by omega⟩
def sp_take : SpD := fun as M Q => ∃ (ds : List D) (n : Int) (b : Nat), as = [.ref 0, .d (.int n)] ∧ M = [.lst ds] ∧ Tp b ds ∧ b < 1099511627776 ∧ 1 ≤ n ∧ n ≤ 99999 ∧
  ∀ (v : Int) (ds' : List D), 0 ≤ v → v < n → Tp (b + 1) ds' → Q (.d (.int v)) [.lst ds']
def r_take (sp__law_take : SpD) : TS' :=
  (sSeq (sIf (cP (bB (po2 gtD (po2 ixD (pV 0) (pC (.int 0))) (pC (.int 0)))))
  (sSeq (sSet 4 (eP (po2 modD (po2 ixD (pV 0) (pC (.int 0))) (pV 1))))
  (sSeq (sSub (eP (po2 fdivD (po2 ixD (pV 0) (pC (.int 0))) (pV 1))) (eP (pV 0)) (eP (pC (.int 0))))
  (sRet (eP (pV 4)))))
  sNil)
  (sSeq (sSub (eP (po2 addD (po2 ixD (pV 0) (pC (.int 2))) (pC (.int 1)))) (eP (pV 0)) (eP (pC (.int 2))))
  (sSeq (sSet 2 (eP (po2 ixD (pFz (plLst [(pC (.int 2147483587)), (pC (.int 2147483579)), (pC (.int 2147483563)), (pC (.int 2147483549)), (pC (.int 2147483543)), (pC (.int 2147483497)), (pC (.int 2147483489))])) (po2 modD (po2 ixD (pV 0) (pC (.int 2))) (pC (.int 7))))))
  (sSeq (sSet 3 (eP (po2 modD (po2 mulD (po2 addD (po2 ixD (pV 0) (pC (.int 1))) (po2 mulD (pC (.int 39373)) (po2 ixD (pV 0) (pC (.int 2))))) (po2 addD (pC (.int 48271)) (po2 ixD (pV 0) (pC (.int 2))))) (pV 2))))
  (sSeq (sSub (eP (po2 modD (po2 addD (po2 mulD (pV 3) (po2 addD (po2 modD (pV 3) (pC (.int 40009))) (pC (.int 7)))) (po2 ixD (pV 0) (pC (.int 2)))) (pC (.int 2147483629)))) (eP (pV 0)) (eP (pC (.int 1))))
  (sSeq (sSet 4 (eP (po2 fdivD (po2 modD (po2 mulD (po2 ixD (pV 0) (pC (.int 1))) (po2 addD (po2 modD (po2 ixD (pV 0) (pC (.int 1))) (pC (.int 1009))) (pC (.int 3)))) (pC (.int 998244353))) (pC (.int 7)))))
  (sRet (eIf (cP (bB (po2 ltD (pV 1) (po2 powD (pC (.int 10)) (pC (.int 6)))))) (eP (po2 modD (pV 4) (pV 1))) (eo2 modD (eo2 addD (eP (po2 mulD (pV 4) (pC (.int 99991)))) (eCall [true, false] sp__law_take (aP [(pV 0), (pC (.int 99991))]))) (eP (pV 1)))))))))))
local macro_rules
  | `(tactic| simp only [VLS]) => `(tactic| simp only [sSeq, sIf, sSet, sSub, sRet, sRetN, sNil, sDrop, sAsg, sPar, sParT, sAug, cP, bB, bTr, bNt, bAn, bOr, po1, po2, poN, pArgs, poIf, poAn, poOr, poNt, poTup, plLst, plN, pl2, pl1, pFz, pV, pC, eP, eo1, eo2, eoN, aP, aNil, aCons, eAn, eOr, eNt, eIf, eFz, eNw, fP, fN, f2, f1, tTupE, tLstF, tTr, tTb, tAn, tOrr, tNt, tYs, eSeal, eMt, poMt, mPure, eCh, pCh, ok_bind, ok_map, ok_some, ok_none, ok_gd, ok_ite, List.getElem?_cons_zero, List.getElem?_cons_succ, List.set_cons_zero, List.set_cons_succ, Option.join_some, Option.bind_some, Option.map_some, Option.bind_none, Option.map_none, ix_ref, ix_tup, ix_lst, ix_bor, ix_scr, add_int, add_str, add_tup, sub_int, mul_int, fdiv_int, mod_int, pow_int, neg_int, lt_int, le_int, gt_int, ge_int, eq_int, eq_str, eq_bl, ne_int, ne_str, ne_bl, is_bl, isnt_bl, is_non, isnt_non, len_tup, len_lst, len_ref, len_bor, len_scr, int_bl, int_int, abs_int, min_int, max_int, blD_bl, cell_lst, cellA_lst, cellA_dk, st_ref, at_0, at_1, at_2, at_3, at_4, ixN_10, ixN_20, ixN_21, ixN_30, ixN_31, ixN_32, dataS_d, datas_nil, datas_cons, truth_bl, notD, intS, blS, nonB, List.length_cons, List.length_nil, Nat.reduceAdd, endsF_rt, endsF_nx, rvQ_d, rvQ_new, rvQ_newK, rv_d, rv_ref, rv_cl, rv_ck, okRef_d, okRef_ref, List.not_mem_nil, List.nil_append, true_and, and_true, List.take_succ_cons, List.take_zero, Nat.zero_add, decide_eq_true_eq, Bool.false_eq_true, if_false, if_true, callS, handS_n, handS_tr, handS_fr, handS_fd, handS_fb, cellsAt_c, cellsAt_0, Option.getD_some, backS_0, backS_1, eCall, tup_lst, tup_tup, tup_ref, fLc, iRg, rng_1, rng_2, wipeS_c, wipeS_n, iPq, iSq, seq_tup, seq_lst, seq_bor, lst_lst, lst_bor, gdS_d, gdS_b, sFor, gNm, gcS_c, gcS_n, gcO_d, gcO_n, mapp, rcv_0, rcv_1, rcv_l, gcO_r0, gcO_r1, gcO_z, seal_d, eq_self, List.take_nil, List.cons_append])
  | `(tactic| simp only [VLS, $xs,*]) => `(tactic| simp only [sSeq, sIf, sSet, sSub, sRet, sRetN, sNil, sDrop, sAsg, sPar, sParT, sAug, cP, bB, bTr, bNt, bAn, bOr, po1, po2, poN, pArgs, poIf, poAn, poOr, poNt, poTup, plLst, plN, pl2, pl1, pFz, pV, pC, eP, eo1, eo2, eoN, aP, aNil, aCons, eAn, eOr, eNt, eIf, eFz, eNw, fP, fN, f2, f1, tTupE, tLstF, tTr, tTb, tAn, tOrr, tNt, tYs, eSeal, eMt, poMt, mPure, eCh, pCh, ok_bind, ok_map, ok_some, ok_none, ok_gd, ok_ite, List.getElem?_cons_zero, List.getElem?_cons_succ, List.set_cons_zero, List.set_cons_succ, Option.join_some, Option.bind_some, Option.map_some, Option.bind_none, Option.map_none, ix_ref, ix_tup, ix_lst, ix_bor, ix_scr, add_int, add_str, add_tup, sub_int, mul_int, fdiv_int, mod_int, pow_int, neg_int, lt_int, le_int, gt_int, ge_int, eq_int, eq_str, eq_bl, ne_int, ne_str, ne_bl, is_bl, isnt_bl, is_non, isnt_non, len_tup, len_lst, len_ref, len_bor, len_scr, int_bl, int_int, abs_int, min_int, max_int, blD_bl, cell_lst, cellA_lst, cellA_dk, st_ref, at_0, at_1, at_2, at_3, at_4, ixN_10, ixN_20, ixN_21, ixN_30, ixN_31, ixN_32, dataS_d, datas_nil, datas_cons, truth_bl, notD, intS, blS, nonB, List.length_cons, List.length_nil, Nat.reduceAdd, endsF_rt, endsF_nx, rvQ_d, rvQ_new, rvQ_newK, rv_d, rv_ref, rv_cl, rv_ck, okRef_d, okRef_ref, List.not_mem_nil, List.nil_append, true_and, and_true, List.take_succ_cons, List.take_zero, Nat.zero_add, decide_eq_true_eq, Bool.false_eq_true, if_false, if_true, callS, handS_n, handS_tr, handS_fr, handS_fd, handS_fb, cellsAt_c, cellsAt_0, Option.getD_some, backS_0, backS_1, eCall, tup_lst, tup_tup, tup_ref, fLc, iRg, rng_1, rng_2, wipeS_c, wipeS_n, iPq, iSq, seq_tup, seq_lst, seq_bor, lst_lst, lst_bor, gdS_d, gdS_b, sFor, gNm, gcS_c, gcS_n, gcO_d, gcO_n, mapp, rcv_0, rcv_1, rcv_l, gcO_r0, gcO_r1, gcO_z, seal_d, eq_self, List.take_nil, List.cons_append, $xs,*])
theorem pure_take {sp : SpD} (as : List Sv) (M : Mem) (Q : Rv → Mem → Prop) (h : sp_take as M Q) : r_take sp (endsF M.length Q) (startD 5 as) M := by
  obtain ⟨ds, n, b, rfl, rfl, ht, hb, h1, h2, z⟩ := h
  obtain ⟨t0, t1, t2, rfl, a0, a1, a2, a3, a4⟩ := ht.ex
  show r_take sp (endsF 1 Q) [some (.ref 0), some (.d (.int n)), none, none, none] [.lst [.int t0, .int t1, .int t2]]
  simp only [VLS, r_take]
  split
  · rename_i h0
    refine ⟨by omega, ⟨by omega, ?_⟩, z _ _ (Int.emod_nonneg _ (by omega)) (Int.emod_lt_of_pos _ (by omega)) ⟨t0 / n, t1, t2, rfl, Int.ediv_nonneg a0 (by omega), a1, a2, a3, by omega⟩⟩
    have hn : n.natAbs < 2 ^ 17 := by omega
    have := (Nat.log2_lt (n := n.natAbs) (k := 17) (by omega)).mpr hn
    omega
  · refine ⟨by decide, at_pick (P := fun d => ∃ p : Int, d = .int p ∧ 2147483489 ≤ p ∧ p ≤ 2147483587) (Int.emod_nonneg _ (by decide)) (by have := Int.emod_lt_of_pos (t2 + 1) (show (0:Int) < 7 by decide); simpa using this) ?_ ?_⟩
    · intro d hd
      simp only [List.mem_cons, List.not_mem_nil, or_false] at hd
      rcases hd with rfl | rfl | rfl | rfl | rfl | rfl | rfl <;> exact ⟨_, rfl, by decide, by decide⟩
    · rintro d ⟨p, rfl, p1, p2⟩
      simp only [VLS]
      generalize hz : (t1 + 39373 * (t2 + 1)) * (48271 + (t2 + 1)) = zz
      have e1 := Int.emod_nonneg zz (show p ≠ 0 by omega)
      have e2 := Int.emod_lt_of_pos zz (show 0 < p by omega)
      generalize zz % p = q at e1 e2
      have e3 := Int.emod_nonneg q (show (40009:Int) ≠ 0 by decide)
      have e4 := Int.emod_lt_of_pos q (show (0:Int) < 40009 by decide)
      generalize q % 40009 = r at e3 e4
      generalize q * (r + 7) + (t2 + 1) = y
      have e5 := Int.emod_nonneg y (show (2147483629:Int) ≠ 0 by decide)
      have e6 := Int.emod_lt_of_pos y (show (0:Int) < 2147483629 by decide)
      generalize y % 2147483629 = x at e5 e6
      have e7 := Int.emod_nonneg x (show (1009:Int) ≠ 0 by decide)
      have e8 := Int.emod_lt_of_pos x (show (0:Int) < 1009 by decide)
      generalize x % 1009 = v at e7 e8
      have e9 : n < 10 ^ Int.toNat 6 := by have : (10:Int) ^ Int.toNat 6 = 1000000 := by decide
                                           omega
      rw [if_pos e9]
      refine ⟨.inl ⟨by decide, by decide⟩, .inr (.inl ⟨by omega, by omega⟩), by omega, by decide, .inl ⟨by omega, by omega⟩, by decide, by decide, .inl ⟨by omega, by omega⟩, by decide, ⟨by decide, by decide⟩, by unfold CPow; decide, by omega, ?_⟩
      exact z _ _ (Int.emod_nonneg _ (by omega)) (Int.emod_lt_of_pos _ (by omega)) ⟨t0, x, t2 + 1, rfl, a0, e5, e6, by omega, by omega⟩
set_option maxHeartbeats 1000000
def spB (sp : Nat → SpD) (d : Nat) : SpD := fun as M Q => ∃ e, e < d ∧ sp e as M Q
theorem ca_bot {P : Program} {w : World} {K : PySem.W.Frag} {mg : Str → Option Value} {base : Heap} {x qual : Str} {params : Arguments} {body : List Stmt} {scope : Scope} {f : Addr} {fd : FuncData} {ps : List Str} {k : Nat} {sp : Nat → SpD}
    (F : FunD K x qual params body scope [] [] f fd) (hg : mg x = some (.ref f)) (b : Binds K fd ps []) (n : Nat) : Ca P w K mg base k x n (spB sp 0) :=
  ⟨f, fd, ps, ⟨fun vs H Q E ⟨_, _, _, _, _, _, _, _, _, ⟨e, he, _⟩, _⟩ => by omega, fun A outer s H args us vs Q E _ _ _ _ ⟨_, _, _, _, _, _, _, _, _, ⟨e, he, _⟩, _⟩ => by omega⟩, hg, F.kp, b⟩
def sp_cell : SpD := fun as M Q => ∃ (ns : List Int) (k : Int), as = [.d (.scr ns), .d (.int k)] ∧ M = [] ∧ 0 ≤ k ∧ ∀ c : Int, Q (.d (.int c)) []
def r_cell : TS' :=
  (sRet (eP (poIf (bB (po2 ltD (pV 1) (poN lenD [(pV 0)]))) (po2 ixD (pV 0) (pV 1)) (pC (.int 0)))))
theorem pure_cell (as : List Sv) (M : Mem) (Q : Rv → Mem → Prop) (h : sp_cell as M Q) : r_cell (endsF M.length Q) (startD 2 as) M := by
  obtain ⟨ns, k, rfl, rfl, hk, z⟩ := h
  obtain ⟨k, rfl⟩ := Int.eq_ofNat_of_zero_le hk
  show r_cell (endsF 0 Q) [some (.d (.scr ns)), some (.d (.int k))] []
  simp only [VLS, r_cell]
  by_cases h : (k : Int) < ns.length
  · rw [if_pos h]
    have h' : k < ns.length := by omega
    rw [at_nat, List.getElem?_map, List.getElem?_eq_getElem h']
    simp only [VLS]
    exact z _
  · rw [if_neg h]
    exact z _
def sp_tape : SpD := fun as M Q => ∃ (ns : List Int) (k : Int), as = [.d (.scr ns), .d (.int k)] ∧ M = [] ∧ 0 ≤ k ∧ k ≤ 1000 ∧ ∀ ds, Tp 0 ds → Q (.new ds) []
def r_tape (sp__law_cell_at : SpD) : TS' :=
  (sSeq (sSet 2 (eCall [false, false] sp__law_cell_at (aP [(pV 0), (pV 1)])))
  (sRet (eNw (fP (plLst [(po2 mulD (poN absD [(pV 2)]) (poN intD [(po2 geD (poN absD [(pV 2)]) (po2 powD (pC (.int 10)) (pC (.int 18))))])), (po2 modD (po2 mulD (po2 addD (po2 addD (po2 modD (pV 2) (pC (.int 2147483647))) (po2 mulD (po2 mulD (pC (.int 7753)) (pV 1)) (pV 1))) (pC (.int 41))) (pC (.int 48271))) (pC (.int 2147483629))), (pC (.int 0))])))))
theorem pure_tape (as : List Sv) (M : Mem) (Q : Rv → Mem → Prop) (h : sp_tape as M Q) : r_tape sp_cell (endsF M.length Q) (startD 3 as) M := by
  obtain ⟨ns, k, rfl, rfl, hk, hk2, z⟩ := h
  show r_tape sp_cell (endsF 0 Q) [some (.d (.scr ns)), some (.d (.int k)), none] []
  simp only [VLS, r_tape]
  refine ⟨ns, k, rfl, rfl, hk, fun c => ?_⟩
  simp only [VLS]
  have h0 : 0 ≤ (if c < 0 then -c else c) := by split <;> omega
  generalize (if c < 0 then -c else c) = ac at h0
  have e1 : (if 10 ^ Int.toNat 18 ≤ ac then (1 : Int) else 0) = 0 ∨ (if 10 ^ Int.toNat 18 ≤ ac then (1 : Int) else 0) = 1 := by split <;> simp
  generalize (if 10 ^ Int.toNat 18 ≤ ac then (1 : Int) else 0) = t at e1
  have h1 : 0 ≤ ac * t := by rcases e1 with rfl | rfl <;> omega
  have h2 : 0 ≤ 7753 * k * k ∧ 7753 * k * k ≤ 7753 * 1000 * 1000 := by
    refine ⟨Int.mul_nonneg (by omega) hk, Int.mul_le_mul (by omega) hk2 hk (by omega)⟩
  generalize 7753 * k * k = u at h2
  have e3 := Int.emod_nonneg ((c % 2147483647 + u + 41) * 48271) (show (2147483629 : Int) ≠ 0 by decide)
  have e4 := Int.emod_lt_of_pos ((c % 2147483647 + u + 41) * 48271) (show (0 : Int) < 2147483629 by decide)
  refine ⟨by unfold CPow; decide, .inr (.inl ⟨by omega, by omega⟩), by decide, .inl ⟨by decide, by decide⟩, .inr (.inl ⟨by omega, by omega⟩), .inr (.inl ⟨by decide, by decide⟩), by decide, by decide, z _ ⟨_, _, _, rfl, h1, e3, e4, by decide, by decide⟩⟩
inductive Cm where
  | yes | no | name (k : Nat) | neg (c : Cm) | same (a b : Cm) | all (cs : List Cm) | any (cs : List Cm) | least (m : Nat) (cs : List Cm)
mutual
/-- claims of names less than n, at most d deep -/
def Cm.ok (n : Nat) : Nat → Cm → Prop
  | _, .yes => True
  | _, .no => True
  | _, .name k => k < n
  | d + 1, .neg c => Cm.ok n d c
  | d + 1, .same a b => Cm.ok n d a ∧ Cm.ok n d b
  | d + 1, .all cs => Cm.oks n d cs
  | d + 1, .any cs => Cm.oks n d cs
  | d + 1, .least m cs => m ≤ cs.length + 1 ∧ Cm.oks n d cs
  | 0, _ => False
def Cm.oks (n : Nat) : Nat → List Cm → Prop
  | _, [] => True
  | d, c :: cs => Cm.ok n d c ∧ Cm.oks n d cs
end
mutual
def Cm.sz : Cm → Nat
  | .yes => 1
  | .no => 1
  | .name _ => 1
  | .neg c => c.sz + 1
  | .same a b => a.sz + b.sz + 1
  | .all cs => Cm.szs cs + 1
  | .any cs => Cm.szs cs + 1
  | .least _ cs => Cm.szs cs + 1
def Cm.szs : List Cm → Nat
  | [] => 0
  | c :: cs => c.sz + Cm.szs cs
end
set_option maxHeartbeats 1000000
set_option maxHeartbeats 1000000
theorem take_ok {R : Rv → Mem → Prop} {n : Int} {b : Nat} {ds : List D} (t : Tp b ds) (hb : b < 1099511627776) (h1 : 1 ≤ n) (h2 : n ≤ 99999) (h : ∀ (v : Int) (ds' : List D), 0 ≤ v → v < n → Tp (b + 1) ds' → R (.d (.int v)) [.lst ds']) : sp_take [.ref 0, .d (.int n)] [.lst ds] R :=
  ⟨ds, n, b, rfl, rfl, t, hb, h1, h2, h⟩
set_option maxHeartbeats 1000000
theorem toNat_inj {a b : Char} (h : a.toNat = b.toNat) : a = b := Char.ext (UInt32.toNat_inj.mp h)
theorem ofS_inj {a b : String} : (Str.ofString a = Str.ofString b) = (a = b) := by
  apply propext
  constructor
  · intro h
    rw [Str.ofString_eq_toList, Str.ofString_eq_toList] at h
    have h1 : a.toList.map Char.toNat = b.toList.map Char.toNat := by
      have := congrArg (fun z : Str => z.cps.toList) h
      simpa using this
    have h2 : ∀ (l m : List Char), l.map Char.toNat = m.map Char.toNat → l = m := by
      intro l
      induction l with
      | nil => intro m hm; cases m with | nil => rfl | cons _ _ => cases hm
      | cons x l ih =>
        intro m hm
        cases m with
        | nil => cases hm
        | cons y m =>
          simp only [List.map_cons, List.cons.injEq] at hm
          rw [toNat_inj hm.1, ih m hm.2]
    exact String.toList_inj.mp (h2 _ _ h1)
  · rintro rfl; rfl
theorem in_tup {M : Mem} {s : Str} {ds : List D} : inD M (.d (.str s)) (.d (.tup ds)) = (gd ((atomD (.str s) = true ∧ ds.all atomD = true) ∨ (okE (.str s) = true ∧ isTupD (.d (.tup ds)) = false ∧ okE (.lst ds) = true)) (ds.any fun z => eqvD z (.str s))).map blS := rfl
theorem in_str2 {M : Mem} {s a b : Str} : inD M (.d (.str s)) (.d (.tup [.str a, .str b])) = some (.d (.bl (decide (a = s ∨ b = s)))) := by
  rw [in_tup]
  have h : (atomD (.str s) = true ∧ [D.str a, D.str b].all atomD = true) ∨ (okE (.str s) = true ∧ isTupD (.d (.tup [D.str a, D.str b])) = false ∧ okE (.lst [D.str a, D.str b]) = true) := .inl ⟨rfl, rfl⟩
  rw [gd_pos h]
  simp only [Option.map_some, blS, List.any_cons, List.any_nil, eqvD, Bool.or_false]
  congr 3
  rw [Bool.eq_iff_iff]
  simp [beq_iff_eq]
theorem at_m1_2 {α : Type} {x y : α} : atI [x, y] (-1) = some y := rfl
theorem at_m1_3 {α : Type} {x y z : α} : atI [x, y, z] (-1) = some z := rfl
theorem cut_2 {x y : D} : cutD [x, y] (some 1) none = [y] := rfl
theorem cut_3 {x y z : D} : cutD [x, y, z] (some 1) none = [y, z] := rfl
theorem bls_map {bs : List Bool} : blsOf (bs.map D.bl) = some bs := blsOf_map bs
theorem all_bls {M : Mem} {bs : List Bool} : allD M [.d (.lst (bs.map D.bl))] = some (.d (.bl (bs.all id))) := by
  simp only [allD, lstD, Option.bind_some, bls_map, Option.map_some, blS]
theorem any_bls {M : Mem} {bs : List Bool} : anyD M [.d (.lst (bs.map D.bl))] = some (.d (.bl (bs.any id))) := by
  simp only [anyD, lstD, Option.bind_some, bls_map, Option.map_some, blS]
theorem okE_bl {b : Bool} : okE (.bl b) = true := by cases b <;> rfl
theorem bls_lay : ∀ bs : List Bool, PyData.canLayAll0 (pys (bs.map D.bl)) = true ∧ PyData.depthAll (pys (bs.map D.bl)) = 0 ∧ noRs (bs.map D.bl) = true
  | [] => ⟨rfl, rfl, rfl⟩
  | b :: bs => by
    obtain ⟨h1, h2, h3⟩ := bls_lay bs
    simp only [List.map_cons, pys, py, PyData.canLayAll0, PyData.canLay0, PyData.depthAll, PyData.depth, noRs, noR, h1, h2, h3]
    decide
theorem okE_bls {bs : List Bool} : okE (.lst (bs.map D.bl)) = true := by
  obtain ⟨h1, h2, h3⟩ := bls_lay bs
  unfold okE SeqAt.shaped
  simp only [noR, py, PyData.canLay0, PyData.depth, h1, h2, h3]
  decide
theorem count_bls {M : Mem} {bs : List Bool} {b : Bool} : countD M (.d (.lst (bs.map D.bl))) [.d (.bl b)] = some (.d (.int (bs.count b))) := by
  simp only [countD, lstD, Option.bind_some]
  rw [gd_pos ⟨okE_bl, okE_bls⟩]
  simp only [intS]
  congr 4
  rw [List.countP_map]
  rfl
theorem slD_t {M : Mem} {a : List D} {lo hi : Option Int} : slD M (.d (.tup a)) lo hi = some (.d (.tup (cutD a lo hi))) := rfl
theorem intO_i {i : Int} : intO (.d (.int i)) = some (some i) := rfl
theorem list_t {M : Mem} {a : List D} : listF M [.d (.tup a)] = some a := rfl
theorem list_l {M : Mem} {a : List D} : listF M [.d (.lst a)] = some a := rfl
def bitD (b : Bool) : D := .int (if b then 1 else 0)
def fD (fs : List Bool) : D := .tup (fs.map bitD)
mutual
def Cm.hv (fs : List Bool) : Cm → Bool
  | .yes => true
  | .no => false
  | .name k => fs.getD k false
  | .neg c => !c.hv fs
  | .same a b => a.hv fs == b.hv fs
  | .all cs => (Cm.hvs fs cs).all id
  | .any cs => (Cm.hvs fs cs).any id
  | .least m cs => decide (m ≤ (Cm.hvs fs cs).count true)
def Cm.hvs (fs : List Bool) : List Cm → List Bool
  | [] => []
  | c :: cs => c.hv fs :: Cm.hvs fs cs
end
set_option maxHeartbeats 1000000
theorem seal_r {m0 n : Nat} {M : Mem} : sealD m0 M (.ref n) = if m0 ≤ n then (cellL M[n]?).map fun ds => (.d (.lst ds), M.set n .gone) else none := rfl
local macro_rules
  | `(tactic| simp only [VLT]) => `(tactic| simp only [sSeq, sIf, sSet, sSub, sRet, sRetN, sNil, sDrop, sAsg, sPar, sParT, sAug, cP, bB, bTr, bNt, bAn, bOr, po1, po2, poN, pArgs, poIf, poAn, poOr, poNt, poTup, plLst, plN, pl2, pl1, pFz, pV, pC, eP, eo1, eo2, eoN, aP, aNil, aCons, eAn, eOr, eNt, eIf, eFz, eNw, fP, fN, f2, f1, tTupE, tLstF, tTr, tTb, tAn, tOrr, tNt, tYs, eSeal, eMt, poMt, mPure, eCh, pCh, ok_bind, ok_map, ok_some, ok_none, ok_gd, ok_ite, List.getElem?_cons_zero, List.getElem?_cons_succ, List.set_cons_zero, List.set_cons_succ, Option.join_some, Option.bind_some, Option.map_some, Option.bind_none, Option.map_none, ix_ref, ix_tup, ix_lst, ix_bor, ix_scr, add_int, add_str, add_tup, sub_int, mul_int, fdiv_int, mod_int, pow_int, neg_int, lt_int, le_int, gt_int, ge_int, eq_int, eq_str, eq_bl, ne_int, ne_str, ne_bl, is_bl, isnt_bl, is_non, isnt_non, len_tup, len_lst, len_ref, len_bor, len_scr, int_bl, int_int, abs_int, min_int, max_int, blD_bl, cell_lst, cellA_lst, cellA_dk, st_ref, at_0, at_1, at_2, at_3, at_4, ixN_10, ixN_20, ixN_21, ixN_30, ixN_31, ixN_32, dataS_d, datas_nil, datas_cons, truth_bl, notD, intS, blS, nonB, List.length_cons, List.length_nil, Nat.reduceAdd, endsF_rt, endsF_nx, rvQ_d, rvQ_new, rvQ_newK, rv_d, rv_ref, rv_cl, rv_ck, okRef_d, okRef_ref, List.not_mem_nil, List.nil_append, true_and, and_true, List.take_succ_cons, List.take_zero, Nat.zero_add, decide_eq_true_eq, Bool.false_eq_true, if_false, if_true, callS, handS_n, handS_tr, handS_fr, handS_fd, handS_fb, cellsAt_c, cellsAt_0, Option.getD_some, backS_0, backS_1, eCall, tup_lst, tup_tup, tup_ref, fLc, iRg, rng_1, rng_2, wipeS_c, wipeS_n, iPq, iSq, seq_tup, seq_lst, seq_bor, lst_lst, lst_bor, gdS_d, gdS_b, sFor, gNm, gcS_c, gcS_n, gcO_d, gcO_n, mapp, rcv_0, rcv_1, rcv_l, gcO_r0, gcO_r1, gcO_z, seal_d, eq_self, List.take_nil, List.cons_append, poSl, poI, poNo, slD_t, intO_i, list_t, list_l, in_str2, ofS_inj, String.reduceEq, or_false, false_or, or_true, true_or, or_self, decide_true, decide_false, Bool.not_true, Bool.not_false, at_m1_2, at_m1_3, cut_2, cut_3, all_bls, any_bls, count_bls])
  | `(tactic| simp only [VLT, $xs,*]) => `(tactic| simp only [sSeq, sIf, sSet, sSub, sRet, sRetN, sNil, sDrop, sAsg, sPar, sParT, sAug, cP, bB, bTr, bNt, bAn, bOr, po1, po2, poN, pArgs, poIf, poAn, poOr, poNt, poTup, plLst, plN, pl2, pl1, pFz, pV, pC, eP, eo1, eo2, eoN, aP, aNil, aCons, eAn, eOr, eNt, eIf, eFz, eNw, fP, fN, f2, f1, tTupE, tLstF, tTr, tTb, tAn, tOrr, tNt, tYs, eSeal, eMt, poMt, mPure, eCh, pCh, ok_bind, ok_map, ok_some, ok_none, ok_gd, ok_ite, List.getElem?_cons_zero, List.getElem?_cons_succ, List.set_cons_zero, List.set_cons_succ, Option.join_some, Option.bind_some, Option.map_some, Option.bind_none, Option.map_none, ix_ref, ix_tup, ix_lst, ix_bor, ix_scr, add_int, add_str, add_tup, sub_int, mul_int, fdiv_int, mod_int, pow_int, neg_int, lt_int, le_int, gt_int, ge_int, eq_int, eq_str, eq_bl, ne_int, ne_str, ne_bl, is_bl, isnt_bl, is_non, isnt_non, len_tup, len_lst, len_ref, len_bor, len_scr, int_bl, int_int, abs_int, min_int, max_int, blD_bl, cell_lst, cellA_lst, cellA_dk, st_ref, at_0, at_1, at_2, at_3, at_4, ixN_10, ixN_20, ixN_21, ixN_30, ixN_31, ixN_32, dataS_d, datas_nil, datas_cons, truth_bl, notD, intS, blS, nonB, List.length_cons, List.length_nil, Nat.reduceAdd, endsF_rt, endsF_nx, rvQ_d, rvQ_new, rvQ_newK, rv_d, rv_ref, rv_cl, rv_ck, okRef_d, okRef_ref, List.not_mem_nil, List.nil_append, true_and, and_true, List.take_succ_cons, List.take_zero, Nat.zero_add, decide_eq_true_eq, Bool.false_eq_true, if_false, if_true, callS, handS_n, handS_tr, handS_fr, handS_fd, handS_fb, cellsAt_c, cellsAt_0, Option.getD_some, backS_0, backS_1, eCall, tup_lst, tup_tup, tup_ref, fLc, iRg, rng_1, rng_2, wipeS_c, wipeS_n, iPq, iSq, seq_tup, seq_lst, seq_bor, lst_lst, lst_bor, gdS_d, gdS_b, sFor, gNm, gcS_c, gcS_n, gcO_d, gcO_n, mapp, rcv_0, rcv_1, rcv_l, gcO_r0, gcO_r1, gcO_z, seal_d, eq_self, List.take_nil, List.cons_append, poSl, poI, poNo, slD_t, intO_i, list_t, list_l, in_str2, ofS_inj, String.reduceEq, or_false, false_or, or_true, true_or, or_self, decide_true, decide_false, Bool.not_true, Bool.not_false, at_m1_2, at_m1_3, cut_2, cut_3, all_bls, any_bls, count_bls, $xs,*])
set_option maxHeartbeats 1000000
structure Pl (w dp : Nat) (d : D) : Prop where
  no : noR d = true
  sh : (py d).leavesShort 40 = true
  la : (py d).canLay0 = true
  sw : (py d).showable = true
  we : (py d).weight ≤ w
  de : (py d).depth ≤ dp
structure Pls (w dp : Nat) (d : List D) : Prop where
  no : noRs d = true
  sh : PyData.leavesShortAll 40 (pys d) = true
  la : PyData.canLayAll0 (pys d) = true
  sw : PyData.showableAll (pys d) = true
  we : PyData.weightAll (pys d) ≤ w
  de : PyData.depthAll (pys d) ≤ dp
theorem Pl.mono {w dp w' dp' : Nat} {d : D} (h : Pl w dp d) (h1 : w ≤ w') (h2 : dp ≤ dp') : Pl w' dp' d := ⟨h.no, h.sh, h.la, h.sw, Nat.le_trans h.we h1, Nat.le_trans h.de h2⟩
theorem Pls.mono {w dp w' dp' : Nat} {d : List D} (h : Pls w dp d) (h1 : w ≤ w') (h2 : dp ≤ dp') : Pls w' dp' d := ⟨h.no, h.sh, h.la, h.sw, Nat.le_trans h.we h1, Nat.le_trans h.de h2⟩
theorem Pl.int {i : Int} (h : i.natAbs < 10 ^ 39) : Pl 140 0 (.int i) := by
  have h2 : i.natAbs < 2 ^ 130 := Nat.lt_trans h (by decide)
  have hl : i.natAbs ≠ 0 → i.natAbs.log2 < 130 := fun h0 => (Nat.log2_lt h0).mpr h2
  have hl2 : i.natAbs.log2 < 130 := by
    by_cases h0 : i.natAbs = 0
    · rw [h0]; decide
    · exact hl h0
  refine ⟨rfl, ?_, rfl, ?_, ?_, Nat.le_refl _⟩
  · show decide ((PyData.shown (.int i)).length ≤ 40) = true
    have e := int_text_length_le10 (k := 39) (by decide) h
    have : (Str.ofString (toString i)).length ≤ 40 := by rw [ofString_length]; exact e
    exact decide_eq_true this
  · show decide (i.natAbs.log2 < 1920) = true
    exact decide_eq_true (by omega)
  · show (if i == 0 then 0 else i.natAbs.log2 + 1) ≤ 140
    split <;> omega
theorem Pl.str {s : Str} {n : Nat} (h : (PyData.canLay0 (.str s) && s.cps.toList.all (fun c => decide (c < 16 ^ 8)) && decide (s.cps.size ≤ n)) = true) : Pl n 0 (.str s) := by
  simp only [Bool.and_eq_true, decide_eq_true_eq] at h
  exact ⟨rfl, h.1.2, h.1.1, rfl, h.2, Nat.le_refl _⟩
theorem Pl.bl {b : Bool} : Pl 0 0 (.bl b) := ⟨rfl, rfl, rfl, rfl, Nat.le_refl _, Nat.le_refl _⟩
theorem Pl.non : Pl 0 0 .non := ⟨rfl, rfl, rfl, rfl, Nat.le_refl _, Nat.le_refl _⟩
theorem Pls.nil {dp : Nat} : Pls 0 dp [] := ⟨rfl, rfl, rfl, rfl, Nat.le_refl _, Nat.zero_le _⟩
theorem Pls.cons {w1 w2 dp : Nat} {d : D} {ds : List D} (h : Pl w1 dp d) (h2 : Pls w2 dp ds) : Pls (w1 + 1 + w2) dp (d :: ds) := by
  refine ⟨?_, ?_, ?_, ?_, ?_, ?_⟩
  · simp only [noRs, h.no, h2.no]; rfl
  · simp only [pys, PyData.leavesShortAll, h.sh, h2.sh]; rfl
  · simp only [pys, PyData.canLayAll0, h.la, h2.la]; rfl
  · simp only [pys, PyData.showableAll, h.sw, h2.sw]; rfl
  · simp only [pys, PyData.weightAll]; have := h.we; have := h2.we; omega
  · simp only [pys, PyData.depthAll]; have := h.de; have := h2.de; omega
theorem Pl.tup {w dp : Nat} {ds : List D} (h : Pls w dp ds) : Pl w (dp + 1) (.tup ds) := by
  refine ⟨h.no, ?_, ?_, ?_, ?_, ?_⟩
  · simp only [py, PyData.leavesShort]; exact h.sh
  · simp only [py, PyData.canLay0]; exact h.la
  · simp only [py, PyData.showable]; exact h.sw
  · simp only [py, PyData.weight]; exact h.we
  · simp only [py, PyData.depth]; have := h.de; omega
theorem Pl.lst {w dp : Nat} {ds : List D} (h : Pls w dp ds) : Pl w (dp + 1) (.lst ds) := by
  refine ⟨h.no, ?_, ?_, ?_, ?_, ?_⟩
  · simp only [py, PyData.leavesShort]; exact h.sh
  · simp only [py, PyData.canLay0]; exact h.la
  · simp only [py, PyData.showable]; exact h.sw
  · simp only [py, PyData.weight]; exact h.we
  · simp only [py, PyData.depth]; have := h.de; omega
theorem Pl.okR {w dp : Nat} {d : D} (h : Pl w dp d) (hw : w ≤ 390000) (hd : dp ≤ 150) : okR d = true := by
  have h1 := PyData.shown_le 40 (by decide) _ h.sh
  have h2 : (40 + 2) * (py d).weight ≤ 42 * 390000 := Nat.mul_le_mul (by decide) (Nat.le_trans h.we hw)
  have h3 : (PyData.shown (py d)).length ≤ sizeLine := by rw [sizeLine_eq]; omega
  have h4 := h.de
  unfold VL.okR
  rw [h.no, h.sw, decide_eq_true h3, decide_eq_true (show (py d).depth ≤ 150 by omega)]
  rfl
theorem Pl.okE {w dp : Nat} {d : D} (h : Pl w dp d) (hd : dp ≤ 64) : okE d = true := by
  have h4 := h.de
  unfold VL.okE SeqAt.shaped
  rw [h.no, h.la, decide_eq_true (show (py d).depth ≤ 64 by omega)]
  rfl
set_option maxHeartbeats 1000000
def afs : Nat → List (List Bool)
  | 0 => [[]]
  | k + 1 => (afs k).map (false :: ·) ++ (afs k).map (true :: ·)
theorem cat_l {M : Mem} {a b : List D} : catF M (.d (.lst a)) (.d (.lst b)) = gd (a.length + b.length ≤ sizeLine) (a ++ b) := rfl
def pre (x : D) : D → D
  | .tup ds => .tup (x :: ds)
  | d => d
def sp_many : SpD := fun as M Q => ∃ (ds : List D) (b : Nat), as = [.ref 0] ∧ M = [.lst ds] ∧ Tp b ds ∧ b + 10 < 1099511627776 ∧ ∀ (v : Nat) ds', v ≤ 8 → Tp (b + 3) ds' → Q (.d (.int v)) [.lst ds']
def r_many (sp__law_take : SpD) : TS' :=
  (sSeq (sSet 1 (eo2 eqD (eCall [true, false] sp__law_take (aP [(pV 0), (pC (.int 8))])) (eP (pC (.int 0)))))
  (sRet (eIf (cP (bTr (pV 1))) (eo2 addD (eP (pC (.int 7))) (eCall [true, false] sp__law_take (aP [(pV 0), (pC (.int 2))]))) (eCall [true, false] sp__law_take (aP [(pV 0), (pC (.int 7))])))))
theorem pure_many (as : List Sv) (M : Mem) (Q : Rv → Mem → Prop) (h : sp_many as M Q) : r_many sp_take (endsF M.length Q) (startD 2 as) M := by
  obtain ⟨ds, b, rfl, rfl, ht, hb, z⟩ := h
  show r_many sp_take (endsF 1 Q) [some (.ref 0), none] [.lst ds]
  simp only [VLT, r_many]
  refine take_ok ht (by omega) (by decide) (by decide) fun v ds1 v0 v1 t1 => ?_
  simp only [VLT]
  split
  · refine take_ok t1 (by omega) (by decide) (by decide) fun v ds1 v0 v1 t1 => ?_
    obtain ⟨v, rfl⟩ := Int.eq_ofNat_of_zero_le v0
    simp only [VLT]
    exact z (7 + v) ds1 (by omega) (t1.mono (by omega))
  · refine take_ok t1 (by omega) (by decide) (by decide) fun v ds1 v0 v1 t1 => ?_
    obtain ⟨v, rfl⟩ := Int.eq_ofNat_of_zero_le v0
    simp only [VLT]
    exact z v ds1 (by omega) (t1.mono (by omega))
theorem repr_d {M : Mem} {x : D} : reprD M [.d x] = gd (okR x = true) (.d (.str (PyData.shown (py x)))) := rfl
set_option maxHeartbeats 1000000
def sp_law : SpD := fun as M Q => ∃ ns : List Int, as = [.d (.scr ns)] ∧ M = [] ∧ ns.length ≤ 63 ∧ Q (.d (.bl true)) []
end VL
set_option Elab.async false
set_option linter.all false
set_option maxRecDepth 100000
set_option maxHeartbeats 400000
namespace VL
open PySem PySem.Spec PyProof.Rows L2
theorem Ca.imp {P : Program} {w : World} {K : PySem.W.Frag} {mg : Str → Option Value} {base : Heap} {k n : Nat} {x : Str} {sp sp' : SpD} (c : Ca P w K mg base k x n sp) (h : ∀ as M Q, sp' as M Q → sp as M Q) : Ca P w K mg base k x n sp' := by
  obtain ⟨f, fd, ps, F, hm, kp, b⟩ := c.ex
  have up : ∀ vs H Q E, lP K n sp' vs H Q E → lP K n sp vs H Q E := fun vs H Q E ⟨as, M, i0, B, Q0, a1, a2, a3, a4, a5, a6⟩ => ⟨as, M, i0, B, Q0, a1, a2, a3, a4, h _ _ _ a5, a6⟩
  exact ⟨f, fd, ps, ⟨fun vs H Q E q => F.len vs H Q E (up _ _ _ _ q), fun A outer s H args us vs Q E hr he hb hv hs => F.run A outer s H args us vs Q E hr he hb hv (up _ _ _ _ hs)⟩, hm, kp, b⟩
theorem fg_of {P : Program} {w : World} {K : PySem.W.Frag} {mg : Str → Option Value} {base : Heap} {x qual : Str} {params : Arguments} {body : List Stmt} {scope : Scope} {f : Addr} {fd : FuncData} {Ns ps : List Str} {k m0 : Nat} {sp : SpD} {t : TS'}
    (F : FunD K x qual params body scope [] [] f fd) (S : FnScope Ns ps scope) (hm0 : ∀ as M Q0, sp as M Q0 → M.length = m0)
    (hb : ∀ (cdv : Value) (A : Around) (outer : List Env) (s : Shared) (H : Hp) (E : XK) (G : Gd), RoomG k (A.deeper (PyProof.Rows.envOfC qual scope s.heap.objs.size f cdv)) → G.i0.length = m0 → VSs (cxOf C8.CX0 P w K mg base Ns qual scope f cdv A outer s H E).nox G body t)
    (hp : ∀ as M Q0, as.length = ps.length → sp as M Q0 → t (endsF M.length Q0) (startD Ns.length as) M) : FnG P w K mg base C8.CX0 (k + 1) f fd ps (lP K ps.length sp) := by
  refine fn_g F S (fun vs H Q E ⟨as, M, i0, B, Q0, hn, hB, ra, h⟩ => by rw [← ra.length, hn]) fun cdv A outer s H vs Q E hr h => ?_
  obtain ⟨t', h1, h2⟩ := body_ok (X := (cxOf C8.CX0 P w K mg base Ns qual scope f cdv A outer s H E).nox) (Ns := Ns) m0 rfl (fun G hG => hb cdv A outer s H E G hr hG) hm0 hp h
  exact ⟨t', h1.nox, h2⟩
/-- the law's own promise, of a script -/
theorem lawSp {K : PySem.W.Frag} {H : Hp} {a : Addr} {ns : List Int} (hl : ns.length ≤ 63) (hO : Only H) (hS : SqL K H a (ns.map V.int)) : lP K 1 sp_law [.ref a] H (fun v _ => v = .bl true) fun _ _ _ => False := by
  have hs : RD K (NB fun _ => False) H [] (.scr ns) (.ref a) := by
    refine ⟨a, rfl, ?_, by rw [sizeLine_eq]; omega⟩
    rcases hS with (h | ⟨o, h⟩) | h
    · rcases hO a with z | ⟨o, xs, z⟩
      · rw [z] at h; cases h
      · rw [z] at h; cases h
    · exact .inl ⟨o, h, by simp⟩
    · exact .inr h
  refine ⟨[.d (.scr ns)], [], [], fun _ => False, fun r _ => r = .d (.bl true), rfl, fun _ h => h.elim, ⟨_, _, rfl, hs, rfl⟩, ⟨rfl, fun n m b h => by simp at h, fun n c b h => by simp at h, fun n h => by simp at h, fun n c h => by simp at h⟩, ⟨ns, rfl, rfl, hl, rfl⟩, ?_⟩
  rintro r M' v H' rfl ⟨h, _⟩
  exact h
end VL
set_option Elab.async false
set_option linter.all false
set_option maxRecDepth 100000
set_option maxHeartbeats 1000000
namespace VL
abbrev Va := Nat → Bool
abbrev Fn := Va → Bool
def putV (v : Va) (x : Nat) (b : Bool) : Va := fun y => if y = x then b else v y
def fx (f : Fn) (x : Nat) (b : Bool) : Fn := fun v => f (putV v x b)
/-- f hangs on no other names -/
def Dep (ns : List Nat) (f : Fn) : Prop := ∀ v v', (∀ x ∈ ns, v x = v' x) → f v = f v'
def v0 : Va := fun _ => false
/-- the table of f, names in an order -/
def tbF : List Nat → Fn → List Bool
  | [], f => [f v0]
  | x :: ns, f => tbF ns (fx f x false) ++ tbF ns (fx f x true)
/-- the names' setting by bits -/
def valF : List Nat → List Bool → Va
  | x :: ns, b :: l => putV (valF ns l) x b
  | _, _ => v0
theorem putV_same (v : Va) (x : Nat) : putV v x (v x) = v := by
  funext y; unfold putV; split
  · rename_i h; rw [h]
  · rfl
theorem putV_comm {v : Va} {x y : Nat} {a b : Bool} (h : x ≠ y) : putV (putV v x a) y b = putV (putV v y b) x a := by
  funext z; unfold putV
  by_cases h1 : z = y <;> by_cases h2 : z = x
  · exact absurd (h2.symm.trans h1) h
  · simp [h1, h2, Ne.symm h]
  · simp [h1, h2, h]
  · simp [h1, h2]
theorem putV_put {v : Va} {x : Nat} {a b : Bool} : putV (putV v x a) x b = putV v x b := by
  funext z; unfold putV; split <;> rfl
theorem fx_same {f : Fn} (v : Va) (x : Nat) : fx f x (v x) v = f v := by unfold fx; rw [putV_same]
theorem fx_comm {f : Fn} {x y : Nat} {a b : Bool} (h : x ≠ y) : fx (fx f x a) y b = fx (fx f y b) x a := by
  funext v; unfold fx; rw [putV_comm (Ne.symm h)]
theorem fx_fx {f : Fn} {x : Nat} {a b : Bool} : fx (fx f x a) x b = fx f x a := by
  funext v; unfold fx; rw [putV_put]
theorem fx_free {ns : List Nat} {f : Fn} {x : Nat} {b : Bool} (h : Dep ns f) (hx : x ∉ ns) : fx f x b = f := by
  funext v
  refine h _ _ fun y hy => ?_
  unfold putV
  rw [if_neg fun e => hx (by rw [← e]; exact hy)]
theorem Dep.put {ns : List Nat} {f : Fn} {x : Nat} {b : Bool} (h : Dep (x :: ns) f) : Dep ns (fx f x b) := fun v v' e => h _ _ fun y hy => by
  unfold putV
  by_cases hx : y = x
  · rw [if_pos hx, if_pos hx]
  · rw [if_neg hx, if_neg hx]
    exact e y ((List.mem_cons.mp hy).resolve_left hx)
theorem Dep.sub {ns ms : List Nat} {f : Fn} (h : Dep ns f) (s : ∀ x ∈ ns, x ∈ ms) : Dep ms f := fun v v' e => h v v' fun x hx => e x (s x hx)
theorem Dep.const {f : Fn} (h : Dep [] f) (v : Va) : f v = f v0 := h v v0 fun _ hx => absurd hx List.not_mem_nil
theorem tbF_len : ∀ (ns : List Nat) (f : Fn), (tbF ns f).length = 2 ^ ns.length
  | [], _ => rfl
  | x :: ns, f => by
    rw [tbF, List.length_append, tbF_len ns, tbF_len ns, List.length_cons, Nat.pow_succ]; omega
theorem tbF_inj : ∀ {ns : List Nat} {f g : Fn}, Dep ns f → Dep ns g → tbF ns f = tbF ns g → f = g
  | [], f, g, df, dg, h => by
    funext v
    rw [df.const v, dg.const v]
    exact (List.cons.inj h).1
  | x :: ns, f, g, df, dg, h => by
    have h : tbF ns (fx f x false) ++ tbF ns (fx f x true) = tbF ns (fx g x false) ++ tbF ns (fx g x true) := h
    obtain ⟨h1, h2⟩ := List.append_inj h (by rw [tbF_len, tbF_len])
    have e1 := tbF_inj df.put dg.put h1
    have e2 := tbF_inj df.put dg.put h2
    funext v
    rw [← fx_same (f := f) v x, ← fx_same (f := g) v x]
    cases v x
    · rw [e1]
    · rw [e2]
open Classical in
/-- whether some setting of the other names makes f hold -/
noncomputable def shF (S : List Nat) (f : Fn) : Fn := fun v => decide (∃ v', (∀ x ∈ S, v' x = v x) ∧ f v' = true)
open Classical in
theorem shF_iff {S : List Nat} {f : Fn} {v : Va} : shF S f v = true ↔ ∃ v', (∀ x ∈ S, v' x = v x) ∧ f v' = true := by unfold shF; exact decide_eq_true_iff
theorem shF_mem {S S' : List Nat} {f : Fn} (h : ∀ x, x ∈ S ↔ x ∈ S') : shF S f = shF S' f := by
  funext v
  rw [Bool.eq_iff_iff, shF_iff, shF_iff]
  exact ⟨fun ⟨u, k, q⟩ => ⟨u, fun x hx => k x ((h x).mpr hx), q⟩, fun ⟨u, k, q⟩ => ⟨u, fun x hx => k x ((h x).mp hx), q⟩⟩
/-- f is the product of its shadows on these names and on those -/
def Pr (f : Fn) (S O : List Nat) : Prop := ∀ v, shF S f v = true → shF O f v = true → f v = true
theorem Pr.mem {f : Fn} {S S' O O' : List Nat} (h : Pr f S O) (a : ∀ x, x ∈ S ↔ x ∈ S') (b : ∀ x, x ∈ O ↔ x ∈ O') : Pr f S' O' := by
  unfold Pr at *
  rw [← shF_mem a, ← shF_mem b]; exact h
def ndF (f : Fn) (x : Nat) : Prop := fx f x false ≠ fx f x true
theorem not_nd {f : Fn} {x : Nat} (h : fx f x false = fx f x true) (b : Bool) : fx f x b = f := by
  funext v
  rw [← fx_same (f := f) v x]
  have k : ∀ a c : Bool, fx f x a = fx f x c := fun a c => by cases a <;> cases c <;> first | rfl | exact h | exact h.symm
  rw [k b (v x)]
theorem Dep.drop {ns : List Nat} {f : Fn} {x : Nat} (d : Dep ns f) (h : fx f x false = fx f x true) {ms : List Nat} (hm : ∀ y ∈ ns, y = x ∨ y ∈ ms) : Dep ms f := fun v v' e => by
  rw [← not_nd h false]
  refine d _ _ fun y hy => ?_
  unfold putV
  by_cases hx : y = x
  · rw [if_pos hx, if_pos hx]
  · rw [if_neg hx, if_neg hx]; exact e y ((hm y hy).resolve_left hx)
theorem nd_of_mem {ns : List Nat} {f : Fn} {x : Nat} (d : Dep ns f) (h : ndF f x) : x ∈ ns := Classical.byContradiction fun hx => h (by rw [fx_free d hx, fx_free d hx])
/-- f hangs on each of the names, and on no other -/
structure NdF (ns : List Nat) (f : Fn) : Prop where
  dep : Dep ns f
  nd : ∀ x ∈ ns, ndF f x
  no : ns.Nodup
/-- no parting in two -/
def Ind (ns : List Nat) (f : Fn) : Prop := ∀ S O : List Nat, (∀ x, x ∈ ns ↔ x ∈ S ∨ x ∈ O) → (∀ x ∈ S, x ∉ O) → S ≠ [] → O ≠ [] → ¬ Pr f S O
end VL
set_option Elab.async false
set_option linter.all false
set_option maxRecDepth 100000
set_option maxHeartbeats 1000000
namespace VL
/-- the names at places -/
def atP (ns : List Nat) (ps : List Nat) : List Nat := ps.map fun p => ns.getD p 0
end VL
set_option Elab.async false
set_option linter.all false
set_option maxRecDepth 100000
set_option maxHeartbeats 1000000
namespace VL
abbrev Kf := List Nat × Fn
open Classical in
noncomputable def ndB (f : Fn) (x : Nat) : Bool := decide (ndF f x)
open Classical in
theorem ndB_iff {f : Fn} {x : Nat} : ndB f x = true ↔ ndF f x := by unfold ndB; exact decide_eq_true_iff
end VL
set_option Elab.async false
set_option linter.all false
set_option maxRecDepth 100000
set_option maxHeartbeats 1000000
namespace VL
open PySem PySem.Spec L2
inductive Rw where
  | yes | no | has (k : Nat) (b : Bool) | all (ps : List Nat) | any (ps : List Nat) | pick (k lo hi : Nat)
  deriving DecidableEq
def nD (n : Nat) : D := .int n
def rD : Rw → D
  | .yes => .tup [.str "yes"]
  | .no => .tup [.str "no"]
  | .has k b => .tup [.str "has", .int k, bitD b]
  | .all ps => .tup [.str "and", .tup (ps.map nD)]
  | .any ps => .tup [.str "or", .tup (ps.map nD)]
  | .pick k lo hi => .tup [.str "pick", .int k, .int lo, .int hi]
abbrev Wb := List Rw
theorem eqv_nDs : ∀ (a b : List Nat), eqvDs (a.map nD) (b.map nD) = decide (a = b)
  | [], [] => rfl
  | [], _ :: _ => rfl
  | _ :: _, [] => rfl
  | x :: a, y :: b => by
    simp only [List.map_cons, eqvDs, eqv_nDs a b, nD, eqvD]
    rw [Bool.eq_iff_iff]
    simp [Int.ofNat_inj]
theorem eqv_bit {a b : Bool} : eqvD (bitD a) (bitD b) = decide (a = b) := by cases a <;> cases b <;> rfl
theorem str_ne {a b : String} (h : a ≠ b) : (Str.ofString a == Str.ofString b) = false := by
  rw [beq_eq_false_iff_ne]
  intro z
  rw [ofS_inj] at z
  exact h z
theorem eqv_rD (a b : Rw) : eqvD (rD a) (rD b) = decide (a = b) := by
  cases a <;> cases b <;> simp only [rD, eqvD, eqvDs, eqv_nDs, eqv_bit, beq_self_eq_true, Bool.true_and, Bool.and_true, Bool.false_and, Bool.and_false, decide_true] <;>
    first
    | rfl
    | (rw [str_ne (by decide)]; rfl)
    | (rw [Bool.eq_iff_iff]; simp [Int.ofNat_inj])
theorem any_rD {w : Wb} {r : Rw} : ((w.map rD).any fun z => eqvD z (rD r)) = decide (r ∈ w) := by
  rw [List.any_map, Bool.eq_iff_iff, List.any_eq_true]
  simp only [Function.comp, eqv_rD, decide_eq_true_eq]
  constructor
  · rintro ⟨x, hx, rfl⟩; exact hx
  · intro h; exact ⟨r, h, rfl⟩
theorem idx_rD {w : Wb} {r : Rw} : ((w.map rD).findIdx fun z => eqvD z (rD r)) = w.findIdx fun z => decide (z = r) := by
  rw [List.findIdx_map]
  congr 1
  funext z
  simp [Function.comp, eqv_rD]
def scan {α : Type} (g : List α → Rw → α) : List α → Wb → List α
  | acc, [] => acc
  | acc, r :: rs => scan g (acc ++ [g acc r]) rs
section
variable {α : Type} {g : List α → Rw → α}
theorem scan_app : ∀ (acc : List α) (a b : Wb), scan g acc (a ++ b) = scan g (scan g acc a) b
  | _, [], _ => rfl
  | acc, r :: a, b => scan_app (acc ++ [g acc r]) a b
theorem scan_len : ∀ (acc : List α) (a : Wb), (scan g acc a).length = acc.length + a.length
  | _, [] => rfl
  | acc, r :: a => by
    rw [scan, scan_len]
    simp only [List.length_append, List.length_cons, List.length_nil]; omega
theorem scan_pre : ∀ (acc : List α) (a : Wb), acc <+: scan g acc a
  | acc, [] => List.prefix_refl _
  | acc, r :: a => (List.prefix_append acc [g acc r]).trans (scan_pre _ a)
theorem scan_snoc {acc : List α} {a : Wb} {r : Rw} : scan g acc (a ++ [r]) = scan g acc a ++ [g (scan g acc a) r] := by rw [scan_app]; rfl
theorem pre_get {a b : List α} (h : a <+: b) {i : Nat} (hi : i < a.length) (d : α) : b.getD i d = a.getD i d := by
  obtain ⟨t, rfl⟩ := h
  rw [List.getD_eq_getElem?_getD, List.getD_eq_getElem?_getD, List.getElem?_append_left hi]
/-- the value at i: what g tells of the values ahead -/
theorem scan_at {w : Wb} {i : Nat} {r : Rw} (h : w[i]? = some r) (d : α) : (scan g [] w).getD i d = g (scan g [] (w.take i)) r := by
  have hi := (List.getElem?_eq_some_iff.mp h).1
  have e : w = w.take i ++ (r :: w.drop (i + 1)) := by
    have : w[i] = r := (List.getElem?_eq_some_iff.mp h).2
    rw [← this, List.getElem_cons_drop, List.take_append_drop]
  have hl : (scan g [] (w.take i)).length = i := by rw [scan_len]; simp; omega
  have e2 : scan g [] w = scan g (scan g [] (w.take i) ++ [g (scan g [] (w.take i)) r]) (w.drop (i + 1)) := by
    conv => lhs; rw [e, scan_app]
    rfl
  rw [e2, pre_get (scan_pre _ _) (by simp [hl]) d, List.getD_eq_getElem?_getD, List.getElem?_append_right (by omega), hl]
  simp
theorem scan_take {w : Wb} {i j : Nat} (h : j < i) (hi : i ≤ w.length) (d : α) : (scan g [] (w.take i)).getD j d = (scan g [] w).getD j d := by
  have e : scan g [] w = scan g (scan g [] (w.take i)) (w.drop i) := by rw [← scan_app, List.take_append_drop]
  rw [e]
  exact (pre_get (scan_pre _ _) (by rw [scan_len]; simp; omega) d).symm
end
def Rw.below : Rw → List Nat
  | .all ps => ps
  | .any ps => ps
  | .pick _ lo hi => [lo, hi]
  | _ => []
def Rw.hv (f : List Bool) (acc : List Bool) : Rw → Bool
  | .yes => true
  | .no => false
  | .has k b => f.getD k false == b
  | .all ps => (ps.map fun p => acc.getD p false).all id
  | .any ps => (ps.map fun p => acc.getD p false).any id
  | .pick k lo hi => if f.getD k false then acc.getD hi false else acc.getD lo false
def hvW (f : List Bool) (w : Wb) : List Bool := scan (Rw.hv f) [] w
/-- whether row i holds -/
def hvAt (f : List Bool) (w : Wb) (i : Nat) : Bool := (hvW f w).getD i false
def Rw.ks : Rw → List Int
  | .has k _ => [(k : Int)]
  | .pick k _ _ => [(k : Int)]
  | _ => []
def Rw.nm (acc : List (List Int)) (r : Rw) : List Int := usort (r.ks ++ (r.below.map fun p => acc.getD p []).flatten)
def nmW (w : Wb) : List (List Int) := scan Rw.nm [] w
def nmAt (w : Wb) (i : Nat) : List Int := (nmW w).getD i []
/-- a row, its names less than n, its rows less than i -/
def Rw.ok (n i : Nat) : Rw → Prop
  | .yes => True
  | .no => True
  | .has k _ => k < n
  | .all ps => (2 ≤ ps.length ∧ ps.length ≤ 32) ∧ ps.Pairwise (· < ·) ∧ ∀ p ∈ ps, p < i
  | .any ps => (2 ≤ ps.length ∧ ps.length ≤ 32) ∧ ps.Pairwise (· < ·) ∧ ∀ p ∈ ps, p < i
  | .pick k lo hi => k < n ∧ lo < i ∧ hi < i
def WbOk (n : Nat) (w : Wb) : Prop := ∀ (i : Nat) (r : Rw), w[i]? = some r → r.ok n i
/-- what a row of a form must be -/
def Rw.fm (w : Wb) : Rw → Prop
  | .all ps => ps.Pairwise fun p q => ∀ k, k ∈ nmAt w p → k ∉ nmAt w q
  | .any ps => ps.Pairwise fun p q => ∀ f, ¬ (hvAt f w p = true ∧ hvAt f w q = true)
  | .pick k lo hi => (k : Int) ∉ nmAt w lo ∧ (k : Int) ∉ nmAt w hi
  | _ => True
def WbFm (w : Wb) : Prop := ∀ (i : Nat) (r : Rw), w[i]? = some r → r.fm w
theorem Rw.ok.mono {n m i j : Nat} {r : Rw} (h : r.ok n i) (hn : n ≤ m) (hi : i ≤ j) : r.ok m j := by
  cases r with
  | yes => trivial
  | no => trivial
  | has k b => exact Nat.lt_of_lt_of_le h hn
  | all ps => exact ⟨h.1, h.2.1, fun p hp => Nat.lt_of_lt_of_le (h.2.2 p hp) hi⟩
  | any ps => exact ⟨h.1, h.2.1, fun p hp => Nat.lt_of_lt_of_le (h.2.2 p hp) hi⟩
  | pick k lo hi' => exact ⟨Nat.lt_of_lt_of_le h.1 hn, Nat.lt_of_lt_of_le h.2.1 hi, Nat.lt_of_lt_of_le h.2.2 hi⟩
theorem Rw.ok.below {n i : Nat} {r : Rw} (h : r.ok n i) : ∀ p ∈ r.below, p < i := by
  cases r with
  | all ps => exact h.2.2
  | any ps => exact h.2.2
  | pick k lo hi =>
    intro p hp
    simp only [Rw.below, List.mem_cons, List.not_mem_nil, or_false] at hp
    rcases hp with rfl | rfl
    · exact h.2.1
    · exact h.2.2
  | _ => intro p hp; cases hp
theorem hvAt_app {f : List Bool} {a b : Wb} {i : Nat} (h : i < a.length) : hvAt f (a ++ b) i = hvAt f a i := by
  unfold hvAt hvW
  rw [scan_app]
  exact pre_get (scan_pre _ _) (by rw [scan_len]; simpa using h) _
theorem nmAt_app {a b : Wb} {i : Nat} (h : i < a.length) : nmAt (a ++ b) i = nmAt a i := by
  unfold nmAt nmW
  rw [scan_app]
  exact pre_get (scan_pre _ _) (by rw [scan_len]; simpa using h) _
theorem hv_cong {f : List Bool} {a b : List Bool} {r : Rw} (h : ∀ p ∈ r.below, a.getD p false = b.getD p false) : r.hv f a = r.hv f b := by
  cases r with
  | all ps =>
    simp only [Rw.hv]
    rw [List.map_congr_left (l := ps) h]
  | any ps =>
    simp only [Rw.hv]
    rw [List.map_congr_left (l := ps) h]
  | pick k lo hi =>
    simp only [Rw.hv]
    rw [h lo (by simp [Rw.below]), h hi (by simp [Rw.below])]
  | _ => rfl
theorem nm_cong {a b : List (List Int)} {r : Rw} (h : ∀ p ∈ r.below, a.getD p [] = b.getD p []) : r.nm a = r.nm b := by
  unfold Rw.nm
  rw [List.map_congr_left (g := fun p => b.getD p []) h]
/-- a row's value, by the whole web's values -/
theorem hvAt_row {n : Nat} {f : List Bool} {w : Wb} {i : Nat} {r : Rw} (o : WbOk n w) (h : w[i]? = some r) : hvAt f w i = r.hv f (hvW f w) := by
  unfold hvAt
  have hi := (List.getElem?_eq_some_iff.mp h).1
  show (scan (Rw.hv f) [] w).getD i false = _
  rw [scan_at h]
  refine hv_cong fun p hp => ?_
  exact scan_take ((o i r h).below p hp) (by omega) _
theorem nmAt_row {n : Nat} {w : Wb} {i : Nat} {r : Rw} (o : WbOk n w) (h : w[i]? = some r) : nmAt w i = r.nm (nmW w) := by
  unfold nmAt
  have hi := (List.getElem?_eq_some_iff.mp h).1
  show (scan Rw.nm [] w).getD i [] = _
  rw [scan_at h]
  refine nm_cong fun p hp => ?_
  exact scan_take ((o i r h).below p hp) (by omega) _
theorem WbOk.nil {n : Nat} : WbOk n [] := fun i r h => by simp at h
theorem WbOk.snoc {n : Nat} {w : Wb} {r : Rw} (h : WbOk n w) (hr : r.ok n w.length) : WbOk n (w ++ [r]) := fun i q e => by
  by_cases hi : i < w.length
  · rw [List.getElem?_append_left hi] at e; exact h i q e
  · have hl := (List.getElem?_eq_some_iff.mp e).1
    simp at hl
    have : i = w.length := by omega
    subst this
    simp at e
    subst e; exact hr
theorem WbOk.pre {n : Nat} {a b : Wb} (h : WbOk n b) (p : a <+: b) : WbOk n a := fun i r e => by
  obtain ⟨t, rfl⟩ := p
  exact h i r (by rw [List.getElem?_append_left (List.getElem?_eq_some_iff.mp e).1]; exact e)
theorem pw_iff {α : Type} {P Q : α → α → Prop} : ∀ {l : List α}, (∀ a b, a ∈ l → b ∈ l → (P a b ↔ Q a b)) → (l.Pairwise P ↔ l.Pairwise Q)
  | [], _ => by simp
  | x :: l, h => by
    rw [List.pairwise_cons, List.pairwise_cons, pw_iff (l := l) fun a b ha hb => h a b (List.mem_cons_of_mem _ ha) (List.mem_cons_of_mem _ hb)]
    refine and_congr_left fun _ => forall_congr' fun y => ?_
    exact ⟨fun z hy => (h x y List.mem_cons_self (List.mem_cons_of_mem _ hy)).mp (z hy), fun z hy => (h x y List.mem_cons_self (List.mem_cons_of_mem _ hy)).mpr (z hy)⟩
theorem Rw.fm_app {n : Nat} {a b : Wb} {r : Rw} (o : r.ok n a.length) : r.fm (a ++ b) ↔ r.fm a := by
  have hb := o.below
  cases r with
  | all ps =>
    refine pw_iff ?_
    intro p q hp hq
    rw [nmAt_app (hb p hp), nmAt_app (hb q hq)]
  | any ps =>
    refine pw_iff ?_
    intro p q hp hq
    simp only [hvAt_app (hb p hp), hvAt_app (hb q hq)]
  | pick k lo hi =>
    simp only [Rw.fm]
    rw [nmAt_app (hb lo (by simp [Rw.below])), nmAt_app (hb hi (by simp [Rw.below]))]
  | _ => exact Iff.rfl
theorem WbFm.snoc {n : Nat} {w : Wb} {r : Rw} (o : WbOk n w) (hf : WbFm w) (hr : r.ok n w.length) (hrf : r.fm w) : WbFm (w ++ [r]) := fun i q e => by
  by_cases hi : i < w.length
  · rw [List.getElem?_append_left hi] at e
    exact (Rw.fm_app ((o i q e).mono (Nat.le_refl _) (Nat.le_of_lt hi))).mpr (hf i q e)
  · have hl := (List.getElem?_eq_some_iff.mp e).1
    simp at hl
    have : i = w.length := by omega
    subst this
    simp at e
    subst e
    exact (Rw.fm_app hr).mpr hrf
theorem WbFm.nil : WbFm [] := fun i r h => by simp at h
theorem WbFm.pre {n : Nat} {a b : Wb} (o : WbOk n b) (h : WbFm b) (p : a <+: b) : WbFm a := fun i r e => by
  obtain ⟨t, rfl⟩ := p
  have hi := (List.getElem?_eq_some_iff.mp e).1
  have e2 : (a ++ t)[i]? = some r := by rw [List.getElem?_append_left hi]; exact e
  exact (Rw.fm_app ((o i r e2).mono (Nat.le_refl _) (Nat.le_of_lt hi))).mp (h i r e2)
set_option maxHeartbeats 1000000
theorem wh_inv {k : Nat} {c : TT'} {b : TS'} {E : Ends'} (I : Nat → DS → Mem → Prop)
    (step : ∀ m δ M (nx : DS → Mem → Prop), I m δ M → (∀ m' δ' M', m' < m → I m' (gcS k δ') (M'.take k) → nx δ' M') → c δ M fun t M' => if t then b ⟨nx, E.rt, E.nx, nx⟩ δ M' else E.nx δ M') {m : Nat} {δ : DS} {M : Mem} (h : I m δ M) : ∃ n, whL k c b E n δ M := by
  have go : ∀ n m δ M, m < n → I m δ M → whL k c b E n δ M := by
    intro n
    induction n with
    | zero => intro m δ M h; omega
    | succ n ih =>
      intro m δ M h hI
      exact step m δ M _ hI fun m' δ' M' h' hI' => ih m' _ _ (by omega) hI'
  exact ⟨m + 1, go _ m δ M (by omega) h⟩
theorem mpopAt {R : QD} {M : Mem} {n : Nat} {i : Int} : mPopAt (.ref n) [.d (.int i)] M R = ok (cellL M[n]?) fun ds => ok (ixN ds.length i) fun k => ok ds[k]? fun y => R (.d y) (M.set n (.lst (ds.eraseIdx k))) := rfl
theorem mpop {R : QD} {M : Mem} {n : Nat} : mPop (.ref n) [] M R = ok (cellL M[n]?) fun ds => ok ds[ds.length - 1]? fun y => R (.d y) (M.set n (.lst ds.dropLast)) := rfl
theorem ixN_nat {n k : Nat} (h : k < n) : ixN n (k : Int) = some k := by
  unfold ixN
  rw [if_pos (by omega), if_pos (by omega)]
  simp
theorem rcv_2 {c d : Cell} {M : Mem} {a : List D} : rcv (c :: d :: .lst a :: M) (.ref 2) = some "list" := rfl
theorem rcv_3 {c d e : Cell} {M : Mem} {a : List D} : rcv (c :: d :: e :: .lst a :: M) (.ref 3) = some "list" := rfl
theorem rcv_b {M : Mem} {a : List D} : rcv M (.bor a) = some "list" := rfl
theorem lst_ref {M : Mem} {n : Nat} : lstD M (.ref n) = cellL M[n]? := rfl
theorem len_refI {M : Mem} {n : Nat} : lenD M [.ref n] = (lenOf M (.ref n)).map intS := rfl
theorem lenOf_ref {M : Mem} {n : Nat} : lenOf M (.ref n) = (match M[n]? with
    | some (.lst ds) => some (ds.length : Int)
    | some (.dk kvs) => some (kvs.length : Int)
    | _ => none) := rfl
theorem list_b {M : Mem} {a : List D} : listF M [.bor a] = some a := rfl
theorem list_r {M : Mem} {n : Nat} : listF M [.ref n] = cellL M[n]? := rfl
theorem laid_l {M : Mem} {a : List D} : laidD M (.d (.lst a)) = some a := rfl
theorem laid_b {M : Mem} {a : List D} : laidD M (.bor a) = some a := rfl
theorem laid_r {M : Mem} {n : Nat} : laidD M (.ref n) = cellL M[n]? := rfl
/-- data that == may look at, one level within a list -/
structure EqOk (d : D) : Prop where
  no : noR d = true
  la : (py d).canLay0 = true
  de : (py d).depth ≤ 60
theorem EqOk.okE {d : D} (h : EqOk d) : okE d = true := by
  have := h.de
  unfold VL.okE SeqAt.shaped
  rw [h.no, h.la, decide_eq_true (show (py d).depth ≤ 64 by omega)]
  rfl
theorem EqOk.all : ∀ {ds : List D}, (∀ d ∈ ds, EqOk d) → noRs ds = true ∧ PyData.canLayAll0 (pys ds) = true ∧ PyData.depthAll (pys ds) ≤ 60
  | [], _ => ⟨rfl, rfl, Nat.zero_le _⟩
  | d :: ds, h => by
    obtain ⟨h1, h2, h3⟩ := EqOk.all (ds := ds) fun x hx => h x (List.mem_cons_of_mem _ hx)
    have h0 := h d List.mem_cons_self
    refine ⟨?_, ?_, ?_⟩
    · simp only [noRs, h0.no, h1]; rfl
    · simp only [pys, PyData.canLayAll0, h0.la, h2]; rfl
    · simp only [pys, PyData.depthAll]; have := h0.de; omega
theorem EqOk.lst {ds : List D} (h : ∀ d ∈ ds, EqOk d) : VL.okE (.lst ds) = true := by
  obtain ⟨h1, h2, h3⟩ := EqOk.all h
  unfold VL.okE SeqAt.shaped
  simp only [noR, py, PyData.canLay0, PyData.depth, h1, h2]
  rw [decide_eq_true (show PyData.depthAll (pys ds) + 1 ≤ 64 by omega)]
  rfl
theorem EqOk.int {i : Int} : EqOk (.int i) := ⟨rfl, rfl, Nat.zero_le _⟩
theorem EqOk.non : EqOk .non := ⟨rfl, rfl, Nat.zero_le _⟩
theorem EqOk.bl {b : Bool} : EqOk (.bl b) := ⟨rfl, rfl, Nat.zero_le _⟩
theorem eq_s {M : Mem} {x y : Sv} {a b : List D} (h1 : rsv M x = .lst a) (h2 : rsv M y = .lst b) (hx : ∀ d, x = .d d → d = .lst a) (ha : VL.okE (.lst a) = true) (hb : VL.okE (.lst b) = true) : eqD M x y = some (.d (.bl (eqvDs a b))) := by
  have g : gd (VL.okE (rsv M x) = true ∧ VL.okE (rsv M y) = true) (Sv.d (.bl (eqvD (rsv M x) (rsv M y)))) = some (.d (.bl (eqvDs a b))) := by
    rw [gd_pos ⟨by rw [h1]; exact ha, by rw [h2]; exact hb⟩, h1, h2]; rfl
  cases x with
  | d d => cases hx d rfl; exact g
  | ref n => exact g
  | bor n => exact g
theorem ne_s {M : Mem} {x y : Sv} {a b : List D} (h1 : rsv M x = .lst a) (h2 : rsv M y = .lst b) (hx : ∀ d, x = .d d → d = .lst a) (ha : VL.okE (.lst a) = true) (hb : VL.okE (.lst b) = true) : neD M x y = some (.d (.bl (!eqvDs a b))) := by
  unfold neD
  rw [eq_s h1 h2 hx ha hb]; rfl
theorem rsv_r {M : Mem} {n : Nat} {a : List D} (h : M[n]? = some (.lst a)) : rsv M (.ref n) = .lst a := by simp [rsv, h, cellL]
theorem ne_rl {M : Mem} {n : Nat} {a b : List D} (hn : M[n]? = some (.lst a)) (ha : VL.okE (.lst a) = true) (hb : VL.okE (.lst b) = true) : neD M (.ref n) (.d (.lst b)) = some (.d (.bl (!eqvDs a b))) := ne_s (rsv_r hn) rfl (fun _ h => by cases h) ha hb
theorem eqv_nil {a : List D} : eqvDs a [] = a.isEmpty := by cases a <;> rfl
theorem okE_nil : VL.okE (.lst []) = true := EqOk.lst fun _ h => by cases h
/-- a list, lent or data -/
def LV (s : Sv) (xs : List D) : Prop := s = .d (.lst xs) ∨ s = .bor xs
def sp_mixed : SpD := fun as M Q => ∃ (ds : List D) (b : Nat) (s : Sv) (xs : List D), as = [.ref 0, s] ∧ LV s xs ∧ M = [.lst ds] ∧ Tp b ds ∧ xs.length ≤ 9999 ∧ b + xs.length < 1099511627776 ∧ (∀ x ∈ xs, EqOk x) ∧
  ∀ (ys ds' : List D), ys.Perm xs → Tp (b + xs.length) ds' → Q (.new ys) [.lst ds']
def r_mixed (sp__law_take : SpD) : TS' :=
  (sSeq (sPar 2 3 (aCons (eNw (fP (plN listF [(pV 1)]))) (aCons (eNw (fP (plLst []))) (aP []))))
  (sSeq (sWh (cP (bB (po2 neD (pV 2) (pFz (plLst [])))))
  (sDrop (eMt "list" mApp (eP (pV 3)) (aCons (eMt "list" mPopAt (eP (pV 2)) (aCons (eCall [true, false] sp__law_take (aP [(pV 0), (poN lenD [(pV 2)])])) (aP []))) (aP [])))))
  (sRet (eP (pV 3)))))
local macro_rules
  | `(tactic| simp only [VLT]) => `(tactic| simp only [sSeq, sIf, sSet, sSub, sRet, sRetN, sNil, sDrop, sAsg, sPar, sParT, sAug, cP, bB, bTr, bNt, bAn, bOr, po1, po2, poN, pArgs, poIf, poAn, poOr, poNt, poTup, plLst, plN, pl2, pl1, pFz, pV, pC, eP, eo1, eo2, eoN, aP, aNil, aCons, eAn, eOr, eNt, eIf, eFz, eNw, fP, fN, f2, f1, tTupE, tLstF, tTr, tTb, tAn, tOrr, tNt, tYs, eSeal, eMt, poMt, mPure, eCh, pCh, ok_bind, ok_map, ok_some, ok_none, ok_gd, ok_ite, List.getElem?_cons_zero, List.getElem?_cons_succ, List.set_cons_zero, List.set_cons_succ, Option.join_some, Option.bind_some, Option.map_some, Option.bind_none, Option.map_none, ix_ref, ix_tup, ix_lst, ix_bor, ix_scr, add_int, add_str, add_tup, sub_int, mul_int, fdiv_int, mod_int, pow_int, neg_int, lt_int, le_int, gt_int, ge_int, eq_int, eq_str, eq_bl, ne_int, ne_str, ne_bl, is_bl, isnt_bl, is_non, isnt_non, len_tup, len_lst, len_ref, len_bor, len_scr, int_bl, int_int, abs_int, min_int, max_int, blD_bl, cell_lst, cellA_lst, cellA_dk, st_ref, at_0, at_1, at_2, at_3, at_4, ixN_10, ixN_20, ixN_21, ixN_30, ixN_31, ixN_32, dataS_d, datas_nil, datas_cons, truth_bl, notD, intS, blS, nonB, List.length_cons, List.length_nil, Nat.reduceAdd, endsF_rt, endsF_nx, rvQ_d, rvQ_new, rvQ_newK, rv_d, rv_ref, rv_cl, rv_ck, okRef_d, okRef_ref, List.not_mem_nil, List.nil_append, true_and, and_true, List.take_succ_cons, List.take_zero, Nat.zero_add, decide_eq_true_eq, Bool.false_eq_true, if_false, if_true, callS, handS_n, handS_tr, handS_fr, handS_fd, handS_fb, cellsAt_c, cellsAt_0, Option.getD_some, backS_0, backS_1, eCall, tup_lst, tup_tup, tup_ref, fLc, iRg, rng_1, rng_2, wipeS_c, wipeS_n, iPq, iSq, seq_tup, seq_lst, seq_bor, lst_lst, lst_bor, gdS_d, gdS_b, sFor, gNm, gcS_c, gcS_n, gcO_d, gcO_n, mapp, rcv_0, rcv_1, rcv_l, gcO_r0, gcO_r1, gcO_z, seal_d, eq_self, List.take_nil, List.cons_append, poSl, poI, poNo, slD_t, intO_i, list_t, list_l, in_str2, ofS_inj, String.reduceEq, or_false, false_or, or_true, true_or, or_self, decide_true, decide_false, Bool.not_true, Bool.not_false, at_m1_2, at_m1_3, cut_2, cut_3, all_bls, any_bls, count_bls])
  | `(tactic| simp only [VLT, $xs,*]) => `(tactic| simp only [sSeq, sIf, sSet, sSub, sRet, sRetN, sNil, sDrop, sAsg, sPar, sParT, sAug, cP, bB, bTr, bNt, bAn, bOr, po1, po2, poN, pArgs, poIf, poAn, poOr, poNt, poTup, plLst, plN, pl2, pl1, pFz, pV, pC, eP, eo1, eo2, eoN, aP, aNil, aCons, eAn, eOr, eNt, eIf, eFz, eNw, fP, fN, f2, f1, tTupE, tLstF, tTr, tTb, tAn, tOrr, tNt, tYs, eSeal, eMt, poMt, mPure, eCh, pCh, ok_bind, ok_map, ok_some, ok_none, ok_gd, ok_ite, List.getElem?_cons_zero, List.getElem?_cons_succ, List.set_cons_zero, List.set_cons_succ, Option.join_some, Option.bind_some, Option.map_some, Option.bind_none, Option.map_none, ix_ref, ix_tup, ix_lst, ix_bor, ix_scr, add_int, add_str, add_tup, sub_int, mul_int, fdiv_int, mod_int, pow_int, neg_int, lt_int, le_int, gt_int, ge_int, eq_int, eq_str, eq_bl, ne_int, ne_str, ne_bl, is_bl, isnt_bl, is_non, isnt_non, len_tup, len_lst, len_ref, len_bor, len_scr, int_bl, int_int, abs_int, min_int, max_int, blD_bl, cell_lst, cellA_lst, cellA_dk, st_ref, at_0, at_1, at_2, at_3, at_4, ixN_10, ixN_20, ixN_21, ixN_30, ixN_31, ixN_32, dataS_d, datas_nil, datas_cons, truth_bl, notD, intS, blS, nonB, List.length_cons, List.length_nil, Nat.reduceAdd, endsF_rt, endsF_nx, rvQ_d, rvQ_new, rvQ_newK, rv_d, rv_ref, rv_cl, rv_ck, okRef_d, okRef_ref, List.not_mem_nil, List.nil_append, true_and, and_true, List.take_succ_cons, List.take_zero, Nat.zero_add, decide_eq_true_eq, Bool.false_eq_true, if_false, if_true, callS, handS_n, handS_tr, handS_fr, handS_fd, handS_fb, cellsAt_c, cellsAt_0, Option.getD_some, backS_0, backS_1, eCall, tup_lst, tup_tup, tup_ref, fLc, iRg, rng_1, rng_2, wipeS_c, wipeS_n, iPq, iSq, seq_tup, seq_lst, seq_bor, lst_lst, lst_bor, gdS_d, gdS_b, sFor, gNm, gcS_c, gcS_n, gcO_d, gcO_n, mapp, rcv_0, rcv_1, rcv_l, gcO_r0, gcO_r1, gcO_z, seal_d, eq_self, List.take_nil, List.cons_append, poSl, poI, poNo, slD_t, intO_i, list_t, list_l, in_str2, ofS_inj, String.reduceEq, or_false, false_or, or_true, true_or, or_self, decide_true, decide_false, Bool.not_true, Bool.not_false, at_m1_2, at_m1_3, cut_2, cut_3, all_bls, any_bls, count_bls, $xs,*])
theorem pure_mixed (as : List Sv) (M : Mem) (Q : Rv → Mem → Prop) (h : sp_mixed as M Q) : r_mixed sp_take (endsF M.length Q) (startD 4 as) M := by
  obtain ⟨ds, b, s, xs, rfl, hs, rfl, ht, hl, hb, hx, z⟩ := h
  have go : ∀ s, LV s xs → r_mixed sp_take (endsF 1 Q) [some (.ref 0), some s, none, none] [.lst ds] := by
    intro s hs
    rcases hs with rfl | rfl <;>
    · simp only [r_mixed, sSeq]
      simp only [VLT, list_b]
      refine wh_inv (fun m δ M => ∃ left found dt, m = left.length ∧ δ = [some (.ref 0), some _, some (.ref 1), some (.ref 2)] ∧ M = [.lst dt, .lst left, .lst found] ∧ (left ++ found).Perm xs ∧ Tp (b + found.length) dt) ?_ ⟨xs, [], ds, rfl, rfl, rfl, by simp, ht⟩
      rintro m δ M nx ⟨left, found, dt, rfl, rfl, rfl, hp, t1⟩ k
      have hlen := hp.length_eq
      rw [List.length_append] at hlen
      have ok1 : VL.okE (.lst left) = true := EqOk.lst fun d hd => hx d (hp.mem_iff.mp (by simp [hd]))
      have e1 := ne_rl (M := [.lst dt, .lst left, .lst found]) (n := 1) (a := left) (b := []) rfl ok1 okE_nil
      simp only [VLT, e1, eqv_nil]
      cases hl0 : left with
      | nil =>
        subst hl0
        simp only [VLT, List.isEmpty_nil]
        refine ⟨by decide, ?_⟩
        refine z found dt (by simpa using hp) ?_
        have : found.length = xs.length := by simpa using hlen
        rw [← this]; exact t1
      | cons l0 lr =>
        have hpos : 0 < left.length := by rw [hl0]; simp
        rw [← hl0]
        have he : left.isEmpty = false := by rw [hl0]; rfl
        simp only [VLT, he, lenOf_ref, len_refI, intS, rcv_2]
        refine take_ok t1 (by omega) (by omega) (by omega) fun v dt1 v0 v1 t2 => ?_
        obtain ⟨v, rfl⟩ := Int.eq_ofNat_of_zero_le v0
        have hv : v < left.length := by omega
        simp only [VLT, mpopAt, ixN_nat hv, List.getElem?_eq_getElem hv]
        refine ⟨by rw [sizeLine_eq]; omega, ?_⟩
        refine k (left.length - 1) _ _ (by omega) ⟨left.eraseIdx v, found ++ [left[v]], dt1, by rw [List.length_eraseIdx_of_lt hv], rfl, by simp only [VLT], ?_, t2.mono (by simp; omega)⟩
        refine List.Perm.trans ?_ hp
        have p1 : (left[v] :: left.eraseIdx v).Perm left := by
          have e : left = left.take v ++ (left[v] :: left.drop (v + 1)) := by rw [List.getElem_cons_drop, List.take_append_drop]
          rw [List.eraseIdx_eq_take_drop_succ]
          conv => rhs; rw [e]
          exact List.perm_middle.symm
        calc (left.eraseIdx v ++ (found ++ [left[v]])).Perm ((found ++ [left[v]]) ++ left.eraseIdx v) := List.perm_append_comm
          _ = found ++ (left[v] :: left.eraseIdx v) := by simp
          List.Perm _ (found ++ left) := p1.append_left found
          List.Perm _ (left ++ found) := List.perm_append_comm
  exact go s hs
set_option maxHeartbeats 1000000
structure EqK (k : Nat) (d : D) : Prop where
  no : noR d = true
  la : (py d).canLay0 = true
  de : (py d).depth ≤ k
theorem EqK.ok {k : Nat} {d : D} (h : EqK k d) (hk : k ≤ 60) : EqOk d := ⟨h.no, h.la, Nat.le_trans h.de hk⟩
theorem EqK.mono {k j : Nat} {d : D} (h : EqK k d) (hk : k ≤ j) : EqK j d := ⟨h.no, h.la, Nat.le_trans h.de hk⟩
theorem EqK.int {i : Int} : EqK 0 (.int i) := ⟨rfl, rfl, Nat.le_refl _⟩
theorem EqK.bl {i : Bool} : EqK 0 (.bl i) := ⟨rfl, rfl, Nat.le_refl _⟩
theorem EqK.non : EqK 0 .non := ⟨rfl, rfl, Nat.le_refl _⟩
theorem EqK.bit {b : Bool} : EqK 0 (bitD b) := EqK.int
theorem EqK.str {s : Str} (h : PyData.canLay0 (.str s) = true) : EqK 0 (.str s) := ⟨rfl, h, Nat.le_refl _⟩
theorem EqK.alls {k : Nat} : ∀ {ds : List D}, (∀ d ∈ ds, EqK k d) → noRs ds = true ∧ PyData.canLayAll0 (pys ds) = true ∧ PyData.depthAll (pys ds) ≤ k
  | [], _ => ⟨rfl, rfl, Nat.zero_le _⟩
  | d :: ds, h => by
    obtain ⟨h1, h2, h3⟩ := EqK.alls (ds := ds) fun x hx => h x (List.mem_cons_of_mem _ hx)
    have h0 := h d List.mem_cons_self
    refine ⟨?_, ?_, ?_⟩
    · simp only [noRs, h0.no, h1]; rfl
    · simp only [pys, PyData.canLayAll0, h0.la, h2]; rfl
    · simp only [pys, PyData.depthAll]; have := h0.de; omega
theorem EqK.tup {k : Nat} {ds : List D} (h : ∀ d ∈ ds, EqK k d) : EqK (k + 1) (.tup ds) := by
  obtain ⟨h1, h2, h3⟩ := EqK.alls h
  exact ⟨h1, h2, by simp only [py, PyData.depth]; omega⟩
theorem EqK.lst {k : Nat} {ds : List D} (h : ∀ d ∈ ds, EqK k d) : EqK (k + 1) (.lst ds) := by
  obtain ⟨h1, h2, h3⟩ := EqK.alls h
  exact ⟨h1, h2, by simp only [py, PyData.depth]; omega⟩
theorem EqK.t1 {k : Nat} {a : D} (ha : EqK k a) : EqK (k + 1) (.tup [a]) := EqK.tup fun d hd => by
  simp only [List.mem_cons, List.not_mem_nil, or_false] at hd; subst hd; exact ha
theorem EqK.t2 {k : Nat} {a b : D} (ha : EqK k a) (hb : EqK k b) : EqK (k + 1) (.tup [a, b]) := EqK.tup fun d hd => by
  simp only [List.mem_cons, List.not_mem_nil, or_false] at hd
  rcases hd with rfl | rfl <;> assumption
theorem EqK.t3 {k : Nat} {a b c : D} (ha : EqK k a) (hb : EqK k b) (hc : EqK k c) : EqK (k + 1) (.tup [a, b, c]) := EqK.tup fun d hd => by
  simp only [List.mem_cons, List.not_mem_nil, or_false] at hd
  rcases hd with rfl | rfl | rfl <;> assumption
theorem EqK.t4 {k : Nat} {a b c e : D} (ha : EqK k a) (hb : EqK k b) (hc : EqK k c) (he : EqK k e) : EqK (k + 1) (.tup [a, b, c, e]) := EqK.tup fun d hd => by
  simp only [List.mem_cons, List.not_mem_nil, or_false] at hd
  rcases hd with rfl | rfl | rfl | rfl <;> assumption
theorem EqK.nats {ps : List Nat} : EqK 1 (.tup (ps.map nD)) := EqK.tup fun d hd => by
  obtain ⟨p, _, rfl⟩ := List.mem_map.mp hd
  exact EqK.int
theorem rD_eqK (r : Rw) : EqK 2 (rD r) := by
  cases r with
  | yes => exact (EqK.t1 (EqK.str (by decide +kernel))).mono (by decide)
  | no => exact (EqK.t1 (EqK.str (by decide +kernel))).mono (by decide)
  | has k b => exact (EqK.t3 (EqK.str (by decide +kernel)) EqK.int EqK.bit).mono (by decide)
  | all ps => exact EqK.t2 ((EqK.str (by decide +kernel)).mono (by decide)) EqK.nats
  | any ps => exact EqK.t2 ((EqK.str (by decide +kernel)).mono (by decide)) EqK.nats
  | pick k lo hi => exact (EqK.t4 (EqK.str (by decide +kernel)) EqK.int EqK.int EqK.int).mono (by decide)
theorem rD_eq (r : Rw) : EqOk (rD r) := (rD_eqK r).ok (by decide)
theorem wb_eq {w : Wb} : ∀ d ∈ w.map rD, EqOk d := fun d hd => by
  obtain ⟨r, _, rfl⟩ := List.mem_map.mp hd
  exact rD_eq r
theorem in_wb {M : Mem} {n : Nat} {w : Wb} {r : Rw} (h : M[n]? = some (.lst (w.map rD))) : inD M (.d (rD r)) (.ref n) = some (.d (.bl (decide (r ∈ w)))) := by
  have e : inD M (.d (rD r)) (.ref n) = ((cellL M[n]?).bind fun ds => gd ((atomD (rD r) = true ∧ ds.all atomD = true) ∨ (okE (rD r) = true ∧ isTupD (.ref n) = false ∧ okE (.lst ds) = true)) (ds.any fun z => eqvD z (rD r))).map blS := rfl
  rw [e, h]
  simp only [cellL, Option.bind_some]
  rw [gd_pos (.inr ⟨(rD_eq r).okE, rfl, EqOk.lst wb_eq⟩), any_rD]
  rfl
theorem index_wb {M : Mem} {n : Nat} {w : Wb} {r : Rw} (h : M[n]? = some (.lst (w.map rD))) (hr : r ∈ w) : indexD M (.ref n) [.d (rD r)] = some (.d (.int ((w.findIdx fun z => decide (z = r) : Nat) : Int))) := by
  have e : indexD M (.ref n) [.d (rD r)] = (cellL M[n]?).bind fun ds => gd (okE (rD r) = true ∧ okE (.lst ds) = true ∧ (ds.any fun z => eqvD z (rD r)) = true) (intS ((ds.findIdx fun z => eqvD z (rD r) : Nat) : Int)) := rfl
  rw [e, h]
  simp only [cellL, Option.bind_some]
  rw [gd_pos ⟨(rD_eq r).okE, EqOk.lst wb_eq, by rw [any_rD]; exact decide_eq_true hr⟩, idx_rD]
  rfl
theorem findIdx_at {w : Wb} {r : Rw} (hr : r ∈ w) : w[w.findIdx fun z => decide (z = r)]? = some r := by
  have h : w.findIdx (fun z => decide (z = r)) < w.length := List.findIdx_lt_length_of_exists ⟨r, hr, by simp⟩
  rw [List.getElem?_eq_getElem h]
  have := List.findIdx_getElem (w := h)
  rw [decide_eq_true_eq] at this
  rw [this]
set_option maxHeartbeats 1000000
theorem for_ix {k : Nat} {g : TG'} {b : TS'} {E : Ends'} {gd : Mem → Prop} : ∀ (ds : List D) (I : Nat → DS → Mem → Prop) (fin : ∀ δ M, I ds.length δ M → gd M ∧ E.nx δ M)
    (step : ∀ j d δ M (nx : DS → Mem → Prop), ds[j]? = some d → I j δ M → (∀ δ' M', I (j + 1) (gcS k δ') (M'.take k) → nx δ' M') → gd M ∧ g d δ M fun δ1 M1 => b ⟨nx, E.rt, E.nx, nx⟩ δ1 M1) (δ : DS) (M : Mem), I 0 δ M → forL k g b E gd ds δ M
  | [], I, fin, step, δ, M, h => fin δ M h
  | d :: ds, I, fin, step, δ, M, h => step 0 d δ M _ rfl h fun δ' M' h' => for_ix ds (fun j => I (j + 1)) (fun δ M h => fin δ M h) (fun j d' δ M nx e hI k => step (j + 1) d' δ M nx (by simpa using e) hI k) _ _ h'
theorem lc_ix {g : TG'} {tt : TT'} {te : TE'} {δw : DS} {gd : Mem → Prop} {Q : List D → Mem → Prop} : ∀ (ds : List D) (I : Nat → List D → Mem → Prop) (fin : ∀ acc M, I ds.length acc M → gd M ∧ Q acc M)
    (step : ∀ j d acc M (nx : List D → Mem → Prop), ds[j]? = some d → I j acc M → (∀ acc' M', I (j + 1) acc' M' → nx acc' M') → gd M ∧ g d δw M fun δ2 M2 => tt δ2 M2 fun b M3 => if b then te δ2 M3 fun s M4 => ok (dataS s) fun y => nx (acc ++ [y]) M4 else nx acc M3) (acc : List D) (M : Mem), I 0 acc M → lcL g tt te δw gd Q ds acc M
  | [], I, fin, step, acc, M, h => fin acc M h
  | d :: ds, I, fin, step, acc, M, h => step 0 d acc M _ rfl h fun acc' M' h' => lc_ix ds (fun j => I (j + 1)) (fun acc M h => fin acc M h) (fun j d' acc M nx e hI k => step (j + 1) d' acc M nx (by simpa using e) hI k) _ _ h'
theorem rg_at {lo : Int} {n j : Nat} {d : D} (h : (rgL lo n)[j]? = some d) : j < n ∧ d = .int (lo + (j : Nat)) := by
  unfold rgL at h
  rw [List.getElem?_map, Option.map_eq_some_iff] at h
  obtain ⟨i, hi, rfl⟩ := h
  obtain ⟨hl, e⟩ := List.getElem?_eq_some_iff.mp hi
  simp only [List.length_range] at hl
  simp only [List.getElem_range] at e
  subst e
  exact ⟨hl, rfl⟩
theorem lcg_nm {i : Nat} : (LcG.nm i).to = gNm i := rfl
theorem lcg_tp {is : List Nat} : (LcG.tp is).to = gTp is := rfl
theorem slF_l {M : Mem} {a : List D} {lo hi : Option Int} : slF M (.d (.lst a)) lo hi = some (cutD a lo hi) := rfl
theorem slF_b {M : Mem} {a : List D} {lo hi : Option Int} : slF M (.bor a) lo hi = some (cutD a lo hi) := rfl
theorem slF_r {M : Mem} {n : Nat} {lo hi : Option Int} : slF M (.ref n) lo hi = (cellL M[n]?).map fun ds => cutD ds lo hi := rfl
theorem cut_to {ds : List D} {k : Nat} : cutD ds none (some (k : Int)) = ds.take k := by
  unfold cutD
  rw [HT.sIx_none, HT.sIx_nat, List.drop_zero, Nat.sub_zero]
  by_cases h : k ≤ ds.length
  · rw [Nat.min_eq_left h]
  · rw [Nat.min_eq_right (by omega), List.take_of_length_le (Nat.le_refl _), List.take_of_length_le (by omega)]
theorem cut_from {ds : List D} {k : Nat} : cutD ds (some (k : Int)) none = ds.drop k := by
  unfold cutD
  rw [HT.sIx_none, HT.sIx_nat]
  by_cases h : k ≤ ds.length
  · rw [Nat.min_eq_left h, List.take_of_length_le (by simp)]
  · rw [Nat.min_eq_right (by omega), List.take_of_length_le (by simp), List.drop_of_length_le (Nat.le_refl _), List.drop_of_length_le (by omega)]
theorem cut_m1 {ds : List D} : cutD ds (some (-1)) none = ds.drop (ds.length - 1) := by
  unfold cutD
  have e : HT.sIx ds.length 0 (some (-1)) = ds.length - 1 := by
    show (if (-1 : Int) < 0 then ((-1 : Int) + (ds.length : Int)).toNat else min (-1 : Int).toNat ds.length) = _
    rw [if_pos (by decide)]; omega
  rw [HT.sIx_none, e]
  exact List.take_of_length_le (by simp)
theorem nats_of : ∀ {l : List Int}, (∀ x ∈ l, 0 ≤ x) → ∃ ps : List Nat, l = ps.map Int.ofNat
  | [], _ => ⟨[], rfl⟩
  | x :: l, h => by
    obtain ⟨ps, rfl⟩ := nats_of (l := l) fun y hy => h y (List.mem_cons_of_mem _ hy)
    obtain ⟨p, rfl⟩ := Int.eq_ofNat_of_zero_le (h x List.mem_cons_self)
    exact ⟨p :: ps, rfl⟩
theorem nats_lt {ps : List Nat} : (ps.map Int.ofNat).Pairwise (· < ·) ↔ ps.Pairwise (· < ·) := by
  rw [List.pairwise_map]
  exact pw_iff fun a b _ _ => Int.ofNat_lt
theorem nats_D {ps : List Nat} : (ps.map Int.ofNat).map D.int = ps.map nD := by rw [List.map_map]; rfl
theorem intsOf_nats {ps : List Nat} : intsOf (ps.map nD) = some (ps.map Int.ofNat) := by rw [← nats_D, intsOf_map]
theorem soSet_l {M : Mem} {ns : List Int} (h1 : ns.length ≤ 4000) (h2 : (usort ns).length < 64) : soSetF M (.d (.lst (ns.map D.int))) = some ((usort ns).map .int) := by
  unfold soSetF
  simp only [lstD, Option.bind_some, intsOf_map]
  exact gd_pos ⟨h1, h2⟩
def wBd : Nat := 200
def sp_wild : SpD := fun as M Q => ∃ (ds : List D) (b n : Nat), as = [.ref 0, .d (.int n)] ∧ M = [.lst ds] ∧ Tp b ds ∧ b + wBd < 1099511627776 ∧ 1 ≤ n ∧ n ≤ 99990 ∧
  ∀ (w : Wb) (ds' : List D), WbOk n w → 2 ≤ w.length → w.length ≤ 14 → Tp (b + wBd) ds' → Q (.new (w.map rD)) [.lst ds']
def r_wild (sp__law_take : SpD) : TS' :=
  (sSeq (sSet 2 (eNw (fP (plLst []))))
  (sSeq (sFor (iRg false (aCons (eo2 addD (eP (pC (.int 2))) (eCall [true, false] sp__law_take (aP [(pV 0), (pC (.int 13))]))) (aP []))) (gNm 3)
  (sSeq (sPar 4 5 (aCons (eCall [true, false] sp__law_take (aP [(pV 0), (pC (.int 9))])) (aCons (eCall [true, false] sp__law_take (aP [(pV 0), (pV 1)])) (aP []))))
  (sIf (cP (bOr (bB (po2 ltD (pV 4) (pC (.int 2)))) (bB (po2 ltD (pV 3) (pC (.int 2))))))
  (sDrop (eMt "list" mApp (eP (pV 2)) (aCons (eo2 ixD (eP (pFz (plLst [(poTup [(pC (.str "yes"))]), (poTup [(pC (.str "no"))]), (poTup [(pC (.str "has")), (pV 5), (pC (.int 0))]), (poTup [(pC (.str "has")), (pV 5), (pC (.int 1))]), (poTup [(pC (.str "has")), (pV 5), (pC (.int 1))])]))) (eCall [true, false] sp__law_take (aP [(pV 0), (pC (.int 5))]))) (aP []))))
  (sIf (cP (bB (po2 ltD (pV 4) (pC (.int 6)))))
  (sSeq (sSet 6 (eFz (f1 soSetF (eFz (f2 catF (eFz (fLc (iRg true (aCons (eo2 addD (eP (pC (.int 2))) (eCall [true, false] sp__law_take (aP [(pV 0), (pC (.int 3))]))) (aP []))) (.nm 7) tYs (eCall [true, false] sp__law_take (aP [(pV 0), (pV 3)])) [7])) (eP (pFz (plLst [(po2 subD (pV 3) (pC (.int 1))), (pC (.int 0))]))))))))
  (sDrop (eMt "list" mApp (eP (pV 2)) (aP [(poTup [(po2 ixD (pFz (plLst [(pC (.str "and")), (pC (.str "or"))])) (po2 modD (pV 4) (pC (.int 2)))), (po1 tupC (poIf (bB (po2 eqD (pV 4) (pC (.int 2)))) (pFz (pl2 catF (pFz (plSl (pV 6) poNo (poI (pC (.int 1))))) (pFz (plSl (pV 6) (poI (po1 negD (pC (.int 1)))) poNo)))) (pV 6)))])]))))
  (sDrop (eMt "list" mApp (eP (pV 2)) (aCons (tTupE (aCons (eP (pC (.str "pick"))) (aCons (eP (pV 5)) (aCons (eCall [true, false] sp__law_take (aP [(pV 0), (pV 3)])) (aCons (eCall [true, false] sp__law_take (aP [(pV 0), (pV 3)])) (aP [])))))) (aP []))))))))
  (sRet (eP (pV 2)))))
theorem wild_leaf {u : Int} {k : Nat} {R : D → Prop} (u0 : 0 ≤ u) (u1 : u < 5) (h : ∀ r : Rw, (∀ n i, k < n → r.ok n i) → R (rD r)) : ok (atI [D.tup [.str "yes"], .tup [.str "no"], .tup [.str "has", .int k, .int 0], .tup [.str "has", .int k, .int 1], .tup [.str "has", .int k, .int 1]] u) R := by
  have hu : u = 0 ∨ u = 1 ∨ u = 2 ∨ u = 3 ∨ u = 4 := by omega
  rcases hu with rfl | rfl | rfl | rfl | rfl
  · exact h .yes fun _ _ _ => trivial
  · exact h .no fun _ _ _ => trivial
  · exact h (.has k false) fun _ _ h => h
  · exact h (.has k true) fun _ _ h => h
  · exact h (.has k true) fun _ _ h => h
local macro_rules
  | `(tactic| simp only [VLU]) => `(tactic| simp only [sSeq, sIf, sSet, sSub, sRet, sRetN, sNil, sDrop, sAsg, sPar, sParT, sAug, cP, bB, bTr, bNt, bAn, bOr, po1, po2, poN, pArgs, poIf, poAn, poOr, poNt, poTup, plLst, plN, pl2, pl1, pFz, pV, pC, eP, eo1, eo2, eoN, aP, aNil, aCons, eAn, eOr, eNt, eIf, eFz, eNw, fP, fN, f2, f1, tTupE, tLstF, tTr, tTb, tAn, tOrr, tNt, tYs, eSeal, eMt, poMt, mPure, eCh, pCh, ok_bind, ok_map, ok_some, ok_none, ok_gd, ok_ite, List.getElem?_cons_zero, List.getElem?_cons_succ, List.set_cons_zero, List.set_cons_succ, Option.join_some, Option.bind_some, Option.map_some, Option.bind_none, Option.map_none, ix_ref, ix_tup, ix_lst, ix_bor, ix_scr, add_int, add_str, add_tup, sub_int, mul_int, fdiv_int, mod_int, pow_int, neg_int, lt_int, le_int, gt_int, ge_int, eq_int, eq_str, eq_bl, ne_int, ne_str, ne_bl, is_bl, isnt_bl, is_non, isnt_non, len_tup, len_lst, len_ref, len_bor, len_scr, int_bl, int_int, abs_int, min_int, max_int, blD_bl, cell_lst, cellA_lst, cellA_dk, st_ref, at_0, at_1, at_2, at_3, at_4, ixN_10, ixN_20, ixN_21, ixN_30, ixN_31, ixN_32, dataS_d, datas_nil, datas_cons, truth_bl, notD, intS, blS, nonB, List.length_cons, List.length_nil, Nat.reduceAdd, endsF_rt, endsF_nx, rvQ_d, rvQ_new, rvQ_newK, rv_d, rv_ref, rv_cl, rv_ck, okRef_d, okRef_ref, List.not_mem_nil, List.nil_append, true_and, and_true, List.take_succ_cons, List.take_zero, Nat.zero_add, decide_eq_true_eq, Bool.false_eq_true, if_false, if_true, callS, handS_n, handS_tr, handS_fr, handS_fd, handS_fb, cellsAt_c, cellsAt_0, Option.getD_some, backS_0, backS_1, eCall, tup_lst, tup_tup, tup_ref, fLc, iRg, rng_1, rng_2, wipeS_c, wipeS_n, iPq, iSq, seq_tup, seq_lst, seq_bor, lst_lst, lst_bor, gdS_d, gdS_b, sFor, gNm, gcS_c, gcS_n, gcO_d, gcO_n, mapp, rcv_0, rcv_1, rcv_l, gcO_r0, gcO_r1, gcO_z, seal_d, eq_self, List.take_nil, List.cons_append, poSl, poI, poNo, slD_t, intO_i, list_t, list_l, in_str2, ofS_inj, String.reduceEq, or_false, false_or, or_true, true_or, or_self, decide_true, decide_false, Bool.not_true, Bool.not_false, at_m1_2, at_m1_3, cut_2, cut_3, all_bls, any_bls, count_bls, lcg_nm, lcg_tp, lst_ref, laid_l, laid_b, laid_r, list_b, list_r, len_refI, lenOf_ref, rcv_2, rcv_3, rcv_b, slF_l, slF_b, slF_r, cat_l, repr_d, plSl])
  | `(tactic| simp only [VLU, $xs,*]) => `(tactic| simp only [sSeq, sIf, sSet, sSub, sRet, sRetN, sNil, sDrop, sAsg, sPar, sParT, sAug, cP, bB, bTr, bNt, bAn, bOr, po1, po2, poN, pArgs, poIf, poAn, poOr, poNt, poTup, plLst, plN, pl2, pl1, pFz, pV, pC, eP, eo1, eo2, eoN, aP, aNil, aCons, eAn, eOr, eNt, eIf, eFz, eNw, fP, fN, f2, f1, tTupE, tLstF, tTr, tTb, tAn, tOrr, tNt, tYs, eSeal, eMt, poMt, mPure, eCh, pCh, ok_bind, ok_map, ok_some, ok_none, ok_gd, ok_ite, List.getElem?_cons_zero, List.getElem?_cons_succ, List.set_cons_zero, List.set_cons_succ, Option.join_some, Option.bind_some, Option.map_some, Option.bind_none, Option.map_none, ix_ref, ix_tup, ix_lst, ix_bor, ix_scr, add_int, add_str, add_tup, sub_int, mul_int, fdiv_int, mod_int, pow_int, neg_int, lt_int, le_int, gt_int, ge_int, eq_int, eq_str, eq_bl, ne_int, ne_str, ne_bl, is_bl, isnt_bl, is_non, isnt_non, len_tup, len_lst, len_ref, len_bor, len_scr, int_bl, int_int, abs_int, min_int, max_int, blD_bl, cell_lst, cellA_lst, cellA_dk, st_ref, at_0, at_1, at_2, at_3, at_4, ixN_10, ixN_20, ixN_21, ixN_30, ixN_31, ixN_32, dataS_d, datas_nil, datas_cons, truth_bl, notD, intS, blS, nonB, List.length_cons, List.length_nil, Nat.reduceAdd, endsF_rt, endsF_nx, rvQ_d, rvQ_new, rvQ_newK, rv_d, rv_ref, rv_cl, rv_ck, okRef_d, okRef_ref, List.not_mem_nil, List.nil_append, true_and, and_true, List.take_succ_cons, List.take_zero, Nat.zero_add, decide_eq_true_eq, Bool.false_eq_true, if_false, if_true, callS, handS_n, handS_tr, handS_fr, handS_fd, handS_fb, cellsAt_c, cellsAt_0, Option.getD_some, backS_0, backS_1, eCall, tup_lst, tup_tup, tup_ref, fLc, iRg, rng_1, rng_2, wipeS_c, wipeS_n, iPq, iSq, seq_tup, seq_lst, seq_bor, lst_lst, lst_bor, gdS_d, gdS_b, sFor, gNm, gcS_c, gcS_n, gcO_d, gcO_n, mapp, rcv_0, rcv_1, rcv_l, gcO_r0, gcO_r1, gcO_z, seal_d, eq_self, List.take_nil, List.cons_append, poSl, poI, poNo, slD_t, intO_i, list_t, list_l, in_str2, ofS_inj, String.reduceEq, or_false, false_or, or_true, true_or, or_self, decide_true, decide_false, Bool.not_true, Bool.not_false, at_m1_2, at_m1_3, cut_2, cut_3, all_bls, any_bls, count_bls, lcg_nm, lcg_tp, lst_ref, laid_l, laid_b, laid_r, list_b, list_r, len_refI, lenOf_ref, rcv_2, rcv_3, rcv_b, slF_l, slF_b, slF_r, cat_l, repr_d, plSl, $xs,*])
theorem pure_wild (as : List Sv) (M : Mem) (Q : Rv → Mem → Prop) (h : sp_wild as M Q) : r_wild sp_take (endsF M.length Q) (startD 8 as) M := by
  obtain ⟨ds, b, n, rfl, rfl, ht, hb, hn1, hn, z⟩ := h
  unfold wBd at hb z
  show r_wild sp_take (endsF 1 Q) [some (.ref 0), some (.d (.int n)), none, none, none, none, none, none] [.lst ds]
  simp only [r_wild, sSeq]
  simp only [VLT]
  refine take_ok ht (by omega) (by decide) (by decide) fun v ds1 v0 v1 t1 => ?_
  obtain ⟨v, rfl⟩ := Int.eq_ofNat_of_zero_le v0
  have e0 : ((2 : Int) + (v : Int)).toNat = v + 2 := by omega
  simp only [VLT, e0]
  refine ⟨⟨by omega, by omega⟩, fun h => h.elim, ?_⟩
  refine for_ix _ (fun j δ M => ∃ (w : Wb) (dt : List D) (o3 o4 o5 o6 : Option Sv), w.length = j ∧ δ = [some (.ref 0), some (.d (.int n)), some (.ref 1), gcO 2 o3, gcO 2 o4, gcO 2 o5, gcO 2 o6, none] ∧ M = [.lst dt, .lst (w.map rD)] ∧ WbOk n w ∧ Tp (b + 1 + 8 * j) dt) ?_ ?_ _ _ ⟨[], ds1, none, none, none, none, rfl, rfl, rfl, WbOk.nil, t1⟩
  · rintro δ M ⟨w, dt, o3, o4, o5, o6, hw, rfl, rfl, hok, t2⟩
    rw [rgL_len] at hw t2
    refine ⟨trivial, ?_⟩
    simp only [VLT]
    exact ⟨by decide, z w dt hok (by omega) (by omega) (t2.mono (by omega))⟩
  · rintro j d δ M nx hd ⟨w, dt, o3, o4, o5, o6, hw, rfl, rfl, hok, t2⟩ k
    obtain ⟨hj, rfl⟩ := rg_at hd
    refine ⟨trivial, ?_⟩
    have hlt : ∀ r : Rw, (List.map rD w).length < sizeLine := fun _ => by rw [List.length_map, sizeLine_eq]; omega
    have fin : ∀ (r : Rw) (dt' : List D) (p3 p4 p5 p6 : Option Sv), r.ok n j → Tp (b + 1 + 8 * (j + 1)) dt' → nx [some (.ref 0), some (.d (.int n)), some (.ref 1), p3, p4, p5, p6, none] [.lst dt', .lst (w.map rD ++ [rD r])] := fun r dt' p3 p4 p5 p6 hr t => by
      refine k _ _ ⟨w ++ [r], dt', p3, p4, p5, p6, by simp [hw], ?_, ?_, hok.snoc (by rw [hw]; exact hr), t⟩
      · rfl
      · rw [List.map_append]; rfl
    simp only [VLT]
    refine take_ok t2 (by omega) (by decide) (by decide) fun way ds2 w0 w1 t3 => ?_
    simp only [VLT]
    refine take_ok t3 (by omega) (by omega) (by omega) fun kk ds3 k0 k1 t4 => ?_
    obtain ⟨kk, rfl⟩ := Int.eq_ofNat_of_zero_le k0
    have e1 : (0 : Int) + (j : Int) = (j : Int) := by omega
    simp only [VLT, sPar, e1]
    refine ite_two ?_ fun hne0 hne => ?_
    · refine take_ok t4 (by omega) (by decide) (by decide) fun u ds4 u0 u1 t5 => ?_
      simp only [VLT]
      refine wild_leaf u0 u1 fun r hr => ?_
      refine ⟨hlt r, ?_⟩
      exact fin r _ _ _ _ _ (hr n j (by omega)) (t5.mono (by omega))
    · have hj2 : 2 ≤ j := by omega
      split
      · refine take_ok t4 (by omega) (by decide) (by decide) fun u ds4 u0 u1 t5 => ?_
        obtain ⟨u, rfl⟩ := Int.eq_ofNat_of_zero_le u0
        have e2 : ((2 : Int) + (u : Int)).toNat = u + 2 := by omega
        simp only [VLT, e2]
        refine ⟨⟨by omega, by omega⟩, fun _ => by rw [rgL_len, sizeLine_eq]; omega, ?_⟩
        refine lc_ix _ (fun i acc M => ∃ (ps : List Nat) (dt' : List D), acc = ps.map nD ∧ ps.length = i ∧ (∀ p ∈ ps, p < j) ∧ M = [.lst dt', .lst (w.map rD)] ∧ Tp (b + 1 + 8 * j + 3 + i) dt') ?_ ?_ _ _ ⟨[], ds4, rfl, rfl, fun _ h => by simp at h, rfl, t5⟩
        · rintro acc M ⟨ps, dt', rfl, hps, hpj, rfl, t6⟩
          rw [rgL_len] at hps t6
          refine ⟨trivial, ?_⟩
          have e3 : ps.map nD ++ [D.int ((j : Int) - 1), D.int 0] = ((ps ++ [j - 1, 0]).map Int.ofNat).map D.int := by
            rw [nats_D, List.map_append]
            congr 1
            show _ = [D.int ((j - 1 : Nat) : Int), D.int ((0 : Nat) : Int)]
            congr 2
            omega
          have hul : (usort ((ps ++ [j - 1, 0]).map Int.ofNat)).length ≤ ps.length + 2 := Nat.le_trans (usort_len _) (by simp)
          have hs := soSet_l (M := [.lst dt', .lst (w.map rD)]) (ns := (ps ++ [j - 1, 0]).map Int.ofNat) (by simp; omega) (by omega)
          have hmem : ∀ x, x ∈ usort ((ps ++ [j - 1, 0]).map Int.ofNat) ↔ ∃ p ∈ ps ++ [j - 1, 0], (p : Int) = x := fun x => by
            rw [usort_mem, List.mem_map]; rfl
          obtain ⟨qs, hq⟩ := nats_of (l := usort ((ps ++ [j - 1, 0]).map Int.ofNat)) fun x hx => by
            obtain ⟨p, _, rfl⟩ := (hmem x).mp hx
            omega
          have hqlt : qs.Pairwise (· < ·) := by rw [← nats_lt, ← hq]; exact usort_lt _
          have hqm : ∀ q, q ∈ qs ↔ q ∈ ps ++ [j - 1, 0] := fun q => by
            have := hmem (q : Int)
            rw [hq] at this
            simp only [List.mem_map] at this
            constructor
            · intro h
              obtain ⟨p, hp, e⟩ := this.mp ⟨q, h, rfl⟩
              have : p = q := by omega
              rw [← this]; exact hp
            · intro h
              obtain ⟨p, hp, e⟩ := this.mpr ⟨q, h, rfl⟩
              have : p = q := Int.ofNat.inj e
              rw [← this]; exact hp
          have hqj : ∀ q ∈ qs, q < j := fun q h => by
            have := (hqm q).mp h
            simp only [List.mem_append, List.mem_cons, List.not_mem_nil, or_false] at this
            rcases this with h | rfl | rfl
            · exact hpj q h
            · omega
            · omega
          have hq0 : 0 ∈ qs := (hqm 0).mpr (by simp)
          have hq1 : j - 1 ∈ qs := (hqm (j - 1)).mpr (by simp)
          have hql : 2 ≤ qs.length := by
            cases qs with
            | nil => simp at hq0
            | cons a l =>
              cases l with
              | nil =>
                simp only [List.mem_cons, List.not_mem_nil, or_false] at hq0 hq1
                omega
              | cons _ _ => simp
          have hqle : qs.length ≤ 32 := by
            have := congrArg List.length hq
            rw [List.length_map] at this
            omega
          rw [hq, nats_D, nats_D] at hs
          have a1 : (qs.map nD).take 1 = [nD (qs[0]'(by omega))] := by
            cases qs with
            | nil => simp at hql
            | cons a l => simp
          have a2 : (qs.map nD).drop (qs.length - 1) = [nD (qs[qs.length - 1]'(by omega))] := by
            rw [← List.map_drop, List.drop_eq_getElem_cons (by omega), List.map_cons, List.drop_of_length_le (by omega), List.map_nil]
          have c1 : cutD (qs.map nD) none (some 1) = _ := cut_to (k := 1)
          have c2 : cutD (qs.map nD) (some (-1)) none = _ := cut_m1
          have hrow : ∀ (dd : D) (f : List Nat → Rw) (rs : List Nat), (∀ l, rD (f l) = .tup [dd, .tup (l.map nD)]) → (f rs).ok n j → List.length w < sizeLine ∧ ∀ p3 p4 p5 p6, nx [some (.ref 0), some (.d (.int n)), some (.ref 1), p3, p4, p5, p6, none] [.lst dt', .lst (w.map rD ++ [.tup [dd, .tup (rs.map nD)]])] := fun dd f rs h1 h2 => by
            refine ⟨by rw [sizeLine_eq]; omega, fun p3 p4 p5 p6 => ?_⟩
            rw [← h1 rs]
            exact fin (f rs) dt' p3 p4 p5 p6 h2 (t6.mono (by omega))
          have okq : ∀ rs : List Nat, (rs = qs ∨ rs = [qs[0]'(by omega), qs[qs.length - 1]'(by omega)]) → (2 ≤ rs.length ∧ rs.length ≤ 32) ∧ rs.Pairwise (· < ·) ∧ ∀ p ∈ rs, p < j := fun rs h => by
            rcases h with rfl | rfl
            · exact ⟨⟨hql, hqle⟩, hqlt, hqj⟩
            · refine ⟨⟨by simp, by simp⟩, ?_, fun p hp => ?_⟩
              · simp only [List.pairwise_cons, List.mem_cons, List.not_mem_nil, or_false, forall_eq, List.Pairwise.nil, and_true, false_implies, implies_true]
                exact List.pairwise_iff_getElem.mp hqlt 0 (qs.length - 1) (by omega) (by omega) (by omega)
              · simp only [List.mem_cons, List.not_mem_nil, or_false] at hp
                rcases hp with rfl | rfl <;> exact hqj _ (List.getElem_mem _)
          have fin2 : ∀ (dd : D) (f : List Nat → Rw), (∀ l, rD (f l) = .tup [dd, .tup (l.map nD)]) → (∀ l, ((2 ≤ l.length ∧ l.length ≤ 32) ∧ l.Pairwise (· < ·) ∧ ∀ p ∈ l, p < j) → (f l).ok n j) → (if way = 2 then [nD (qs[0]'(by omega))].length + [nD (qs[qs.length - 1]'(by omega))].length ≤ sizeLine ∧ List.length w < sizeLine ∧ nx [some (.ref 0), some (.d (.int n)), some (.ref 1), some (.d (.int j)), some (.d (.int way)), some (.d (.int kk)), some (.d (.lst (qs.map nD))), none] [.lst dt', .lst (w.map rD ++ [.tup [dd, .tup ([nD (qs[0]'(by omega))] ++ [nD (qs[qs.length - 1]'(by omega))])]])]
              else List.length w < sizeLine ∧ nx [some (.ref 0), some (.d (.int n)), some (.ref 1), some (.d (.int j)), some (.d (.int way)), some (.d (.int kk)), some (.d (.lst (qs.map nD))), none] [.lst dt', .lst (w.map rD ++ [.tup [dd, .tup (qs.map nD)]])]) := fun dd f h1 h2 => by
            split
            · have := hrow dd f _ h1 (h2 _ (okq _ (.inr rfl)))
              exact ⟨by rw [sizeLine_eq]; simp, this.1, this.2 _ _ _ _⟩
            · have := hrow dd f _ h1 (h2 _ (okq _ (.inl rfl)))
              exact ⟨this.1, this.2 _ _ _ _⟩
          simp only [VLU, e3, nats_D, hs, c1, c2, a1, a2, List.length_map]
          refine ⟨by simp [sizeLine_eq]; omega, by decide, ?_⟩
          have hw2 : way % 2 = 0 ∨ way % 2 = 1 := by omega
          rcases hw2 with hw2 | hw2 <;> rw [hw2] <;> simp only [VLU, a1, a2]
          · exact fin2 (.str "and") Rw.all (fun _ => rfl) fun _ h => h
          · exact fin2 (.str "or") Rw.any (fun _ => rfl) fun _ h => h
        · rintro i d' acc M nx' hd' ⟨ps, dt', rfl, hps, hpj, rfl, t6⟩ k'
          refine ⟨trivial, ?_⟩
          obtain ⟨hi, _⟩ := rg_at hd'
          simp only [VLU]
          refine take_ok t6 (by omega) (by omega) (by omega) fun q ds5 q0 q1 t7 => ?_
          obtain ⟨q, rfl⟩ := Int.eq_ofNat_of_zero_le q0
          simp only [VLT]
          refine k' _ _ ⟨ps ++ [q], ds5, by simp [nD], by simp [hps], fun p hp => ?_, rfl, t7.mono (by omega)⟩
          rcases List.mem_append.mp hp with h | h
          · exact hpj p h
          · simp only [List.mem_singleton] at h; omega
      · refine take_ok t4 (by omega) (by omega) (by omega) fun lo ds4 l0 l1 t5 => ?_
        obtain ⟨lo, rfl⟩ := Int.eq_ofNat_of_zero_le l0
        simp only [VLT]
        refine take_ok t5 (by omega) (by omega) (by omega) fun hi ds5 h0 h1 t6 => ?_
        obtain ⟨hi, rfl⟩ := Int.eq_ofNat_of_zero_le h0
        simp only [VLT]
        refine ⟨hlt .yes, ?_⟩
        refine fin (.pick kk lo hi) _ _ _ _ _ ⟨by omega, by omega, by omega⟩ (t6.mono (by omega))
set_option maxHeartbeats 1000000
def nsort (l : List Nat) : List Nat := (usort (l.map Int.ofNat)).map Int.toNat
theorem nsort_ofNat {l : List Nat} : (nsort l).map Int.ofNat = usort (l.map Int.ofNat) := by
  unfold nsort
  rw [List.map_map]
  conv => rhs; rw [← List.map_id (usort (l.map Int.ofNat))]
  refine List.map_congr_left fun x hx => ?_
  obtain ⟨p, _, rfl⟩ := List.mem_map.mp (usort_mem.mp hx)
  rfl
theorem nsort_D {l : List Nat} : (usort (l.map Int.ofNat)).map D.int = (nsort l).map nD := by rw [← nsort_ofNat, nats_D]
theorem nsort_mem {l : List Nat} {q : Nat} : q ∈ nsort l ↔ q ∈ l := by
  have h : (q : Int) ∈ (nsort l).map Int.ofNat ↔ (q : Int) ∈ l.map Int.ofNat := by rw [nsort_ofNat, usort_mem]
  simp only [List.mem_map] at h
  constructor
  · intro hq
    obtain ⟨p, hp, e⟩ := h.mp ⟨q, hq, rfl⟩
    have : p = q := Int.ofNat.inj e
    rw [← this]; exact hp
  · intro hq
    obtain ⟨p, hp, e⟩ := h.mpr ⟨q, hq, rfl⟩
    have : p = q := Int.ofNat.inj e
    rw [← this]; exact hp
theorem nsort_lt {l : List Nat} : (nsort l).Pairwise (· < ·) := by rw [← nats_lt, nsort_ofNat]; exact usort_lt _
theorem sortI_usort {l : List Int} (h : l.Nodup) : sortI l = usort l := by
  refine usort_eq ?_ fun k => (sortI_perm l).mem_iff
  have h2 : (sortI l).Nodup := (sortI_perm l).nodup_iff.mpr h
  refine ((sortI_le l).and h2).imp fun ⟨h1, h2⟩ => by omega
theorem sort_nats {M : Mem} {s : Sv} {l : List Nat} (hs : lstD M s = some (l.map nD)) (h : l.Nodup) : sortF M [s] = some ((nsort l).map nD) := by
  have e : sortF M [s] = (lstD M s).bind fun ds => (intsOf ds).map fun ns => (sortI ns).map .int := rfl
  rw [e, hs]
  simp only [Option.bind_some, intsOf_nats, Option.map_some]
  rw [sortI_usort (by rw [List.Nodup, List.pairwise_map]; exact h.imp fun h z => h (Int.ofNat.inj z)), nsort_D]
structure PutOk (n : Nat) (w : Wb) (r : Rw) (i : Nat) (w' : Wb) : Prop where
  pre : w <+: w'
  at_ : w'[i]? = some r
  ok : WbOk n w'
  len : w'.length ≤ w.length + 1
  new : ∀ p, w.length ≤ p → p < w'.length → w'[p]? = some r
theorem PutOk.lt {n : Nat} {w w' : Wb} {r : Rw} {i : Nat} (h : PutOk n w r i w') : i < w'.length := (List.getElem?_eq_some_iff.mp h.at_).1
theorem PutOk.of {n : Nat} {w w' : Wb} {r : Rw} {i : Nat} (o : WbOk n w) (hr : r.ok n w.length) (h1 : w <+: w') (h2 : w'[i]? = some r) (h3 : w' = w ∨ w' = w ++ [r]) : PutOk n w r i w' := by
  refine ⟨h1, h2, ?_, ?_, fun p p1 p2 => ?_⟩
  · rcases h3 with rfl | rfl
    · exact o
    · exact o.snoc hr
  · rcases h3 with rfl | rfl <;> simp
  · rcases h3 with rfl | rfl
    · omega
    · have : p = w.length := by simp at p2; omega
      subst this
      simp
theorem PutOk.fm {n : Nat} {w w' : Wb} {r : Rw} {i : Nat} (o : WbOk n w) (f : WbFm w) (hr : r.ok n w.length) (hf : r.fm w) (h3 : w' = w ∨ w' = w ++ [r]) : WbFm w' := by
  rcases h3 with rfl | rfl
  · exact f
  · exact WbFm.snoc o f hr hf
theorem PutOk.nm {n : Nat} {w w' : Wb} {r : Rw} {i : Nat} (h : PutOk n w r i w') : nmAt w' i = r.nm (nmW w') := nmAt_row h.ok h.at_
theorem pre_nm {a b : Wb} (h : a <+: b) {i : Nat} (hi : i < a.length) : nmAt b i = nmAt a i := by
  obtain ⟨t, rfl⟩ := h
  exact nmAt_app hi
theorem pre_at {α : Type} {a b : List α} (h : a <+: b) {i : Nat} {r : α} (e : a[i]? = some r) : b[i]? = some r := by
  obtain ⟨t, rfl⟩ := h
  rw [List.getElem?_append_left (List.getElem?_eq_some_iff.mp e).1]; exact e
theorem nm_mem {w : Wb} {n i : Nat} {r : Rw} {k : Int} (o : WbOk n w) (h : w[i]? = some r) : k ∈ nmAt w i ↔ k ∈ r.ks ∨ ∃ p ∈ r.below, k ∈ nmAt w p := by
  rw [nmAt_row o h]
  unfold Rw.nm
  rw [usort_mem, List.mem_append, List.mem_flatten]
  refine or_congr Iff.rfl ?_
  constructor
  · rintro ⟨l, hl, hk⟩
    obtain ⟨p, hp, rfl⟩ := List.mem_map.mp hl
    exact ⟨p, hp, hk⟩
  · rintro ⟨p, hp, hk⟩
    exact ⟨_, List.mem_map.mpr ⟨p, hp, rfl⟩, hk⟩
set_option maxHeartbeats 2000000
theorem backS_2 {n m : Nat} {c d : Cell} {M : Mem} : backS [n, m] [c, d] M = (M.set n c).set m d := rfl
theorem one_ne : ((1 : Nat) = 0) = False := by simp
/-- how many picks and has a part brings, gone down by ands and ors -/
def Rw.bq (acc : List Nat) : Rw → Nat
  | .has _ _ => 1
  | .pick _ _ _ => 1
  | .all ps => (ps.map fun p => acc.getD p 0).sum
  | .any ps => (ps.map fun p => acc.getD p 0).sum
  | _ => 0
def bqW (w : Wb) : List Nat := scan Rw.bq [] w
def bqAt (w : Wb) (i : Nat) : Nat := (bqW w).getD i 0
theorem bqAt_app {a b : Wb} {i : Nat} (h : i < a.length) : bqAt (a ++ b) i = bqAt a i := by
  unfold bqAt bqW
  rw [scan_app]
  exact pre_get (scan_pre _ _) (by rw [scan_len]; simpa using h) _
theorem pre_bq {a b : Wb} (h : a <+: b) {i : Nat} (hi : i < a.length) : bqAt b i = bqAt a i := by
  obtain ⟨t, rfl⟩ := h
  exact bqAt_app hi
/-- how deep ands and ors lie -/
def Rw.ht (acc : List Nat) : Rw → Nat
  | .all ps => 1 + (ps.map fun p => acc.getD p 0).foldr max 0
  | .any ps => 1 + (ps.map fun p => acc.getD p 0).foldr max 0
  | _ => 0
def htW (w : Wb) : List Nat := scan Rw.ht [] w
def htAt (w : Wb) (i : Nat) : Nat := (htW w).getD i 0
theorem htAt_app {a b : Wb} {i : Nat} (h : i < a.length) : htAt (a ++ b) i = htAt a i := by
  unfold htAt htW
  rw [scan_app]
  exact pre_get (scan_pre _ _) (by rw [scan_len]; simpa using h) _
theorem pre_ht {a b : Wb} (h : a <+: b) {i : Nat} (hi : i < a.length) : htAt b i = htAt a i := by
  obtain ⟨t, rfl⟩ := h
  exact htAt_app hi
/-- a row that brings at most c picks and has, by ands and ors h deep -/
structure Cb (w : Wb) (p c h : Nat) : Prop where
  cn : bqAt w p ≤ c
  ht : htAt w p ≤ h
theorem Cb.mono {w : Wb} {p c h c' h' : Nat} (k : Cb w p c h) (hc : c ≤ c') (hh : h ≤ h') : Cb w p c' h' := ⟨Nat.le_trans k.cn hc, Nat.le_trans k.ht hh⟩
theorem Cb.pre {a b : Wb} {p c h : Nat} (k : Cb a p c h) (hp : a <+: b) (hi : p < a.length) : Cb b p c h := ⟨by rw [pre_bq hp hi]; exact k.cn, by rw [pre_ht hp hi]; exact k.ht⟩
theorem Cb.up {a b : Wb} {p c h : Nat} (k : Cb b p c h) (hp : a <+: b) (hi : p < a.length) : Cb a p c h := ⟨by rw [← pre_bq hp hi]; exact k.cn, by rw [← pre_ht hp hi]; exact k.ht⟩
/-- the new rows bring at most c -/
def CnN (w w' : Wb) (c h : Nat) : Prop := ∀ p, w.length ≤ p → p < w'.length → Cb w' p c h
theorem CnN.refl {w : Wb} {c h : Nat} : CnN w w c h := fun p h1 h2 => absurd h1 (by omega)
theorem CnN.mono {w w' : Wb} {c h c' h' : Nat} (k : CnN w w' c h) (hc : c ≤ c') (hh : h ≤ h') : CnN w w' c' h' := fun p h1 h2 => (k p h1 h2).mono hc hh
theorem CnN.trans {w w1 w2 : Wb} {c h : Nat} (h1 : CnN w w1 c h) (h2 : CnN w1 w2 c h) (pr : w1 <+: w2) : CnN w w2 c h := fun p p1 p2 => by
  by_cases h : p < w1.length
  · exact (h1 p p1 h).pre pr h
  · exact h2 p (by omega) p2
theorem nDs_eq {ns : List Nat} : ∀ d ∈ ns.map nD, EqOk d := fun d hd => by
  obtain ⟨p, _, rfl⟩ := List.mem_map.mp hd
  exact EqOk.int
set_option maxHeartbeats 4000000
/-- a part of an or: an and in which these names have these bits -/
structure PartOk (ns : List Nat) (w : Wb) (p : Nat) (cs : List (Nat × Bool)) : Prop where
  ex : ∃ inner : List Nat, w[p]? = some (.all inner) ∧ (∀ c ∈ cs, ∃ a ∈ inner, w[a]? = some (.has c.1 c.2)) ∧ (∀ x ∈ inner, x < w.length) ∧ ∀ x ∈ inner, ∀ c ∈ cs, ∀ b, w[x]? = some (.has c.1 b) → b = c.2
  nm : ∀ x ∈ nmAt w p, ∃ m ∈ ns, x = Int.ofNat m
  lt : p < w.length
theorem PartOk.up {ns : List Nat} {w w' : Wb} {p : Nat} {cs : List (Nat × Bool)} (h : PartOk ns w p cs) (pr : w <+: w') : PartOk ns w' p cs := by
  obtain ⟨inner, h1, h2, h4, h3⟩ := h.ex
  refine ⟨⟨inner, pre_at pr h1, fun c hc => ?_, fun x hx => Nat.lt_of_lt_of_le (h4 x hx) pr.length_le, fun x hx c hc b hb => h3 x hx c hc b ?_⟩, fun x hx => h.nm x (by rwa [pre_nm pr h.lt] at hx), Nat.lt_of_lt_of_le h.lt pr.length_le⟩
  · obtain ⟨a, ha, e⟩ := h2 c hc
    exact ⟨a, ha, pre_at pr e⟩
  · have hx' := h4 x hx
    have := pre_at pr (List.getElem?_eq_getElem hx')
    rw [this] at hb
    rw [List.getElem?_eq_getElem hx']; exact hb
/-- where a part holds, its names have its bits -/
theorem PartOk.bits {n : Nat} {ns : List Nat} {w : Wb} {p : Nat} {cs : List (Nat × Bool)} (o : WbOk n w) (h : PartOk ns w p cs) {f : List Bool} (hf : hvAt f w p = true) : ∀ c ∈ cs, f.getD c.1 false = c.2 := fun c hc => by
  obtain ⟨inner, h1, h2, _, _⟩ := h.ex
  obtain ⟨a, ha, e⟩ := h2 c hc
  rw [hvAt_row o h1] at hf
  simp only [Rw.hv, List.all_map, List.all_eq_true, Function.comp, id] at hf
  have h4 : hvAt f w a = true := hf a ha
  rw [hvAt_row o e] at h4
  simpa [Rw.hv] using h4
theorem ite_tt {b : Bool} {A B : Prop} (h : b = true) (a : A) : if b = true then A else B := by rw [if_pos h]; exact a
local macro_rules
  | `(tactic| simp only [VLV]) => `(tactic| simp only [sSeq, sIf, sSet, sSub, sRet, sRetN, sNil, sDrop, sAsg, sPar, sParT, sAug, cP, bB, bTr, bNt, bAn, bOr, po1, po2, poN, pArgs, poIf, poAn, poOr, poNt, poTup, plLst, plN, pl2, pl1, pFz, pV, pC, eP, eo1, eo2, eoN, aP, aNil, aCons, eAn, eOr, eNt, eIf, eFz, eNw, fP, fN, f2, f1, tTupE, tLstF, tTr, tTb, tAn, tOrr, tNt, tYs, eSeal, eMt, poMt, mPure, eCh, pCh, ok_bind, ok_map, ok_some, ok_none, ok_gd, ok_ite, List.getElem?_cons_zero, List.getElem?_cons_succ, List.set_cons_zero, List.set_cons_succ, Option.join_some, Option.bind_some, Option.map_some, Option.bind_none, Option.map_none, ix_ref, ix_tup, ix_lst, ix_bor, ix_scr, add_int, add_str, add_tup, sub_int, mul_int, fdiv_int, mod_int, pow_int, neg_int, lt_int, le_int, gt_int, ge_int, eq_int, eq_str, eq_bl, ne_int, ne_str, ne_bl, is_bl, isnt_bl, is_non, isnt_non, len_tup, len_lst, len_ref, len_bor, len_scr, int_bl, int_int, abs_int, min_int, max_int, blD_bl, cell_lst, cellA_lst, cellA_dk, st_ref, at_0, at_1, at_2, at_3, at_4, ixN_10, ixN_20, ixN_21, ixN_30, ixN_31, ixN_32, dataS_d, datas_nil, datas_cons, truth_bl, notD, intS, blS, nonB, List.length_cons, List.length_nil, Nat.reduceAdd, endsF_rt, endsF_nx, rvQ_d, rvQ_new, rvQ_newK, rv_d, rv_ref, rv_cl, rv_ck, okRef_d, okRef_ref, List.not_mem_nil, List.nil_append, true_and, and_true, List.take_succ_cons, List.take_zero, Nat.zero_add, decide_eq_true_eq, Bool.false_eq_true, if_false, if_true, callS, handS_n, handS_tr, handS_fr, handS_fd, handS_fb, cellsAt_c, cellsAt_0, Option.getD_some, backS_0, backS_1, eCall, tup_lst, tup_tup, tup_ref, fLc, iRg, rng_1, rng_2, wipeS_c, wipeS_n, iPq, iSq, seq_tup, seq_lst, seq_bor, lst_lst, lst_bor, gdS_d, gdS_b, sFor, gNm, gcS_c, gcS_n, gcO_d, gcO_n, mapp, rcv_0, rcv_1, rcv_l, gcO_r0, gcO_r1, gcO_z, seal_d, eq_self, List.take_nil, List.cons_append, poSl, poI, poNo, slD_t, intO_i, list_t, list_l, in_str2, ofS_inj, String.reduceEq, or_false, false_or, or_true, true_or, or_self, decide_true, decide_false, Bool.not_true, Bool.not_false, at_m1_2, at_m1_3, cut_2, cut_3, all_bls, any_bls, count_bls, lcg_nm, lcg_tp, lst_ref, laid_l, laid_b, laid_r, list_b, list_r, len_refI, lenOf_ref, rcv_2, rcv_3, rcv_b, slF_l, slF_b, slF_r, cat_l, repr_d, plSl, backS_2, List.mem_singleton, one_ne, if_false, callS, seal_r, Nat.le_refl])
  | `(tactic| simp only [VLV, $xs,*]) => `(tactic| simp only [sSeq, sIf, sSet, sSub, sRet, sRetN, sNil, sDrop, sAsg, sPar, sParT, sAug, cP, bB, bTr, bNt, bAn, bOr, po1, po2, poN, pArgs, poIf, poAn, poOr, poNt, poTup, plLst, plN, pl2, pl1, pFz, pV, pC, eP, eo1, eo2, eoN, aP, aNil, aCons, eAn, eOr, eNt, eIf, eFz, eNw, fP, fN, f2, f1, tTupE, tLstF, tTr, tTb, tAn, tOrr, tNt, tYs, eSeal, eMt, poMt, mPure, eCh, pCh, ok_bind, ok_map, ok_some, ok_none, ok_gd, ok_ite, List.getElem?_cons_zero, List.getElem?_cons_succ, List.set_cons_zero, List.set_cons_succ, Option.join_some, Option.bind_some, Option.map_some, Option.bind_none, Option.map_none, ix_ref, ix_tup, ix_lst, ix_bor, ix_scr, add_int, add_str, add_tup, sub_int, mul_int, fdiv_int, mod_int, pow_int, neg_int, lt_int, le_int, gt_int, ge_int, eq_int, eq_str, eq_bl, ne_int, ne_str, ne_bl, is_bl, isnt_bl, is_non, isnt_non, len_tup, len_lst, len_ref, len_bor, len_scr, int_bl, int_int, abs_int, min_int, max_int, blD_bl, cell_lst, cellA_lst, cellA_dk, st_ref, at_0, at_1, at_2, at_3, at_4, ixN_10, ixN_20, ixN_21, ixN_30, ixN_31, ixN_32, dataS_d, datas_nil, datas_cons, truth_bl, notD, intS, blS, nonB, List.length_cons, List.length_nil, Nat.reduceAdd, endsF_rt, endsF_nx, rvQ_d, rvQ_new, rvQ_newK, rv_d, rv_ref, rv_cl, rv_ck, okRef_d, okRef_ref, List.not_mem_nil, List.nil_append, true_and, and_true, List.take_succ_cons, List.take_zero, Nat.zero_add, decide_eq_true_eq, Bool.false_eq_true, if_false, if_true, callS, handS_n, handS_tr, handS_fr, handS_fd, handS_fb, cellsAt_c, cellsAt_0, Option.getD_some, backS_0, backS_1, eCall, tup_lst, tup_tup, tup_ref, fLc, iRg, rng_1, rng_2, wipeS_c, wipeS_n, iPq, iSq, seq_tup, seq_lst, seq_bor, lst_lst, lst_bor, gdS_d, gdS_b, sFor, gNm, gcS_c, gcS_n, gcO_d, gcO_n, mapp, rcv_0, rcv_1, rcv_l, gcO_r0, gcO_r1, gcO_z, seal_d, eq_self, List.take_nil, List.cons_append, poSl, poI, poNo, slD_t, intO_i, list_t, list_l, in_str2, ofS_inj, String.reduceEq, or_false, false_or, or_true, true_or, or_self, decide_true, decide_false, Bool.not_true, Bool.not_false, at_m1_2, at_m1_3, cut_2, cut_3, all_bls, any_bls, count_bls, lcg_nm, lcg_tp, lst_ref, laid_l, laid_b, laid_r, list_b, list_r, len_refI, lenOf_ref, rcv_2, rcv_3, rcv_b, slF_l, slF_b, slF_r, cat_l, repr_d, plSl, backS_2, List.mem_singleton, one_ne, if_false, callS, seal_r, Nat.le_refl, $xs,*])
set_option maxHeartbeats 4000000
def backN : D → Nat
  | .int i => i.toNat
  | _ => 0
theorem perm_nD {ys : List D} {ns : List Nat} (h : ys.Perm (ns.map nD)) : ∃ zs : List Nat, zs.Perm ns ∧ ys = zs.map nD := by
  refine ⟨ys.map backN, ?_, ?_⟩
  · have := h.map backN
    rw [List.map_map] at this
    have e : ns.map (backN ∘ nD) = ns := by
      conv => rhs; rw [← List.map_id ns]
      exact List.map_congr_left fun x _ => rfl
    rwa [e] at this
  · rw [List.map_map]
    conv => lhs; rw [← List.map_id ys]
    refine List.map_congr_left fun y hy => ?_
    obtain ⟨m, _, rfl⟩ := List.mem_map.mp (h.mem_iff.mp hy)
    rfl
theorem ite_ff {b : Bool} {A B : Prop} (h : b = false) (a : B) : if b = true then A else B := by rw [if_neg (by rw [h]; decide)]; exact a
theorem ite_of {p : Prop} [Decidable p] {A B : Prop} (a : p → A) (b : ¬p → B) : if p then A else B := by
  by_cases h : p
  · rw [if_pos h]; exact a h
  · rw [if_neg h]; exact b h
set_option maxHeartbeats 2000000
section
variable {s : Sv} {xs : List D}
theorem LV.seq {M : Mem} (h : LV s xs) : seqD M s = some xs := by rcases h with rfl | rfl <;> rfl
theorem LV.lst {M : Mem} (h : LV s xs) : lstD M s = some xs := by rcases h with rfl | rfl <;> rfl
theorem LV.laid {M : Mem} (h : LV s xs) : laidD M s = some xs := by rcases h with rfl | rfl <;> rfl
theorem LV.gd {ys : List D} (h : LV s xs) : gdS s ys = fun _ => True := by rcases h with rfl | rfl <;> rfl
theorem LV.gc {k : Nat} (h : LV s xs) : gcO k (some s) = some s := by rcases h with rfl | rfl <;> rfl
theorem LV.hand {M : Mem} {ms : List Bool} {as : List Sv} {ks : List Nat} (h : LV s xs) : handS M (false :: ms) (s :: as) ks = (handS M ms as ks).map fun r => (s :: r.1, r.2) := by rcases h with rfl | rfl <;> rfl
theorem LV.ix {M : Mem} {i : Int} (h : LV s xs) : ixD M s (.d (.int i)) = (atI xs i).map .d := by rcases h with rfl | rfl <;> rfl
theorem LV.len {M : Mem} (h : LV s xs) : lenD M [s] = some (.d (.int xs.length)) := by rcases h with rfl | rfl <;> rfl
end
theorem rgL_nats {n : Nat} : rgL 0 n = (List.range n).map nD := by
  unfold rgL
  refine List.map_congr_left fun i _ => ?_
  show D.int _ = D.int _
  congr 1; omega
theorem wb_at {w : Wb} {j : Nat} {d : D} (h : (w.map rD)[j]? = some d) : ∃ r, w[j]? = some r ∧ d = rD r := by
  rw [List.getElem?_map, Option.map_eq_some_iff] at h
  obtain ⟨r, h1, rfl⟩ := h
  exact ⟨r, h1, rfl⟩
theorem take_snoc {α : Type} {w : List α} {j : Nat} {r : α} (h : w[j]? = some r) : w.take (j + 1) = w.take j ++ [r] := by
  rw [List.take_add_one, h]; rfl
set_option maxHeartbeats 2000000
set_option maxHeartbeats 2000000
/-- data of small leaves -/
structure Pq (w dp : Nat) (d : D) : Prop where
  no : noR d = true
  sh : (py d).leavesShort 8 = true
  la : (py d).canLay0 = true
  sw : (py d).showable = true
  we : (py d).weight ≤ w
  de : (py d).depth ≤ dp
structure Pqs (w dp : Nat) (d : List D) : Prop where
  no : noRs d = true
  sh : PyData.leavesShortAll 8 (pys d) = true
  la : PyData.canLayAll0 (pys d) = true
  sw : PyData.showableAll (pys d) = true
  we : PyData.weightAll (pys d) ≤ w
  de : PyData.depthAll (pys d) ≤ dp
theorem Pq.mono {w dp w' dp' : Nat} {d : D} (h : Pq w dp d) (h1 : w ≤ w') (h2 : dp ≤ dp') : Pq w' dp' d := ⟨h.no, h.sh, h.la, h.sw, Nat.le_trans h.we h1, Nat.le_trans h.de h2⟩
theorem Pqs.mono {w dp w' dp' : Nat} {d : List D} (h : Pqs w dp d) (h1 : w ≤ w') (h2 : dp ≤ dp') : Pqs w' dp' d := ⟨h.no, h.sh, h.la, h.sw, Nat.le_trans h.we h1, Nat.le_trans h.de h2⟩
theorem Pq.nat {n : Nat} (h : n < 100000) : Pq 20 0 (.int n) := by
  have e0 : (n : Int).natAbs = n := by omega
  have hl2 : (n : Int).natAbs.log2 < 17 := by
    rw [e0]
    by_cases h0 : n = 0
    · rw [h0]; decide
    · exact (Nat.log2_lt h0).mpr (by omega)
  refine ⟨rfl, ?_, rfl, ?_, ?_, Nat.le_refl _⟩
  · show decide ((PyData.shown (.int n)).length ≤ 8) = true
    have e := int_text_length_le10 (a := (n : Int)) (k := 5) (by decide) (by rw [e0]; exact h)
    have : (Str.ofString (toString (n : Int))).length ≤ 8 := by rw [ofString_length]; omega
    exact decide_eq_true this
  · show decide ((n : Int).natAbs.log2 < 1920) = true
    exact decide_eq_true (by omega)
  · show (if (n : Int) == 0 then 0 else (n : Int).natAbs.log2 + 1) ≤ 20
    split <;> omega
theorem Pq.str {s : Str} {n : Nat} (h : (PyData.canLay0 (.str s) && (PyData.str s).leavesShort 8 && decide (s.cps.size ≤ n)) = true) : Pq n 0 (.str s) := by
  simp only [Bool.and_eq_true, decide_eq_true_eq] at h
  exact ⟨rfl, h.1.2, h.1.1, rfl, h.2, Nat.le_refl _⟩
theorem Pqs.nil {dp : Nat} : Pqs 0 dp [] := ⟨rfl, rfl, rfl, rfl, Nat.le_refl _, Nat.zero_le _⟩
theorem Pqs.cons {w1 w2 dp : Nat} {d : D} {ds : List D} (h : Pq w1 dp d) (h2 : Pqs w2 dp ds) : Pqs (w1 + 1 + w2) dp (d :: ds) := by
  refine ⟨?_, ?_, ?_, ?_, ?_, ?_⟩
  · simp only [noRs, h.no, h2.no]; rfl
  · simp only [pys, PyData.leavesShortAll, h.sh, h2.sh]; rfl
  · simp only [pys, PyData.canLayAll0, h.la, h2.la]; rfl
  · simp only [pys, PyData.showableAll, h.sw, h2.sw]; rfl
  · simp only [pys, PyData.weightAll]; have := h.we; have := h2.we; omega
  · simp only [pys, PyData.depthAll]; have := h.de; have := h2.de; omega
theorem Pq.tup {w dp : Nat} {ds : List D} (h : Pqs w dp ds) : Pq w (dp + 1) (.tup ds) := by
  refine ⟨h.no, ?_, ?_, ?_, ?_, ?_⟩
  · simp only [py, PyData.leavesShort]; exact h.sh
  · simp only [py, PyData.canLay0]; exact h.la
  · simp only [py, PyData.showable]; exact h.sw
  · simp only [py, PyData.weight]; exact h.we
  · simp only [py, PyData.depth]; have := h.de; omega
theorem Pq.lst {w dp : Nat} {ds : List D} (h : Pqs w dp ds) : Pq w (dp + 1) (.lst ds) := by
  refine ⟨h.no, ?_, ?_, ?_, ?_, ?_⟩
  · simp only [py, PyData.leavesShort]; exact h.sh
  · simp only [py, PyData.canLay0]; exact h.la
  · simp only [py, PyData.showable]; exact h.sw
  · simp only [py, PyData.weight]; exact h.we
  · simp only [py, PyData.depth]; have := h.de; omega
theorem Pq.okR {w dp : Nat} {d : D} (h : Pq w dp d) (hw : w ≤ 1600000) (hd : dp ≤ 150) : VL.okR d = true := by
  have h1 := PyData.shown_le 8 (by decide) _ h.sh
  have h2 : (8 + 2) * (py d).weight ≤ 10 * 1600000 := Nat.mul_le_mul (by decide) (Nat.le_trans h.we hw)
  have h3 : (PyData.shown (py d)).length ≤ sizeLine := by rw [sizeLine_eq]; omega
  have h4 := h.de
  unfold VL.okR
  rw [h.no, h.sw, decide_eq_true h3, decide_eq_true (show (py d).depth ≤ 150 by omega)]
  rfl
theorem Pqs.alls {w dp : Nat} : ∀ {ds : List D}, (∀ d ∈ ds, Pq w dp d) → Pqs ((w + 1) * ds.length) dp ds
  | [], _ => Pqs.nil
  | d :: ds, h => (Pqs.cons (h d List.mem_cons_self) (Pqs.alls (ds := ds) fun x hx => h x (List.mem_cons_of_mem _ hx))).mono (by rw [List.length_cons, Nat.mul_add]; omega) (Nat.le_refl _)
theorem rD_pq {n i : Nat} {r : Rw} (o : r.ok n i) (hn : n ≤ 90000) (hi : i ≤ 90000) : Pq 720 2 (rD r) := by
  have nats : ∀ ps : List Nat, ps.length ≤ 32 → (∀ p ∈ ps, p < i) → Pq (21 * 32) 1 (.tup (ps.map nD)) := fun ps h1 h2 => (Pq.tup (Pqs.alls (w := 20) (dp := 0) fun d hd => by
    obtain ⟨p, hp, rfl⟩ := List.mem_map.mp hd
    exact Pq.nat (by have := h2 p hp; omega))).mono (by rw [List.length_map]; exact Nat.mul_le_mul_left 21 h1) (Nat.le_refl _)
  cases r with
  | yes => exact (Pq.tup (Pqs.cons (Pq.str (n := 10) (by decide +kernel)) Pqs.nil)).mono (by decide) (by decide)
  | no => exact (Pq.tup (Pqs.cons (Pq.str (n := 10) (by decide +kernel)) Pqs.nil)).mono (by decide) (by decide)
  | has k b =>
    have hk : k < n := o
    have hb : Pq 20 0 (bitD b) := by cases b; exact Pq.nat (n := 0) (by decide); exact Pq.nat (n := 1) (by decide)
    exact (Pq.tup (Pqs.cons (Pq.str (n := 10) (by decide +kernel)) (Pqs.cons (Pq.nat (by omega)) (Pqs.cons hb Pqs.nil)))).mono (by decide) (by decide)
  | all ps => exact (Pq.tup (Pqs.cons ((Pq.str (n := 10) (by decide +kernel)).mono (Nat.le_refl _) (Nat.zero_le _)) (Pqs.cons (nats ps o.1.2 o.2.2) Pqs.nil))).mono (by decide) (by decide)
  | any ps => exact (Pq.tup (Pqs.cons ((Pq.str (n := 10) (by decide +kernel)).mono (Nat.le_refl _) (Nat.zero_le _)) (Pqs.cons (nats ps o.1.2 o.2.2) Pqs.nil))).mono (by decide) (by decide)
  | pick k lo hi =>
    obtain ⟨h1, h2, h3⟩ := o
    exact (Pq.tup (Pqs.cons (Pq.str (n := 10) (by decide +kernel)) (Pqs.cons (Pq.nat (by omega)) (Pqs.cons (Pq.nat (by omega)) (Pqs.cons (Pq.nat (by omega)) Pqs.nil))))).mono (by decide) (by decide)
set_option maxHeartbeats 2000000
theorem cat_get {α : Type} {X : List α} {c : α} : (X ++ [c])[X.length]? = some c := by simp
theorem cat_set {α : Type} {X : List α} {c d : α} : (X ++ [c]).set X.length d = X ++ [d] := by
  rw [List.set_append_right _ _ (Nat.le_refl _), Nat.sub_self]; rfl
theorem at_ite {α : Type} {p : Prop} [Decidable p] {x y : α} : atI [x, y] (if p then 1 else 0) = some (if p then y else x) := by
  by_cases h : p
  · rw [if_pos h, if_pos h]; rfl
  · rw [if_neg h, if_neg h]; rfl
/-- a loop that leaves the state of one kind -/
theorem for_kp {k : Nat} {g : TG'} {b : TS'} {E : Ends'} {gd : Mem → Prop} {ds : List D} (I : DS → Mem → Prop) (fin : ∀ δ M, I δ M → gd M ∧ E.nx δ M)
    (step : ∀ d ∈ ds, ∀ δ M (nx : DS → Mem → Prop), I δ M → (∀ δ' M', I (gcS k δ') (M'.take k) → nx δ' M') → gd M ∧ g d δ M fun δ1 M1 => b ⟨nx, E.rt, E.nx, nx⟩ δ1 M1) {δ : DS} {M : Mem} (h : I δ M) : forL k g b E gd ds δ M :=
  for_ix ds (fun _ => I) (fun δ M h => fin δ M h) (fun _ d δ M nx e hI kk => step d (List.mem_of_getElem? e) δ M nx hI kk) δ M h
local macro_rules
  | `(tactic| simp only [VLY]) => `(tactic| simp only [sSeq, sIf, sSet, sSub, sRet, sRetN, sNil, sDrop, sAsg, sPar, sParT, sAug, cP, bB, bTr, bNt, bAn, bOr, po1, po2, poN, pArgs, poIf, poAn, poOr, poNt, poTup, plLst, plN, pl2, pl1, pFz, pV, pC, eP, eo1, eo2, eoN, aP, aNil, aCons, eAn, eOr, eNt, eIf, eFz, eNw, fP, fN, f2, f1, tTupE, tLstF, tTr, tTb, tAn, tOrr, tNt, tYs, eSeal, eMt, poMt, mPure, eCh, pCh, ok_bind, ok_map, ok_some, ok_none, ok_gd, ok_ite, List.getElem?_cons_zero, List.getElem?_cons_succ, List.set_cons_zero, List.set_cons_succ, Option.join_some, Option.bind_some, Option.map_some, Option.bind_none, Option.map_none, ix_ref, ix_tup, ix_lst, ix_bor, ix_scr, add_int, add_str, add_tup, sub_int, mul_int, fdiv_int, mod_int, pow_int, neg_int, lt_int, le_int, gt_int, ge_int, eq_int, eq_str, eq_bl, ne_int, ne_str, ne_bl, is_bl, isnt_bl, is_non, isnt_non, len_tup, len_lst, len_ref, len_bor, len_scr, int_bl, int_int, abs_int, min_int, max_int, blD_bl, cell_lst, cellA_lst, cellA_dk, st_ref, at_0, at_1, at_2, at_3, at_4, ixN_10, ixN_20, ixN_21, ixN_30, ixN_31, ixN_32, dataS_d, datas_nil, datas_cons, truth_bl, notD, intS, blS, nonB, List.length_cons, List.length_nil, Nat.reduceAdd, endsF_rt, endsF_nx, rvQ_d, rvQ_new, rvQ_newK, rv_d, rv_ref, rv_cl, rv_ck, okRef_d, okRef_ref, List.not_mem_nil, List.nil_append, true_and, and_true, List.take_succ_cons, List.take_zero, Nat.zero_add, decide_eq_true_eq, Bool.false_eq_true, if_false, if_true, callS, handS_n, handS_tr, handS_fr, handS_fd, handS_fb, cellsAt_c, cellsAt_0, Option.getD_some, backS_0, backS_1, eCall, tup_lst, tup_tup, tup_ref, fLc, iRg, rng_1, rng_2, wipeS_c, wipeS_n, iPq, iSq, seq_tup, seq_lst, seq_bor, lst_lst, lst_bor, gdS_d, gdS_b, sFor, gNm, gcS_c, gcS_n, gcO_d, gcO_n, mapp, rcv_0, rcv_1, rcv_l, gcO_r0, gcO_r1, gcO_z, seal_d, eq_self, List.take_nil, List.cons_append, poSl, poI, poNo, slD_t, intO_i, list_t, list_l, in_str2, ofS_inj, String.reduceEq, or_false, false_or, or_true, true_or, or_self, decide_true, decide_false, Bool.not_true, Bool.not_false, at_m1_2, at_m1_3, cut_2, cut_3, all_bls, any_bls, count_bls, lcg_nm, lcg_tp, lst_ref, laid_l, laid_b, laid_r, list_b, list_r, len_refI, lenOf_ref, rcv_2, rcv_3, rcv_b, slF_l, slF_b, slF_r, cat_l, repr_d, plSl, backS_2, List.mem_singleton, one_ne, if_false, callS, seal_r, Nat.le_refl, cat_get, cat_set, List.append_assoc, List.length_append, List.append_nil, at_ite, Nat.zero_le, iTq, tupD])
  | `(tactic| simp only [VLY, $xs,*]) => `(tactic| simp only [sSeq, sIf, sSet, sSub, sRet, sRetN, sNil, sDrop, sAsg, sPar, sParT, sAug, cP, bB, bTr, bNt, bAn, bOr, po1, po2, poN, pArgs, poIf, poAn, poOr, poNt, poTup, plLst, plN, pl2, pl1, pFz, pV, pC, eP, eo1, eo2, eoN, aP, aNil, aCons, eAn, eOr, eNt, eIf, eFz, eNw, fP, fN, f2, f1, tTupE, tLstF, tTr, tTb, tAn, tOrr, tNt, tYs, eSeal, eMt, poMt, mPure, eCh, pCh, ok_bind, ok_map, ok_some, ok_none, ok_gd, ok_ite, List.getElem?_cons_zero, List.getElem?_cons_succ, List.set_cons_zero, List.set_cons_succ, Option.join_some, Option.bind_some, Option.map_some, Option.bind_none, Option.map_none, ix_ref, ix_tup, ix_lst, ix_bor, ix_scr, add_int, add_str, add_tup, sub_int, mul_int, fdiv_int, mod_int, pow_int, neg_int, lt_int, le_int, gt_int, ge_int, eq_int, eq_str, eq_bl, ne_int, ne_str, ne_bl, is_bl, isnt_bl, is_non, isnt_non, len_tup, len_lst, len_ref, len_bor, len_scr, int_bl, int_int, abs_int, min_int, max_int, blD_bl, cell_lst, cellA_lst, cellA_dk, st_ref, at_0, at_1, at_2, at_3, at_4, ixN_10, ixN_20, ixN_21, ixN_30, ixN_31, ixN_32, dataS_d, datas_nil, datas_cons, truth_bl, notD, intS, blS, nonB, List.length_cons, List.length_nil, Nat.reduceAdd, endsF_rt, endsF_nx, rvQ_d, rvQ_new, rvQ_newK, rv_d, rv_ref, rv_cl, rv_ck, okRef_d, okRef_ref, List.not_mem_nil, List.nil_append, true_and, and_true, List.take_succ_cons, List.take_zero, Nat.zero_add, decide_eq_true_eq, Bool.false_eq_true, if_false, if_true, callS, handS_n, handS_tr, handS_fr, handS_fd, handS_fb, cellsAt_c, cellsAt_0, Option.getD_some, backS_0, backS_1, eCall, tup_lst, tup_tup, tup_ref, fLc, iRg, rng_1, rng_2, wipeS_c, wipeS_n, iPq, iSq, seq_tup, seq_lst, seq_bor, lst_lst, lst_bor, gdS_d, gdS_b, sFor, gNm, gcS_c, gcS_n, gcO_d, gcO_n, mapp, rcv_0, rcv_1, rcv_l, gcO_r0, gcO_r1, gcO_z, seal_d, eq_self, List.take_nil, List.cons_append, poSl, poI, poNo, slD_t, intO_i, list_t, list_l, in_str2, ofS_inj, String.reduceEq, or_false, false_or, or_true, true_or, or_self, decide_true, decide_false, Bool.not_true, Bool.not_false, at_m1_2, at_m1_3, cut_2, cut_3, all_bls, any_bls, count_bls, lcg_nm, lcg_tp, lst_ref, laid_l, laid_b, laid_r, list_b, list_r, len_refI, lenOf_ref, rcv_2, rcv_3, rcv_b, slF_l, slF_b, slF_r, cat_l, repr_d, plSl, backS_2, List.mem_singleton, one_ne, if_false, callS, seal_r, Nat.le_refl, cat_get, cat_set, List.append_assoc, List.length_append, List.append_nil, at_ite, Nat.zero_le, iTq, tupD, $xs,*])
theorem call_tape {δ : DS} {M : Mem} {i j : Nat} {ns : List Int} {k : Int} {Q : QD} (h0 : (δ[i]?).join = some (.d (.scr ns))) (h1 : (δ[j]?).join = some (.d (.int k))) (k0 : 0 ≤ k) (k1 : k ≤ 1000) (z : ∀ ds, Tp 0 ds → Q (.ref M.length) (M ++ [.lst ds])) :
    eCall [false, false] sp_tape (aP [pV i, pV j]) δ M Q := by
  show aP [pV i, pV j] δ M _
  unfold aP pArgs pArgs pArgs pV
  rw [h0, h1]
  exact ⟨ns, k, rfl, rfl, k0, k1, fun ds h => z ds h⟩
theorem rg_mem {J : Nat} {d : D} (h : d ∈ rgL 0 J) : ∃ j : Nat, j < J ∧ d = .int (j : Int) := by
  rw [rgL_nats] at h
  obtain ⟨j, hj, rfl⟩ := List.mem_map.mp h
  exact ⟨j, by simpa using hj, rfl⟩
theorem gcO_up {k m : Nat} {o : Option Sv} (h : k ≤ m) : gcO m (gcO k o) = gcO k o := by
  cases o with
  | none => rfl
  | some s =>
    cases s with
    | d x => rfl
    | bor x => rfl
    | ref n =>
      by_cases hn : n < k
      · rw [show gcO k (some (.ref n)) = some (.ref n) from if_pos hn]; exact if_pos (by omega)
      · rw [show gcO k (some (.ref n)) = none from if_neg hn]; rfl
set_option maxHeartbeats 2000000
set_option maxHeartbeats 2000000
def c_PARTED : D := .tup [.str "and", .str "or"]
def sp_below : SpD := fun as M Q => ∃ r : Rw, as = [.d (rD r)] ∧ M = [] ∧ Q (.new (r.below.map nD)) []
def r_rbelow  : TS' :=
  (sSeq (sIf (cP (bB (po2 inD (po2 ixD (pV 0) (pC (.int 0))) (pC c_PARTED))))
  (sRet (eNw (fP (plN listF [(po2 ixD (pV 0) (pC (.int 1)))]))))
  sNil)
  (sRet (eIf (cP (bB (po2 eqD (po2 ixD (pV 0) (pC (.int 0))) (pC (.str "pick"))))) (eNw (fP (plN listF [(poSl (pV 0) (poI (pC (.int 2))) poNo)]))) (eNw (fP (plLst []))))))
def r_lbelow  : TS' :=
  (sSeq (sIf (cP (bB (po2 inD (po2 ixD (pV 0) (pC (.int 0))) (poTup [(pC (.str "and")), (pC (.str "or"))]))))
  (sRet (eNw (fP (plN listF [(po2 ixD (pV 0) (pC (.int 1)))]))))
  sNil)
  (sRet (eIf (cP (bB (po2 eqD (po2 ixD (pV 0) (pC (.int 0))) (pC (.str "pick"))))) (eNw (fP (plN listF [(poSl (pV 0) (poI (pC (.int 2))) poNo)]))) (eNw (fP (plLst []))))))
theorem cut_4_2 {x y z u : D} : cutD [x, y, z, u] (some 2) none = [z, u] := rfl
theorem pure_rbelow (as : List Sv) (M : Mem) (Q : Rv → Mem → Prop) (h : sp_below as M Q) : r_rbelow (endsF M.length Q) (startD 1 as) M := by
  obtain ⟨r, rfl, rfl, z⟩ := h
  show r_rbelow (endsF 0 Q) [some (.d (rD r))] []
  cases r <;> simp only [Rw.below, List.map_cons, List.map_nil, nD] at z <;> simp only [r_rbelow, sSeq] <;> simp only [VLY, c_PARTED, rD, cut_4_2] <;> exact z
theorem pure_lbelow (as : List Sv) (M : Mem) (Q : Rv → Mem → Prop) (h : sp_below as M Q) : r_lbelow (endsF M.length Q) (startD 1 as) M := by
  obtain ⟨r, rfl, rfl, z⟩ := h
  show r_lbelow (endsF 0 Q) [some (.d (rD r))] []
  cases r <;> simp only [Rw.below, List.map_cons, List.map_nil, nD] at z <;> simp only [r_lbelow, sSeq] <;> simp only [VLY, rD, cut_4_2] <;> exact z
theorem mext {R : QD} {M : Mem} {n : Nat} {s : Sv} : mExt (.ref n) [s] M R = ok (cellL M[n]?) fun ds => ok (laidD M s) fun es => ds.length + es.length ≤ sizeLine ∧ R (.d .non) (M.set n (.lst (ds ++ es))) := rfl
theorem below_len {n i : Nat} {r : Rw} (o : r.ok n i) : r.below.length ≤ 32 := by
  cases r with
  | all ps => exact o.1.2
  | any ps => exact o.1.2
  | pick k lo hi => simp [Rw.below]
  | _ => simp [Rw.below]
set_option maxHeartbeats 2000000
set_option maxHeartbeats 2000000
theorem enum_at {ds : List D} {i : Nat} {d : D} (h : (enumL ds)[i]? = some d) : ∃ x, ds[i]? = some x ∧ d = .tup [.int (i : Nat), x] := enum_get h
theorem drop_at {w : Wb} {j : Nat} {r : Rw} (h : w[j]? = some r) : w.drop j = r :: w.drop (j + 1) := by
  have hj := (List.getElem?_eq_some_iff.mp h).1
  rw [List.drop_eq_getElem_cons hj, (List.getElem?_eq_some_iff.mp h).2]
set_option maxHeartbeats 2000000
set_option maxHeartbeats 2000000
set_option maxHeartbeats 2000000
/-- how many of some rests are unlike -/
def unl (ls : List (List Bool)) : Nat := (dstT (ls.map fun m => m.map bI)).length
set_option maxHeartbeats 2000000
end VL
set_option Elab.async false
set_option linter.all false
set_option maxRecDepth 100000
set_option maxHeartbeats 2000000
namespace VL
open PySem PySem.Spec L2 RT RZ PyProof.Rows HT
end VL
set_option Elab.async false
set_option linter.all false
set_option maxRecDepth 100000
set_option maxHeartbeats 2000000
namespace VL
open PySem PySem.Spec L2
def numB (bs : List Bool) : Nat := bs.foldl (fun a b => 2 * a + (if b then 1 else 0)) 0
/-- a table's value -/
def tbV (m : List Bool) (bs : List Bool) : Bool := m.getD (numB bs) false
set_option maxHeartbeats 2000000
def prodL (c : Nat → Nat) (ps : List Nat) : Nat := ps.foldr (fun p a => c p * a) 1
def sumL (c : Nat → Nat) (ps : List Nat) : Nat := ps.foldr (fun p a => c p + a) 0
def spr (nm : List (List Int)) (acc : List Nat) (more p : Nat) : Nat := acc.getD p 0 * 2 ^ ((nm.getD acc.length []).length - more - (nm.getD p []).length)
def Rw.cn (nm : List (List Int)) (acc : List Nat) : Rw → Nat
  | .yes => 1
  | .no => 0
  | .has _ _ => 1
  | .all ps => prodL (fun p => acc.getD p 0) ps
  | .any ps => sumL (spr nm acc 0) ps
  | .pick _ lo hi => sumL (spr nm acc 1) [lo, hi]
set_option maxHeartbeats 2000000
local macro_rules
  | `(tactic| simp only [VLY]) => `(tactic| simp only [sSeq, sIf, sSet, sSub, sRet, sRetN, sNil, sDrop, sAsg, sPar, sParT, sAug, cP, bB, bTr, bNt, bAn, bOr, po1, po2, poN, pArgs, poIf, poAn, poOr, poNt, poTup, plLst, plN, pl2, pl1, pFz, pV, pC, eP, eo1, eo2, eoN, aP, aNil, aCons, eAn, eOr, eNt, eIf, eFz, eNw, fP, fN, f2, f1, tTupE, tLstF, tTr, tTb, tAn, tOrr, tNt, tYs, eSeal, eMt, poMt, mPure, eCh, pCh, ok_bind, ok_map, ok_some, ok_none, ok_gd, ok_ite, List.getElem?_cons_zero, List.getElem?_cons_succ, List.set_cons_zero, List.set_cons_succ, Option.join_some, Option.bind_some, Option.map_some, Option.bind_none, Option.map_none, ix_ref, ix_tup, ix_lst, ix_bor, ix_scr, add_int, add_str, add_tup, sub_int, mul_int, fdiv_int, mod_int, pow_int, neg_int, lt_int, le_int, gt_int, ge_int, eq_int, eq_str, eq_bl, ne_int, ne_str, ne_bl, is_bl, isnt_bl, is_non, isnt_non, len_tup, len_lst, len_ref, len_bor, len_scr, int_bl, int_int, abs_int, min_int, max_int, blD_bl, cell_lst, cellA_lst, cellA_dk, st_ref, at_0, at_1, at_2, at_3, at_4, ixN_10, ixN_20, ixN_21, ixN_30, ixN_31, ixN_32, dataS_d, datas_nil, datas_cons, truth_bl, notD, intS, blS, nonB, List.length_cons, List.length_nil, Nat.reduceAdd, endsF_rt, endsF_nx, rvQ_d, rvQ_new, rvQ_newK, rv_d, rv_ref, rv_cl, rv_ck, okRef_d, okRef_ref, List.not_mem_nil, List.nil_append, true_and, and_true, List.take_succ_cons, List.take_zero, Nat.zero_add, decide_eq_true_eq, Bool.false_eq_true, if_false, if_true, callS, handS_n, handS_tr, handS_fr, handS_fd, handS_fb, cellsAt_c, cellsAt_0, Option.getD_some, backS_0, backS_1, eCall, tup_lst, tup_tup, tup_ref, fLc, iRg, rng_1, rng_2, wipeS_c, wipeS_n, iPq, iSq, seq_tup, seq_lst, seq_bor, lst_lst, lst_bor, gdS_d, gdS_b, sFor, gNm, gcS_c, gcS_n, gcO_d, gcO_n, mapp, rcv_0, rcv_1, rcv_l, gcO_r0, gcO_r1, gcO_z, seal_d, eq_self, List.take_nil, List.cons_append, poSl, poI, poNo, slD_t, intO_i, list_t, list_l, in_str2, ofS_inj, String.reduceEq, or_false, false_or, or_true, true_or, or_self, decide_true, decide_false, Bool.not_true, Bool.not_false, at_m1_2, at_m1_3, cut_2, cut_3, all_bls, any_bls, count_bls, lcg_nm, lcg_tp, lst_ref, laid_l, laid_b, laid_r, list_b, list_r, len_refI, lenOf_ref, rcv_2, rcv_3, rcv_b, slF_l, slF_b, slF_r, cat_l, repr_d, plSl, backS_2, List.mem_singleton, one_ne, if_false, callS, seal_r, Nat.le_refl, cat_get, cat_set, List.append_assoc, List.length_append, List.append_nil, at_ite, Nat.zero_le, iTq, tupD])
  | `(tactic| simp only [VLY, $xs,*]) => `(tactic| simp only [sSeq, sIf, sSet, sSub, sRet, sRetN, sNil, sDrop, sAsg, sPar, sParT, sAug, cP, bB, bTr, bNt, bAn, bOr, po1, po2, poN, pArgs, poIf, poAn, poOr, poNt, poTup, plLst, plN, pl2, pl1, pFz, pV, pC, eP, eo1, eo2, eoN, aP, aNil, aCons, eAn, eOr, eNt, eIf, eFz, eNw, fP, fN, f2, f1, tTupE, tLstF, tTr, tTb, tAn, tOrr, tNt, tYs, eSeal, eMt, poMt, mPure, eCh, pCh, ok_bind, ok_map, ok_some, ok_none, ok_gd, ok_ite, List.getElem?_cons_zero, List.getElem?_cons_succ, List.set_cons_zero, List.set_cons_succ, Option.join_some, Option.bind_some, Option.map_some, Option.bind_none, Option.map_none, ix_ref, ix_tup, ix_lst, ix_bor, ix_scr, add_int, add_str, add_tup, sub_int, mul_int, fdiv_int, mod_int, pow_int, neg_int, lt_int, le_int, gt_int, ge_int, eq_int, eq_str, eq_bl, ne_int, ne_str, ne_bl, is_bl, isnt_bl, is_non, isnt_non, len_tup, len_lst, len_ref, len_bor, len_scr, int_bl, int_int, abs_int, min_int, max_int, blD_bl, cell_lst, cellA_lst, cellA_dk, st_ref, at_0, at_1, at_2, at_3, at_4, ixN_10, ixN_20, ixN_21, ixN_30, ixN_31, ixN_32, dataS_d, datas_nil, datas_cons, truth_bl, notD, intS, blS, nonB, List.length_cons, List.length_nil, Nat.reduceAdd, endsF_rt, endsF_nx, rvQ_d, rvQ_new, rvQ_newK, rv_d, rv_ref, rv_cl, rv_ck, okRef_d, okRef_ref, List.not_mem_nil, List.nil_append, true_and, and_true, List.take_succ_cons, List.take_zero, Nat.zero_add, decide_eq_true_eq, Bool.false_eq_true, if_false, if_true, callS, handS_n, handS_tr, handS_fr, handS_fd, handS_fb, cellsAt_c, cellsAt_0, Option.getD_some, backS_0, backS_1, eCall, tup_lst, tup_tup, tup_ref, fLc, iRg, rng_1, rng_2, wipeS_c, wipeS_n, iPq, iSq, seq_tup, seq_lst, seq_bor, lst_lst, lst_bor, gdS_d, gdS_b, sFor, gNm, gcS_c, gcS_n, gcO_d, gcO_n, mapp, rcv_0, rcv_1, rcv_l, gcO_r0, gcO_r1, gcO_z, seal_d, eq_self, List.take_nil, List.cons_append, poSl, poI, poNo, slD_t, intO_i, list_t, list_l, in_str2, ofS_inj, String.reduceEq, or_false, false_or, or_true, true_or, or_self, decide_true, decide_false, Bool.not_true, Bool.not_false, at_m1_2, at_m1_3, cut_2, cut_3, all_bls, any_bls, count_bls, lcg_nm, lcg_tp, lst_ref, laid_l, laid_b, laid_r, list_b, list_r, len_refI, lenOf_ref, rcv_2, rcv_3, rcv_b, slF_l, slF_b, slF_r, cat_l, repr_d, plSl, backS_2, List.mem_singleton, one_ne, if_false, callS, seal_r, Nat.le_refl, cat_get, cat_set, List.append_assoc, List.length_append, List.append_nil, at_ite, Nat.zero_le, iTq, tupD, $xs,*])
set_option maxHeartbeats 2000000
set_option maxHeartbeats 2000000
set_option maxHeartbeats 2000000
theorem valN_nil {k : NestedKey} : valN [] k = none := rfl
theorem valN_cons {d v : D} {kvs : List (D × D)} {k : NestedKey} : valN ((d, v) :: kvs) k = if nkD d = some k then some v else valN kvs k := by
  unfold valN
  rw [List.find?_cons]
  by_cases h : nkD d = some k
  · simp [h]
  · simp [h]
theorem valN_app : ∀ {kvs l : List (D × D)} {k : NestedKey}, valN (kvs ++ l) k = (valN kvs k).or (valN l k)
  | [], l, k => rfl
  | (d, v) :: kvs, l, k => by
    rw [List.cons_append, valN_cons, valN_cons, valN_app]
    by_cases h : nkD d = some k
    · rw [if_pos h, if_pos h]; rfl
    · rw [if_neg h, if_neg h]
theorem valN_repl {k k2 : NestedKey} {v : D} : ∀ {kvs : List (D × D)}, valN (kvs.map fun p => if nkD p.1 = some k then (p.1, v) else p) k2 = if k2 = k then (if (kvs.any fun p => decide (nkD p.1 = some k)) = true then some v else none) else valN kvs k2
  | [] => by simp [valN]
  | (d, w) :: kvs => by
    rw [List.map_cons]
    by_cases h : nkD d = some k
    · rw [if_pos h, valN_cons, valN_cons, valN_repl, List.any_cons, decide_eq_true h, Bool.true_or]
      by_cases h2 : k2 = k
      · subst h2; simp [h]
      · rw [if_neg h2, if_neg h2]
        have h3 : ¬ (nkD d = some k2) := fun z => h2 (by rw [h] at z; exact (Option.some.inj z).symm)
        rw [if_neg h3, if_neg h3]
    · rw [if_neg h, valN_cons, valN_cons, valN_repl, List.any_cons, decide_eq_false h, Bool.false_or]
      by_cases h2 : k2 = k
      · subst h2; simp [h]
      · rw [if_neg h2, if_neg h2]
theorem valN_put {kvs : List (D × D)} {d v : D} {k k2 : NestedKey} (e : nkD d = some k) : valN (putN kvs d k v) k2 = if k2 = k then some v else valN kvs k2 := by
  unfold putN
  by_cases h : (kvs.any fun p => decide (nkD p.1 = some k)) = true
  · rw [if_pos h, valN_repl, if_pos h]
  · rw [if_neg h, valN_app, valN_cons, e]
    by_cases h2 : k2 = k
    · subst h2
      rw [if_pos rfl, if_pos rfl]
      have : valN kvs k2 = none := by
        unfold valN
        rw [List.find?_eq_none.mpr]; · rfl
        intro p hp z
        exact h (List.any_eq_true.mpr ⟨p, hp, z⟩)
      rw [this]; rfl
    · rw [if_neg h2, if_neg (fun z => h2 (Option.some.inj z).symm), valN_nil, Option.or_none]
theorem putN_len {kvs : List (D × D)} {d v : D} {k : NestedKey} : (putN kvs d k v).length ≤ kvs.length + 1 := by
  unfold putN
  by_cases h : (kvs.any fun p => decide (nkD p.1 = some k)) = true
  · rw [if_pos h, List.length_map]; omega
  · rw [if_neg h, List.length_append]; exact Nat.le_refl _
def kB (b : Bool) : NestedKey := .num (if b then 1 else 0)
theorem nk0s_bits : ∀ m : List Bool, nk0s (m.map bitD) = some (m.map kB)
  | [] => rfl
  | b :: m => by
    show (nk0 (bitD b)).bind _ = _
    rw [show nk0 (bitD b) = some (kB b) from rfl, Option.bind_some, nk0s_bits m]; rfl
theorem dep_bits : ∀ m : List Bool, NestedKey.depthAll (m.map kB) = 0
  | [] => by simp [NestedKey.depthAll]
  | b :: m => by rw [List.map_cons, NestedKey.depthAll, dep_bits m, kB]; simp [NestedKey.depth]
theorem kB_inj {a b : List Bool} (h : a.map kB = b.map kB) : a = b := List.map_inj_right (fun x y e => by
  cases x <;> cases y <;> first | rfl | (exact absurd (NestedKey.num.inj e) (by decide))) |>.mp h
def bK (m : List Bool) : NestedKey := .tup (m.map kB)
theorem nk_bits {m : List Bool} : nkD (.tup (m.map bitD)) = some (bK m) := by
  show (nk0s (m.map bitD)).bind _ = _
  rw [nk0s_bits, Option.bind_some, if_pos (by rw [NestedKey.depth, dep_bits]; omega)]; rfl
theorem bK_inj {a b : List Bool} (h : bK a = bK b) : a = b := kB_inj (NestedKey.tup.inj h)
set_option maxHeartbeats 2000000
inductive Tr
  | leaf (k : Nat)
  | node (l r : Tr)
def lvN : Tr → List Nat
  | .leaf k => [k]
  | .node l r => lvN l ++ lvN r
def lvT (t : Tr) : List Int := (lvN t).map Int.ofNat
/-- all of some numbers are in a list -/
def allIn (a b : List Int) : Bool := a.all fun i => decide (i ∈ b)
/-- what a pair of a tree is asked -/
def chk (a b lo hi : List Int) : Bool := allIn a lo && allIn b hi || allIn b lo && allIn a hi
def ptd (a b : List Int) : Tr → Bool
  | .leaf _ => false
  | .node l r => chk a b (lvT l) (lvT r) || (ptd a b l || ptd a b r)
def ptl (t : Tr) : List (List Int) → Bool
  | [a, b] => ptd a b t
  | _ => false
set_option maxHeartbeats 2000000
def asGo (nm : List (List Int)) (t : Tr) : Nat → Wb → D
  | _, [] => .non
  | i, .all ps :: w => if ptl t (ps.map fun p => nm.getD p []) = true then asGo nm t (i + 1) w else .int (i : Nat)
  | i, _ :: w => asGo nm t (i + 1) w
def asD (t : Tr) (w : Wb) : D := asGo (nmW w) t 0 w
set_option maxHeartbeats 2000000
def fmK (ns : List Nat) (m : List Bool) : NestedKey := .tup [.tup (ns.map fun k : Nat => .num (k : Int)), bK m]
def fmD (ns : List Nat) (m : List Bool) : D := .tup [.tup (ns.map nD), fD m]
theorem nk0s_nats : ∀ ns : List Nat, nk0s (ns.map nD) = some (ns.map fun k : Nat => NestedKey.num (k : Int))
  | [] => rfl
  | k :: ns => by
    have e : nk0s ((k :: ns).map nD) = (nk0 (nD k)).bind fun a => (nk0s (ns.map nD)).map fun b => a :: b := rfl
    rw [e, nk0s_nats ns]; rfl
theorem fmK_inj {a b : List Nat} {m k : List Bool} (h : fmK a m = fmK b k) : a = b ∧ m = k := by
  have h := NestedKey.tup.inj h
  simp only [List.cons.injEq, and_true] at h
  obtain ⟨h1, h2⟩ := h
  refine ⟨?_, bK_inj h2⟩
  have h1 := NestedKey.tup.inj h1
  refine (List.map_inj_right (f := fun k : Nat => NestedKey.num (k : Int)) fun x y e => ?_).mp h1
  injection e with e
  omega
theorem dep_nats : ∀ ns : List Nat, NestedKey.depthAll (ns.map fun k : Nat => NestedKey.num (k : Int)) = 0
  | [] => by simp [NestedKey.depthAll]
  | k :: ns => by rw [List.map_cons, NestedKey.depthAll, dep_nats ns]; simp [NestedKey.depth]
theorem nk_fm {ns : List Nat} {m : List Bool} : nkD (fmD ns m) = some (fmK ns m) := by
  have e1 : nk0 (.tup (ns.map nD)) = some (.tup (ns.map fun k : Nat => .num (k : Int))) := by
    show (nk0s (ns.map nD)).map _ = _
    rw [nk0s_nats]; rfl
  have e2 : nk0 (fD m) = some (bK m) := by
    show (nk0s (m.map bitD)).map _ = _
    rw [nk0s_bits]; rfl
  have e3 : nk0s [.tup (ns.map nD), fD m] = some [.tup (ns.map fun k : Nat => .num (k : Int)), bK m] := by
    show (nk0 (.tup (ns.map nD))).bind _ = _
    rw [e1, Option.bind_some]
    show ((nk0 (fD m)).bind _).map _ = _
    rw [e2]; rfl
  show (nk0s [.tup (ns.map nD), fD m]).bind _ = _
  rw [e3, Option.bind_some, if_pos ?_]
  · rfl
  · have h2 : NestedKey.depth (bK m) = 1 := by rw [bK, NestedKey.depth, dep_bits]
    simp only [NestedKey.depth, NestedKey.depthAll, h2, dep_nats]
    decide
def tbA (ns : List Nat) (m : List Bool) (f : List Bool) : Bool := tbV m (ns.map fun k => f.getD k false)
/-- a row that stands for a law of fillings, by some names -/
def Std (W : Wb) (ns : List Nat) (F : List Bool → Bool) (r : Nat) : Prop := r < W.length ∧ (∀ f, hvAt f W r = F f) ∧ ∀ k ∈ nmAt W r, ∃ j ∈ ns, k = (j : Int)
theorem Std.pre {W V : Wb} {ns : List Nat} {F : List Bool → Bool} {r : Nat} (h : Std W ns F r) (p : W <+: V) : Std V ns F r := by
  obtain ⟨t, rfl⟩ := p
  refine ⟨by rw [List.length_append]; exact Nat.lt_of_lt_of_le h.1 (Nat.le_add_right _ _), fun f => ?_, fun k hk => ?_⟩
  · rw [hvAt_app h.1]; exact h.2.1 f
  · rw [nmAt_app h.1] at hk
    exact h.2.2 k hk
theorem Std.sub {W : Wb} {ns ms : List Nat} {F : List Bool → Bool} {r : Nat} (h : Std W ns F r) (s : ∀ k ∈ ns, k ∈ ms) : Std W ms F r := ⟨h.1, h.2.1, fun k hk => by
  obtain ⟨j, hj, e⟩ := h.2.2 k hk
  exact ⟨j, s j hj, e⟩⟩
/-- a tree within a tree -/
inductive SubN : Tr → Tr → Prop
  | refl {t : Tr} : SubN t t
  | left {s l r : Tr} (h : SubN s l) : SubN s (.node l r)
  | right {s l r : Tr} (h : SubN s r) : SubN s (.node l r)
/-- an and of two rows along a pair of the tree; no picks -/
def AnR (t0 : Tr) (W : Wb) : Rw → Prop
  | .all ps => ∃ (a b : Nat) (l r : Tr), SubN (.node l r) t0 ∧ ps = nsort [a, b] ∧ a ≠ b ∧ (∀ k ∈ nmAt W a, ∃ j ∈ lvN l, k = ((j : Nat) : Int)) ∧ ∀ k ∈ nmAt W b, ∃ j ∈ lvN r, k = ((j : Nat) : Int)
  | .pick _ _ _ => False
  | _ => True
theorem AnR.app {t0 : Tr} {a b : Wb} {r : Rw} (o : ∀ p ∈ r.below, p < a.length) (h : AnR t0 a r) : AnR t0 (a ++ b) r := by
  cases r with
  | all ps =>
    obtain ⟨x, y, l, r, h1, h2, h3, h4, h5⟩ := h
    have hx : x < a.length := o x (by show x ∈ ps; rw [h2, nsort_mem]; exact List.mem_cons_self)
    have hy : y < a.length := o y (by show y ∈ ps; rw [h2, nsort_mem]; exact List.mem_cons_of_mem _ List.mem_cons_self)
    exact ⟨x, y, l, r, h1, h2, h3, by rw [nmAt_app hx]; exact h4, by rw [nmAt_app hy]; exact h5⟩
  | pick _ _ _ => exact h
  | _ => trivial
/-- what a Former holds -/
structure FmI (n : Nat) (t0 : Tr) (W : Wb) (kvs : List (D × D)) : Prop where
  ok : WbOk n W
  fm : WbFm W
  an : ∀ (i : Nat) (r : Rw), W[i]? = some r → AnR t0 W r
  kn : ∀ ns m d, valN kvs (fmK ns m) = some d → ∃ r, d = nD r ∧ Std W ns (tbA ns m) r
theorem FmI.nil {n : Nat} {t0 : Tr} : FmI n t0 [] [] := ⟨WbOk.nil, WbFm.nil, fun _ _ h => by simp at h, fun _ _ _ h => by cases h⟩
theorem FmI.put {n : Nat} {t0 : Tr} {W : Wb} {kvs : List (D × D)} {ns : List Nat} {m : List Bool} {r : Nat} (I : FmI n t0 W kvs) (s : Std W ns (tbA ns m) r) : FmI n t0 W (putN kvs (fmD ns m) (fmK ns m) (nD r)) := ⟨I.ok, I.fm, I.an, fun ns' m' d h => by
  rw [valN_put nk_fm] at h
  by_cases e : fmK ns' m' = fmK ns m
  · rw [if_pos e] at h
    obtain ⟨rfl, rfl⟩ := fmK_inj e
    exact ⟨r, (Option.some.inj h).symm, s⟩
  · rw [if_neg e] at h
    exact I.kn ns' m' d h⟩
theorem FmI.snoc {n : Nat} {t0 : Tr} {W : Wb} {kvs : List (D × D)} {r : Rw} (I : FmI n t0 W kvs) (h1 : r.ok n W.length) (h2 : r.fm W) (h3 : AnR t0 W r) : FmI n t0 (W ++ [r]) kvs := ⟨I.ok.snoc h1, WbFm.snoc I.ok I.fm h1 h2, fun i q e => by
  by_cases hi : i < W.length
  · rw [List.getElem?_append_left hi] at e
    exact (I.an i q e).app fun p hp => Nat.lt_trans ((I.ok i q e).below p hp) hi
  · have hl := (List.getElem?_eq_some_iff.mp e).1
    simp at hl
    have : i = W.length := by omega
    subst this
    simp at e
    subst e
    exact h3.app h1.below, fun ns m d h => by
  obtain ⟨r, e, s⟩ := I.kn ns m d h
  exact ⟨r, e, s.pre (List.prefix_append _ _)⟩⟩
theorem hv_snoc {n : Nat} {W : Wb} {r : Rw} {f : List Bool} (o : WbOk n W) (h : r.ok n W.length) : hvAt f (W ++ [r]) W.length = r.hv f (hvW f W) := by
  unfold hvAt hvW
  rw [scan_snoc, List.getD_eq_getElem?_getD, List.getElem?_append_right (by rw [scan_len]; simp), scan_len]
  simp
end VL
set_option Elab.async false
set_option linter.all false
set_option maxRecDepth 100000
set_option maxHeartbeats 1000000
namespace VL
open PySem PySem.Spec L2
def vaF (fl : List Bool) : Va := fun k => fl.getD k false
abbrev PS := Wb × List Kf
open Classical in
noncomputable def lookK (K : List Kf) (q : Kf) : Option Nat := K.findIdx? fun p => decide (p = q)
/-- what stands in a row -/
def RwK (K : List Kf) (q : Kf) : Rw → Prop
  | .yes => q.1 = [] ∧ q.2 v0 = true
  | .no => q.1 = [] ∧ q.2 v0 = false
  | .all ps => q.1 ≠ [] ∧ ¬ Ind q.1 q.2 ∧ (∀ p ∈ ps, ∃ q', K[p]? = some q' ∧ q'.1 ≠ [] ∧ Ind q'.1 q'.2) ∧ (ps.flatMap fun p => (K.getD p ([], q.2)).1).Perm q.1
  | .pick x lo hi => ∃ t, q.1 = x :: t ∧ Ind q.1 q.2 ∧ (∃ ql, K[lo]? = some ql ∧ ql.2 = fx q.2 x false) ∧ ∃ qh, K[hi]? = some qh ∧ qh.2 = fx q.2 x true
  | _ => False
structure PaI (n : Nat) (ks : List Nat) (W : Wb) (K : List Kf) : Prop where
  len : K.length = W.length
  ok : WbOk n W
  nd : ∀ (r : Nat) (q : Kf), K[r]? = some q → NdF q.1 q.2 ∧ q.1.Sublist ks
  hv : ∀ (r : Nat) (q : Kf), K[r]? = some q → ∀ fl, hvAt fl W r = q.2 (vaF fl)
  inj : ∀ (i j : Nat) (q : Kf), K[i]? = some q → K[j]? = some q → i = j
  row : ∀ (r : Nat) (q : Kf) (w : Rw), K[r]? = some q → W[r]? = some w → RwK K q w
/-- all rows from a on are named by some row, but r -/
def NmP (W : Wb) (a : Nat) (R : List Nat) : Prop := ∀ i : Nat, a ≤ i → i < W.length → i ∈ R ∨ ∃ (j : Nat) (w : Rw), W[j]? = some w ∧ i ∈ w.below
theorem NmP.app {W V : Wb} {a : Nat} {R : List Nat} (h : NmP W a R) {S : List Nat} (k : NmP (W ++ V) W.length S) : NmP (W ++ V) a (R ++ S) := fun i h1 h2 => by
  by_cases hi : i < W.length
  · rcases h i h1 hi with h | ⟨j, w, e, m⟩
    · exact .inl (List.mem_append_left _ h)
    · exact .inr ⟨j, w, by rw [List.getElem?_append_left (List.getElem?_eq_some_iff.mp e).1]; exact e, m⟩
  · rcases k i (by omega) h2 with h | h
    · exact .inl (List.mem_append_right _ h)
    · exact .inr h
/-- what a state that comes is -/
structure PaS (n : Nat) (ks : List Nat) (s t : PS) (R : List Nat) (c m : Nat) : Prop where
  inv : PaI n ks t.1 t.2
  pw : s.1 <+: t.1
  pk : s.2 <+: t.2
  bd : t.1.length ≤ s.1.length + c
  nm : NmP t.1 s.1.length R
  few : ∀ (r : Nat) (q : Kf), s.2.length ≤ r → t.2[r]? = some q → q.1.length ≤ m
theorem pre_get? {α : Type} {a b : List α} (h : a <+: b) {i : Nat} {x : α} (e : a[i]? = some x) : b[i]? = some x := by
  obtain ⟨t, rfl⟩ := h
  rw [List.getElem?_append_left (List.getElem?_eq_some_iff.mp e).1]; exact e
theorem PaS.refl {n m : Nat} {ks : List Nat} {s : PS} {R : List Nat} (I : PaI n ks s.1 s.2) : PaS n ks s s R 0 m := ⟨I, List.prefix_refl _, List.prefix_refl _, Nat.le_refl _, fun i h1 h2 => absurd h1 (by omega), fun r q h e => absurd (List.getElem?_eq_some_iff.mp e).1 (by omega)⟩
theorem PaS.weak {n m m' c c' : Nat} {ks : List Nat} {s t : PS} {R : List Nat} (a : PaS n ks s t R c m) (hc : c ≤ c') (hm : m ≤ m') : PaS n ks s t R c' m' := ⟨a.inv, a.pw, a.pk, by have := a.bd; omega, a.nm, fun r q h e => Nat.le_trans (a.few r q h e) hm⟩
/-- named by one row -/
theorem PaS.named {n m c : Nat} {ks : List Nat} {s t : PS} {R S : List Nat} (a : PaS n ks s t R c m) (h : ∀ i ∈ R, i ∈ S ∨ ∃ (j : Nat) (w : Rw), t.1[j]? = some w ∧ i ∈ w.below) : PaS n ks s t S c m := ⟨a.inv, a.pw, a.pk, a.bd, fun i h1 h2 => (a.nm i h1 h2).elim (h i) .inr, a.few⟩
theorem PaS.trans {n m : Nat} {ks : List Nat} {s t u : PS} {R S : List Nat} {c d : Nat} (a : PaS n ks s t R c m) (b : PaS n ks t u S d m) : PaS n ks s u (R ++ S) (c + d) m := by
  refine ⟨b.inv, a.pw.trans b.pw, a.pk.trans b.pk, by have := a.bd; have := b.bd; omega, ?_, fun r q h e => ?_⟩
  rotate_left
  · by_cases hr : r < t.2.length
    · obtain ⟨V, eV⟩ := b.pk
      rw [← eV, List.getElem?_append_left hr] at e
      exact a.few r q h e
    · exact b.few r q (by omega) e
  obtain ⟨V, e⟩ := b.pw
  have h := a.nm
  have k := b.nm
  rw [← e] at k ⊢
  exact h.app k
theorem getD_some {α : Type} {l : List α} {i : Nat} {x d : α} (h : l[i]? = some x) : l.getD i d = x := by rw [List.getD_eq_getElem?_getD, h]; rfl
theorem RwK.mono {K L : List Kf} {q : Kf} {w : Rw} (p : K <+: L) (h : RwK K q w) : RwK L q w := by
  cases w with
  | yes => exact h
  | no => exact h
  | has _ _ => exact h
  | any _ => exact h
  | all ps =>
    obtain ⟨h1, h2, h3, h4⟩ := h
    refine ⟨h1, h2, fun x hx => ?_, ?_⟩
    · obtain ⟨q', e, h⟩ := h3 x hx
      exact ⟨q', pre_get? p e, h⟩
    · have : (ps.flatMap fun p => (L.getD p ([], q.2)).1) = ps.flatMap fun p => (K.getD p ([], q.2)).1 := by
        rw [List.flatMap_def, List.flatMap_def]
        congr 1
        refine List.map_congr_left fun x hx => ?_
        obtain ⟨q', e, _⟩ := h3 x hx
        rw [getD_some e, getD_some (pre_get? p e)]
      rw [this]; exact h4
  | pick x lo hi =>
    obtain ⟨t, h1, h2, ⟨ql, e1, h3⟩, qh, e2, h4⟩ := h
    exact ⟨t, h1, h2, ⟨ql, pre_get? p e1, h3⟩, qh, pre_get? p e2, h4⟩
/-- a row more -/
theorem PaI.put {n : Nat} {ks : List Nat} {W : Wb} {K : List Kf} {q : Kf} {w : Rw} (I : PaI n ks W K) (N : NdF q.1 q.2) (S : q.1.Sublist ks) (hq : ∀ r : Nat, K[r]? ≠ some q) (ho : w.ok n W.length) (hw : RwK K q w)
    (hv : ∀ fl, w.hv fl (hvW fl W) = q.2 (vaF fl)) : PaI n ks (W ++ [w]) (K ++ [q]) := by
  have sp : ∀ {α : Type} {l : List α} {x y : α} {r : Nat}, (l ++ [x])[r]? = some y → (r < l.length ∧ l[r]? = some y) ∨ (r = l.length ∧ y = x) := fun {α l x y r} h => by
    by_cases hr : r < l.length
    · rw [List.getElem?_append_left hr] at h; exact .inl ⟨hr, h⟩
    · rw [List.getElem?_append_right (by omega)] at h
      obtain ⟨h1, h2⟩ := List.getElem?_eq_some_iff.mp h
      have : r - l.length = 0 := by simp at h1; omega
      refine .inr ⟨by omega, ?_⟩
      rw [← h2]
      simp [this]
  refine ⟨by simp [I.len], I.ok.snoc ho, fun r q' h => ?_, fun r q' h fl => ?_, fun i j q' h1 h2 => ?_, fun r q' w' h1 h2 => ?_⟩
  · rcases sp h with ⟨_, h⟩ | ⟨_, rfl⟩
    · exact I.nd r q' h
    · exact ⟨N, S⟩
  · rcases sp h with ⟨hr, h⟩ | ⟨rfl, rfl⟩
    · rw [hvAt_app (by rw [← I.len]; exact hr)]; exact I.hv r q' h fl
    · rw [I.len, hv_snoc I.ok ho]; exact hv fl
  · rcases sp h1 with ⟨_, a1⟩ | ⟨a1, a2⟩ <;> rcases sp h2 with ⟨_, b1⟩ | ⟨b1, b2⟩
    · exact I.inj i j q' a1 b1
    · rw [b2] at a1; exact absurd a1 (hq i)
    · rw [a2] at b1; exact absurd b1 (hq j)
    · rw [a1, b1]
  · refine RwK.mono (List.prefix_append _ _) ?_
    rcases sp h1 with ⟨hr, h1⟩ | ⟨rfl, rfl⟩
    · rcases sp h2 with ⟨_, h2⟩ | ⟨e, _⟩
      · exact I.row r q' w' h1 h2
      · rw [← I.len] at e; omega
    · rcases sp h2 with ⟨e, _⟩ | ⟨_, rfl⟩
      · rw [I.len] at e; omega
      · exact hw
/-- what number_of gives -/
structure NuO (n : Nat) (ks : List Nat) (s : PS) (a : Nat × PS) (q : Kf) (c m : Nat) : Prop where
  st : PaS n ks s a.2 [a.1] c m
  at_ : a.2.2[a.1]? = some q
  last : s.1.length ≤ a.1 → a.1 + 1 = a.2.1.length
def NuH (n : Nat) (ks : List Nat) (e : Nat) (g : List Nat → Fn → PS → Nat × PS) : Prop := ∀ (ns : List Nat) (f : Fn) (s : PS), ns.length ≤ e → ns.Sublist ks → Dep ns f → PaI n ks s.1 s.2 → NuO n ks s (g ns f s) (ns.filter (ndB f), f) (4 ^ ns.length) ns.length
end VL
set_option Elab.async false
set_option linter.all false
set_option maxRecDepth 100000
set_option maxHeartbeats 1000000
namespace VL
open PySem PySem.Spec L2
theorem NuH.mono {n e e' : Nat} {ks : List Nat} {g : List Nat → Fn → PS → Nat × PS} (H : NuH n ks e g) (h : e' ≤ e) : NuH n ks e' g := fun ns f s h1 => H ns f s (Nat.le_trans h1 h)
end VL
set_option Elab.async false
set_option linter.all false
set_option maxRecDepth 100000
set_option maxHeartbeats 1000000
namespace VL
open PySem PySem.Spec L2
theorem getD_nodup {ns ps : List Nat} (hn : ns.Nodup) (hp : ∀ p ∈ ps, p < ns.length) (hpn : ps.Nodup) : (ps.map fun p => ns.getD p 0).Nodup := by
  rw [List.nodup_iff_pairwise_ne, List.pairwise_map]
  refine (List.nodup_iff_pairwise_ne.mp hpn).imp_of_mem fun {p q} hp' hq' hne e => hne ?_
  have h1 := hp p hp'
  have h2 := hp q hq'
  rw [List.getD_eq_getElem?_getD, List.getElem?_eq_getElem h1, List.getD_eq_getElem?_getD, List.getElem?_eq_getElem h2] at e
  exact (List.getElem_inj hn).mp e
end VL
set_option Elab.async false
set_option linter.all false
set_option maxRecDepth 100000
set_option maxHeartbeats 4000000
namespace VL
open PySem PySem.Spec L2 RT RZ PyProof.Rows
end VL
set_option Elab.async false
set_option linter.all false
set_option maxRecDepth 100000
set_option maxHeartbeats 4000000
namespace VL
open PySem PySem.Spec L2 RT RZ PyProof.Rows
end VL
set_option Elab.async false
set_option linter.all false
set_option maxRecDepth 100000
set_option maxHeartbeats 2000000
namespace VL
open PySem PySem.Spec L2
/-- names and a table -/
def kfD (q : Kf) : D := .tup [.tup (q.1.map nD), fD (tbF q.1 q.2)]
local macro_rules
  | `(tactic| simp only [VLY]) => `(tactic| simp only [sSeq, sIf, sSet, sSub, sRet, sRetN, sNil, sDrop, sAsg, sPar, sParT, sAug, cP, bB, bTr, bNt, bAn, bOr, po1, po2, poN, pArgs, poIf, poAn, poOr, poNt, poTup, plLst, plN, pl2, pl1, pFz, pV, pC, eP, eo1, eo2, eoN, aP, aNil, aCons, eAn, eOr, eNt, eIf, eFz, eNw, fP, fN, f2, f1, tTupE, tLstF, tTr, tTb, tAn, tOrr, tNt, tYs, eSeal, eMt, poMt, mPure, eCh, pCh, ok_bind, ok_map, ok_some, ok_none, ok_gd, ok_ite, List.getElem?_cons_zero, List.getElem?_cons_succ, List.set_cons_zero, List.set_cons_succ, Option.join_some, Option.bind_some, Option.map_some, Option.bind_none, Option.map_none, ix_ref, ix_tup, ix_lst, ix_bor, ix_scr, add_int, add_str, add_tup, sub_int, mul_int, fdiv_int, mod_int, pow_int, neg_int, lt_int, le_int, gt_int, ge_int, eq_int, eq_str, eq_bl, ne_int, ne_str, ne_bl, is_bl, isnt_bl, is_non, isnt_non, len_tup, len_lst, len_ref, len_bor, len_scr, int_bl, int_int, abs_int, min_int, max_int, blD_bl, cell_lst, cellA_lst, cellA_dk, st_ref, at_0, at_1, at_2, at_3, at_4, ixN_10, ixN_20, ixN_21, ixN_30, ixN_31, ixN_32, dataS_d, datas_nil, datas_cons, truth_bl, notD, intS, blS, nonB, List.length_cons, List.length_nil, Nat.reduceAdd, endsF_rt, endsF_nx, rvQ_d, rvQ_new, rvQ_newK, rv_d, rv_ref, rv_cl, rv_ck, okRef_d, okRef_ref, List.not_mem_nil, List.nil_append, true_and, and_true, List.take_succ_cons, List.take_zero, Nat.zero_add, decide_eq_true_eq, Bool.false_eq_true, if_false, if_true, callS, handS_n, handS_tr, handS_fr, handS_fd, handS_fb, cellsAt_c, cellsAt_0, Option.getD_some, backS_0, backS_1, eCall, tup_lst, tup_tup, tup_ref, fLc, iRg, rng_1, rng_2, wipeS_c, wipeS_n, iPq, iSq, seq_tup, seq_lst, seq_bor, lst_lst, lst_bor, gdS_d, gdS_b, sFor, gNm, gcS_c, gcS_n, gcO_d, gcO_n, mapp, rcv_0, rcv_1, rcv_l, gcO_r0, gcO_r1, gcO_z, seal_d, eq_self, List.take_nil, List.cons_append, poSl, poI, poNo, slD_t, intO_i, list_t, list_l, in_str2, ofS_inj, String.reduceEq, or_false, false_or, or_true, true_or, or_self, decide_true, decide_false, Bool.not_true, Bool.not_false, at_m1_2, at_m1_3, cut_2, cut_3, all_bls, any_bls, count_bls, lcg_nm, lcg_tp, lst_ref, laid_l, laid_b, laid_r, list_b, list_r, len_refI, lenOf_ref, rcv_2, rcv_3, rcv_b, slF_l, slF_b, slF_r, cat_l, repr_d, plSl, backS_2, List.mem_singleton, one_ne, if_false, callS, seal_r, Nat.le_refl, cat_get, cat_set, List.append_assoc, List.length_append, List.append_nil, at_ite, Nat.zero_le, iTq, tupD])
  | `(tactic| simp only [VLY, $xs,*]) => `(tactic| simp only [sSeq, sIf, sSet, sSub, sRet, sRetN, sNil, sDrop, sAsg, sPar, sParT, sAug, cP, bB, bTr, bNt, bAn, bOr, po1, po2, poN, pArgs, poIf, poAn, poOr, poNt, poTup, plLst, plN, pl2, pl1, pFz, pV, pC, eP, eo1, eo2, eoN, aP, aNil, aCons, eAn, eOr, eNt, eIf, eFz, eNw, fP, fN, f2, f1, tTupE, tLstF, tTr, tTb, tAn, tOrr, tNt, tYs, eSeal, eMt, poMt, mPure, eCh, pCh, ok_bind, ok_map, ok_some, ok_none, ok_gd, ok_ite, List.getElem?_cons_zero, List.getElem?_cons_succ, List.set_cons_zero, List.set_cons_succ, Option.join_some, Option.bind_some, Option.map_some, Option.bind_none, Option.map_none, ix_ref, ix_tup, ix_lst, ix_bor, ix_scr, add_int, add_str, add_tup, sub_int, mul_int, fdiv_int, mod_int, pow_int, neg_int, lt_int, le_int, gt_int, ge_int, eq_int, eq_str, eq_bl, ne_int, ne_str, ne_bl, is_bl, isnt_bl, is_non, isnt_non, len_tup, len_lst, len_ref, len_bor, len_scr, int_bl, int_int, abs_int, min_int, max_int, blD_bl, cell_lst, cellA_lst, cellA_dk, st_ref, at_0, at_1, at_2, at_3, at_4, ixN_10, ixN_20, ixN_21, ixN_30, ixN_31, ixN_32, dataS_d, datas_nil, datas_cons, truth_bl, notD, intS, blS, nonB, List.length_cons, List.length_nil, Nat.reduceAdd, endsF_rt, endsF_nx, rvQ_d, rvQ_new, rvQ_newK, rv_d, rv_ref, rv_cl, rv_ck, okRef_d, okRef_ref, List.not_mem_nil, List.nil_append, true_and, and_true, List.take_succ_cons, List.take_zero, Nat.zero_add, decide_eq_true_eq, Bool.false_eq_true, if_false, if_true, callS, handS_n, handS_tr, handS_fr, handS_fd, handS_fb, cellsAt_c, cellsAt_0, Option.getD_some, backS_0, backS_1, eCall, tup_lst, tup_tup, tup_ref, fLc, iRg, rng_1, rng_2, wipeS_c, wipeS_n, iPq, iSq, seq_tup, seq_lst, seq_bor, lst_lst, lst_bor, gdS_d, gdS_b, sFor, gNm, gcS_c, gcS_n, gcO_d, gcO_n, mapp, rcv_0, rcv_1, rcv_l, gcO_r0, gcO_r1, gcO_z, seal_d, eq_self, List.take_nil, List.cons_append, poSl, poI, poNo, slD_t, intO_i, list_t, list_l, in_str2, ofS_inj, String.reduceEq, or_false, false_or, or_true, true_or, or_self, decide_true, decide_false, Bool.not_true, Bool.not_false, at_m1_2, at_m1_3, cut_2, cut_3, all_bls, any_bls, count_bls, lcg_nm, lcg_tp, lst_ref, laid_l, laid_b, laid_r, list_b, list_r, len_refI, lenOf_ref, rcv_2, rcv_3, rcv_b, slF_l, slF_b, slF_r, cat_l, repr_d, plSl, backS_2, List.mem_singleton, one_ne, if_false, callS, seal_r, Nat.le_refl, cat_get, cat_set, List.append_assoc, List.length_append, List.append_nil, at_ite, Nat.zero_le, iTq, tupD, $xs,*])
set_option maxHeartbeats 2000000
set_option maxHeartbeats 2000000
set_option maxHeartbeats 2000000
set_option maxHeartbeats 2000000
set_option maxHeartbeats 2000000
set_option maxHeartbeats 2000000
set_option maxHeartbeats 2000000
set_option maxHeartbeats 2000000
def bitsAt (ps : List Nat) (l : List Bool) : List Bool := ps.map fun p => l.getD p false
/-- what is held, of the first settings -/
def HoN (ns ps : List Nat) (f : Fn) (N : List (D × D)) (j : Nat) : Prop := ∀ s : List Bool, (valN N (bK s)).isSome = true ↔ ∃ l ∈ (afs ns.length).take j, f (valF ns l) = true ∧ bitsAt ps l = s
theorem HoN.no {ns ps : List Nat} {f : Fn} {N : List (D × D)} {j : Nat} {l : List Bool} (h : HoN ns ps f N j) (e : (afs ns.length)[j]? = some l) (hf : f (valF ns l) = false) : HoN ns ps f N (j + 1) := fun s => by
  rw [h s, take_snoc e]
  constructor
  · rintro ⟨l', a, b⟩; exact ⟨l', List.mem_append_left _ a, b⟩
  · rintro ⟨l', a, b, c⟩
    rcases List.mem_append.mp a with a | a
    · exact ⟨l', a, b, c⟩
    · rw [List.mem_singleton.mp a, hf] at b; cases b
theorem HoN.yes {ns ps : List Nat} {f : Fn} {N : List (D × D)} {j : Nat} {l : List Bool} {d : D} (h : HoN ns ps f N j) (e : (afs ns.length)[j]? = some l) (hf : f (valF ns l) = true) : HoN ns ps f (putN N (.tup ((bitsAt ps l).map bitD)) (bK (bitsAt ps l)) d) (j + 1) := fun s => by
  rw [valN_put nk_bits, take_snoc e]
  by_cases hs : bK s = bK (bitsAt ps l)
  · rw [if_pos hs]
    exact ⟨fun _ => ⟨l, List.mem_append_right _ (List.mem_singleton.mpr rfl), hf, (bK_inj hs).symm⟩, fun _ => rfl⟩
  · rw [if_neg hs, h s]
    constructor
    · rintro ⟨l', a, b⟩; exact ⟨l', List.mem_append_left _ a, b⟩
    · rintro ⟨l', a, b, c⟩
      rcases List.mem_append.mp a with a | a
      · exact ⟨l', a, b, c⟩
      · rw [List.mem_singleton.mp a] at c
        exact absurd (by rw [c]) hs
set_option maxHeartbeats 2000000
set_option maxHeartbeats 2000000
set_option maxHeartbeats 2000000
set_option maxHeartbeats 2000000
end VL
set_option Elab.async false
set_option linter.all false
set_option maxRecDepth 100000
set_option maxHeartbeats 2000000
namespace VL
open PySem PySem.Spec L2
/-- the numbers held are those of the truths -/
structure KvI (kvs : List (D × D)) (K : List Kf) : Prop where
  val : ∀ q : Kf, Dep q.1 q.2 → valN kvs (fmK q.1 (tbF q.1 q.2)) = (lookK K q).map nD
  len : kvs.length ≤ K.length
theorem nk_kf {q : Kf} : nkD (kfD q) = some (fmK q.1 (tbF q.1 q.2)) := nk_fm (ns := q.1) (m := tbF q.1 q.2)
theorem kf_inj {q p : Kf} (hq : Dep q.1 q.2) (hp : Dep p.1 p.2) (h : fmK q.1 (tbF q.1 q.2) = fmK p.1 (tbF p.1 p.2)) : q = p := by
  obtain ⟨a, b⟩ := fmK_inj h
  obtain ⟨n, f⟩ := q
  obtain ⟨m, g⟩ := p
  cases (show n = m from a)
  have e : f = g := tbF_inj hq hp b
  rw [e]
open Classical in
theorem look_put {K : List Kf} {q p : Kf} (h : lookK K q = none) : lookK (K ++ [q]) p = if p = q then some K.length else lookK K p := by
  unfold lookK at h ⊢
  rw [List.findIdx?_append]
  by_cases e : p = q
  · subst e
    rw [if_pos rfl, h]
    simp
  · rw [if_neg e]
    have : List.findIdx? (fun x => decide (x = p)) [q] = none := by
      rw [List.findIdx?_cons]
      have hne : ¬ q = p := fun z => e z.symm
      simp [hne]
    rw [this]; simp
theorem KvI.nil : KvI [] [] := ⟨fun q _ => rfl, Nat.le_refl _⟩
theorem KvI.put {kvs : List (D × D)} {K : List Kf} {q : Kf} (I : KvI kvs K) (d : Dep q.1 q.2) (h : lookK K q = none) : KvI (putN kvs (kfD q) (fmK q.1 (tbF q.1 q.2)) (nD K.length)) (K ++ [q]) := by
  refine ⟨fun p hp => ?_, ?_⟩
  · rw [valN_put nk_kf, look_put h]
    classical
    by_cases e : p = q
    · subst e
      rw [if_pos rfl, if_pos rfl]; rfl
    · rw [if_neg fun z => e (kf_inj hp d z), if_neg e, I.val p hp]
  · rw [List.length_append]
    have := putN_len (kvs := kvs) (d := kfD q) (v := nD K.length) (k := fmK q.1 (tbF q.1 q.2))
    have := I.len
    simp; omega
local macro_rules
  | `(tactic| simp only [VLY]) => `(tactic| simp only [sSeq, sIf, sSet, sSub, sRet, sRetN, sNil, sDrop, sAsg, sPar, sParT, sAug, cP, bB, bTr, bNt, bAn, bOr, po1, po2, poN, pArgs, poIf, poAn, poOr, poNt, poTup, plLst, plN, pl2, pl1, pFz, pV, pC, eP, eo1, eo2, eoN, aP, aNil, aCons, eAn, eOr, eNt, eIf, eFz, eNw, fP, fN, f2, f1, tTupE, tLstF, tTr, tTb, tAn, tOrr, tNt, tYs, eSeal, eMt, poMt, mPure, eCh, pCh, ok_bind, ok_map, ok_some, ok_none, ok_gd, ok_ite, List.getElem?_cons_zero, List.getElem?_cons_succ, List.set_cons_zero, List.set_cons_succ, Option.join_some, Option.bind_some, Option.map_some, Option.bind_none, Option.map_none, ix_ref, ix_tup, ix_lst, ix_bor, ix_scr, add_int, add_str, add_tup, sub_int, mul_int, fdiv_int, mod_int, pow_int, neg_int, lt_int, le_int, gt_int, ge_int, eq_int, eq_str, eq_bl, ne_int, ne_str, ne_bl, is_bl, isnt_bl, is_non, isnt_non, len_tup, len_lst, len_ref, len_bor, len_scr, int_bl, int_int, abs_int, min_int, max_int, blD_bl, cell_lst, cellA_lst, cellA_dk, st_ref, at_0, at_1, at_2, at_3, at_4, ixN_10, ixN_20, ixN_21, ixN_30, ixN_31, ixN_32, dataS_d, datas_nil, datas_cons, truth_bl, notD, intS, blS, nonB, List.length_cons, List.length_nil, Nat.reduceAdd, endsF_rt, endsF_nx, rvQ_d, rvQ_new, rvQ_newK, rv_d, rv_ref, rv_cl, rv_ck, okRef_d, okRef_ref, List.not_mem_nil, List.nil_append, true_and, and_true, List.take_succ_cons, List.take_zero, Nat.zero_add, decide_eq_true_eq, Bool.false_eq_true, if_false, if_true, callS, handS_n, handS_tr, handS_fr, handS_fd, handS_fb, cellsAt_c, cellsAt_0, Option.getD_some, backS_0, backS_1, eCall, tup_lst, tup_tup, tup_ref, fLc, iRg, rng_1, rng_2, wipeS_c, wipeS_n, iPq, iSq, seq_tup, seq_lst, seq_bor, lst_lst, lst_bor, gdS_d, gdS_b, sFor, gNm, gcS_c, gcS_n, gcO_d, gcO_n, mapp, rcv_0, rcv_1, rcv_l, gcO_r0, gcO_r1, gcO_z, seal_d, eq_self, List.take_nil, List.cons_append, poSl, poI, poNo, slD_t, intO_i, list_t, list_l, in_str2, ofS_inj, String.reduceEq, or_false, false_or, or_true, true_or, or_self, decide_true, decide_false, Bool.not_true, Bool.not_false, at_m1_2, at_m1_3, cut_2, cut_3, all_bls, any_bls, count_bls, lcg_nm, lcg_tp, lst_ref, laid_l, laid_b, laid_r, list_b, list_r, len_refI, lenOf_ref, rcv_2, rcv_3, rcv_b, slF_l, slF_b, slF_r, cat_l, repr_d, plSl, backS_2, List.mem_singleton, one_ne, if_false, callS, seal_r, Nat.le_refl, cat_get, cat_set, List.append_assoc, List.length_append, List.append_nil, at_ite, Nat.zero_le, iTq, tupD])
  | `(tactic| simp only [VLY, $xs,*]) => `(tactic| simp only [sSeq, sIf, sSet, sSub, sRet, sRetN, sNil, sDrop, sAsg, sPar, sParT, sAug, cP, bB, bTr, bNt, bAn, bOr, po1, po2, poN, pArgs, poIf, poAn, poOr, poNt, poTup, plLst, plN, pl2, pl1, pFz, pV, pC, eP, eo1, eo2, eoN, aP, aNil, aCons, eAn, eOr, eNt, eIf, eFz, eNw, fP, fN, f2, f1, tTupE, tLstF, tTr, tTb, tAn, tOrr, tNt, tYs, eSeal, eMt, poMt, mPure, eCh, pCh, ok_bind, ok_map, ok_some, ok_none, ok_gd, ok_ite, List.getElem?_cons_zero, List.getElem?_cons_succ, List.set_cons_zero, List.set_cons_succ, Option.join_some, Option.bind_some, Option.map_some, Option.bind_none, Option.map_none, ix_ref, ix_tup, ix_lst, ix_bor, ix_scr, add_int, add_str, add_tup, sub_int, mul_int, fdiv_int, mod_int, pow_int, neg_int, lt_int, le_int, gt_int, ge_int, eq_int, eq_str, eq_bl, ne_int, ne_str, ne_bl, is_bl, isnt_bl, is_non, isnt_non, len_tup, len_lst, len_ref, len_bor, len_scr, int_bl, int_int, abs_int, min_int, max_int, blD_bl, cell_lst, cellA_lst, cellA_dk, st_ref, at_0, at_1, at_2, at_3, at_4, ixN_10, ixN_20, ixN_21, ixN_30, ixN_31, ixN_32, dataS_d, datas_nil, datas_cons, truth_bl, notD, intS, blS, nonB, List.length_cons, List.length_nil, Nat.reduceAdd, endsF_rt, endsF_nx, rvQ_d, rvQ_new, rvQ_newK, rv_d, rv_ref, rv_cl, rv_ck, okRef_d, okRef_ref, List.not_mem_nil, List.nil_append, true_and, and_true, List.take_succ_cons, List.take_zero, Nat.zero_add, decide_eq_true_eq, Bool.false_eq_true, if_false, if_true, callS, handS_n, handS_tr, handS_fr, handS_fd, handS_fb, cellsAt_c, cellsAt_0, Option.getD_some, backS_0, backS_1, eCall, tup_lst, tup_tup, tup_ref, fLc, iRg, rng_1, rng_2, wipeS_c, wipeS_n, iPq, iSq, seq_tup, seq_lst, seq_bor, lst_lst, lst_bor, gdS_d, gdS_b, sFor, gNm, gcS_c, gcS_n, gcO_d, gcO_n, mapp, rcv_0, rcv_1, rcv_l, gcO_r0, gcO_r1, gcO_z, seal_d, eq_self, List.take_nil, List.cons_append, poSl, poI, poNo, slD_t, intO_i, list_t, list_l, in_str2, ofS_inj, String.reduceEq, or_false, false_or, or_true, true_or, or_self, decide_true, decide_false, Bool.not_true, Bool.not_false, at_m1_2, at_m1_3, cut_2, cut_3, all_bls, any_bls, count_bls, lcg_nm, lcg_tp, lst_ref, laid_l, laid_b, laid_r, list_b, list_r, len_refI, lenOf_ref, rcv_2, rcv_3, rcv_b, slF_l, slF_b, slF_r, cat_l, repr_d, plSl, backS_2, List.mem_singleton, one_ne, if_false, callS, seal_r, Nat.le_refl, cat_get, cat_set, List.append_assoc, List.length_append, List.append_nil, at_ite, Nat.zero_le, iTq, tupD, $xs,*])
end VL
set_option Elab.async false
set_option linter.all false
set_option maxRecDepth 100000
set_option maxHeartbeats 2000000
namespace VL
open PySem PySem.Spec L2
set_option maxHeartbeats 2000000
local macro_rules
  | `(tactic| simp only [VLY]) => `(tactic| simp only [sSeq, sIf, sSet, sSub, sRet, sRetN, sNil, sDrop, sAsg, sPar, sParT, sAug, cP, bB, bTr, bNt, bAn, bOr, po1, po2, poN, pArgs, poIf, poAn, poOr, poNt, poTup, plLst, plN, pl2, pl1, pFz, pV, pC, eP, eo1, eo2, eoN, aP, aNil, aCons, eAn, eOr, eNt, eIf, eFz, eNw, fP, fN, f2, f1, tTupE, tLstF, tTr, tTb, tAn, tOrr, tNt, tYs, eSeal, eMt, poMt, mPure, eCh, pCh, ok_bind, ok_map, ok_some, ok_none, ok_gd, ok_ite, List.getElem?_cons_zero, List.getElem?_cons_succ, List.set_cons_zero, List.set_cons_succ, Option.join_some, Option.bind_some, Option.map_some, Option.bind_none, Option.map_none, ix_ref, ix_tup, ix_lst, ix_bor, ix_scr, add_int, add_str, add_tup, sub_int, mul_int, fdiv_int, mod_int, pow_int, neg_int, lt_int, le_int, gt_int, ge_int, eq_int, eq_str, eq_bl, ne_int, ne_str, ne_bl, is_bl, isnt_bl, is_non, isnt_non, len_tup, len_lst, len_ref, len_bor, len_scr, int_bl, int_int, abs_int, min_int, max_int, blD_bl, cell_lst, cellA_lst, cellA_dk, st_ref, at_0, at_1, at_2, at_3, at_4, ixN_10, ixN_20, ixN_21, ixN_30, ixN_31, ixN_32, dataS_d, datas_nil, datas_cons, truth_bl, notD, intS, blS, nonB, List.length_cons, List.length_nil, Nat.reduceAdd, endsF_rt, endsF_nx, rvQ_d, rvQ_new, rvQ_newK, rv_d, rv_ref, rv_cl, rv_ck, okRef_d, okRef_ref, List.not_mem_nil, List.nil_append, true_and, and_true, List.take_succ_cons, List.take_zero, Nat.zero_add, decide_eq_true_eq, Bool.false_eq_true, if_false, if_true, callS, handS_n, handS_tr, handS_fr, handS_fd, handS_fb, cellsAt_c, cellsAt_0, Option.getD_some, backS_0, backS_1, eCall, tup_lst, tup_tup, tup_ref, fLc, iRg, rng_1, rng_2, wipeS_c, wipeS_n, iPq, iSq, seq_tup, seq_lst, seq_bor, lst_lst, lst_bor, gdS_d, gdS_b, sFor, gNm, gcS_c, gcS_n, gcO_d, gcO_n, mapp, rcv_0, rcv_1, rcv_l, gcO_r0, gcO_r1, gcO_z, seal_d, eq_self, List.take_nil, List.cons_append, poSl, poI, poNo, slD_t, intO_i, list_t, list_l, in_str2, ofS_inj, String.reduceEq, or_false, false_or, or_true, true_or, or_self, decide_true, decide_false, Bool.not_true, Bool.not_false, at_m1_2, at_m1_3, cut_2, cut_3, all_bls, any_bls, count_bls, lcg_nm, lcg_tp, lst_ref, laid_l, laid_b, laid_r, list_b, list_r, len_refI, lenOf_ref, rcv_2, rcv_3, rcv_b, slF_l, slF_b, slF_r, cat_l, repr_d, plSl, backS_2, List.mem_singleton, one_ne, if_false, callS, seal_r, Nat.le_refl, cat_get, cat_set, List.append_assoc, List.length_append, List.append_nil, at_ite, Nat.zero_le, iTq, tupD])
  | `(tactic| simp only [VLY, $xs,*]) => `(tactic| simp only [sSeq, sIf, sSet, sSub, sRet, sRetN, sNil, sDrop, sAsg, sPar, sParT, sAug, cP, bB, bTr, bNt, bAn, bOr, po1, po2, poN, pArgs, poIf, poAn, poOr, poNt, poTup, plLst, plN, pl2, pl1, pFz, pV, pC, eP, eo1, eo2, eoN, aP, aNil, aCons, eAn, eOr, eNt, eIf, eFz, eNw, fP, fN, f2, f1, tTupE, tLstF, tTr, tTb, tAn, tOrr, tNt, tYs, eSeal, eMt, poMt, mPure, eCh, pCh, ok_bind, ok_map, ok_some, ok_none, ok_gd, ok_ite, List.getElem?_cons_zero, List.getElem?_cons_succ, List.set_cons_zero, List.set_cons_succ, Option.join_some, Option.bind_some, Option.map_some, Option.bind_none, Option.map_none, ix_ref, ix_tup, ix_lst, ix_bor, ix_scr, add_int, add_str, add_tup, sub_int, mul_int, fdiv_int, mod_int, pow_int, neg_int, lt_int, le_int, gt_int, ge_int, eq_int, eq_str, eq_bl, ne_int, ne_str, ne_bl, is_bl, isnt_bl, is_non, isnt_non, len_tup, len_lst, len_ref, len_bor, len_scr, int_bl, int_int, abs_int, min_int, max_int, blD_bl, cell_lst, cellA_lst, cellA_dk, st_ref, at_0, at_1, at_2, at_3, at_4, ixN_10, ixN_20, ixN_21, ixN_30, ixN_31, ixN_32, dataS_d, datas_nil, datas_cons, truth_bl, notD, intS, blS, nonB, List.length_cons, List.length_nil, Nat.reduceAdd, endsF_rt, endsF_nx, rvQ_d, rvQ_new, rvQ_newK, rv_d, rv_ref, rv_cl, rv_ck, okRef_d, okRef_ref, List.not_mem_nil, List.nil_append, true_and, and_true, List.take_succ_cons, List.take_zero, Nat.zero_add, decide_eq_true_eq, Bool.false_eq_true, if_false, if_true, callS, handS_n, handS_tr, handS_fr, handS_fd, handS_fb, cellsAt_c, cellsAt_0, Option.getD_some, backS_0, backS_1, eCall, tup_lst, tup_tup, tup_ref, fLc, iRg, rng_1, rng_2, wipeS_c, wipeS_n, iPq, iSq, seq_tup, seq_lst, seq_bor, lst_lst, lst_bor, gdS_d, gdS_b, sFor, gNm, gcS_c, gcS_n, gcO_d, gcO_n, mapp, rcv_0, rcv_1, rcv_l, gcO_r0, gcO_r1, gcO_z, seal_d, eq_self, List.take_nil, List.cons_append, poSl, poI, poNo, slD_t, intO_i, list_t, list_l, in_str2, ofS_inj, String.reduceEq, or_false, false_or, or_true, true_or, or_self, decide_true, decide_false, Bool.not_true, Bool.not_false, at_m1_2, at_m1_3, cut_2, cut_3, all_bls, any_bls, count_bls, lcg_nm, lcg_tp, lst_ref, laid_l, laid_b, laid_r, list_b, list_r, len_refI, lenOf_ref, rcv_2, rcv_3, rcv_b, slF_l, slF_b, slF_r, cat_l, repr_d, plSl, backS_2, List.mem_singleton, one_ne, if_false, callS, seal_r, Nat.le_refl, cat_get, cat_set, List.append_assoc, List.length_append, List.append_nil, at_ite, Nat.zero_le, iTq, tupD, $xs,*])
set_option maxHeartbeats 2000000
set_option maxHeartbeats 2000000
set_option maxHeartbeats 2000000
set_option maxHeartbeats 2000000
set_option maxHeartbeats 2000000
set_option maxHeartbeats 2000000
def sp_order : SpD := fun as M Q => ∃ (ds : List D) (b n : Nat), as = [.ref 0, .d (.int (n : Int))] ∧ M = [.lst ds] ∧ Tp b ds ∧ b + n + 10 < 1099511627776 ∧ n ≤ 1000 ∧
  ∀ (ks : List Nat) (ds' : List D), ks.Perm (List.range n) → Tp (b + n + 1) ds' → Q (.d (.lst (ks.map nD))) [.lst ds']
def r_order (sp__law_take : SpD) (sp__law_mixed : SpD) : TS' :=
  (sRet (eIf (tTb (eo2 eqD (eCall [true, false] sp__law_take (aP [(pV 0), (pC (.int 3))])) (eP (pC (.int 0))))) (eP (pFz (plN rgLF [(pV 1)]))) (eSeal 1 (eCall [true, false] sp__law_mixed (aP [(pV 0), (pFz (plN rgLF [(pV 1)]))])))))
theorem or_rg {M : Mem} {n : Nat} (h : n ≤ 1000) : rgLF M [.d (.int (n : Int))] = some ((List.range n).map nD) := by
  have e : rgLF M [.d (.int (n : Int))] = gd (-(2 ^ 62) ≤ (n : Int) ∧ (n : Int) ≤ 16777216) (rgL 0 ((n : Int)).toNat) := rfl
  rw [e, gd_pos (by omega), Int.toNat_natCast, rgL_nats]
theorem pure_order (as : List Sv) (M : Mem) (Q : Rv → Mem → Prop) (h : sp_order as M Q) : r_order sp_take sp_mixed (endsF M.length Q) (startD 2 as) M := by
  obtain ⟨ds, b, n, rfl, rfl, t, hb, hn, z⟩ := h
  show r_order sp_take sp_mixed (endsF 1 Q) [some (.ref 0), some (.d (.int (n : Int)))] [.lst ds]
  have er : ∀ M : Mem, rgLF M [.d (.int (n : Int))] = some ((List.range n).map nD) := fun M => or_rg hn
  unfold r_order
  generalize rgLF = RG at er ⊢
  simp only [VLY, er]
  refine take_ok t (by omega) (by decide) (by decide) fun v dt v0 v1 t1 => ?_
  simp only [VLY]
  refine ite_of (fun _ => ?_) fun _ => ?_
  · exact z _ dt (List.Perm.refl _) (t1.mono (by omega))
  · refine ⟨dt, b + 1, _, (List.range n).map nD, rfl, .inl rfl, rfl, t1, by simp; omega, by simp; omega, (fun x hx => ?_), fun ys dt2 hp t2 => ?_⟩
    · obtain ⟨p, _, rfl⟩ := List.mem_map.mp hx
      exact EqOk.int
    · obtain ⟨ks, hks, rfl⟩ := perm_nD hp
      rw [List.length_map, List.length_range] at t2
      simp only [VLY, sealD]
      exact z ks dt2 hks (t2.mono (by omega))
set_option maxHeartbeats 2000000
set_option maxHeartbeats 2000000
set_option maxHeartbeats 2000000
set_option maxHeartbeats 2000000
set_option maxHeartbeats 2000000
set_option maxHeartbeats 2000000
set_option maxHeartbeats 2000000
end VL
set_option Elab.async false
set_option linter.all false
set_option maxRecDepth 100000
namespace VL
open PySem PySem.Spec L2
theorem q_sSeq (t u : TS') (E : _) (δ : _) (M : _) : sSeq t u E δ M = t { E with nx := fun δ' M' => u E δ' M' } δ M := rfl
theorem q_sIf (c : TT') (t u : TS') (E : _) (δ : _) (M : _) : sIf c t u E δ M = c δ M fun b M' => if b then t E δ M' else u E δ M' := rfl
theorem q_sSet (i : Nat) (t : TE') (E : _) (δ : _) (M : _) : sSet i t E δ M = t δ M fun d M' => E.nx (δ.set i (some d)) M' := rfl
theorem q_sSub (te to ti : TE') (E : _) (δ : _) (M : _) : sSub te to ti E δ M = te δ M fun s M1 => ok (dataS s) fun d => to δ M1 fun o M2 => ti δ M2 fun i M3 => stD o i d M3 fun M4 => E.nx δ M4 := rfl
theorem q_sRet (t : TE') (E : _) (δ : _) (M : _) : sRet t E δ M = t δ M fun d M' => E.rt d M' := rfl
theorem q_sRetN  (E : _) (δ : _) (M : _) : sRetN E δ M = E.rt (.d .non) M := rfl
theorem q_sNil  (E : _) (δ : _) (M : _) : sNil E δ M = E.nx δ M := rfl
theorem q_sDrop (t : TE') (E : _) (δ : _) (M : _) : sDrop t E δ M = t δ M fun _ M' => E.nx δ M' := rfl
theorem q_sAsg (t : TE') (g : TG') (E : _) (δ : _) (M : _) : sAsg t g E δ M = t δ M fun s M' => ok (dataS s) fun d => g d δ M' E.nx := rfl
theorem q_sParT (is : List Nat) (tA : TA') (E : _) (δ : _) (M : _) : sParT is tA E δ M = tA δ M fun xs M1 => ok (setAllS is xs δ) fun δ' => E.nx δ' M1 := rfl
theorem q_sAug (i : Nat) (f : Mem → Sv → Sv → Option Sv) (te : TE') (E : _) (δ : _) (M : _) : sAug i f te E δ M = ok (δ[i]?).join fun x => te δ M fun y M1 => ok (f M1 x y) fun z => E.nx (δ.set i (some z)) M1 := rfl
theorem q_cP (p : PB) (δ : _) (M : _) (Q : _) : cP p δ M Q = ok (p δ M) fun b => Q b M := rfl
theorem q_bB (p : PV) (δ : _) (M : _) : bB p δ M = (p δ M).bind blD := rfl
theorem q_bTr (p : PV) (δ : _) (M : _) : bTr p δ M = (p δ M).bind (truth M) := rfl
theorem q_bNt (p : PB) (δ : _) (M : _) : bNt p δ M = (p δ M).map fun b => !b := rfl
theorem q_bAn (p q : PB) (δ : _) (M : _) : bAn p q δ M = (p δ M).bind fun b => if b then q δ M else some false := rfl
theorem q_bOr (p q : PB) (δ : _) (M : _) : bOr p q δ M = (p δ M).bind fun b => if b then some true else q δ M := rfl
theorem q_po1 (f : Mem → Sv → Option Sv) (a : PV) (δ : _) (M : _) : po1 f a δ M = (a δ M).bind (f M) := rfl
theorem q_po2 (f : Mem → Sv → Sv → Option Sv) (a b : PV) (δ : _) (M : _) : po2 f a b δ M = (a δ M).bind fun x => (b δ M).bind fun y => f M x y := rfl
theorem q_poN (f : Mem → List Sv → Option Sv) (ps : List PV) (δ : _) (M : _) : poN f ps δ M = (pArgs ps δ M).bind (f M) := rfl
theorem q_poIf (t : PB) (a b : PV) (δ : _) (M : _) : poIf t a b δ M = (t δ M).bind fun k => if k then a δ M else b δ M := rfl
theorem q_poAn (a b : PV) (δ : _) (M : _) : poAn a b δ M = (a δ M).bind fun x => (truth M x).bind fun k => if k then b δ M else some x := rfl
theorem q_poOr (a b : PV) (δ : _) (M : _) : poOr a b δ M = (a δ M).bind fun x => (truth M x).bind fun k => if k then some x else b δ M := rfl
theorem q_poNt (a : PV) (δ : _) (M : _) : poNt a δ M = (a δ M).bind fun x => (truth M x).map fun k => blS (!k) := rfl
theorem q_poTup (ps : List PV) (δ : _) (M : _) : poTup ps δ M = ((pArgs ps δ M).bind datas).map fun ds => .d (.tup ds) := rfl
theorem q_plLst (ps : List PV) (δ : _) (M : _) : plLst ps δ M = (pArgs ps δ M).bind datas := rfl
theorem q_plN (f : Mem → List Sv → Option (List D)) (ps : List PV) (δ : _) (M : _) : plN f ps δ M = (pArgs ps δ M).bind (f M) := rfl
theorem q_pl2 (f : Mem → Sv → Sv → Option (List D)) (a b : PV) (δ : _) (M : _) : pl2 f a b δ M = (a δ M).bind fun x => (b δ M).bind fun y => f M x y := rfl
theorem q_pl1 (f : Mem → Sv → Option (List D)) (a : PV) (δ : _) (M : _) : pl1 f a δ M = (a δ M).bind (f M) := rfl
theorem q_pFz (p : PL) (δ : _) (M : _) : pFz p δ M = (p δ M).map fun ds => .d (.lst ds) := rfl
theorem q_pV (i : Nat) (δ : _) (z1 : _) : pV i δ z1 = (δ[i]?).join := rfl
theorem q_pC (d : D) (z1 : _) (z2 : _) : pC d z1 z2 = some (.d d) := rfl
theorem q_eP (p : PV) (δ : _) (M : _) (Q : _) : eP p δ M Q = ok (p δ M) fun d => Q d M := rfl
theorem q_eo1 (f : Mem → Sv → Option Sv) (ta : TE') (δ : _) (M : _) (Q : _) : eo1 f ta δ M Q = ta δ M fun x M1 => ok (f M1 x) fun d => Q d M1 := rfl
theorem q_eo2 (f : Mem → Sv → Sv → Option Sv) (ta tb : TE') (δ : _) (M : _) (Q : _) : eo2 f ta tb δ M Q = ta δ M fun x M1 => tb δ M1 fun y M2 => ok (f M2 x y) fun d => Q d M2 := rfl
theorem q_eoN (f : Mem → List Sv → Option Sv) (t : TA') (δ : _) (M : _) (Q : _) : eoN f t δ M Q = t δ M fun xs M1 => ok (f M1 xs) fun d => Q d M1 := rfl
theorem q_aP (ps : List PV) (δ : _) (M : _) (Q : _) : aP ps δ M Q = ok (pArgs ps δ M) fun ds => Q ds M := rfl
theorem q_aNil  (z1 : _) (M : _) (Q : _) : aNil z1 M Q = Q [] M := rfl
theorem q_aCons (t : TE') (r : TA') (δ : _) (M : _) (Q : _) : aCons t r δ M Q = t δ M fun d M1 => r δ M1 fun ds M2 => Q (d :: ds) M2 := rfl
theorem q_eAn (ta tb : TE') (δ : _) (M : _) (Q : _) : eAn ta tb δ M Q = ta δ M fun x M1 => ok (truth M1 x) fun k => if k then tb δ M1 Q else Q x M1 := rfl
theorem q_eOr (ta tb : TE') (δ : _) (M : _) (Q : _) : eOr ta tb δ M Q = ta δ M fun x M1 => ok (truth M1 x) fun k => if k then Q x M1 else tb δ M1 Q := rfl
theorem q_eNt (ta : TE') (δ : _) (M : _) (Q : _) : eNt ta δ M Q = ta δ M fun x M1 => ok (truth M1 x) fun k => Q (blS (!k)) M1 := rfl
theorem q_eIf (t : TT') (ta tb : TE') (δ : _) (M : _) (Q : _) : eIf t ta tb δ M Q = t δ M fun b M1 => if b then ta δ M1 Q else tb δ M1 Q := rfl
theorem q_eFz (t : TF') (δ : _) (M : _) (Q : _) : eFz t δ M Q = t δ M fun ds M' => Q (.d (.lst ds)) M' := rfl
theorem q_eNw (t : TF') (δ : _) (M : _) (Q : _) : eNw t δ M Q = t δ M fun ds M' => Q (.ref M'.length) (M' ++ [.lst ds]) := rfl
theorem q_fP (p : PL) (δ : _) (M : _) (Q : _) : fP p δ M Q = ok (p δ M) fun ds => Q ds M := rfl
theorem q_fN (f : Mem → List Sv → Option (List D)) (t : TA') (δ : _) (M : _) (Q : _) : fN f t δ M Q = t δ M fun xs M1 => ok (f M1 xs) fun ds => Q ds M1 := rfl
theorem q_f2 (f : Mem → Sv → Sv → Option (List D)) (ta tb : TE') (δ : _) (M : _) (Q : _) : f2 f ta tb δ M Q = ta δ M fun x M1 => tb δ M1 fun y M2 => ok (f M2 x y) fun ds => Q ds M2 := rfl
theorem q_f1 (f : Mem → Sv → Option (List D)) (ta : TE') (δ : _) (M : _) (Q : _) : f1 f ta δ M Q = ta δ M fun x M1 => ok (f M1 x) fun ds => Q ds M1 := rfl
theorem q_tTupE (t : TA') (δ : _) (M : _) (Q : _) : tTupE t δ M Q = t δ M fun xs M1 => ok (datas xs) fun ds => Q (.d (.tup ds)) M1 := rfl
theorem q_tLstF (t : TA') (δ : _) (M : _) (Q : _) : tLstF t δ M Q = t δ M fun xs M1 => ok (datas xs) fun ds => Q ds M1 := rfl
theorem q_tTr (t : TE') (δ : _) (M : _) (Q : _) : tTr t δ M Q = t δ M fun d M' => ok (truth M' d) fun b => Q b M' := rfl
theorem q_tTb (t : TE') (δ : _) (M : _) (Q : _) : tTb t δ M Q = t δ M fun d M' => ok (blD d) fun b => Q b M' := rfl
theorem q_tAn (t u : TT') (δ : _) (M : _) (Q : _) : tAn t u δ M Q = t δ M fun b M' => if b then u δ M' Q else Q false M' := rfl
theorem q_tOrr (t u : TT') (δ : _) (M : _) (Q : _) : tOrr t u δ M Q = t δ M fun b M' => if b then Q true M' else u δ M' Q := rfl
theorem q_tNt (t : TT') (δ : _) (M : _) (Q : _) : tNt t δ M Q = t δ M fun b M' => Q (!b) M' := rfl
theorem q_tYs  (z1 : _) (M : _) (Q : _) : tYs z1 M Q = Q true M := rfl
theorem q_eSeal (m0 : Nat) (t : TE') (δ : _) (M : _) (Q : _) : eSeal m0 t δ M Q = t δ M fun d M1 => ok (sealD m0 M1 d) fun r => Q r.1 r.2 := rfl
theorem q_eMt (T : String) (f : Mt) (to : TE') (tA : TA') (δ : _) (M : _) (Q : _) : eMt T f to tA δ M Q = to δ M fun o M1 => rcv M1 o = some T ∧ tA δ M1 fun xs M2 => f o xs M2 Q := rfl
theorem q_poMt (T : String) (f : Mem → Sv → List Sv → Option Sv) (a : PV) (ps : List PV) (δ : _) (M : _) : poMt T f a ps δ M = (a δ M).bind fun o => (gd (rcv M o = some T) ()).bind fun _ => (pArgs ps δ M).bind fun xs => f M o xs := rfl
theorem q_mPure (f : Mem → Sv → List Sv → Option Sv) (o : _) (xs : _) (M : _) (Q : _) : mPure f o xs M Q = ok (f M o xs) fun d => Q d M := rfl
theorem q_eCh (f g : Mem → Sv → Sv → Option Sv) (ta tb tc : TE') (δ : _) (M : _) (Q : _) : eCh f g ta tb tc δ M Q = ta δ M fun x M1 => tb δ M1 fun y M2 => ok ((f M2 x y).bind blD) fun k => if k then tc δ M2 fun z M3 => ok (g M3 y z) fun d => Q d M3 else Q (.d (.bl false)) M2 := rfl
theorem q_pCh (f g : Mem → Sv → Sv → Option Sv) (a b c : PV) (δ : _) (M : _) : pCh f g a b c δ M = (a δ M).bind fun x => (b δ M).bind fun y => ((f M x y).bind blD).bind fun k => if k then (c δ M).bind fun z => g M y z else some (.d (.bl false)) := rfl
theorem q_eCall (ms : List Bool) (sp : SpD) (tA : TA') (δ : _) (M : _) (Q : _) : eCall ms sp tA δ M Q = tA δ M fun xs M1 => callS ms sp M1 xs (rvQ Q) := rfl
theorem q_fLc (it : TI') (g : LcG) (tt : TT') (te : TE') (vs : List Nat) (δ : _) (M : _) (Q : _) : fLc it g tt te vs δ M Q = it δ M fun ds gd M1 => lcL g.to tt te (wipeS δ vs) gd Q ds [] M1 := rfl
theorem q_iRg (bd : Bool) (t : TA') (δ : _) (M : _) (Q : _) : iRg bd t δ M Q = t δ M fun xs M1 => rngD xs fun ds => (bd = true → ds.length ≤ sizeLine) ∧ Q ds gdT M1 := rfl
theorem q_iPq (p : PV) (δ : _) (M : _) (Q : _) : iPq p δ M Q = ok (p δ M) fun s => ok (seqD M s) fun ds => Q ds (gdS s ds) M := rfl
theorem q_iSq (t : TE') (δ : _) (M : _) (Q : _) : iSq t δ M Q = t δ M fun s M1 => ok (lstD M1 s) fun ds => Q ds (gdS s ds) M1 := rfl
theorem q_sFor (it : TI') (g : TG') (b : TS') (E : _) (δ : _) (M : _) : sFor it g b E δ M = it δ M fun ds gd M' => forL M'.length g b E gd ds δ M' := rfl
theorem q_gNm (i : Nat) (d : _) (δ : _) (M : _) (Q : _) : gNm i d δ M Q = Q (δ.set i (some (.d d))) M := rfl
theorem q_poSl (a : PV) (lo hi : PO') (δ : _) (M : _) : poSl a lo hi δ M = (a δ M).bind fun s => (lo δ M).bind fun l => (hi δ M).bind fun h => slD M s l h := rfl
theorem q_poI (p : PV) (δ : _) (M : _) : poI p δ M = (p δ M).bind intO := rfl
theorem q_poNo  (z1 : _) (z2 : _) : poNo z1 z2 = some none := rfl
theorem q_plSl (a : PV) (lo hi : PO') (δ : _) (M : _) : plSl a lo hi δ M = (a δ M).bind fun s => (lo δ M).bind fun l => (hi δ M).bind fun h => slF M s l h := rfl
theorem q_iTq (t : TE') (δ : _) (M : _) (Q : _) : iTq t δ M Q = t δ M fun s M1 => ok (tupD s) fun ds => Q ds gdT M1 := rfl
end VL
set_option Elab.async false
set_option linter.all false
set_option maxRecDepth 100000
set_option maxHeartbeats 2000000
namespace VL
open PySem PySem.Spec L2
def b2 : Nat → Nat
  | 0 => 0
  | m + 1 => 2 ^ m - 1
end VL
set_option Elab.async false
set_option linter.all false
set_option maxRecDepth 100000
set_option maxHeartbeats 2000000
namespace VL
open PySem PySem.Spec L2
set_option maxHeartbeats 2000000
set_option maxHeartbeats 2000000
local macro_rules
  | `(tactic| simp only [VLY]) => `(tactic| simp only [sSeq, sIf, sSet, sSub, sRet, sRetN, sNil, sDrop, sAsg, sPar, sParT, sAug, cP, bB, bTr, bNt, bAn, bOr, po1, po2, poN, pArgs, poIf, poAn, poOr, poNt, poTup, plLst, plN, pl2, pl1, pFz, pV, pC, eP, eo1, eo2, eoN, aP, aNil, aCons, eAn, eOr, eNt, eIf, eFz, eNw, fP, fN, f2, f1, tTupE, tLstF, tTr, tTb, tAn, tOrr, tNt, tYs, eSeal, eMt, poMt, mPure, eCh, pCh, ok_bind, ok_map, ok_some, ok_none, ok_gd, ok_ite, List.getElem?_cons_zero, List.getElem?_cons_succ, List.set_cons_zero, List.set_cons_succ, Option.join_some, Option.bind_some, Option.map_some, Option.bind_none, Option.map_none, ix_ref, ix_tup, ix_lst, ix_bor, ix_scr, add_int, add_str, add_tup, sub_int, mul_int, fdiv_int, mod_int, pow_int, neg_int, lt_int, le_int, gt_int, ge_int, eq_int, eq_str, eq_bl, ne_int, ne_str, ne_bl, is_bl, isnt_bl, is_non, isnt_non, len_tup, len_lst, len_ref, len_bor, len_scr, int_bl, int_int, abs_int, min_int, max_int, blD_bl, cell_lst, cellA_lst, cellA_dk, st_ref, at_0, at_1, at_2, at_3, at_4, ixN_10, ixN_20, ixN_21, ixN_30, ixN_31, ixN_32, dataS_d, datas_nil, datas_cons, truth_bl, notD, intS, blS, nonB, List.length_cons, List.length_nil, Nat.reduceAdd, endsF_rt, endsF_nx, rvQ_d, rvQ_new, rvQ_newK, rv_d, rv_ref, rv_cl, rv_ck, okRef_d, okRef_ref, List.not_mem_nil, List.nil_append, true_and, and_true, List.take_succ_cons, List.take_zero, Nat.zero_add, decide_eq_true_eq, Bool.false_eq_true, if_false, if_true, callS, handS_n, handS_tr, handS_fr, handS_fd, handS_fb, cellsAt_c, cellsAt_0, Option.getD_some, backS_0, backS_1, eCall, tup_lst, tup_tup, tup_ref, fLc, iRg, rng_1, rng_2, wipeS_c, wipeS_n, iPq, iSq, seq_tup, seq_lst, seq_bor, lst_lst, lst_bor, gdS_d, gdS_b, sFor, gNm, gcS_c, gcS_n, gcO_d, gcO_n, mapp, rcv_0, rcv_1, rcv_l, gcO_r0, gcO_r1, gcO_z, seal_d, eq_self, List.take_nil, List.cons_append, poSl, poI, poNo, slD_t, intO_i, list_t, list_l, in_str2, ofS_inj, String.reduceEq, or_false, false_or, or_true, true_or, or_self, decide_true, decide_false, Bool.not_true, Bool.not_false, at_m1_2, at_m1_3, cut_2, cut_3, all_bls, any_bls, count_bls, lcg_nm, lcg_tp, lst_ref, laid_l, laid_b, laid_r, list_b, list_r, len_refI, lenOf_ref, rcv_2, rcv_3, rcv_b, slF_l, slF_b, slF_r, cat_l, repr_d, plSl, backS_2, List.mem_singleton, one_ne, if_false, callS, seal_r, Nat.le_refl, cat_get, cat_set, List.append_assoc, List.length_append, List.append_nil, at_ite, Nat.zero_le, iTq, tupD])
  | `(tactic| simp only [VLY, $xs,*]) => `(tactic| simp only [sSeq, sIf, sSet, sSub, sRet, sRetN, sNil, sDrop, sAsg, sPar, sParT, sAug, cP, bB, bTr, bNt, bAn, bOr, po1, po2, poN, pArgs, poIf, poAn, poOr, poNt, poTup, plLst, plN, pl2, pl1, pFz, pV, pC, eP, eo1, eo2, eoN, aP, aNil, aCons, eAn, eOr, eNt, eIf, eFz, eNw, fP, fN, f2, f1, tTupE, tLstF, tTr, tTb, tAn, tOrr, tNt, tYs, eSeal, eMt, poMt, mPure, eCh, pCh, ok_bind, ok_map, ok_some, ok_none, ok_gd, ok_ite, List.getElem?_cons_zero, List.getElem?_cons_succ, List.set_cons_zero, List.set_cons_succ, Option.join_some, Option.bind_some, Option.map_some, Option.bind_none, Option.map_none, ix_ref, ix_tup, ix_lst, ix_bor, ix_scr, add_int, add_str, add_tup, sub_int, mul_int, fdiv_int, mod_int, pow_int, neg_int, lt_int, le_int, gt_int, ge_int, eq_int, eq_str, eq_bl, ne_int, ne_str, ne_bl, is_bl, isnt_bl, is_non, isnt_non, len_tup, len_lst, len_ref, len_bor, len_scr, int_bl, int_int, abs_int, min_int, max_int, blD_bl, cell_lst, cellA_lst, cellA_dk, st_ref, at_0, at_1, at_2, at_3, at_4, ixN_10, ixN_20, ixN_21, ixN_30, ixN_31, ixN_32, dataS_d, datas_nil, datas_cons, truth_bl, notD, intS, blS, nonB, List.length_cons, List.length_nil, Nat.reduceAdd, endsF_rt, endsF_nx, rvQ_d, rvQ_new, rvQ_newK, rv_d, rv_ref, rv_cl, rv_ck, okRef_d, okRef_ref, List.not_mem_nil, List.nil_append, true_and, and_true, List.take_succ_cons, List.take_zero, Nat.zero_add, decide_eq_true_eq, Bool.false_eq_true, if_false, if_true, callS, handS_n, handS_tr, handS_fr, handS_fd, handS_fb, cellsAt_c, cellsAt_0, Option.getD_some, backS_0, backS_1, eCall, tup_lst, tup_tup, tup_ref, fLc, iRg, rng_1, rng_2, wipeS_c, wipeS_n, iPq, iSq, seq_tup, seq_lst, seq_bor, lst_lst, lst_bor, gdS_d, gdS_b, sFor, gNm, gcS_c, gcS_n, gcO_d, gcO_n, mapp, rcv_0, rcv_1, rcv_l, gcO_r0, gcO_r1, gcO_z, seal_d, eq_self, List.take_nil, List.cons_append, poSl, poI, poNo, slD_t, intO_i, list_t, list_l, in_str2, ofS_inj, String.reduceEq, or_false, false_or, or_true, true_or, or_self, decide_true, decide_false, Bool.not_true, Bool.not_false, at_m1_2, at_m1_3, cut_2, cut_3, all_bls, any_bls, count_bls, lcg_nm, lcg_tp, lst_ref, laid_l, laid_b, laid_r, list_b, list_r, len_refI, lenOf_ref, rcv_2, rcv_3, rcv_b, slF_l, slF_b, slF_r, cat_l, repr_d, plSl, backS_2, List.mem_singleton, one_ne, if_false, callS, seal_r, Nat.le_refl, cat_get, cat_set, List.append_assoc, List.length_append, List.append_nil, at_ite, Nat.zero_le, iTq, tupD, $xs,*])
set_option maxHeartbeats 2000000
set_option maxHeartbeats 2000000
set_option maxHeartbeats 2000000
set_option maxHeartbeats 2000000
set_option maxHeartbeats 2000000
set_option maxHeartbeats 2000000
set_option maxHeartbeats 2000000
theorem lc_gf {α : Type} {g : TG'} {tt : TT'} {te : TE'} {δw : DS} {gd : Mem → Prop} {Q : List D → Mem → Prop} {e f : α → D} {p : α → Bool} {M : Mem} (hg : gd M) : ∀ {l : List α} {acc : List D},
    (∀ x ∈ l, ∀ (R1 : QD) (R2 : Mem → Prop), (p x = true → R1 (.d (f x)) M) → (p x = false → R2 M) → g (e x) δw M fun δ2 M2 => tt δ2 M2 fun b M3 => if b then te δ2 M3 R1 else R2 M3) → Q (acc ++ (l.filter p).map f) M → lcL g tt te δw gd Q (l.map e) acc M
  | [], acc, h, q => ⟨hg, by simpa using q⟩
  | d :: ds, acc, h, q => by
    refine ⟨hg, h d List.mem_cons_self _ _ (fun e => ?_) (fun e => ?_)⟩
    · show ok (some (f d)) _
      rw [ok_some]
      refine lc_gf hg (fun x hx => h x (List.mem_cons_of_mem _ hx)) ?_
      rw [List.filter_cons_of_pos e, List.map_cons] at q
      rw [List.append_assoc]; exact q
    · refine lc_gf hg (fun x hx => h x (List.mem_cons_of_mem _ hx)) ?_
      rw [List.filter_cons_of_neg (by rw [e]; decide)] at q
      exact q
theorem lc_gm {α : Type} {g : TG'} {te : TE'} {δw : DS} {gd : Mem → Prop} {Q : List D → Mem → Prop} {e f : α → D} {M : Mem} (hg : gd M) : ∀ {l : List α} {acc : List D},
    (∀ x ∈ l, ∀ R : QD, R (.d (f x)) M → g (e x) δw M fun δ2 M2 => te δ2 M2 R) → Q (acc ++ l.map f) M → lcL g tYs te δw gd Q (l.map e) acc M
  | [], acc, h, q => ⟨hg, by simpa using q⟩
  | d :: ds, acc, h, q => by
    refine ⟨hg, h d List.mem_cons_self _ ?_⟩
    show ok (some (f d)) _
    rw [ok_some]
    refine lc_gm hg (fun x hx => h x (List.mem_cons_of_mem _ hx)) ?_
    rw [List.map_cons] at q
    rw [List.append_assoc]; exact q
set_option maxHeartbeats 2000000
structure SpO (ks some_ others : List Nat) (f : Fn) : Prop where
  nd : ks.Nodup
  lt : ∀ p ∈ some_ ++ others, p < ks.length
  no : (some_ ++ others).Nodup
  dep : Dep (atP ks (some_ ++ others)) f
theorem SpO.all {ks A B : List Nat} {f : Fn} (O : SpO ks A B f) : (atP ks (A ++ B)).Nodup := getD_nodup O.nd O.lt O.no
set_option maxHeartbeats 2000000
local macro_rules
  | `(tactic| simp only [VLQ]) => `(tactic| simp -implicitDefEqProofs only [q_sSeq, q_sIf, q_sSet, q_sSub, q_sRet, q_sRetN, q_sNil, q_sDrop, q_sAsg, sPar, q_sParT, q_sAug, q_cP, q_bB, q_bTr, q_bNt, q_bAn, q_bOr, q_po1, q_po2, q_poN, pArgs, q_poIf, q_poAn, q_poOr, q_poNt, q_poTup, q_plLst, q_plN, q_pl2, q_pl1, q_pFz, q_pV, q_pC, q_eP, q_eo1, q_eo2, q_eoN, q_aP, q_aNil, q_aCons, q_eAn, q_eOr, q_eNt, q_eIf, q_eFz, q_eNw, q_fP, q_fN, q_f2, q_f1, q_tTupE, q_tLstF, q_tTr, q_tTb, q_tAn, q_tOrr, q_tNt, q_tYs, q_eSeal, q_eMt, q_poMt, q_mPure, q_eCh, q_pCh, ok_bind, ok_map, ok_some, ok_none, ok_gd, ok_ite, List.getElem?_cons_zero, List.getElem?_cons_succ, List.set_cons_zero, List.set_cons_succ, Option.join_some, Option.bind_some, Option.map_some, Option.bind_none, Option.map_none, ix_ref, ix_tup, ix_lst, ix_bor, ix_scr, add_int, add_str, add_tup, sub_int, mul_int, fdiv_int, mod_int, pow_int, neg_int, lt_int, le_int, gt_int, ge_int, eq_int, eq_str, eq_bl, ne_int, ne_str, ne_bl, is_bl, isnt_bl, is_non, isnt_non, len_tup, len_lst, len_ref, len_bor, len_scr, int_bl, int_int, abs_int, min_int, max_int, blD_bl, cell_lst, cellA_lst, cellA_dk, st_ref, at_0, at_1, at_2, at_3, at_4, ixN_10, ixN_20, ixN_21, ixN_30, ixN_31, ixN_32, dataS_d, datas_nil, datas_cons, truth_bl, notD, intS, blS, nonB, List.length_cons, List.length_nil, Nat.reduceAdd, endsF_rt, endsF_nx, rvQ_d, rvQ_new, rvQ_newK, rv_d, rv_ref, rv_cl, rv_ck, okRef_d, okRef_ref, List.not_mem_nil, List.nil_append, true_and, and_true, List.take_succ_cons, List.take_zero, Nat.zero_add, decide_eq_true_eq, Bool.false_eq_true, if_false, if_true, callS, handS_n, handS_tr, handS_fr, handS_fd, handS_fb, cellsAt_c, cellsAt_0, Option.getD_some, backS_0, backS_1, q_eCall, tup_lst, tup_tup, tup_ref, q_fLc, q_iRg, rng_1, rng_2, wipeS_c, wipeS_n, q_iPq, q_iSq, seq_tup, seq_lst, seq_bor, lst_lst, lst_bor, gdS_d, gdS_b, q_sFor, q_gNm, gcS_c, gcS_n, gcO_d, gcO_n, mapp, rcv_0, rcv_1, rcv_l, gcO_r0, gcO_r1, gcO_z, seal_d, eq_self, List.take_nil, List.cons_append, q_poSl, q_poI, q_poNo, slD_t, intO_i, list_t, list_l, in_str2, ofS_inj, String.reduceEq, or_false, false_or, or_true, true_or, or_self, decide_true, decide_false, Bool.not_true, Bool.not_false, at_m1_2, at_m1_3, cut_2, cut_3, all_bls, any_bls, count_bls, lcg_nm, lcg_tp, lst_ref, laid_l, laid_b, laid_r, list_b, list_r, len_refI, lenOf_ref, rcv_2, rcv_3, rcv_b, slF_l, slF_b, slF_r, cat_l, repr_d, q_plSl, backS_2, List.mem_singleton, one_ne, if_false, callS, seal_r, Nat.le_refl, cat_get, cat_set, List.append_assoc, List.length_append, List.append_nil, at_ite, Nat.zero_le, q_iTq, tupD])
  | `(tactic| simp only [VLQ, $xs,*]) => `(tactic| simp -implicitDefEqProofs only [q_sSeq, q_sIf, q_sSet, q_sSub, q_sRet, q_sRetN, q_sNil, q_sDrop, q_sAsg, sPar, q_sParT, q_sAug, q_cP, q_bB, q_bTr, q_bNt, q_bAn, q_bOr, q_po1, q_po2, q_poN, pArgs, q_poIf, q_poAn, q_poOr, q_poNt, q_poTup, q_plLst, q_plN, q_pl2, q_pl1, q_pFz, q_pV, q_pC, q_eP, q_eo1, q_eo2, q_eoN, q_aP, q_aNil, q_aCons, q_eAn, q_eOr, q_eNt, q_eIf, q_eFz, q_eNw, q_fP, q_fN, q_f2, q_f1, q_tTupE, q_tLstF, q_tTr, q_tTb, q_tAn, q_tOrr, q_tNt, q_tYs, q_eSeal, q_eMt, q_poMt, q_mPure, q_eCh, q_pCh, ok_bind, ok_map, ok_some, ok_none, ok_gd, ok_ite, List.getElem?_cons_zero, List.getElem?_cons_succ, List.set_cons_zero, List.set_cons_succ, Option.join_some, Option.bind_some, Option.map_some, Option.bind_none, Option.map_none, ix_ref, ix_tup, ix_lst, ix_bor, ix_scr, add_int, add_str, add_tup, sub_int, mul_int, fdiv_int, mod_int, pow_int, neg_int, lt_int, le_int, gt_int, ge_int, eq_int, eq_str, eq_bl, ne_int, ne_str, ne_bl, is_bl, isnt_bl, is_non, isnt_non, len_tup, len_lst, len_ref, len_bor, len_scr, int_bl, int_int, abs_int, min_int, max_int, blD_bl, cell_lst, cellA_lst, cellA_dk, st_ref, at_0, at_1, at_2, at_3, at_4, ixN_10, ixN_20, ixN_21, ixN_30, ixN_31, ixN_32, dataS_d, datas_nil, datas_cons, truth_bl, notD, intS, blS, nonB, List.length_cons, List.length_nil, Nat.reduceAdd, endsF_rt, endsF_nx, rvQ_d, rvQ_new, rvQ_newK, rv_d, rv_ref, rv_cl, rv_ck, okRef_d, okRef_ref, List.not_mem_nil, List.nil_append, true_and, and_true, List.take_succ_cons, List.take_zero, Nat.zero_add, decide_eq_true_eq, Bool.false_eq_true, if_false, if_true, callS, handS_n, handS_tr, handS_fr, handS_fd, handS_fb, cellsAt_c, cellsAt_0, Option.getD_some, backS_0, backS_1, q_eCall, tup_lst, tup_tup, tup_ref, q_fLc, q_iRg, rng_1, rng_2, wipeS_c, wipeS_n, q_iPq, q_iSq, seq_tup, seq_lst, seq_bor, lst_lst, lst_bor, gdS_d, gdS_b, q_sFor, q_gNm, gcS_c, gcS_n, gcO_d, gcO_n, mapp, rcv_0, rcv_1, rcv_l, gcO_r0, gcO_r1, gcO_z, seal_d, eq_self, List.take_nil, List.cons_append, q_poSl, q_poI, q_poNo, slD_t, intO_i, list_t, list_l, in_str2, ofS_inj, String.reduceEq, or_false, false_or, or_true, true_or, or_self, decide_true, decide_false, Bool.not_true, Bool.not_false, at_m1_2, at_m1_3, cut_2, cut_3, all_bls, any_bls, count_bls, lcg_nm, lcg_tp, lst_ref, laid_l, laid_b, laid_r, list_b, list_r, len_refI, lenOf_ref, rcv_2, rcv_3, rcv_b, slF_l, slF_b, slF_r, cat_l, repr_d, q_plSl, backS_2, List.mem_singleton, one_ne, if_false, callS, seal_r, Nat.le_refl, cat_get, cat_set, List.append_assoc, List.length_append, List.append_nil, at_ite, Nat.zero_le, q_iTq, tupD, $xs,*])
end VL
set_option Elab.async false
set_option linter.all false
set_option maxRecDepth 100000
set_option maxHeartbeats 2000000
namespace VL
open PySem PySem.Spec L2
local macro_rules
  | `(tactic| simp only [VLQ]) => `(tactic| simp -implicitDefEqProofs only [sSeq, sIf, sSet, sSub, sRet, sRetN, sNil, sDrop, sAsg, sPar, sParT, sAug, cP, bB, bTr, bNt, bAn, bOr, po1, po2, poN, pArgs, poIf, poAn, poOr, poNt, poTup, plLst, plN, pl2, pl1, pFz, pV, pC, eP, eo1, eo2, eoN, aP, aNil, aCons, eAn, eOr, eNt, eIf, eFz, eNw, fP, fN, f2, f1, tTupE, tLstF, tTr, tTb, tAn, tOrr, tNt, tYs, eSeal, eMt, poMt, mPure, eCh, pCh, ok_bind, ok_map, ok_some, ok_none, ok_gd, ok_ite, List.getElem?_cons_zero, List.getElem?_cons_succ, List.set_cons_zero, List.set_cons_succ, Option.join_some, Option.bind_some, Option.map_some, Option.bind_none, Option.map_none, ix_ref, ix_tup, ix_lst, ix_bor, ix_scr, add_int, add_str, add_tup, sub_int, mul_int, fdiv_int, mod_int, pow_int, neg_int, lt_int, le_int, gt_int, ge_int, eq_int, eq_str, eq_bl, ne_int, ne_str, ne_bl, is_bl, isnt_bl, is_non, isnt_non, len_tup, len_lst, len_ref, len_bor, len_scr, int_bl, int_int, abs_int, min_int, max_int, blD_bl, cell_lst, cellA_lst, cellA_dk, st_ref, at_0, at_1, at_2, at_3, at_4, ixN_10, ixN_20, ixN_21, ixN_30, ixN_31, ixN_32, dataS_d, datas_nil, datas_cons, truth_bl, notD, intS, blS, nonB, List.length_cons, List.length_nil, Nat.reduceAdd, endsF_rt, endsF_nx, rvQ_d, rvQ_new, rvQ_newK, rv_d, rv_ref, rv_cl, rv_ck, okRef_d, okRef_ref, List.not_mem_nil, List.nil_append, true_and, and_true, List.take_succ_cons, List.take_zero, Nat.zero_add, decide_eq_true_eq, Bool.false_eq_true, if_false, if_true, callS, handS_n, handS_tr, handS_fr, handS_fd, handS_fb, cellsAt_c, cellsAt_0, Option.getD_some, backS_0, backS_1, eCall, tup_lst, tup_tup, tup_ref, fLc, iRg, rng_1, rng_2, wipeS_c, wipeS_n, iPq, iSq, seq_tup, seq_lst, seq_bor, lst_lst, lst_bor, gdS_d, gdS_b, sFor, gNm, gcS_c, gcS_n, gcO_d, gcO_n, mapp, rcv_0, rcv_1, rcv_l, gcO_r0, gcO_r1, gcO_z, seal_d, eq_self, List.take_nil, List.cons_append, poSl, poI, poNo, slD_t, intO_i, list_t, list_l, in_str2, ofS_inj, String.reduceEq, or_false, false_or, or_true, true_or, or_self, decide_true, decide_false, Bool.not_true, Bool.not_false, at_m1_2, at_m1_3, cut_2, cut_3, all_bls, any_bls, count_bls, lcg_nm, lcg_tp, lst_ref, laid_l, laid_b, laid_r, list_b, list_r, len_refI, lenOf_ref, rcv_2, rcv_3, rcv_b, slF_l, slF_b, slF_r, cat_l, repr_d, plSl, backS_2, List.mem_singleton, one_ne, if_false, callS, seal_r, Nat.le_refl, cat_get, cat_set, List.append_assoc, List.length_append, List.append_nil, at_ite, Nat.zero_le, iTq, tupD])
  | `(tactic| simp only [VLQ, $xs,*]) => `(tactic| simp -implicitDefEqProofs only [sSeq, sIf, sSet, sSub, sRet, sRetN, sNil, sDrop, sAsg, sPar, sParT, sAug, cP, bB, bTr, bNt, bAn, bOr, po1, po2, poN, pArgs, poIf, poAn, poOr, poNt, poTup, plLst, plN, pl2, pl1, pFz, pV, pC, eP, eo1, eo2, eoN, aP, aNil, aCons, eAn, eOr, eNt, eIf, eFz, eNw, fP, fN, f2, f1, tTupE, tLstF, tTr, tTb, tAn, tOrr, tNt, tYs, eSeal, eMt, poMt, mPure, eCh, pCh, ok_bind, ok_map, ok_some, ok_none, ok_gd, ok_ite, List.getElem?_cons_zero, List.getElem?_cons_succ, List.set_cons_zero, List.set_cons_succ, Option.join_some, Option.bind_some, Option.map_some, Option.bind_none, Option.map_none, ix_ref, ix_tup, ix_lst, ix_bor, ix_scr, add_int, add_str, add_tup, sub_int, mul_int, fdiv_int, mod_int, pow_int, neg_int, lt_int, le_int, gt_int, ge_int, eq_int, eq_str, eq_bl, ne_int, ne_str, ne_bl, is_bl, isnt_bl, is_non, isnt_non, len_tup, len_lst, len_ref, len_bor, len_scr, int_bl, int_int, abs_int, min_int, max_int, blD_bl, cell_lst, cellA_lst, cellA_dk, st_ref, at_0, at_1, at_2, at_3, at_4, ixN_10, ixN_20, ixN_21, ixN_30, ixN_31, ixN_32, dataS_d, datas_nil, datas_cons, truth_bl, notD, intS, blS, nonB, List.length_cons, List.length_nil, Nat.reduceAdd, endsF_rt, endsF_nx, rvQ_d, rvQ_new, rvQ_newK, rv_d, rv_ref, rv_cl, rv_ck, okRef_d, okRef_ref, List.not_mem_nil, List.nil_append, true_and, and_true, List.take_succ_cons, List.take_zero, Nat.zero_add, decide_eq_true_eq, Bool.false_eq_true, if_false, if_true, callS, handS_n, handS_tr, handS_fr, handS_fd, handS_fb, cellsAt_c, cellsAt_0, Option.getD_some, backS_0, backS_1, eCall, tup_lst, tup_tup, tup_ref, fLc, iRg, rng_1, rng_2, wipeS_c, wipeS_n, iPq, iSq, seq_tup, seq_lst, seq_bor, lst_lst, lst_bor, gdS_d, gdS_b, sFor, gNm, gcS_c, gcS_n, gcO_d, gcO_n, mapp, rcv_0, rcv_1, rcv_l, gcO_r0, gcO_r1, gcO_z, seal_d, eq_self, List.take_nil, List.cons_append, poSl, poI, poNo, slD_t, intO_i, list_t, list_l, in_str2, ofS_inj, String.reduceEq, or_false, false_or, or_true, true_or, or_self, decide_true, decide_false, Bool.not_true, Bool.not_false, at_m1_2, at_m1_3, cut_2, cut_3, all_bls, any_bls, count_bls, lcg_nm, lcg_tp, lst_ref, laid_l, laid_b, laid_r, list_b, list_r, len_refI, lenOf_ref, rcv_2, rcv_3, rcv_b, slF_l, slF_b, slF_r, cat_l, repr_d, plSl, backS_2, List.mem_singleton, one_ne, if_false, callS, seal_r, Nat.le_refl, cat_get, cat_set, List.append_assoc, List.length_append, List.append_nil, at_ite, Nat.zero_le, iTq, tupD, $xs,*])
end VL
set_option Elab.async false
set_option linter.all false
set_option maxRecDepth 100000
set_option maxHeartbeats 2000000
namespace VL
open PySem PySem.Spec L2
/-- the places of the names that f hangs on -/
noncomputable def ndP (ks : List Nat) (f : Fn) : List Nat := (List.range ks.length).filter fun p => ndB f (ks.getD p 0)
local macro_rules
  | `(tactic| simp only [VLQ]) => `(tactic| simp -implicitDefEqProofs only [sSeq, sIf, sSet, sSub, sRet, sRetN, sNil, sDrop, sAsg, sPar, sParT, sAug, cP, bB, bTr, bNt, bAn, bOr, po1, po2, poN, pArgs, poIf, poAn, poOr, poNt, poTup, plLst, plN, pl2, pl1, pFz, pV, pC, eP, eo1, eo2, eoN, aP, aNil, aCons, eAn, eOr, eNt, eIf, eFz, eNw, fP, fN, f2, f1, tTupE, tLstF, tTr, tTb, tAn, tOrr, tNt, tYs, eSeal, eMt, poMt, mPure, eCh, pCh, ok_bind, ok_map, ok_some, ok_none, ok_gd, ok_ite, List.getElem?_cons_zero, List.getElem?_cons_succ, List.set_cons_zero, List.set_cons_succ, Option.join_some, Option.bind_some, Option.map_some, Option.bind_none, Option.map_none, ix_ref, ix_tup, ix_lst, ix_bor, ix_scr, add_int, add_str, add_tup, sub_int, mul_int, fdiv_int, mod_int, pow_int, neg_int, lt_int, le_int, gt_int, ge_int, eq_int, eq_str, eq_bl, ne_int, ne_str, ne_bl, is_bl, isnt_bl, is_non, isnt_non, len_tup, len_lst, len_ref, len_bor, len_scr, int_bl, int_int, abs_int, min_int, max_int, blD_bl, cell_lst, cellA_lst, cellA_dk, st_ref, at_0, at_1, at_2, at_3, at_4, ixN_10, ixN_20, ixN_21, ixN_30, ixN_31, ixN_32, dataS_d, datas_nil, datas_cons, truth_bl, notD, intS, blS, nonB, List.length_cons, List.length_nil, Nat.reduceAdd, endsF_rt, endsF_nx, rvQ_d, rvQ_new, rvQ_newK, rv_d, rv_ref, rv_cl, rv_ck, okRef_d, okRef_ref, List.not_mem_nil, List.nil_append, true_and, and_true, List.take_succ_cons, List.take_zero, Nat.zero_add, decide_eq_true_eq, Bool.false_eq_true, if_false, if_true, callS, handS_n, handS_tr, handS_fr, handS_fd, handS_fb, cellsAt_c, cellsAt_0, Option.getD_some, backS_0, backS_1, eCall, tup_lst, tup_tup, tup_ref, fLc, iRg, rng_1, rng_2, wipeS_c, wipeS_n, iPq, iSq, seq_tup, seq_lst, seq_bor, lst_lst, lst_bor, gdS_d, gdS_b, sFor, gNm, gcS_c, gcS_n, gcO_d, gcO_n, mapp, rcv_0, rcv_1, rcv_l, gcO_r0, gcO_r1, gcO_z, seal_d, eq_self, List.take_nil, List.cons_append, poSl, poI, poNo, slD_t, intO_i, list_t, list_l, in_str2, ofS_inj, String.reduceEq, or_false, false_or, or_true, true_or, or_self, decide_true, decide_false, Bool.not_true, Bool.not_false, at_m1_2, at_m1_3, cut_2, cut_3, all_bls, any_bls, count_bls, lcg_nm, lcg_tp, lst_ref, laid_l, laid_b, laid_r, list_b, list_r, len_refI, lenOf_ref, rcv_2, rcv_3, rcv_b, slF_l, slF_b, slF_r, cat_l, repr_d, plSl, backS_2, List.mem_singleton, one_ne, if_false, callS, seal_r, Nat.le_refl, cat_get, cat_set, List.append_assoc, List.length_append, List.append_nil, at_ite, Nat.zero_le, iTq, tupD])
  | `(tactic| simp only [VLQ, $xs,*]) => `(tactic| simp -implicitDefEqProofs only [sSeq, sIf, sSet, sSub, sRet, sRetN, sNil, sDrop, sAsg, sPar, sParT, sAug, cP, bB, bTr, bNt, bAn, bOr, po1, po2, poN, pArgs, poIf, poAn, poOr, poNt, poTup, plLst, plN, pl2, pl1, pFz, pV, pC, eP, eo1, eo2, eoN, aP, aNil, aCons, eAn, eOr, eNt, eIf, eFz, eNw, fP, fN, f2, f1, tTupE, tLstF, tTr, tTb, tAn, tOrr, tNt, tYs, eSeal, eMt, poMt, mPure, eCh, pCh, ok_bind, ok_map, ok_some, ok_none, ok_gd, ok_ite, List.getElem?_cons_zero, List.getElem?_cons_succ, List.set_cons_zero, List.set_cons_succ, Option.join_some, Option.bind_some, Option.map_some, Option.bind_none, Option.map_none, ix_ref, ix_tup, ix_lst, ix_bor, ix_scr, add_int, add_str, add_tup, sub_int, mul_int, fdiv_int, mod_int, pow_int, neg_int, lt_int, le_int, gt_int, ge_int, eq_int, eq_str, eq_bl, ne_int, ne_str, ne_bl, is_bl, isnt_bl, is_non, isnt_non, len_tup, len_lst, len_ref, len_bor, len_scr, int_bl, int_int, abs_int, min_int, max_int, blD_bl, cell_lst, cellA_lst, cellA_dk, st_ref, at_0, at_1, at_2, at_3, at_4, ixN_10, ixN_20, ixN_21, ixN_30, ixN_31, ixN_32, dataS_d, datas_nil, datas_cons, truth_bl, notD, intS, blS, nonB, List.length_cons, List.length_nil, Nat.reduceAdd, endsF_rt, endsF_nx, rvQ_d, rvQ_new, rvQ_newK, rv_d, rv_ref, rv_cl, rv_ck, okRef_d, okRef_ref, List.not_mem_nil, List.nil_append, true_and, and_true, List.take_succ_cons, List.take_zero, Nat.zero_add, decide_eq_true_eq, Bool.false_eq_true, if_false, if_true, callS, handS_n, handS_tr, handS_fr, handS_fd, handS_fb, cellsAt_c, cellsAt_0, Option.getD_some, backS_0, backS_1, eCall, tup_lst, tup_tup, tup_ref, fLc, iRg, rng_1, rng_2, wipeS_c, wipeS_n, iPq, iSq, seq_tup, seq_lst, seq_bor, lst_lst, lst_bor, gdS_d, gdS_b, sFor, gNm, gcS_c, gcS_n, gcO_d, gcO_n, mapp, rcv_0, rcv_1, rcv_l, gcO_r0, gcO_r1, gcO_z, seal_d, eq_self, List.take_nil, List.cons_append, poSl, poI, poNo, slD_t, intO_i, list_t, list_l, in_str2, ofS_inj, String.reduceEq, or_false, false_or, or_true, true_or, or_self, decide_true, decide_false, Bool.not_true, Bool.not_false, at_m1_2, at_m1_3, cut_2, cut_3, all_bls, any_bls, count_bls, lcg_nm, lcg_tp, lst_ref, laid_l, laid_b, laid_r, list_b, list_r, len_refI, lenOf_ref, rcv_2, rcv_3, rcv_b, slF_l, slF_b, slF_r, cat_l, repr_d, plSl, backS_2, List.mem_singleton, one_ne, if_false, callS, seal_r, Nat.le_refl, cat_get, cat_set, List.append_assoc, List.length_append, List.append_nil, at_ite, Nat.zero_le, iTq, tupD, $xs,*])
set_option maxHeartbeats 2000000
end VL
set_option Elab.async false
set_option linter.all false
set_option maxRecDepth 100000
set_option maxHeartbeats 2000000
namespace VL
open PySem PySem.Spec L2
theorem at_ndP : ∀ (ks : List Nat) (f : Fn), atP ks (ndP ks f) = ks.filter (ndB f) := fun ks f => by
  have key : ∀ n, n ≤ ks.length → ((List.range n).filter fun p => ndB f (ks.getD p 0)).map (fun p => ks.getD p 0) = (ks.take n).filter (ndB f) := fun n => by
    induction n with
    | zero => intro _; rfl
    | succ n ih =>
      intro hn
      have e1 : ks[n]? = some (ks.getD n 0) := by rw [List.getD_eq_getElem?_getD, List.getElem?_eq_getElem (by omega)]; rfl
      rw [List.range_succ, List.filter_append, List.map_append, ih (by omega), List.take_add_one, e1, List.filter_append]
      congr 1
      show _ = List.filter (ndB f) [ks.getD n 0]
      cases h : ndB f (ks.getD n 0)
      · simp only [List.filter_cons, h, List.filter_nil, Bool.false_eq_true, if_false, List.map_nil]
      · simp only [List.filter_cons, h, List.filter_nil, if_true, List.map_cons, List.map_nil]
  have := key ks.length (Nat.le_refl _)
  rw [List.take_length] at this
  exact this
local macro_rules
  | `(tactic| simp only [VLQ]) => `(tactic| simp -implicitDefEqProofs only [sSeq, sIf, sSet, sSub, sRet, sRetN, sNil, sDrop, sAsg, sPar, sParT, sAug, cP, bB, bTr, bNt, bAn, bOr, po1, po2, poN, pArgs, poIf, poAn, poOr, poNt, poTup, plLst, plN, pl2, pl1, pFz, pV, pC, eP, eo1, eo2, eoN, aP, aNil, aCons, eAn, eOr, eNt, eIf, eFz, eNw, fP, fN, f2, f1, tTupE, tLstF, tTr, tTb, tAn, tOrr, tNt, tYs, eSeal, eMt, poMt, mPure, eCh, pCh, ok_bind, ok_map, ok_some, ok_none, ok_gd, ok_ite, List.getElem?_cons_zero, List.getElem?_cons_succ, List.set_cons_zero, List.set_cons_succ, Option.join_some, Option.bind_some, Option.map_some, Option.bind_none, Option.map_none, ix_ref, ix_tup, ix_lst, ix_bor, ix_scr, add_int, add_str, add_tup, sub_int, mul_int, fdiv_int, mod_int, pow_int, neg_int, lt_int, le_int, gt_int, ge_int, eq_int, eq_str, eq_bl, ne_int, ne_str, ne_bl, is_bl, isnt_bl, is_non, isnt_non, len_tup, len_lst, len_ref, len_bor, len_scr, int_bl, int_int, abs_int, min_int, max_int, blD_bl, cell_lst, cellA_lst, cellA_dk, st_ref, at_0, at_1, at_2, at_3, at_4, ixN_10, ixN_20, ixN_21, ixN_30, ixN_31, ixN_32, dataS_d, datas_nil, datas_cons, truth_bl, notD, intS, blS, nonB, List.length_cons, List.length_nil, Nat.reduceAdd, endsF_rt, endsF_nx, rvQ_d, rvQ_new, rvQ_newK, rv_d, rv_ref, rv_cl, rv_ck, okRef_d, okRef_ref, List.not_mem_nil, List.nil_append, true_and, and_true, List.take_succ_cons, List.take_zero, Nat.zero_add, decide_eq_true_eq, Bool.false_eq_true, if_false, if_true, callS, handS_n, handS_tr, handS_fr, handS_fd, handS_fb, cellsAt_c, cellsAt_0, Option.getD_some, backS_0, backS_1, eCall, tup_lst, tup_tup, tup_ref, fLc, iRg, rng_1, rng_2, wipeS_c, wipeS_n, iPq, iSq, seq_tup, seq_lst, seq_bor, lst_lst, lst_bor, gdS_d, gdS_b, sFor, gNm, gcS_c, gcS_n, gcO_d, gcO_n, mapp, rcv_0, rcv_1, rcv_l, gcO_r0, gcO_r1, gcO_z, seal_d, eq_self, List.take_nil, List.cons_append, poSl, poI, poNo, slD_t, intO_i, list_t, list_l, in_str2, ofS_inj, String.reduceEq, or_false, false_or, or_true, true_or, or_self, decide_true, decide_false, Bool.not_true, Bool.not_false, at_m1_2, at_m1_3, cut_2, cut_3, all_bls, any_bls, count_bls, lcg_nm, lcg_tp, lst_ref, laid_l, laid_b, laid_r, list_b, list_r, len_refI, lenOf_ref, rcv_2, rcv_3, rcv_b, slF_l, slF_b, slF_r, cat_l, repr_d, plSl, backS_2, List.mem_singleton, one_ne, if_false, callS, seal_r, Nat.le_refl, cat_get, cat_set, List.append_assoc, List.length_append, List.append_nil, at_ite, Nat.zero_le, iTq, tupD])
  | `(tactic| simp only [VLQ, $xs,*]) => `(tactic| simp -implicitDefEqProofs only [sSeq, sIf, sSet, sSub, sRet, sRetN, sNil, sDrop, sAsg, sPar, sParT, sAug, cP, bB, bTr, bNt, bAn, bOr, po1, po2, poN, pArgs, poIf, poAn, poOr, poNt, poTup, plLst, plN, pl2, pl1, pFz, pV, pC, eP, eo1, eo2, eoN, aP, aNil, aCons, eAn, eOr, eNt, eIf, eFz, eNw, fP, fN, f2, f1, tTupE, tLstF, tTr, tTb, tAn, tOrr, tNt, tYs, eSeal, eMt, poMt, mPure, eCh, pCh, ok_bind, ok_map, ok_some, ok_none, ok_gd, ok_ite, List.getElem?_cons_zero, List.getElem?_cons_succ, List.set_cons_zero, List.set_cons_succ, Option.join_some, Option.bind_some, Option.map_some, Option.bind_none, Option.map_none, ix_ref, ix_tup, ix_lst, ix_bor, ix_scr, add_int, add_str, add_tup, sub_int, mul_int, fdiv_int, mod_int, pow_int, neg_int, lt_int, le_int, gt_int, ge_int, eq_int, eq_str, eq_bl, ne_int, ne_str, ne_bl, is_bl, isnt_bl, is_non, isnt_non, len_tup, len_lst, len_ref, len_bor, len_scr, int_bl, int_int, abs_int, min_int, max_int, blD_bl, cell_lst, cellA_lst, cellA_dk, st_ref, at_0, at_1, at_2, at_3, at_4, ixN_10, ixN_20, ixN_21, ixN_30, ixN_31, ixN_32, dataS_d, datas_nil, datas_cons, truth_bl, notD, intS, blS, nonB, List.length_cons, List.length_nil, Nat.reduceAdd, endsF_rt, endsF_nx, rvQ_d, rvQ_new, rvQ_newK, rv_d, rv_ref, rv_cl, rv_ck, okRef_d, okRef_ref, List.not_mem_nil, List.nil_append, true_and, and_true, List.take_succ_cons, List.take_zero, Nat.zero_add, decide_eq_true_eq, Bool.false_eq_true, if_false, if_true, callS, handS_n, handS_tr, handS_fr, handS_fd, handS_fb, cellsAt_c, cellsAt_0, Option.getD_some, backS_0, backS_1, eCall, tup_lst, tup_tup, tup_ref, fLc, iRg, rng_1, rng_2, wipeS_c, wipeS_n, iPq, iSq, seq_tup, seq_lst, seq_bor, lst_lst, lst_bor, gdS_d, gdS_b, sFor, gNm, gcS_c, gcS_n, gcO_d, gcO_n, mapp, rcv_0, rcv_1, rcv_l, gcO_r0, gcO_r1, gcO_z, seal_d, eq_self, List.take_nil, List.cons_append, poSl, poI, poNo, slD_t, intO_i, list_t, list_l, in_str2, ofS_inj, String.reduceEq, or_false, false_or, or_true, true_or, or_self, decide_true, decide_false, Bool.not_true, Bool.not_false, at_m1_2, at_m1_3, cut_2, cut_3, all_bls, any_bls, count_bls, lcg_nm, lcg_tp, lst_ref, laid_l, laid_b, laid_r, list_b, list_r, len_refI, lenOf_ref, rcv_2, rcv_3, rcv_b, slF_l, slF_b, slF_r, cat_l, repr_d, plSl, backS_2, List.mem_singleton, one_ne, if_false, callS, seal_r, Nat.le_refl, cat_get, cat_set, List.append_assoc, List.length_append, List.append_nil, at_ite, Nat.zero_le, iTq, tupD, $xs,*])
end VL
set_option Elab.async false
set_option linter.all false
set_option maxRecDepth 100000
set_option maxHeartbeats 2000000
namespace VL
open PySem PySem.Spec L2
theorem sub_filter {s ks : List Nat} (h : s.Sublist ks) : ∀ {p : Nat → Bool}, ks.Nodup → (∀ x ∈ ks, p x = true ↔ x ∈ s) → ks.filter p = s := by
  induction h with
  | slnil => intro p _ _; rfl
  | @cons s l a hs ih =>
    intro p hn hm
    obtain ⟨h1, h2⟩ := List.nodup_cons.mp hn
    rw [List.filter_cons_of_neg (fun z => h1 (hs.mem ((hm a List.mem_cons_self).mp z)))]
    exact ih h2 fun x hx => hm x (List.mem_cons_of_mem _ hx)
  | @cons_cons s l a hs ih =>
    intro p hn hm
    obtain ⟨h1, h2⟩ := List.nodup_cons.mp hn
    rw [List.filter_cons_of_pos ((hm a List.mem_cons_self).mpr List.mem_cons_self), ih h2 fun x hx => ?_]
    rw [hm x (List.mem_cons_of_mem _ hx), List.mem_cons]
    exact ⟨fun z => z.resolve_left fun e => h1 (e ▸ hx), .inr⟩
theorem key_eqP {ks : List Nat} {q : Kf} (hn : ks.Nodup) (N : NdF q.1 q.2) (S : q.1.Sublist ks) : ks.filter (ndB q.2) = q.1 :=
  sub_filter S hn fun x _ => ⟨fun h => nd_of_mem N.dep (ndB_iff.mp h), fun h => ndB_iff.mpr (N.nd x h)⟩
/-- a parted ladder of a truth, with its rows' truths -/
structure PlW (ks : List Nat) (f : Fn) (W : Wb) (K : List Kf) : Prop where
  I : PaI ks.length ks W K
  nd : ks.Nodup
  lt : ∀ k ∈ ks, k < ks.length
  n8 : ks.length ≤ 8
  dep : Dep ks f
  top : K[W.length - 1]? = some (ks.filter (ndB f), f)
  ne : W ≠ []
  nm : ∀ i, i < W.length → i = W.length - 1 ∨ ∃ (j : Nat) (w : Rw), W[j]? = some w ∧ i ∈ w.below
  few : W.length ≤ 145
section
variable {ks : List Nat} {f : Fn} {W : Wb} {K : List Kf}
theorem PlW.key (P : PlW ks f W K) {r : Nat} (h : r < W.length) : ∃ q, K[r]? = some q ∧ NdF q.1 q.2 ∧ q.1.Sublist ks ∧ ks.filter (ndB q.2) = q.1 ∧ Dep ks q.2 := by
  have hr : r < K.length := by rw [P.I.len]; exact h
  have e : K[r]? = some K[r] := List.getElem?_eq_getElem hr
  obtain ⟨N, S⟩ := P.I.nd r _ e
  exact ⟨K[r], e, N, S, key_eqP P.nd N S, N.dep.sub fun x hx => S.mem hx⟩
/-- the places of the names a row hangs on -/
noncomputable def owP (ks : List Nat) (K : List Kf) (r : Nat) : List Nat := ndP ks (K.getD r ([], fun _ => true)).2
theorem PlW.own (P : PlW ks f W K) {r : Nat} {q : Kf} (e : K[r]? = some q) : owP ks K r = ndP ks q.2 ∧ atP ks (owP ks K r) = q.1 := by
  have h1 : owP ks K r = ndP ks q.2 := by unfold owP; rw [getD_some e]
  obtain ⟨N, S⟩ := P.I.nd r q e
  exact ⟨h1, by rw [h1, at_ndP, key_eqP P.nd N S]⟩
theorem PlW.leaf (P : PlW ks f W K) {r : Nat} (h : W[r]? = some .yes ∨ W[r]? = some .no) : owP ks K r = [] := by
  obtain ⟨w, hw, hl⟩ : ∃ w, W[r]? = some w ∧ (w = .yes ∨ w = .no) := by
    rcases h with h | h
    · exact ⟨_, h, .inl rfl⟩
    · exact ⟨_, h, .inr rfl⟩
  have hr := (List.getElem?_eq_some_iff.mp hw).1
  obtain ⟨q, e, _⟩ := P.key hr
  have hk := P.I.row r q w e hw
  have h1 : q.1 = [] := by rcases hl with rfl | rfl <;> exact hk.1
  have h2 := (P.own e).2
  rw [h1] at h2
  unfold atP at h2
  exact List.map_eq_nil_iff.mp h2
end
set_option maxHeartbeats 2000000
local macro_rules
  | `(tactic| simp only [VLQ]) => `(tactic| simp -implicitDefEqProofs only [sSeq, sIf, sSet, sSub, sRet, sRetN, sNil, sDrop, sAsg, sPar, sParT, sAug, cP, bB, bTr, bNt, bAn, bOr, po1, po2, poN, pArgs, poIf, poAn, poOr, poNt, poTup, plLst, plN, pl2, pl1, pFz, pV, pC, eP, eo1, eo2, eoN, aP, aNil, aCons, eAn, eOr, eNt, eIf, eFz, eNw, fP, fN, f2, f1, tTupE, tLstF, tTr, tTb, tAn, tOrr, tNt, tYs, eSeal, eMt, poMt, mPure, eCh, pCh, ok_bind, ok_map, ok_some, ok_none, ok_gd, ok_ite, List.getElem?_cons_zero, List.getElem?_cons_succ, List.set_cons_zero, List.set_cons_succ, Option.join_some, Option.bind_some, Option.map_some, Option.bind_none, Option.map_none, ix_ref, ix_tup, ix_lst, ix_bor, ix_scr, add_int, add_str, add_tup, sub_int, mul_int, fdiv_int, mod_int, pow_int, neg_int, lt_int, le_int, gt_int, ge_int, eq_int, eq_str, eq_bl, ne_int, ne_str, ne_bl, is_bl, isnt_bl, is_non, isnt_non, len_tup, len_lst, len_ref, len_bor, len_scr, int_bl, int_int, abs_int, min_int, max_int, blD_bl, cell_lst, cellA_lst, cellA_dk, st_ref, at_0, at_1, at_2, at_3, at_4, ixN_10, ixN_20, ixN_21, ixN_30, ixN_31, ixN_32, dataS_d, datas_nil, datas_cons, truth_bl, notD, intS, blS, nonB, List.length_cons, List.length_nil, Nat.reduceAdd, endsF_rt, endsF_nx, rvQ_d, rvQ_new, rvQ_newK, rv_d, rv_ref, rv_cl, rv_ck, okRef_d, okRef_ref, List.not_mem_nil, List.nil_append, true_and, and_true, List.take_succ_cons, List.take_zero, Nat.zero_add, decide_eq_true_eq, Bool.false_eq_true, if_false, if_true, callS, handS_n, handS_tr, handS_fr, handS_fd, handS_fb, cellsAt_c, cellsAt_0, Option.getD_some, backS_0, backS_1, eCall, tup_lst, tup_tup, tup_ref, fLc, iRg, rng_1, rng_2, wipeS_c, wipeS_n, iPq, iSq, seq_tup, seq_lst, seq_bor, lst_lst, lst_bor, gdS_d, gdS_b, sFor, gNm, gcS_c, gcS_n, gcO_d, gcO_n, mapp, rcv_0, rcv_1, rcv_l, gcO_r0, gcO_r1, gcO_z, seal_d, eq_self, List.take_nil, List.cons_append, poSl, poI, poNo, slD_t, intO_i, list_t, list_l, in_str2, ofS_inj, String.reduceEq, or_false, false_or, or_true, true_or, or_self, decide_true, decide_false, Bool.not_true, Bool.not_false, at_m1_2, at_m1_3, cut_2, cut_3, all_bls, any_bls, count_bls, lcg_nm, lcg_tp, lst_ref, laid_l, laid_b, laid_r, list_b, list_r, len_refI, lenOf_ref, rcv_2, rcv_3, rcv_b, slF_l, slF_b, slF_r, cat_l, repr_d, plSl, backS_2, List.mem_singleton, one_ne, if_false, callS, seal_r, Nat.le_refl, cat_get, cat_set, List.append_assoc, List.length_append, List.append_nil, at_ite, Nat.zero_le, iTq, tupD])
  | `(tactic| simp only [VLQ, $xs,*]) => `(tactic| simp -implicitDefEqProofs only [sSeq, sIf, sSet, sSub, sRet, sRetN, sNil, sDrop, sAsg, sPar, sParT, sAug, cP, bB, bTr, bNt, bAn, bOr, po1, po2, poN, pArgs, poIf, poAn, poOr, poNt, poTup, plLst, plN, pl2, pl1, pFz, pV, pC, eP, eo1, eo2, eoN, aP, aNil, aCons, eAn, eOr, eNt, eIf, eFz, eNw, fP, fN, f2, f1, tTupE, tLstF, tTr, tTb, tAn, tOrr, tNt, tYs, eSeal, eMt, poMt, mPure, eCh, pCh, ok_bind, ok_map, ok_some, ok_none, ok_gd, ok_ite, List.getElem?_cons_zero, List.getElem?_cons_succ, List.set_cons_zero, List.set_cons_succ, Option.join_some, Option.bind_some, Option.map_some, Option.bind_none, Option.map_none, ix_ref, ix_tup, ix_lst, ix_bor, ix_scr, add_int, add_str, add_tup, sub_int, mul_int, fdiv_int, mod_int, pow_int, neg_int, lt_int, le_int, gt_int, ge_int, eq_int, eq_str, eq_bl, ne_int, ne_str, ne_bl, is_bl, isnt_bl, is_non, isnt_non, len_tup, len_lst, len_ref, len_bor, len_scr, int_bl, int_int, abs_int, min_int, max_int, blD_bl, cell_lst, cellA_lst, cellA_dk, st_ref, at_0, at_1, at_2, at_3, at_4, ixN_10, ixN_20, ixN_21, ixN_30, ixN_31, ixN_32, dataS_d, datas_nil, datas_cons, truth_bl, notD, intS, blS, nonB, List.length_cons, List.length_nil, Nat.reduceAdd, endsF_rt, endsF_nx, rvQ_d, rvQ_new, rvQ_newK, rv_d, rv_ref, rv_cl, rv_ck, okRef_d, okRef_ref, List.not_mem_nil, List.nil_append, true_and, and_true, List.take_succ_cons, List.take_zero, Nat.zero_add, decide_eq_true_eq, Bool.false_eq_true, if_false, if_true, callS, handS_n, handS_tr, handS_fr, handS_fd, handS_fb, cellsAt_c, cellsAt_0, Option.getD_some, backS_0, backS_1, eCall, tup_lst, tup_tup, tup_ref, fLc, iRg, rng_1, rng_2, wipeS_c, wipeS_n, iPq, iSq, seq_tup, seq_lst, seq_bor, lst_lst, lst_bor, gdS_d, gdS_b, sFor, gNm, gcS_c, gcS_n, gcO_d, gcO_n, mapp, rcv_0, rcv_1, rcv_l, gcO_r0, gcO_r1, gcO_z, seal_d, eq_self, List.take_nil, List.cons_append, poSl, poI, poNo, slD_t, intO_i, list_t, list_l, in_str2, ofS_inj, String.reduceEq, or_false, false_or, or_true, true_or, or_self, decide_true, decide_false, Bool.not_true, Bool.not_false, at_m1_2, at_m1_3, cut_2, cut_3, all_bls, any_bls, count_bls, lcg_nm, lcg_tp, lst_ref, laid_l, laid_b, laid_r, list_b, list_r, len_refI, lenOf_ref, rcv_2, rcv_3, rcv_b, slF_l, slF_b, slF_r, cat_l, repr_d, plSl, backS_2, List.mem_singleton, one_ne, if_false, callS, seal_r, Nat.le_refl, cat_get, cat_set, List.append_assoc, List.length_append, List.append_nil, at_ite, Nat.zero_le, iTq, tupD, $xs,*])
set_option maxHeartbeats 2000000
set_option maxHeartbeats 2000000
/-- a text that repr and == may look at, so long at most -/
structure StrOk (n : Nat) (s : Str) : Prop where
  la : PyData.canLay0 (.str s) = true
  sh : ∀ c ∈ s.cps.toList, c < 16 ^ 8
  sz : s.cps.size ≤ n
mutual
def nod : D → Nat
  | .tup ds => nods ds + 1
  | .lst ds => nods ds + 1
  | .non => 1
  | .bl _ => 1
  | .int _ => 1
  | .str _ => 1
  | .scr _ => 1
  | .fn _ => 1
  | .ty _ => 1
  | .dn _ _ => 1
  | .dk _ _ => 1
  | .cls _ => 1
  | .exc _ _ => 1
def nods : List D → Nat
  | [] => 0
  | d :: ds => nod d + nods ds
end
mutual
def dpt : D → Nat
  | .tup ds => dpts ds + 1
  | .lst ds => dpts ds + 1
  | .non => 0
  | .bl _ => 0
  | .int _ => 0
  | .str _ => 0
  | .scr _ => 0
  | .fn _ => 0
  | .ty _ => 0
  | .dn _ _ => 0
  | .dk _ _ => 0
  | .cls _ => 0
  | .exc _ _ => 0
def dpts : List D → Nat
  | [] => 0
  | d :: ds => max (dpt d) (dpts ds)
end
mutual
def lfo (r : Nat) : D → Prop
  | .tup ds => lfos r ds
  | .lst ds => lfos r ds
  | .int i => i.natAbs < 10 ^ (25 + r)
  | .str s => StrOk (30 + r) s
  | .non => True
  | .bl _ => True
  | .scr _ => False
  | .fn _ => False
  | .ty _ => False
  | .dn _ _ => False
  | .dk _ _ => False
  | .cls _ => False
  | .exc _ _ => False
def lfos (r : Nat) : List D → Prop
  | [] => True
  | d :: ds => lfo r d ∧ lfos r ds
end
theorem nod_pos (d : D) : 1 ≤ nod d := by cases d <;> simp [nod]
theorem StrOk.mono {n m : Nat} {s : Str} (h : StrOk n s) (e : n ≤ m) : StrOk m s := ⟨h.la, h.sh, Nat.le_trans h.sz e⟩
mutual
theorem lfo_mono {r q : Nat} (e : r ≤ q) : ∀ d : D, lfo r d → lfo q d
  | .tup ds, h => lfos_mono e ds h
  | .lst ds, h => lfos_mono e ds h
  | .int i, h => Nat.lt_of_lt_of_le (show i.natAbs < 10 ^ (25 + r) from h) (Nat.pow_le_pow_right (by decide) (by omega))
  | .str s, h => StrOk.mono (show StrOk (30 + r) s from h) (by omega)
  | .non, _ => trivial
  | .bl _, _ => trivial
  | .scr _, h => h
  | .fn _, h => h
  | .ty _, h => h
  | .dn _ _, h => h
  | .dk _ _, h => h
  | .cls _, h => h
  | .exc _ _, h => h
theorem lfos_mono {r q : Nat} (e : r ≤ q) : ∀ ds : List D, lfos r ds → lfos q ds
  | [], _ => trivial
  | d :: ds, h => ⟨lfo_mono e d h.1, lfos_mono e ds h.2⟩
end
mutual
theorem lfo_pl {r : Nat} (hr : r ≤ 10) : ∀ d : D, lfo r d → Pl (141 * nod d - 1) (dpt d) d
  | .tup ds, h => by
    have := lfos_pl hr ds h
    exact (Pl.tup this).mono (by simp only [nod]; omega) (by simp only [dpt]; omega)
  | .lst ds, h => by
    have := lfos_pl hr ds h
    exact (Pl.lst this).mono (by simp only [nod]; omega) (by simp only [dpt]; omega)
  | .int i, h => by
    have h1 : i.natAbs < 10 ^ 39 := Nat.lt_of_lt_of_le (show i.natAbs < 10 ^ (25 + r) from h) (Nat.pow_le_pow_right (by decide) (by omega))
    exact (Pl.int h1).mono (by simp [nod]) (Nat.zero_le _)
  | .str s, h => by
    have h1 : StrOk (30 + r) s := h
    refine (Pl.str (n := 30 + r) ?_).mono (by simp only [nod]; omega) (Nat.zero_le _)
    simp only [Bool.and_eq_true, decide_eq_true_eq, List.all_eq_true]
    exact ⟨⟨h1.la, h1.sh⟩, h1.sz⟩
  | .non, _ => Pl.non.mono (Nat.zero_le _) (Nat.zero_le _)
  | .bl _, _ => Pl.bl.mono (Nat.zero_le _) (Nat.zero_le _)
  | .scr _, h => h.elim
  | .fn _, h => h.elim
  | .ty _, h => h.elim
  | .dn _ _, h => h.elim
  | .dk _ _, h => h.elim
  | .cls _, h => h.elim
  | .exc _ _, h => h.elim
theorem lfos_pl {r : Nat} (hr : r ≤ 10) : ∀ ds : List D, lfos r ds → Pls (141 * nods ds) (dpts ds) ds
  | [], _ => Pls.nil
  | d :: ds, h => by
    have h1 := lfo_pl hr d h.1
    have h2 := lfos_pl hr ds h.2
    have := nod_pos d
    exact (Pls.cons (h1.mono (Nat.le_refl _) (Nat.le_max_left (dpt d) (dpts ds))) (h2.mono (Nat.le_refl _) (Nat.le_max_right (dpt d) (dpts ds)))).mono (by simp only [nods]; omega) (by simp only [dpts]; exact Nat.le_refl _)
end
/-- a thing: so many parts, so deep, its leaves so great -/
structure Th (n k r : Nat) (d : D) : Prop where
  nn : nod d ≤ n
  dp : dpt d ≤ k
  lf : lfo r d
theorem Th.mono {n k r n' k' r' : Nat} {d : D} (h : Th n k r d) (h1 : n ≤ n') (h2 : k ≤ k') (h3 : r ≤ r') : Th n' k' r' d := ⟨Nat.le_trans h.nn h1, Nat.le_trans h.dp h2, lfo_mono h3 d h.lf⟩
theorem Th.okR {n k r : Nat} {d : D} (h : Th n k r d) (hn : n ≤ 2700) (hk : k ≤ 100) (hr : r ≤ 10) : VL.okR d = true :=
  (lfo_pl hr d h.lf).okR (by have := h.nn; omega) (by have := h.dp; omega)
local macro_rules
  | `(tactic| simp only [VLY]) => `(tactic| simp only [sSeq, sIf, sSet, sSub, sRet, sRetN, sNil, sDrop, sAsg, sPar, sParT, sAug, cP, bB, bTr, bNt, bAn, bOr, po1, po2, poN, pArgs, poIf, poAn, poOr, poNt, poTup, plLst, plN, pl2, pl1, pFz, pV, pC, eP, eo1, eo2, eoN, aP, aNil, aCons, eAn, eOr, eNt, eIf, eFz, eNw, fP, fN, f2, f1, tTupE, tLstF, tTr, tTb, tAn, tOrr, tNt, tYs, eSeal, eMt, poMt, mPure, eCh, pCh, ok_bind, ok_map, ok_some, ok_none, ok_gd, ok_ite, List.getElem?_cons_zero, List.getElem?_cons_succ, List.set_cons_zero, List.set_cons_succ, Option.join_some, Option.bind_some, Option.map_some, Option.bind_none, Option.map_none, ix_ref, ix_tup, ix_lst, ix_bor, ix_scr, add_int, add_str, add_tup, sub_int, mul_int, fdiv_int, mod_int, pow_int, neg_int, lt_int, le_int, gt_int, ge_int, eq_int, eq_str, eq_bl, ne_int, ne_str, ne_bl, is_bl, isnt_bl, is_non, isnt_non, len_tup, len_lst, len_ref, len_bor, len_scr, int_bl, int_int, abs_int, min_int, max_int, blD_bl, cell_lst, cellA_lst, cellA_dk, st_ref, at_0, at_1, at_2, at_3, at_4, ixN_10, ixN_20, ixN_21, ixN_30, ixN_31, ixN_32, dataS_d, datas_nil, datas_cons, truth_bl, notD, intS, blS, nonB, List.length_cons, List.length_nil, Nat.reduceAdd, endsF_rt, endsF_nx, rvQ_d, rvQ_new, rvQ_newK, rv_d, rv_ref, rv_cl, rv_ck, okRef_d, okRef_ref, List.not_mem_nil, List.nil_append, true_and, and_true, List.take_succ_cons, List.take_zero, Nat.zero_add, decide_eq_true_eq, Bool.false_eq_true, if_false, if_true, callS, handS_n, handS_tr, handS_fr, handS_fd, handS_fb, cellsAt_c, cellsAt_0, Option.getD_some, backS_0, backS_1, eCall, tup_lst, tup_tup, tup_ref, fLc, iRg, rng_1, rng_2, wipeS_c, wipeS_n, iPq, iSq, seq_tup, seq_lst, seq_bor, lst_lst, lst_bor, gdS_d, gdS_b, sFor, gNm, gcS_c, gcS_n, gcO_d, gcO_n, mapp, rcv_0, rcv_1, rcv_l, gcO_r0, gcO_r1, gcO_z, seal_d, eq_self, List.take_nil, List.cons_append, poSl, poI, poNo, slD_t, intO_i, list_t, list_l, in_str2, ofS_inj, String.reduceEq, or_false, false_or, or_true, true_or, or_self, decide_true, decide_false, Bool.not_true, Bool.not_false, at_m1_2, at_m1_3, cut_2, cut_3, all_bls, any_bls, count_bls, lcg_nm, lcg_tp, lst_ref, laid_l, laid_b, laid_r, list_b, list_r, len_refI, lenOf_ref, rcv_2, rcv_3, rcv_b, slF_l, slF_b, slF_r, cat_l, repr_d, plSl, backS_2, List.mem_singleton, one_ne, if_false, callS, seal_r, Nat.le_refl, cat_get, cat_set, List.append_assoc, List.length_append, List.append_nil, at_ite, Nat.zero_le, iTq, tupD])
  | `(tactic| simp only [VLY, $xs,*]) => `(tactic| simp only [sSeq, sIf, sSet, sSub, sRet, sRetN, sNil, sDrop, sAsg, sPar, sParT, sAug, cP, bB, bTr, bNt, bAn, bOr, po1, po2, poN, pArgs, poIf, poAn, poOr, poNt, poTup, plLst, plN, pl2, pl1, pFz, pV, pC, eP, eo1, eo2, eoN, aP, aNil, aCons, eAn, eOr, eNt, eIf, eFz, eNw, fP, fN, f2, f1, tTupE, tLstF, tTr, tTb, tAn, tOrr, tNt, tYs, eSeal, eMt, poMt, mPure, eCh, pCh, ok_bind, ok_map, ok_some, ok_none, ok_gd, ok_ite, List.getElem?_cons_zero, List.getElem?_cons_succ, List.set_cons_zero, List.set_cons_succ, Option.join_some, Option.bind_some, Option.map_some, Option.bind_none, Option.map_none, ix_ref, ix_tup, ix_lst, ix_bor, ix_scr, add_int, add_str, add_tup, sub_int, mul_int, fdiv_int, mod_int, pow_int, neg_int, lt_int, le_int, gt_int, ge_int, eq_int, eq_str, eq_bl, ne_int, ne_str, ne_bl, is_bl, isnt_bl, is_non, isnt_non, len_tup, len_lst, len_ref, len_bor, len_scr, int_bl, int_int, abs_int, min_int, max_int, blD_bl, cell_lst, cellA_lst, cellA_dk, st_ref, at_0, at_1, at_2, at_3, at_4, ixN_10, ixN_20, ixN_21, ixN_30, ixN_31, ixN_32, dataS_d, datas_nil, datas_cons, truth_bl, notD, intS, blS, nonB, List.length_cons, List.length_nil, Nat.reduceAdd, endsF_rt, endsF_nx, rvQ_d, rvQ_new, rvQ_newK, rv_d, rv_ref, rv_cl, rv_ck, okRef_d, okRef_ref, List.not_mem_nil, List.nil_append, true_and, and_true, List.take_succ_cons, List.take_zero, Nat.zero_add, decide_eq_true_eq, Bool.false_eq_true, if_false, if_true, callS, handS_n, handS_tr, handS_fr, handS_fd, handS_fb, cellsAt_c, cellsAt_0, Option.getD_some, backS_0, backS_1, eCall, tup_lst, tup_tup, tup_ref, fLc, iRg, rng_1, rng_2, wipeS_c, wipeS_n, iPq, iSq, seq_tup, seq_lst, seq_bor, lst_lst, lst_bor, gdS_d, gdS_b, sFor, gNm, gcS_c, gcS_n, gcO_d, gcO_n, mapp, rcv_0, rcv_1, rcv_l, gcO_r0, gcO_r1, gcO_z, seal_d, eq_self, List.take_nil, List.cons_append, poSl, poI, poNo, slD_t, intO_i, list_t, list_l, in_str2, ofS_inj, String.reduceEq, or_false, false_or, or_true, true_or, or_self, decide_true, decide_false, Bool.not_true, Bool.not_false, at_m1_2, at_m1_3, cut_2, cut_3, all_bls, any_bls, count_bls, lcg_nm, lcg_tp, lst_ref, laid_l, laid_b, laid_r, list_b, list_r, len_refI, lenOf_ref, rcv_2, rcv_3, rcv_b, slF_l, slF_b, slF_r, cat_l, repr_d, plSl, backS_2, List.mem_singleton, one_ne, if_false, callS, seal_r, Nat.le_refl, cat_get, cat_set, List.append_assoc, List.length_append, List.append_nil, at_ite, Nat.zero_le, iTq, tupD, $xs,*])
set_option maxHeartbeats 2000000
set_option maxHeartbeats 2000000
set_option maxHeartbeats 4000000
set_option maxHeartbeats 4000000
set_option maxHeartbeats 2000000
set_option maxHeartbeats 4000000
set_option maxHeartbeats 4000000
set_option maxHeartbeats 2000000
set_option maxHeartbeats 2000000
set_option maxHeartbeats 2000000
set_option maxHeartbeats 2000000
set_option maxHeartbeats 2000000
set_option maxHeartbeats 2000000
set_option maxHeartbeats 2000000
set_option maxHeartbeats 2000000
def nonD : D → Bool
  | .non => true
  | _ => false
theorem flat_dis {g : Nat → List Int} : ∀ {ps : List Nat}, (ps.map g).flatten.Nodup → ps.Pairwise fun p q => ∀ k, k ∈ g p → k ∉ g q
  | [], _ => .nil
  | p :: ps, h => by
    rw [List.map_cons, List.flatten_cons, List.nodup_append] at h
    obtain ⟨_, h2, h3⟩ := h
    refine List.pairwise_cons.mpr ⟨fun q hq k hk hk2 => ?_, flat_dis h2⟩
    exact h3 k hk k (List.mem_flatten.mpr ⟨_, List.mem_map.mpr ⟨q, hq, rfl⟩, hk2⟩) rfl
theorem non_nonB {d : D} : nonB (.d d) = nonD d := by cases d <;> rfl
set_option maxHeartbeats 2000000
theorem nd_put {f : Fn} {x y : Nat} {b : Bool} (h : ndF (fx f x b) y) : y ≠ x ∧ ndF f y := by
  have hne : y ≠ x := fun e => h (by rw [e, fx_fx, fx_fx])
  refine ⟨hne, fun e => h ?_⟩
  rw [fx_comm (a := b) (b := false) fun z => hne z.symm, fx_comm (a := b) (b := true) fun z => hne z.symm, e]
theorem nd_side {f : Fn} {x y : Nat} (hne : y ≠ x) (h : ndF f y) : ndF (fx f x false) y ∨ ndF (fx f x true) y := by
  refine Classical.byContradiction fun c => h ?_
  have a : ∀ b, fx (fx f x b) y false = fx (fx f x b) y true := fun b => Classical.byContradiction fun z => c (by
    cases b
    · exact .inl z
    · exact .inr z)
  funext v
  rw [← fx_same (f := fx f y false) v x, ← fx_same (f := fx f y true) v x, ← fx_comm (fun z => hne z.symm), ← fx_comm (fun z => hne z.symm), a]
section
variable {ks : List Nat} {f : Fn} {W : Wb} {K : List Kf}
theorem PlW.nms (P : PlW ks f W K) : ∀ (r : Nat) (q : Kf), K[r]? = some q → ∀ z : Int, z ∈ nmAt W r ↔ z ∈ q.1.map Int.ofNat := by
  intro r
  induction r using Nat.strongRecOn with
  | _ r ih =>
  intro q e z
  have hr : r < W.length := by rw [← P.I.len]; exact (List.getElem?_eq_some_iff.mp e).1
  obtain ⟨w, hw⟩ : ∃ w, W[r]? = some w := ⟨_, List.getElem?_eq_getElem hr⟩
  have hk := P.I.row r q w e hw
  have ho := P.I.ok r w hw
  obtain ⟨N, S⟩ := P.I.nd r q e
  rw [nm_mem P.I.ok hw]
  cases w with
  | yes =>
    have h1 : q.1 = [] := hk.1
    rw [h1]
    simp [Rw.ks, Rw.below]
  | no =>
    have h1 : q.1 = [] := hk.1
    rw [h1]
    simp [Rw.ks, Rw.below]
  | has k b => exact hk.elim
  | any ps => exact hk.elim
  | all ps =>
    obtain ⟨h1, h2, h3, h4⟩ := hk
    rw [List.mem_map]
    constructor
    · rintro (h | ⟨p, hp, hz⟩)
      · exact absurd h List.not_mem_nil
      · obtain ⟨q', e', _⟩ := h3 p hp
        obtain ⟨k, hk, rfl⟩ := List.mem_map.mp ((ih p (ho.2.2 p hp) q' e' z).mp hz)
        exact ⟨k, h4.mem_iff.mp (List.mem_flatMap.mpr ⟨p, hp, by rw [getD_some e']; exact hk⟩), rfl⟩
    · rintro ⟨k, hk, rfl⟩
      obtain ⟨p, hp, hk⟩ := List.mem_flatMap.mp (h4.mem_iff.mpr hk)
      obtain ⟨q', e', _⟩ := h3 p hp
      rw [getD_some e'] at hk
      exact .inr ⟨p, hp, (ih p (ho.2.2 p hp) q' e' _).mpr (List.mem_map_of_mem hk)⟩
  | pick x lo hi =>
    obtain ⟨t, e1, h2, ⟨ql, el, gl⟩, qh, eh, gh⟩ := hk
    obtain ⟨Nl, Sl⟩ := P.I.nd lo ql el
    obtain ⟨Nh, Sh⟩ := P.I.nd hi qh eh
    have hm : ∀ y, y ∈ q.1 ↔ ndF q.2 y := fun y => ⟨N.nd y, nd_of_mem N.dep⟩
    have ml : ∀ y, y ∈ ql.1 ↔ ndF ql.2 y := fun y => ⟨Nl.nd y, nd_of_mem Nl.dep⟩
    have mh : ∀ y, y ∈ qh.1 ↔ ndF qh.2 y := fun y => ⟨Nh.nd y, nd_of_mem Nh.dep⟩
    have hx : x ∈ q.1 := by rw [e1]; exact List.mem_cons_self
    rw [List.mem_map]
    constructor
    · rintro (h | ⟨p, hp, hz⟩)
      · have h : z ∈ [(x : Int)] := h
        exact ⟨x, hx, (List.mem_singleton.mp h).symm⟩
      · have hp : p ∈ [lo, hi] := hp
        simp only [List.mem_cons, List.not_mem_nil, or_false] at hp
        rcases hp with rfl | rfl
        · obtain ⟨k, hk, rfl⟩ := List.mem_map.mp ((ih p ho.2.1 ql el z).mp hz)
          exact ⟨k, (hm k).mpr (nd_put (gl ▸ (ml k).mp hk)).2, rfl⟩
        · obtain ⟨k, hk, rfl⟩ := List.mem_map.mp ((ih p ho.2.2 qh eh z).mp hz)
          exact ⟨k, (hm k).mpr (nd_put (gh ▸ (mh k).mp hk)).2, rfl⟩
    · rintro ⟨k, hk, rfl⟩
      by_cases hkx : k = x
      · subst hkx
        exact .inl (List.mem_singleton.mpr rfl)
      · rcases nd_side hkx ((hm k).mp hk) with h | h
        · exact .inr ⟨lo, List.mem_cons_self, (ih lo ho.2.1 ql el _).mpr (List.mem_map_of_mem ((ml k).mpr (gl ▸ h)))⟩
        · exact .inr ⟨hi, List.mem_cons_of_mem _ List.mem_cons_self, (ih hi ho.2.2 qh eh _).mpr (List.mem_map_of_mem ((mh k).mpr (gh ▸ h)))⟩
theorem PlW.fm (P : PlW ks f W K) : WbFm W := by
  intro r w hw
  have hr := (List.getElem?_eq_some_iff.mp hw).1
  obtain ⟨q, e, N, S, _⟩ := P.key hr
  have hk := P.I.row r q w e hw
  cases w with
  | yes => trivial
  | no => trivial
  | has k b => trivial
  | any ps => exact hk.elim
  | all ps =>
    obtain ⟨h1, h2, h3, h4⟩ := hk
    have nd := h4.nodup_iff.mpr N.no
    have nd2 : (ps.map fun p => ((K.getD p ([], q.2)).1).map Int.ofNat).flatten.Nodup := by
      have e2 : (ps.map fun p => ((K.getD p ([], q.2)).1).map Int.ofNat).flatten = (ps.flatMap fun p => (K.getD p ([], q.2)).1).map Int.ofNat := by
        rw [List.map_flatMap, List.flatMap_def]
      rw [e2]
      exact List.pairwise_map.mpr (nd.imp fun h z => h (Int.ofNat.inj z))
    refine (flat_dis nd2).imp_of_mem fun {a b} ha hb h k hk1 hk2 => ?_
    obtain ⟨qa, ea, _⟩ := h3 a ha
    obtain ⟨qb, eb, _⟩ := h3 b hb
    rw [getD_some ea, getD_some eb] at h
    exact h k ((P.nms a qa ea k).mp hk1) ((P.nms b qb eb k).mp hk2)
  | pick x lo hi =>
    obtain ⟨t, e1, h2, ⟨ql, el, gl⟩, qh, eh, gh⟩ := hk
    obtain ⟨Nl, Sl⟩ := P.I.nd lo ql el
    obtain ⟨Nh, Sh⟩ := P.I.nd hi qh eh
    constructor
    · intro h
      obtain ⟨k, hk, e⟩ := List.mem_map.mp ((P.nms lo ql el _).mp h)
      cases Int.ofNat.inj e
      exact (nd_put (gl ▸ Nl.nd _ hk)).1 rfl
    · intro h
      obtain ⟨k, hk, e⟩ := List.mem_map.mp ((P.nms hi qh eh _).mp h)
      cases Int.ofNat.inj e
      exact (nd_put (gh ▸ Nh.nd _ hk)).1 rfl
end
set_option maxHeartbeats 2000000
set_option maxHeartbeats 2000000
set_option maxHeartbeats 2000000
structure Inv2 (p r : Nat → Nat) : Prop where
  a : ∀ x, r (p x) = x
  b : ∀ x, p (r x) = x
theorem Inv2.symm {p r : Nat → Nat} (h : Inv2 p r) : Inv2 r p := ⟨h.b, h.a⟩
section
variable {p r : Nat → Nat} {s : Bool}
theorem Inv2.inj (h : Inv2 p r) {x y : Nat} (e : p x = p y) : x = y := by rw [← h.a x, e, h.a]
end
set_option maxHeartbeats 2000000
set_option maxHeartbeats 2000000
set_option maxHeartbeats 1000000
theorem nodup_leG {α : Type} [DecidableEq α] : ∀ {l m : List α}, l.Nodup → (∀ x ∈ l, x ∈ m) → l.length ≤ m.length
  | [], _, _, _ => Nat.zero_le _
  | x :: l, m, hn, hs => by
    obtain ⟨h1, h2⟩ := List.nodup_cons.mp hn
    have hx := hs x List.mem_cons_self
    have ih := nodup_leG (l := l) (m := m.erase x) h2 fun y hy => (List.mem_erase_of_ne fun e => h1 (by rw [← e]; exact hy)).mpr (hs y (List.mem_cons_of_mem _ hy))
    have := List.length_erase_of_mem hx
    have := List.length_pos_of_mem hx
    rw [List.length_cons]
    omega
set_option maxHeartbeats 2000000
set_option maxHeartbeats 2000000
set_option maxHeartbeats 2000000
set_option maxHeartbeats 2000000
set_option maxHeartbeats 2000000
/-- the orders, name by name put behind -/
def pmsB : Nat → List Nat → List (List Nat)
  | 0, _ => [[]]
  | q + 1, ns => (pmsB q ns).flatMap fun o => (ns.filter fun k => decide (k ∉ o)).map fun k => o ++ [k]
set_option maxHeartbeats 2000000
set_option maxHeartbeats 2000000
def pmB (l : List Nat) : Bool := !decide l.Nodup || decide (l ∈ pmsB l.length (List.range l.length))
theorem pm2 : ((List.range 2).all fun a => (List.range 2).all fun b => pmB [a, b]) = true := by decide +kernel
set_option maxHeartbeats 2000000
/-- the rows that the top comes to -/
inductive Rch (w : Wb) : Nat → Prop
  | top : 1 ≤ w.length → Rch w (w.length - 1)
  | down {p q : Nat} {r : Rw} : Rch w q → w[q]? = some r → p ∈ r.below → Rch w p
noncomputable def rcB (w : Wb) (p : Nat) : Bool := @decide (Rch w p) (Classical.propDecidable _)
theorem rcB_iff {w : Wb} {p : Nat} : rcB w p = true ↔ Rch w p := by unfold rcB; exact @decide_eq_true_iff _ (Classical.propDecidable _)
noncomputable def spots (w : Wb) : List Nat := (List.range w.length).filter (rcB w)
theorem rch_lt {n : Nat} {w : Wb} (o : WbOk n w) {p : Nat} (h : Rch w p) : p < w.length := by
  induction h with
  | top h => omega
  | down h e hp ih =>
    have := (o _ _ e).below _ hp
    omega
set_option maxHeartbeats 2000000
def sp_reached : SpD := fun as M Q => ∃ (s : Sv) (w : Wb) (n : Nat), as = [s] ∧ LV s (w.map rD) ∧ M = [] ∧ WbOk n w ∧ 1 ≤ w.length ∧ w.length ≤ 100000 ∧ Q (.new ((spots w).map nD)) []
def t_rcb (sp_rows_below : SpD) : TS' :=
  (sSeq (sFor (iRg false (aP [(po2 subD (poN lenD [(pV 0)]) (pC (.int 1))), (po1 negD (pC (.int 1))), (po1 negD (pC (.int 1)))])) (gNm 2)
  (sIf (cP (bTr (po2 ixD (pV 1) (pV 2))))
  (sFor (iSq (eSeal 0 (eCall [false] sp_rows_below (aP [(po2 ixD (pV 0) (pV 2))])))) (gNm 3)
  (sSub (eP (pC (.bl true))) (eP (pV 1)) (eP (pV 3))))
  sNil))
  (sRet (eNw (fLc (iEn (eP (pV 1))) (.tp [2, 4]) (cP (bTr (pV 4))) (eP (pV 2)) [2, 4]))))
def r_reached (sp_rows_below : SpD) : TS' :=
  (sSeq (sSet 1 (eNw (fP (pl2 repF (pFz (plLst [(pC (.bl false))])) (poN lenD [(pV 0)])))))
  (sSeq (sSub (eP (pC (.bl true))) (eP (pV 1)) (eP (po1 negD (pC (.int 1)))))
  (t_rcb sp_rows_below)))
/-- marked, when the rows from k on are told -/
def Mk (w : Wb) (k p : Nat) : Prop := p = w.length - 1 ∨ ∃ q r, k ≤ q ∧ Rch w q ∧ w[q]? = some r ∧ p ∈ r.below
theorem mk_rch {w : Wb} {k p : Nat} (h1 : 1 ≤ w.length) (h : Mk w k p) : Rch w p := by
  rcases h with rfl | ⟨q, r, _, hq, e, hp⟩
  · exact .top h1
  · exact .down hq e hp
theorem rch_mk {n : Nat} {w : Wb} (o : WbOk n w) {k p : Nat} (hp : k ≤ p + 1) (h : Rch w p) : Mk w k p := by
  cases h with
  | top h => exact .inl rfl
  | down hq e hb =>
    have := (o _ _ e).below _ hb
    exact .inr ⟨_, _, by omega, hq, e, hb⟩
theorem mk_down {w : Wb} {k p : Nat} (h : Mk w k p) (hk : j ≤ k) : Mk w j p := by
  rcases h with h | ⟨q, r, h1, h2⟩
  · exact .inl h
  · exact .inr ⟨q, r, by omega, h2⟩
/-- the flags -/
def Fl (w : Wb) (P : Nat → Prop) (bs : List Bool) : Prop := bs.length = w.length ∧ ∀ p, p < w.length → (bs[p]? = some true ↔ P p)
theorem rep_intL {M : Mem} {as : List D} {k : Int} : repF M (.d (.lst as)) (.d (.int k)) = gd (-(2 ^ 63) ≤ k ∧ k < 2 ^ 63 ∧ as.length * k.toNat ≤ sizeLine) (List.replicate k.toNat as).flatten := rfl
theorem rep_fl {M : Mem} {L : Nat} (h : L < 1000000) : repF M (.d (.lst [.bl false])) (.d (.int (L : Int))) = some ((List.replicate L false).map D.bl) := by
  have h3 : (2 : Int) ^ 63 = 9223372036854775808 := by decide
  have hc : -(2 ^ 63) ≤ (L : Int) ∧ (L : Int) < 2 ^ 63 ∧ [D.bl false].length * (L : Int).toNat ≤ sizeLine := by
    rw [h3, sizeLine_eq, Int.toNat_natCast]
    refine ⟨by omega, by omega, by simp; omega⟩
  rw [rep_intL, gd_pos hc, Int.toNat_natCast]
  clear hc
  congr 1
  induction L with
  | zero => rfl
  | succ L ih => rw [List.replicate_succ, List.replicate_succ, List.flatten_cons, List.map_cons, ih (by omega)]; rfl
theorem ixN_last {L : Nat} (h : 1 ≤ L) : ixN L (-1) = some (L - 1) := by
  unfold ixN
  rw [if_neg (by decide), if_pos (by omega)]
  congr 1
  omega
theorem fl_start {w : Wb} (hl : 1 ≤ w.length) : Fl w (Mk w w.length) ((List.replicate w.length false).set (w.length - 1) true) := by
  refine ⟨by simp, fun p hp => ?_⟩
  rw [List.getElem?_set]
  constructor
  · intro h
    by_cases e : w.length - 1 = p
    · exact .inl e.symm
    · rw [if_neg e, List.getElem?_replicate, if_pos hp] at h
      cases h
  · rintro (rfl | ⟨q, r, h1, _, h2, _⟩)
    · rw [if_pos rfl, if_pos (by simpa using hp)]
    · have := (List.getElem?_eq_some_iff.mp h2).1
      omega
theorem fl_set {w : Wb} {P P' : Nat → Prop} {bs : List Bool} {q : Nat} (h : Fl w P bs) (hq : ∀ p, P' p ↔ P p ∨ p = q) : Fl w P' (bs.set q true) := by
  refine ⟨by rw [List.length_set]; exact h.1, fun p hp => ?_⟩
  have g := h.2 p hp
  rw [List.getElem?_set, hq p]
  by_cases e : q = p
  · subst e
    rw [if_pos rfl, if_pos (by rw [h.1]; exact hp)]
    simp
  · rw [if_neg e, g]
    constructor
    · exact .inl
    · rintro (h | h)
      · exact h
      · exact absurd h.symm e
theorem fl_cong {w : Wb} {P P' : Nat → Prop} {bs : List Bool} (h : Fl w P bs) (e : ∀ p, P p ↔ P' p) : Fl w P' bs := ⟨h.1, fun p hp => (h.2 p hp).trans (e p)⟩
def b_rc1  : TS' :=
  (sSub (eP (pC (.bl true))) (eP (pV 1)) (eP (pV 3)))
/-- the parts of one row, marked -/
theorem rc_parts {w : Wb} {P : Nat → Prop} {r : Rw} {bs : List Bool} {E : Ends'} {s : Sv} {o2 o3 : Option Sv} (hs : LV s (w.map rD)) (hb : Fl w P bs) (hr : ∀ p ∈ r.below, p < w.length)
    (fin : ∀ (bs : List Bool) (o3 : Option Sv), Fl w (fun p => P p ∨ p ∈ r.below) bs → E.nx [some s, some (.ref 0), gcO 1 o2, gcO 2 o3, none] [.lst (bs.map D.bl), .gone]) :
    forL 2 (gNm 3) b_rc1 E (fun _ => True) (r.below.map nD) [some s, some (.ref 0), gcO 1 o2, gcO 2 o3, none] [.lst (bs.map D.bl), .gone] := by
  refine for_ix _ (fun i δ M => ∃ (bs : List Bool) (o3 : Option Sv), Fl w (fun p => P p ∨ p ∈ r.below.take i) bs ∧ δ = [some s, some (.ref 0), gcO 1 o2, gcO 2 o3, none] ∧ M = [.lst (bs.map D.bl), .gone]) ?_ ?_ _ _ ⟨bs, o3, fl_cong hb (by simp), rfl, rfl⟩
  · rintro δ M ⟨bs, o3, h, rfl, rfl⟩
    rw [List.length_map, List.take_length] at h
    exact ⟨trivial, fin bs o3 h⟩
  · rintro i x δ M nx hx ⟨bs, o3, h, rfl, rfl⟩ k
    obtain ⟨p, hp, rfl⟩ : ∃ p, r.below[i]? = some p ∧ x = nD p := by
      rw [List.getElem?_map] at hx
      obtain ⟨p, h1, rfl⟩ := Option.map_eq_some_iff.mp hx
      exact ⟨p, h1, rfl⟩
    have hpw := hr p (List.mem_of_getElem? hp)
    refine ⟨trivial, ?_⟩
    simp only [b_rc1, gNm, nD, List.set_cons_succ, List.set_cons_zero]
    have e1 : ixN (bs.map D.bl).length (p : Int) = some p := ixN_nat (by rw [List.length_map, h.1]; exact hpw)
    simp only [VLY, e1]
    have e2 : (bs.map D.bl).set p (.bl true) = (bs.set p true).map D.bl := by rw [List.map_set]
    rw [e2]
    refine k _ _ ⟨bs.set p true, some (.d (nD p)), fl_set h fun q => ?_, ?_, rfl⟩
    · rw [take_snoc hp, List.mem_append, List.mem_singleton]
      constructor
      · rintro (h | h | h)
        · exact .inl (.inl h)
        · exact .inl (.inr h)
        · exact .inr h
      · rintro ((h | h) | h)
        · exact .inl h
        · exact .inr (.inl h)
        · exact .inr (.inr h)
    · simp only [gcS_c, gcS_n, gcO_d, hs.gc, nD, gcO_r (show 0 < 2 by decide), gcO_up (show 1 ≤ 2 by decide), gcO_n]
theorem rc_set {s : Sv} {xs ys : List D} {E : Ends'} {f : Mem → Sv → Sv → Option (List D)} (hs : LV s xs) (hf : f [] (.d (.lst [.bl false])) (.d (.int (xs.length : Int))) = some ys) (fin : E.nx [some s, some (.ref 0), none, none, none] [.lst ys]) :
    (sSet 1 (eNw (fP (pl2 f (pFz (plLst [(pC (.bl false))])) (poN lenD [(pV 0)]))))) E [some s, none, none, none, none] [] := by
  simp only [VLY, hs.len, hf]
  exact fin
theorem rc_sub {s : Sv} {ds : List D} {E : Ends'} {j : Nat} (h : ixN ds.length (-1) = some j) (fin : E.nx [some s, some (.ref 0), none, none, none] [.lst (ds.set j (.bl true))]) :
    sSub (eP (pC (.bl true))) (eP (pV 1)) (eP (po1 negD (pC (.int 1)))) E [some s, some (.ref 0), none, none, none] [.lst ds] := by
  simp only [VLY, h]
  exact fin
theorem pure_rcb {w : Wb} {n : Nat} {s : Sv} {bs0 : List Bool} {Q : Rv → Mem → Prop} (hs : LV s (w.map rD)) (o : WbOk n w) (hl : 1 ≤ w.length) (hl2 : w.length ≤ 100000) (hf : Fl w (Mk w w.length) bs0) (z : Q (.new ((spots w).map nD)) []) :
    t_rcb sp_below (endsF 0 Q) [some s, some (.ref 0), none, none, none] [.lst (bs0.map D.bl)] := by
  unfold t_rcb
  rw [sSeq_app]
  have hm : (w.map rD).length = w.length := List.length_map ..
  simp only [VLY, hs.len, hm]
  refine rng_down (by omega) ⟨fun h => h.elim, ?_⟩
  refine for_ix _ (fun j δ M => ∃ (bs : List Bool) (o2 o3 : Option Sv), Fl w (Mk w (w.length - j)) bs ∧ δ = [some s, some (.ref 0), gcO 1 o2, gcO 1 o3, none] ∧ M = [.lst (bs.map D.bl)]) ?_ ?_ _ _ ⟨bs0, none, none, hf, rfl, rfl⟩
  · rintro δ M ⟨bs, o2, o3, hb, rfl, rfl⟩
    refine ⟨trivial, ?_⟩
    rw [rgC_len, Nat.sub_self] at hb
    simp only [VLY, iEn]
    have hsp : ∀ p, p < w.length → (bs[p]? = some true ↔ Rch w p) := fun p hp => (hb.2 p hp).trans ⟨mk_rch hl, rch_mk o (Nat.zero_le _)⟩
    refine lc_ix _ (fun j acc M => acc = (((List.range j).filter (rcB w)).map nD) ∧ M = [.lst (bs.map D.bl)]) ?_ ?_ _ _ ⟨rfl, rfl⟩
    · rintro acc M ⟨rfl, rfl⟩
      refine ⟨rfl, ?_⟩
      rw [enumL_len, List.length_map, hb.1]
      exact z
    · rintro j x acc M nx hx ⟨rfl, rfl⟩ k
      obtain ⟨y, hy, rfl⟩ := enum_at hx
      rw [List.getElem?_map] at hy
      obtain ⟨b, hy2, rfl⟩ := Option.map_eq_some_iff.mp hy
      clear hy
      have hj : j < w.length := by rw [← hb.1]; exact (List.getElem?_eq_some_iff.mp hy2).1
      have hg := hsp j hj
      rw [hy2] at hg
      refine ⟨rfl, ?_⟩
      cases b with
      | false =>
        simp only [VLY, gTp, setAll]
        refine k _ _ ⟨?_, rfl⟩
        rw [List.range_succ, List.filter_append]
        have : rcB w j = false := by
          cases e : rcB w j with
          | false => rfl
          | true => have := hg.mpr (rcB_iff.mp e); cases this
        simp [this]
      | true =>
        simp only [VLY, gTp, setAll]
        refine k _ _ ⟨?_, rfl⟩
        rw [List.range_succ, List.filter_append]
        have : rcB w j = true := rcB_iff.mpr (hg.mp rfl)
        simp [this, nD]
  · rintro j x δ M nx hx ⟨bs, o2, o3, hb, rfl, rfl⟩ k
    obtain ⟨hj, rfl⟩ := rgc_get hx
    obtain ⟨q, hq, hq1, hq2⟩ : ∃ q : Nat, ((w.length : Int) - 1 + ((j : Nat) : Int) * (-1)) = (q : Int) ∧ q + 1 + j = w.length ∧ q < w.length := ⟨w.length - 1 - j, by omega, by omega, by omega⟩
    rw [hq]
    refine ⟨trivial, ?_⟩
    obtain ⟨r, hr⟩ : ∃ r, w[q]? = some r := ⟨_, List.getElem?_eq_getElem hq2⟩
    have ixw : ∀ M, ixD M s (.d (.int (q : Int))) = some (.d (rD r)) := fun M => by rw [hs.ix, at_nat, List.getElem?_map, hr]; rfl
    have hbq : (bs.map D.bl)[q]? = some (.bl (bs[q]'(by rw [hb.1]; exact hq2))) := by rw [List.getElem?_map, List.getElem?_eq_getElem (by rw [hb.1]; exact hq2)]; rfl
    have hg := hb.2 q hq2
    rw [List.getElem?_eq_getElem (by rw [hb.1]; exact hq2)] at hg
    generalize bs[q]'(by rw [hb.1]; exact hq2) = b at hbq hg
    simp only [gNm, List.set_cons_succ, List.set_cons_zero]
    cases b with
    | false =>
      simp only [VLY, at_nat, hbq]
      refine k _ _ ⟨bs, some (.d (.int (q : Int))), o3, fl_cong hb fun p => ⟨fun h => mk_down h (by omega), fun h => ?_⟩, ?_, rfl⟩
      · rcases h with h | ⟨q', r', h1, h2, h3, h4⟩
        · exact .inl h
        · by_cases e : q' = q
          · subst e
            have := hg.mpr (rch_mk o (by omega) h2)
            cases this
          · exact .inr ⟨q', r', by omega, h2, h3, h4⟩
      · simp only [gcS_c, gcS_n, gcO_d, hs.gc, gcO_r (show 0 < 1 by decide), gcO_up (Nat.le_refl 1), gcO_n]
    | true =>
      simp only [VLY, at_nat, hbq, ixw]
      have hrq : Rch w q := mk_rch hl (hg.mp rfl)
      refine ⟨r, rfl, rfl, ?_⟩
      simp only [VLY]
      have e3 : gcO 1 o3 = gcO 2 (gcO 1 o3) := (gcO_up (by decide)).symm
      have e2 : ∀ x : D, some (Sv.d x) = gcO 1 (some (Sv.d x)) := fun x => rfl
      rw [e3, e2 (.int (q : Int))]
      refine rc_parts hs hb (fun p hp => Nat.lt_trans ((o q r hr).below p hp) hq2) fun bs' o3' hb' => ?_
      refine k _ _ ⟨bs', some (.d (.int (q : Int))), gcO 2 o3', fl_cong hb' fun p => ⟨?_, ?_⟩, ?_, rfl⟩
      · rintro (h | h)
        · exact mk_down h (by omega)
        · exact .inr ⟨q, r, by omega, hrq, hr, h⟩
      · rintro (h | ⟨q', r', h1, h2, h3, h4⟩)
        · exact .inl (.inl h)
        · by_cases e : q' = q
          · subst e
            rw [hr] at h3
            cases h3
            exact .inr h4
          · exact .inl (.inr ⟨q', r', by omega, h2, h3, h4⟩)
      · simp only [gcS_c, gcS_n, gcO_d, hs.gc, gcO_r (show 0 < 1 by decide), gcO_n]
theorem pure_reached (as : List Sv) (M : Mem) (Q : Rv → Mem → Prop) (h : sp_reached as M Q) : r_reached sp_below (endsF M.length Q) (startD 5 as) M := by
  obtain ⟨s, w, n, rfl, hs, rfl, o, hl, hl2, z⟩ := h
  show r_reached sp_below (endsF 0 Q) [some s, none, none, none, none] []
  unfold r_reached
  rw [sSeq_app]
  refine rc_set hs (by rw [List.length_map]; exact rep_fl (by omega)) ?_
  show sSeq _ _ _ _ _
  rw [sSeq_app]
  have hrl : ((List.replicate w.length false).map D.bl).length = w.length := by simp
  refine rc_sub (j := w.length - 1) (by rw [hrl]; exact ixN_last hl) ?_
  have hst : ((List.replicate w.length false).map D.bl).set (w.length - 1) (.bl true) = ((List.replicate w.length false).set (w.length - 1) true).map D.bl := by rw [List.map_set]
  rw [hst]
  exact pure_rcb hs o hl hl2 (fl_start hl) z
set_option maxHeartbeats 2000000
set_option maxHeartbeats 2000000
set_option maxHeartbeats 2000000
set_option maxHeartbeats 2000000
set_option maxHeartbeats 2000000
mutual
def Cm.sub (σ : Nat → Cm) : Cm → Cm
  | .yes => .yes
  | .no => .no
  | .name k => σ k
  | .neg c => .neg (c.sub σ)
  | .same a b => .same (a.sub σ) (b.sub σ)
  | .all cs => .all (Cm.subL σ cs)
  | .any cs => .any (Cm.subL σ cs)
  | .least m cs => .least m (Cm.subL σ cs)
def Cm.subL (σ : Nat → Cm) : List Cm → List Cm
  | [] => []
  | c :: cs => c.sub σ :: Cm.subL σ cs
end
set_option maxHeartbeats 2000000
set_option maxHeartbeats 2000000
abbrev Blk := List Nat × Bool
/-- blocks, none empty, no name twice -/
structure BkO (Bs : List Blk) : Prop where
  ne : ∀ B ∈ Bs, B.1 ≠ []
  nd : (Bs.flatMap (·.1)).Nodup
theorem BkO.hd {B : Blk} {Bs : List Blk} (h : BkO (B :: Bs)) : B.1.Nodup ∧ ∀ x ∈ B.1, x ∉ Bs.flatMap (·.1) := by
  have := h.nd
  rw [List.flatMap_cons] at this
  obtain ⟨h1, _, h3⟩ := List.nodup_append.mp this
  exact ⟨h1, fun x hx hx' => h3 x hx x hx' rfl⟩
set_option maxHeartbeats 2000000
set_option maxHeartbeats 2000000
set_option maxHeartbeats 2000000
end VL
set_option Elab.async false
set_option linter.all false
set_option maxRecDepth 100000
set_option maxHeartbeats 2000000
namespace VL
open PySem PySem.Spec L2
end VL
set_option Elab.async false
set_option linter.all false
set_option maxRecDepth 100000
set_option maxHeartbeats 2000000
namespace VL
open PySem PySem.Spec L2
end VL
set_option Elab.async false
set_option linter.all false
set_option maxRecDepth 100000
set_option maxHeartbeats 2000000
namespace VL
open PySem PySem.Spec L2
end VL
set_option Elab.async false
set_option linter.all false
set_option maxRecDepth 100000
set_option maxHeartbeats 2000000
namespace VL
open PySem PySem.Spec L2
end VL
set_option Elab.async false
set_option linter.all false
set_option maxRecDepth 100000
set_option maxHeartbeats 2000000
namespace VL
open PySem PySem.Spec L2
set_option maxHeartbeats 2000000
def Rw.asks : Rw → Bool
  | .has _ _ => true
  | .pick _ _ _ => true
  | _ => false
def Rw.kn : Rw → Nat
  | .has k _ => k
  | .pick k _ _ => k
  | _ => 0
abbrev rowOf (w : Wb) (p : Nat) : Rw := w.getD p .yes
/-- row p is come to from row q, by rows that ask no name -/
inductive Dn (w : Wb) (q : Nat) : Nat → Prop
  | one {p : Nat} : p ∈ (rowOf w q).below → Dn w q p
  | more {p u : Nat} : Dn w q p → (rowOf w p).asks = false → u ∈ (rowOf w p).below → Dn w q u
noncomputable def nxB (w : Wb) (q p : Nat) : Bool := @decide (Dn w q p ∧ (rowOf w p).asks = true) (Classical.propDecidable _)
noncomputable def nxS (w : Wb) (q : Nat) : List Nat := (List.range w.length).filter (nxB w q)
theorem nxB_iff {w : Wb} {q p : Nat} : nxB w q p = true ↔ Dn w q p ∧ (rowOf w p).asks = true := by unfold nxB; exact @decide_eq_true_iff _ (Classical.propDecidable _)
theorem rowOf_at {w : Wb} {p : Nat} {r : Rw} (h : w[p]? = some r) : rowOf w p = r := by unfold rowOf; rw [List.getD_eq_getElem?_getD, h]; rfl
theorem row_below {n : Nat} {w : Wb} (o : WbOk n w) {q p : Nat} (h : p ∈ (rowOf w q).below) : p < q ∧ q < w.length := by
  by_cases hq : q < w.length
  · have e := List.getElem?_eq_getElem hq
    rw [rowOf_at e] at h
    exact ⟨(o q _ e).below p h, hq⟩
  · unfold rowOf at h
    rw [List.getD_eq_getElem?_getD, List.getElem?_eq_none (by omega)] at h
    cases h
theorem dn_lt {n : Nat} {w : Wb} (o : WbOk n w) {q p : Nat} (h : Dn w q p) : p < q ∧ q < w.length := by
  induction h with
  | one h => exact row_below o h
  | more h _ hu ih =>
    have := (row_below o hu).1
    exact ⟨by omega, ih.2⟩
theorem nxS_mem {n : Nat} {w : Wb} (o : WbOk n w) {q p : Nat} : p ∈ nxS w q ↔ Dn w q p ∧ (rowOf w p).asks = true := by
  unfold nxS
  rw [List.mem_filter, List.mem_range, nxB_iff]
  constructor
  · exact fun h => h.2
  · intro h
    have := dn_lt o h.1
    exact ⟨by omega, h⟩
theorem nxS_pw {w : Wb} {q : Nat} : (nxS w q).Pairwise (· < ·) := List.Pairwise.sublist List.filter_sublist List.pairwise_lt_range
/-- what is found, what is left -/
structure Dfs (w : Wb) (q : Nat) (F L : List Nat) : Prop where
  nd : F.Nodup
  dn : ∀ p, p ∈ F ∨ p ∈ L → Dn w q p
  c0 : ∀ p ∈ (rowOf w q).below, p ∈ F ∨ p ∈ L
  c1 : ∀ p ∈ F, (rowOf w p).asks = false → ∀ u ∈ (rowOf w p).below, u ∈ F ∨ u ∈ L
theorem Dfs.start {w : Wb} {q : Nat} : Dfs w q [] (rowOf w q).below := ⟨.nil, fun p h => .one (by simpa using h), fun p h => .inr h, fun p h => by cases h⟩
theorem Dfs.skip {w : Wb} {q p : Nat} {F L : List Nat} (h : Dfs w q F (L ++ [p])) (hp : p ∈ F) : Dfs w q F L := by
  have m : ∀ u, u ∈ F ∨ u ∈ L ++ [p] → u ∈ F ∨ u ∈ L := fun u hu => by
    rcases hu with hu | hu
    · exact .inl hu
    · rcases List.mem_append.mp hu with hu | hu
      · exact .inr hu
      · rw [List.mem_singleton.mp hu]; exact .inl hp
  refine ⟨h.nd, fun u hu => h.dn u ?_, fun u hu => m u (h.c0 u hu), fun v hv ha u hu => m u (h.c1 v hv ha u hu)⟩
  rcases hu with hu | hu
  · exact .inl hu
  · exact .inr (List.mem_append_left _ hu)
theorem Dfs.go {w : Wb} {q p : Nat} {F L B : List Nat} (h : Dfs w q F (L ++ [p])) (hp : p ∉ F) (hB : B = if (rowOf w p).asks then [] else (rowOf w p).below) : Dfs w q (F ++ [p]) (L ++ B) := by
  have hdp : Dn w q p := h.dn p (.inr (by simp))
  have m : ∀ u, u ∈ F ∨ u ∈ L ++ [p] → u ∈ F ++ [p] ∨ u ∈ L ++ B := fun u hu => by
    rcases hu with hu | hu
    · exact .inl (List.mem_append_left _ hu)
    · rcases List.mem_append.mp hu with hu | hu
      · exact .inr (List.mem_append_left _ hu)
      · exact .inl (List.mem_append_right _ hu)
  refine ⟨?_, fun u hu => ?_, fun u hu => m u (h.c0 u hu), fun v hv ha u hu => ?_⟩
  · rw [List.nodup_append]
    exact ⟨h.nd, by simp, fun a ha b hb e => hp (by rw [← List.mem_singleton.mp hb, ← e]; exact ha)⟩
  · rcases hu with hu | hu
    · rcases List.mem_append.mp hu with hu | hu
      · exact h.dn u (.inl hu)
      · rw [List.mem_singleton.mp hu]; exact hdp
    · rcases List.mem_append.mp hu with hu | hu
      · exact h.dn u (.inr (List.mem_append_left _ hu))
      · rw [hB] at hu
        cases e : (rowOf w p).asks with
        | true => rw [e] at hu; simp at hu
        | false => rw [e] at hu; exact .more hdp e (by simpa using hu)
  · rcases List.mem_append.mp hv with hv | hv
    · exact m u (h.c1 v hv ha u hu)
    · rw [List.mem_singleton.mp hv] at ha hu
      exact .inr (List.mem_append_right _ (by rw [hB, ha]; simpa using hu))
theorem Dfs.done {w : Wb} {q : Nat} {F : List Nat} (h : Dfs w q F []) (p : Nat) : p ∈ F ↔ Dn w q p := by
  constructor
  · exact fun hp => h.dn p (.inl hp)
  · intro hd
    induction hd with
    | one hb => simpa using h.c0 _ hb
    | more _ ha hu ih => simpa using h.c1 _ ih ha _ hu
/-- two rising lists with the same numbers -/
theorem lt_ext : ∀ {a b : List Nat}, a.Pairwise (· < ·) → b.Pairwise (· < ·) → (∀ x, x ∈ a ↔ x ∈ b) → a = b
  | [], [], _, _, _ => rfl
  | [], y :: b, _, _, h => by have := (h y).mpr List.mem_cons_self; cases this
  | x :: a, [], _, _, h => by have := (h x).mp List.mem_cons_self; cases this
  | x :: a, y :: b, ha, hb, h => by
    obtain ⟨ha1, ha2⟩ := List.pairwise_cons.mp ha
    obtain ⟨hb1, hb2⟩ := List.pairwise_cons.mp hb
    have e : x = y := by
      rcases List.mem_cons.mp ((h x).mp List.mem_cons_self) with e | h1
      · exact e
      · rcases List.mem_cons.mp ((h y).mpr List.mem_cons_self) with e | h2
        · exact e.symm
        · have := hb1 x h1
          have := ha1 y h2
          omega
    subst e
    congr 1
    refine lt_ext ha2 hb2 fun z => ⟨fun hz => ?_, fun hz => ?_⟩
    · rcases List.mem_cons.mp ((h z).mp (List.mem_cons_of_mem _ hz)) with e | h1
      · subst e; have := ha1 z hz; omega
      · exact h1
    · rcases List.mem_cons.mp ((h z).mpr (List.mem_cons_of_mem _ hz)) with e | h1
      · subst e; have := hb1 z hz; omega
      · exact h1
theorem Dfs.sorted {n : Nat} {w : Wb} (o : WbOk n w) {q : Nat} {F : List Nat} (h : Dfs w q F []) : nsort (F.filter fun p => (rowOf w p).asks) = nxS w q := by
  refine lt_ext nsort_lt nxS_pw fun p => ?_
  rw [nsort_mem, List.mem_filter, h.done, nxS_mem o]
theorem Dfs.len {n : Nat} {w : Wb} (o : WbOk n w) {q : Nat} {F L : List Nat} (h : Dfs w q F L) : F.length ≤ w.length := by
  have : F.length ≤ (List.range w.length).length := List.Nodup.length_le_of_subset h.nd fun p hp => by
    have := dn_lt o (h.dn p (.inl hp))
    rw [List.mem_range]; omega
  rwa [List.length_range] at this
set_option maxHeartbeats 2000000
def kvA (w : Wb) (l : List Nat) : List (Key × D) := l.map fun (p : Nat) => ((Sum.inl (p : Int) : Key), D.bl (rowOf w p).asks)
theorem kvA_val {w : Wb} {p : Nat} : ∀ {l : List Nat}, p ∈ l → valK (kvA w l) (Sum.inl (p : Int)) = some (D.bl (rowOf w p).asks)
  | [], h => absurd h (by simp)
  | q :: l, h => by
    unfold kvA valK
    rw [List.map_cons, List.find?_cons]
    by_cases e : q = p
    · subst e
      simp
    · have h' : p ∈ l := by
        rcases List.mem_cons.mp h with h | h
        · exact absurd h.symm e
        · exact h
      have ih := kvA_val (w := w) h'
      have ne : decide ((Sum.inl (q : Int) : Key) = Sum.inl (p : Int)) = false := decide_eq_false fun h => e (by injection h with h; omega)
      simp only [ne]
      exact ih
theorem kvA_none {w : Wb} {p : Nat} {l : List Nat} (h : p ∉ l) : valK (kvA w l) (Sum.inl (p : Int)) = none := by
  unfold kvA valK
  rw [Option.map_eq_none_iff, List.find?_eq_none]
  intro kv hkv
  obtain ⟨q, hq, rfl⟩ := List.mem_map.mp hkv
  simp only [decide_eq_true_eq]
  intro e
  injection e with e
  exact h (by rw [show p = q by omega]; exact hq)
theorem kvA_new {w : Wb} {p : Nat} {v : D} {l : List Nat} (h : p ∉ l) : putKD (kvA w l) (Sum.inl (p : Int)) v = kvA w l ++ [(Sum.inl (p : Int), v)] := by
  unfold putKD
  rw [if_neg]
  intro hh
  obtain ⟨kv, h1, h2⟩ := List.any_eq_true.mp hh
  obtain ⟨q, h3, rfl⟩ := List.mem_map.mp h1
  have : (Sum.inl (q : Int) : Key) = Sum.inl (p : Int) := of_decide_eq_true h2
  injection this with this
  exact h (by rw [show p = q by omega]; exact h3)
theorem kvA_snoc {w : Wb} {p : Nat} {l : List Nat} : kvA w l ++ [(Sum.inl (p : Int), D.bl (rowOf w p).asks)] = kvA w (l ++ [p]) := by
  unfold kvA
  rw [List.map_append]; rfl
def kbL (w : Wb) (l : List Nat) : List (Int × Bool) := l.map fun (p : Nat) => ((p : Int), (rowOf w p).asks)
theorem kvA_kb {w : Wb} {l : List Nat} : kvA w l = kbE (kbL w l) := by
  unfold kvA kbE kbL
  rw [List.map_map]; rfl
theorem kbL_nd {w : Wb} {l : List Nat} (h : l.Nodup) : ((kbL w l).map (·.1)).Nodup := by
  unfold kbL
  rw [List.map_map, List.Nodup, List.pairwise_map]
  exact h.imp fun h z => h (Int.ofNat.inj z)
theorem kbL_fil {w : Wb} {l : List Nat} : (((kbL w l).filter (·.2)).map fun p => D.int p.1) = (l.filter fun p => (rowOf w p).asks).map nD := by
  unfold kbL
  rw [List.filter_map, List.map_map]; rfl
def sp_nexta : SpD := fun as M Q => ∃ (s : Sv) (w : Wb) (n q : Nat), as = [s, .d (.int (q : Int))] ∧ LV s (w.map rD) ∧ M = [] ∧ WbOk n w ∧ w.length ≤ 100000 ∧ q < w.length ∧ Q (.new ((nxS w q).map nD)) []
def r_nexta (sp_rows_below : SpD) : TS' :=
  (sSeq (sSet 2 eDkN)
  (sSeq (sSet 3 (eCall [false] sp_rows_below (aP [(po2 ixD (pV 0) (pV 1))])))
  (sSeq (sWh (cP (bB (po2 gtD (poN lenD [(pV 3)]) (pC (.int 0)))))
  (sSeq (sSet 4 (eMt "list" mPop (eP (pV 3)) (aP [])))
  (sIf (cP (bB (po2 dninD (pV 4) (pV 2))))
  (sSeq (sSubK (eP (po2 inD (po2 ixD (po2 ixD (pV 0) (pV 4)) (pC (.int 0))) (poTup [(pC (.str "pick")), (pC (.str "has"))]))) (eP (pV 2)) (eP (pV 4)))
  (sIf (cP (bNt (bTr (po2 dgetD (pV 2) (pV 4)))))
  (sDrop (eMt "list" mExt (eP (pV 3)) (aCons (eSeal 0 (eCall [false] sp_rows_below (aP [(po2 ixD (pV 0) (pV 4))]))) (aP []))))
  sNil))
  sNil)))
  (sRet (eNw (fN sortF (aCons (eFz (fKif 2 4)) (aP []))))))))
theorem asks_ok {M M2 : Mem} {r : Rw} {R : Sv → Prop} (h : R (.d (.bl r.asks))) : ok (ixD M (.d (rD r)) (.d (.int 0))) fun d => ok (inD M2 d (.d (.tup [.str "pick", .str "has"]))) R := by
  cases r <;> exact h
local macro_rules
  | `(tactic| simp only [VLY]) => `(tactic| simp only [sSeq, sIf, sSet, sSub, sRet, sRetN, sNil, sDrop, sAsg, sPar, sParT, sAug, cP, bB, bTr, bNt, bAn, bOr, po1, po2, poN, pArgs, poIf, poAn, poOr, poNt, poTup, plLst, plN, pl2, pl1, pFz, pV, pC, eP, eo1, eo2, eoN, aP, aNil, aCons, eAn, eOr, eNt, eIf, eFz, eNw, fP, fN, f2, f1, tTupE, tLstF, tTr, tTb, tAn, tOrr, tNt, tYs, eSeal, eMt, poMt, mPure, eCh, pCh, ok_bind, ok_map, ok_some, ok_none, ok_gd, ok_ite, List.getElem?_cons_zero, List.getElem?_cons_succ, List.set_cons_zero, List.set_cons_succ, Option.join_some, Option.bind_some, Option.map_some, Option.bind_none, Option.map_none, ix_ref, ix_tup, ix_lst, ix_bor, ix_scr, add_int, add_str, add_tup, sub_int, mul_int, fdiv_int, mod_int, pow_int, neg_int, lt_int, le_int, gt_int, ge_int, eq_int, eq_str, eq_bl, ne_int, ne_str, ne_bl, is_bl, isnt_bl, is_non, isnt_non, len_tup, len_lst, len_ref, len_bor, len_scr, int_bl, int_int, abs_int, min_int, max_int, blD_bl, cell_lst, cellA_lst, cellA_dk, st_ref, at_0, at_1, at_2, at_3, at_4, ixN_10, ixN_20, ixN_21, ixN_30, ixN_31, ixN_32, dataS_d, datas_nil, datas_cons, truth_bl, notD, intS, blS, nonB, List.length_cons, List.length_nil, Nat.reduceAdd, endsF_rt, endsF_nx, rvQ_d, rvQ_new, rvQ_newK, rv_d, rv_ref, rv_cl, rv_ck, okRef_d, okRef_ref, List.not_mem_nil, List.nil_append, true_and, and_true, List.take_succ_cons, List.take_zero, Nat.zero_add, decide_eq_true_eq, Bool.false_eq_true, if_false, if_true, callS, handS_n, handS_tr, handS_fr, handS_fd, handS_fb, cellsAt_c, cellsAt_0, Option.getD_some, backS_0, backS_1, eCall, tup_lst, tup_tup, tup_ref, fLc, iRg, rng_1, rng_2, wipeS_c, wipeS_n, iPq, iSq, seq_tup, seq_lst, seq_bor, lst_lst, lst_bor, gdS_d, gdS_b, sFor, gNm, gcS_c, gcS_n, gcO_d, gcO_n, mapp, rcv_0, rcv_1, rcv_l, gcO_r0, gcO_r1, gcO_z, seal_d, eq_self, List.take_nil, List.cons_append, poSl, poI, poNo, slD_t, intO_i, list_t, list_l, in_str2, ofS_inj, String.reduceEq, or_false, false_or, or_true, true_or, or_self, decide_true, decide_false, Bool.not_true, Bool.not_false, at_m1_2, at_m1_3, cut_2, cut_3, all_bls, any_bls, count_bls, lcg_nm, lcg_tp, lst_ref, laid_l, laid_b, laid_r, list_b, list_r, len_refI, lenOf_ref, rcv_2, rcv_3, rcv_b, slF_l, slF_b, slF_r, cat_l, repr_d, plSl, backS_2, List.mem_singleton, one_ne, if_false, callS, seal_r, Nat.le_refl, cat_get, cat_set, List.append_assoc, List.length_append, List.append_nil, at_ite, Nat.zero_le, iTq, tupD])
  | `(tactic| simp only [VLY, $xs,*]) => `(tactic| simp only [sSeq, sIf, sSet, sSub, sRet, sRetN, sNil, sDrop, sAsg, sPar, sParT, sAug, cP, bB, bTr, bNt, bAn, bOr, po1, po2, poN, pArgs, poIf, poAn, poOr, poNt, poTup, plLst, plN, pl2, pl1, pFz, pV, pC, eP, eo1, eo2, eoN, aP, aNil, aCons, eAn, eOr, eNt, eIf, eFz, eNw, fP, fN, f2, f1, tTupE, tLstF, tTr, tTb, tAn, tOrr, tNt, tYs, eSeal, eMt, poMt, mPure, eCh, pCh, ok_bind, ok_map, ok_some, ok_none, ok_gd, ok_ite, List.getElem?_cons_zero, List.getElem?_cons_succ, List.set_cons_zero, List.set_cons_succ, Option.join_some, Option.bind_some, Option.map_some, Option.bind_none, Option.map_none, ix_ref, ix_tup, ix_lst, ix_bor, ix_scr, add_int, add_str, add_tup, sub_int, mul_int, fdiv_int, mod_int, pow_int, neg_int, lt_int, le_int, gt_int, ge_int, eq_int, eq_str, eq_bl, ne_int, ne_str, ne_bl, is_bl, isnt_bl, is_non, isnt_non, len_tup, len_lst, len_ref, len_bor, len_scr, int_bl, int_int, abs_int, min_int, max_int, blD_bl, cell_lst, cellA_lst, cellA_dk, st_ref, at_0, at_1, at_2, at_3, at_4, ixN_10, ixN_20, ixN_21, ixN_30, ixN_31, ixN_32, dataS_d, datas_nil, datas_cons, truth_bl, notD, intS, blS, nonB, List.length_cons, List.length_nil, Nat.reduceAdd, endsF_rt, endsF_nx, rvQ_d, rvQ_new, rvQ_newK, rv_d, rv_ref, rv_cl, rv_ck, okRef_d, okRef_ref, List.not_mem_nil, List.nil_append, true_and, and_true, List.take_succ_cons, List.take_zero, Nat.zero_add, decide_eq_true_eq, Bool.false_eq_true, if_false, if_true, callS, handS_n, handS_tr, handS_fr, handS_fd, handS_fb, cellsAt_c, cellsAt_0, Option.getD_some, backS_0, backS_1, eCall, tup_lst, tup_tup, tup_ref, fLc, iRg, rng_1, rng_2, wipeS_c, wipeS_n, iPq, iSq, seq_tup, seq_lst, seq_bor, lst_lst, lst_bor, gdS_d, gdS_b, sFor, gNm, gcS_c, gcS_n, gcO_d, gcO_n, mapp, rcv_0, rcv_1, rcv_l, gcO_r0, gcO_r1, gcO_z, seal_d, eq_self, List.take_nil, List.cons_append, poSl, poI, poNo, slD_t, intO_i, list_t, list_l, in_str2, ofS_inj, String.reduceEq, or_false, false_or, or_true, true_or, or_self, decide_true, decide_false, Bool.not_true, Bool.not_false, at_m1_2, at_m1_3, cut_2, cut_3, all_bls, any_bls, count_bls, lcg_nm, lcg_tp, lst_ref, laid_l, laid_b, laid_r, list_b, list_r, len_refI, lenOf_ref, rcv_2, rcv_3, rcv_b, slF_l, slF_b, slF_r, cat_l, repr_d, plSl, backS_2, List.mem_singleton, one_ne, if_false, callS, seal_r, Nat.le_refl, cat_get, cat_set, List.append_assoc, List.length_append, List.append_nil, at_ite, Nat.zero_le, iTq, tupD, $xs,*])
theorem pure_nexta (as : List Sv) (M : Mem) (Q : Rv → Mem → Prop) (h : sp_nexta as M Q) : r_nexta sp_below (endsF M.length Q) (startD 5 as) M := by
  obtain ⟨s, w, n, q, rfl, hs, rfl, o, hl, hq, z⟩ := h
  show r_nexta sp_below (endsF 0 Q) [some s, some (.d (.int (q : Int))), none, none, none] []
  have ixw : ∀ (M : Mem) (p : Nat), p < w.length → ixD M s (.d (.int (p : Int))) = some (.d (rD (rowOf w p))) := fun M p hp => by
    have e := List.getElem?_eq_getElem hp
    rw [hs.ix, at_nat, List.getElem?_map, e, rowOf_at e]; rfl
  unfold r_nexta
  rw [sSeq_app]
  simp only [VLY, eDkN, ixw _ _ hq]
  refine ⟨rowOf w q, rfl, rfl, ?_⟩
  simp only [VLY]
  have hb0 : (rowOf w q).below.length ≤ 32 * ([] : List Nat).length + 32 := by
    rw [rowOf_at (List.getElem?_eq_getElem hq)]
    exact Nat.le_trans (below_len (o q _ (List.getElem?_eq_getElem hq))) (by omega)
  refine wh_inv (fun m δ M => ∃ (F L : List Nat) (o4 : Option Sv), m = 40 * (w.length - F.length) + L.length ∧ Dfs w q F L ∧ L.length ≤ 32 * F.length + 32 ∧ δ = [some s, some (.d (.int (q : Int))), some (.ref 0), some (.ref 1), gcO 2 o4] ∧ M = [.dk (kvA w F), .lst (L.map nD)]) ?_ (m := 40 * w.length + (rowOf w q).below.length) ⟨[], (rowOf w q).below, none, rfl, .start, hb0, rfl, rfl⟩
  rintro m δ M nx ⟨F, L, o4, rfl, hd, hLl, rfl, rfl⟩ k
  have hFl := hd.len o
  rcases List.eq_nil_or_concat L with rfl | ⟨L, p, rfl⟩
  · have e0 : (([] : List Nat).map nD).length = 0 := rfl
    simp only [VLY, e0]
    rw [if_neg (by decide)]
    refine ⟨(show 4 < 5 by decide), 0, kbL w F, rfl, by rw [← kvA_kb]; rfl, kbL_nd hd.nd, by unfold kbL; rw [List.length_map, sizeLine_eq]; omega, ?_⟩
    rw [kbL_fil]
    dsimp only
    rw [sort_nats (s := .d (.lst ((F.filter fun p => (rowOf w p).asks).map nD))) rfl (List.Pairwise.filter _ hd.nd), hd.sorted o]
    exact z
  · rw [List.concat_eq_append] at hd k hLl ⊢
    have hdp : Dn w q p := hd.dn p (.inr (by simp))
    have hpl := dn_lt o hdp
    have hm : ((L ++ [p]).map nD).length = L.length + 1 := by simp
    have hlast : ((L ++ [p]).map nD)[((L ++ [p]).map nD).length - 1]? = some (nD p) := by
      rw [hm, List.map_append]
      simp
    have hdrop : ((L ++ [p]).map nD).dropLast = L.map nD := by
      rw [List.map_append]; simp
    have hpos : (0 : Int) < ((((L ++ [p]).map nD).length : Nat) : Int) := by rw [hm]; omega
    have hlen : (L ++ [p]).length = L.length + 1 := by simp
    rw [hlen] at k hLl
    generalize (L ++ [p]).map nD = LL at hlast hdrop hpos
    have nxt : ∀ (F' L' : List Nat) (o4' : Option Sv), 40 * (w.length - F'.length) + L'.length < 40 * (w.length - F.length) + (L.length + 1) → Dfs w q F' L' → L'.length ≤ 32 * F'.length + 32 → ∀ G : Mem, nx [some s, some (.d (.int (q : Int))), some (.ref 0), some (.ref 1), o4'] (.dk (kvA w F') :: .lst (L'.map nD) :: G) := fun F' L' o4' h1 h2 h3 G =>
      k _ _ _ h1 ⟨F', L', o4', rfl, h2, h3, by show gcS 2 _ = _; simp only [gcS_c, gcS_n, gcO_d, hs.gc, gcO_r (show 0 < 2 by decide), gcO_r (show 1 < 2 by decide)], rfl⟩
    by_cases hpF : p ∈ F
    · have hv := kvA_val (w := w) hpF
      simp only [VLY, mpop, hlast, hdrop, hpos, dninD, inKD, cellK, keyD, nD, hv]
      exact nxt F L _ (by omega) (hd.skip hpF) (by omega) []
    · have hv := kvA_none (w := w) hpF
      have hnew := kvA_new (w := w) (v := .bl (rowOf w p).asks) hpF
      rw [kvA_snoc] at hnew
      have hpw : p < w.length := by omega
      have hgo := fun B e => hd.go (B := B) hpF e
      have hkl : (kvA w F).length < sizeLine := by unfold kvA; rw [List.length_map, sizeLine_eq]; omega
      have hv2 := kvA_val (w := w) (l := F ++ [p]) (p := p) (by simp)
      have hFl2 : F.length + 1 ≤ w.length := by have := (hgo _ rfl).len o; simpa using this
      have hro := o p _ (List.getElem?_eq_getElem hpw)
      rw [← rowOf_at (List.getElem?_eq_getElem hpw)] at hro
      have ixp := fun M => ixw M p hpw
      generalize hrr : rowOf w p = r at *
      simp only [VLY, mpop, hlast, hdrop, hpos, dninD, inKD, cellK, keyD, nD, hv, ixp, sSubK, stK, hnew]
      refine ite_tt rfl ?_
      refine asks_ok ?_
      simp only [VLY]
      refine ⟨hkl, ?_⟩
      rw [hnew]
      have hv3 : dgetD [.dk (kvA w (F ++ [p])), .lst (L.map nD)] (.ref 0) (.d (.int (p : Int))) = some (.d (.bl r.asks)) := by
        show (valK _ _).map Sv.d = _
        rw [hv2]; rfl
      rw [hv3]
      have hB := hgo _ rfl
      have hbl := below_len hro
      have hll := hd.nd
      simp only [VLY]
      cases ha : r.asks with
      | true =>
        rw [ha] at hB
        refine ite_ff rfl ?_
        exact nxt (F ++ [p]) L _ (by simp; omega) (by simpa using hB) (by simp; omega) []
      | false =>
        rw [ha] at hB
        refine ite_tt rfl ?_
        refine ⟨r, rfl, rfl, ?_⟩
        simp only [VLY, mext]
        refine ⟨by rw [List.length_map, List.length_map, sizeLine_eq]; omega, ?_⟩
        rw [← List.map_append]
        exact nxt (F ++ [p]) (L ++ r.below) _ (by simp; omega) (by simpa using hB) (by simp; omega) _
set_option maxHeartbeats 2000000
set_option maxHeartbeats 2000000
/-- a name's place in an order -/
def spt (ks : List Nat) (k : Nat) : Nat := ks.findIdx fun z => decide (z = k)
theorem spt_at : ∀ {ks : List Nat} {i k : Nat}, ks.Nodup → ks[i]? = some k → spt ks k = i
  | [], i, k, _, h => by simp at h
  | x :: ks, i, k, hn, h => by
    rw [List.nodup_cons] at hn
    unfold spt
    rw [List.findIdx_cons]
    cases i with
    | zero =>
      simp only [List.getElem?_cons_zero, Option.some.injEq] at h
      subst h
      simp
    | succ i =>
      rw [List.getElem?_cons_succ] at h
      have hne : decide (x = k) = false := decide_eq_false fun e => hn.1 (e ▸ List.mem_of_getElem? h)
      rw [hne]
      show spt ks k + 1 = i + 1
      rw [spt_at hn.2 h]
def kvp (p : Nat × Nat) : Key × D := (Sum.inl (p.1 : Int), .int (p.2 : Int))
theorem prs_kvp : ∀ l : List (Nat × Nat), pairsK (l.map fun p => D.tup [.int (p.1 : Int), .int (p.2 : Int)]) = some (l.map kvp)
  | [] => rfl
  | p :: l => by
    have ih := prs_kvp l
    rw [List.map_cons, List.map_cons]
    show (pairK _).bind _ = _
    rw [show pairK (D.tup [.int (p.1 : Int), .int (p.2 : Int)]) = some (kvp p) from rfl]
    simp only [Option.bind_some, ih, Option.map_some]
theorem mrg_new : ∀ {l : List (Nat × Nat)} {acc : List (Key × D)}, (l.map (·.1)).Nodup → (∀ p ∈ l, (acc.any fun kv => decide (kv.1 = (Sum.inl (p.1 : Int) : Key))) = false) → mrgK acc (l.map kvp) = acc ++ l.map kvp
  | [], acc, _, _ => by simp [mrgK]
  | p :: l, acc, hn, h => by
    rw [List.map_cons, List.nodup_cons] at hn
    have hp : putKD acc (kvp p).1 (kvp p).2 = acc ++ [kvp p] := by
      unfold putKD
      rw [if_neg (by rw [show (acc.any fun kv => decide (kv.1 = (kvp p).1)) = false from h p List.mem_cons_self]; decide)]
    rw [List.map_cons]
    show mrgK (putKD acc (kvp p).1 (kvp p).2) (l.map kvp) = _
    rw [hp, mrg_new hn.2 fun q hq => ?_]
    · simp
    · rw [List.any_append, h q (List.mem_cons_of_mem _ hq)]
      have hne : (kvp p).1 ≠ (Sum.inl (q.1 : Int) : Key) := fun e => by
        have e : (Sum.inl (p.1 : Int) : Key) = Sum.inl (q.1 : Int) := e
        injection e with e
        exact hn.1 (by rw [show p.1 = q.1 by omega]; exact List.mem_map.mpr ⟨q, hq, rfl⟩)
      simp [hne]
theorem kvp_val {k i : Nat} : ∀ {l : List (Nat × Nat)}, (l.map (·.1)).Nodup → (k, i) ∈ l → valK (l.map kvp) (Sum.inl (k : Int)) = some (.int (i : Int))
  | [], _, h => by cases h
  | p :: l, hn, h => by
    rw [List.map_cons, List.nodup_cons] at hn
    unfold valK
    rw [List.map_cons, List.find?_cons]
    rcases List.mem_cons.mp h with e | h
    · subst e
      simp [kvp]
    · have ne : decide ((kvp p).1 = (Sum.inl (k : Int) : Key)) = false := decide_eq_false fun e => by
        have e : (Sum.inl (p.1 : Int) : Key) = Sum.inl (k : Int) := e
        injection e with e
        exact hn.1 (by rw [show p.1 = k by omega]; exact List.mem_map.mpr ⟨(k, i), h, rfl⟩)
      rw [ne]
      exact kvp_val hn.2 h
/-- the places of an order's names -/
def kvO (ks : List Nat) : List (Key × D) := ks.zipIdx.map kvp
theorem kvO_mrg {ks : List Nat} (hn : ks.Nodup) : mrgK [] (kvO ks) = kvO ks := by
  unfold kvO
  rw [mrg_new (by rw [List.zipIdx_map_fst]; exact hn) (fun _ _ => rfl), List.nil_append]
theorem kvO_val {ks : List Nat} {k : Nat} (hn : ks.Nodup) (hk : k ∈ ks) : valK (kvO ks) (Sum.inl (k : Int)) = some (.int (spt ks k : Nat)) := by
  obtain ⟨i, hi, e⟩ := List.getElem_of_mem hk
  have h := List.getElem?_eq_getElem hi
  rw [e] at h
  rw [spt_at hn h]
  unfold kvO
  exact kvp_val (by rw [List.zipIdx_map_fst]; exact hn) (List.mk_mem_zipIdx_iff_getElem?.mpr h)
theorem idx_spt {M : Mem} {s : Sv} {ks : List Nat} {k : Nat} (hs : LV s (ks.map nD)) (hk : k ∈ ks) : indexD M s [.d (.int (k : Int))] = some (.d (.int (spt ks k : Nat))) := by
  have e : indexD M s [.d (.int (k : Int))] = gd (okE (.int (k : Int)) = true ∧ okE (.lst (ks.map nD)) = true ∧ ((ks.map nD).any fun z => eqvD z (.int (k : Int))) = true) (intS (((ks.map nD).findIdx fun z => eqvD z (.int (k : Int)) : Nat) : Int)) := by rcases hs with rfl | rfl <;> rfl
  have e2 : ((ks.map nD).findIdx fun z => eqvD z (.int (k : Int))) = spt ks k := by
    unfold spt
    rw [List.findIdx_map]
    congr 1
    funext z
    simp only [Function.comp, nD, eqvD]
    rw [Bool.eq_iff_iff]
    simp [Int.ofNat_inj]
  have e3 : ((ks.map nD).any fun z => eqvD z (.int (k : Int))) = true := by
    rw [List.any_eq_true]
    exact ⟨nD k, List.mem_map.mpr ⟨k, hk, rfl⟩, by simp [nD, eqvD]⟩
  rw [e, gd_pos ⟨EqOk.int.okE, EqOk.lst nDs_eq, e3⟩, e2]
  rfl
/-- late parts -/
noncomputable def ltS (w : Wb) (ks : List Nat) (j k : Nat) : List Nat := (nxS w j).filter fun p => decide (spt ks (rowOf w p).kn ≤ spt ks k)
noncomputable def lateGo (w : Wb) (ks : List Nat) : Nat → Wb → D
  | _, [] => .non
  | j, r :: rs => match r with
    | .pick k _ _ => match ltS w ks j k with
      | [] => lateGo w ks (j + 1) rs
      | p :: _ => .tup [.int (j : Nat), .int (p : Nat)]
    | _ => lateGo w ks (j + 1) rs
noncomputable def lateD (w : Wb) (ks : List Nat) : D := lateGo w ks 0 w
def NmIn (w : Wb) (ks : List Nat) : Prop := ∀ (p : Nat) (r : Rw), w[p]? = some r → r.asks = true → r.kn ∈ ks
def sp_late : SpD := fun as M Q => ∃ (s s2 : Sv) (w : Wb) (n : Nat) (ks : List Nat), as = [s, s2] ∧ LV s (w.map rD) ∧ LV s2 (ks.map nD) ∧ M = [] ∧ WbOk n w ∧ w.length ≤ 100000 ∧ ks.Nodup ∧ ks.length ≤ 1000 ∧ NmIn w ks ∧ Q (.d (lateD w ks)) []
def r_late (sp_next_asked : SpD) : TS' :=
  (sSeq (sSet 2 (eDictOf (eFz (fLc (iEn (eP (pV 1))) (.tp [6, 7]) tYs (eP (poTup [(pV 7), (pV 6)])) [6, 7]))))
  (sSeq (sFor (iEn (eP (pV 0))) (gTp [3, 4])
  (sIf (cP (bB (po2 eqD (po2 ixD (pV 4) (pC (.int 0))) (pC (.str "pick")))))
  (sFor (iSq (eSeal 0 (eCall [false, false] sp_next_asked (aP [(pV 0), (pV 3)])))) (gNm 5)
  (sIf (cP (bB (po2 leD (po2 dgetD (pV 2) (po2 ixD (po2 ixD (pV 0) (pV 5)) (pC (.int 1)))) (po2 dgetD (pV 2) (po2 ixD (pV 4) (pC (.int 1)))))))
  (sRet (eP (poTup [(pV 3), (pV 5)])))
  sNil))
  sNil))
  (sRet (eP (pC .non)))))
theorem ix_kn {M : Mem} {r : Rw} (h : r.asks = true) : ixD M (.d (rD r)) (.d (.int 1)) = some (.d (nD r.kn)) := by
  cases r <;> first | rfl | cases h
theorem filter_first {f : Nat → Bool} {l : List Nat} {i p : Nat} (h : l[i]? = some p) (h0 : (l.take i).filter f = []) (hp : f p = true) : ∃ t, l.filter f = p :: t := by
  obtain ⟨hi, e⟩ := List.getElem?_eq_some_iff.mp h
  have hd : l.drop i = p :: l.drop (i + 1) := by rw [List.drop_eq_getElem_cons hi, e]
  refine ⟨(l.drop (i + 1)).filter f, ?_⟩
  conv => lhs; rw [← List.take_append_drop i l, List.filter_append, h0, hd]
  simp [hp]
theorem pure_late (as : List Sv) (M : Mem) (Q : Rv → Mem → Prop) (h : sp_late as M Q) : r_late sp_nexta (endsF M.length Q) (startD 8 as) M := by
  obtain ⟨s, s2, w, n, ks, rfl, hs, hs2, rfl, o, hl, hn, hkl, hin, z⟩ := h
  show r_late sp_nexta (endsF 0 Q) [some s, some s2, none, none, none, none, none, none] []
  have ixw : ∀ (M : Mem) (p : Nat), p < w.length → ixD M s (.d (.int (p : Int))) = some (.d (rD (rowOf w p))) := fun M p hp => by
    have e := List.getElem?_eq_getElem hp
    rw [hs.ix, at_nat, List.getElem?_map, e, rowOf_at e]; rfl
  unfold r_late
  rw [sSeq_app]
  simp only [VLY, eDictOf, iEn, hs2.lst]
  have hgd2 : gdS s2 (ks.map nD) = fun _ => True := hs2.gd
  refine lc_ix _ (fun j acc M => acc = ((ks.zipIdx.take j).map fun p => D.tup [.int (p.1 : Int), .int (p.2 : Int)]) ∧ M = []) ?_ ?_ _ _ ⟨rfl, rfl⟩
  · rintro acc M ⟨rfl, rfl⟩
    rw [hgd2]
    refine ⟨trivial, ?_⟩
    rw [enumL_len, List.length_map, ← List.length_zipIdx (l := ks) (i := 0), List.take_length, prs_kvp]
    have hkv : mrgK [] (ks.zipIdx.map kvp) = kvO ks := kvO_mrg hn
    simp only [VLY, hkv, hs.lst, hs.gd]
    refine for_ix _ (fun j δ M => ∃ o3 o4 o5, δ = [some s, some s2, some (.ref 0), gcO 1 o3, gcO 1 o4, gcO 1 o5, none, none] ∧ M = [.dk (kvO ks)] ∧ lateD w ks = lateGo w ks j (w.drop j)) ?_ ?_ _ _ ⟨none, none, none, rfl, rfl, rfl⟩
    · rintro δ M ⟨o3, o4, o5, rfl, rfl, e⟩
      rw [enumL_len, List.length_map, List.drop_length] at e
      refine ⟨trivial, ?_⟩
      rw [show lateD w ks = .non from e] at z
      exact z
    · rintro j x δ M nx hx ⟨o3, o4, o5, rfl, rfl, e⟩ k
      obtain ⟨x, hx2, rfl⟩ := enum_at hx
      obtain ⟨r, hr, rfl⟩ := wb_at hx2
      have hj := (List.getElem?_eq_some_iff.mp hr).1
      have hro := o j r hr
      rw [drop_at hr] at e
      have next : lateD w ks = lateGo w ks (j + 1) (w.drop (j + 1)) → ∀ p5 G, nx [some s, some s2, some (.ref 0), some (.d (.int (j : Int))), some (.d (rD r)), p5, none, none] (.dk (kvO ks) :: G) := fun h p5 G =>
        k _ _ ⟨some (.d (.int (j : Int))), some (.d (rD r)), p5, by simp only [gcS_c, gcS_n, gcO_d, gcO_n, hs.gc, hs2.gc, gcO_r (show 0 < 1 by decide)], rfl, h⟩
      refine ⟨trivial, ?_⟩
      cases r with
      | pick kk lo hi =>
        simp only [VLY, gTp, setAll, rD]
        rw [hs.hand]
        simp only [VLY]
        refine ⟨s, w, n, j, rfl, hs, rfl, o, hl, hj, ?_⟩
        simp only [VLY]
        have hkk : valK (kvO ks) (Sum.inl (kk : Int)) = some (.int (spt ks kk : Nat)) := kvO_val hn (hin j _ hr rfl)
        refine for_ix _ (fun i δ M => ∃ o5, δ = [some s, some s2, some (.ref 0), some (.d (.int (j : Int))), some (.d (rD (.pick kk lo hi))), o5, none, none] ∧ M = [.dk (kvO ks), .gone] ∧ ((nxS w j).take i).filter (fun p => decide (spt ks (rowOf w p).kn ≤ spt ks kk)) = []) ?_ ?_ _ _ ⟨_, rfl, rfl, rfl⟩
        · rintro δ M ⟨o5, rfl, rfl, hf⟩
          rw [List.length_map, List.take_length] at hf
          refine ⟨trivial, next ?_ _ _⟩
          rw [e]
          show (match ltS w ks j kk with | [] => _ | p :: _ => _) = _
          rw [show ltS w ks j kk = [] from hf]
        · rintro i x δ M nx2 hx ⟨o5, rfl, rfl, hf⟩ k2
          rw [List.getElem?_map, Option.map_eq_some_iff] at hx
          obtain ⟨p, hp, rfl⟩ := hx
          obtain ⟨hd, ha⟩ := (nxS_mem o).mp (List.mem_of_getElem? hp)
          have hpl := dn_lt o hd
          have ixp := fun M => ixw M p (by omega)
          have hkp := kvO_val hn (hin p (rowOf w p) (by rw [rowOf_at (List.getElem?_eq_getElem (show p < w.length by omega))]; exact List.getElem?_eq_getElem _) ha)
          have ixk := fun M => ix_kn (M := M) ha
          have ixj : ∀ M, ixD M (.d (rD (.pick kk lo hi))) (.d (.int 1)) = some (.d (nD kk)) := fun M => rfl
          have dg1 : ∀ M, dgetD (.dk (kvO ks) :: M) (.ref 0) (.d (.int ((rowOf w p).kn : Int))) = some (.d (.int (spt ks (rowOf w p).kn : Nat))) := fun M => by
            show (valK _ _).map Sv.d = _
            rw [hkp]; rfl
          have dg2 : ∀ M, dgetD (.dk (kvO ks) :: M) (.ref 0) (.d (.int (kk : Int))) = some (.d (.int (spt ks kk : Nat))) := fun M => by
            show (valK _ _).map Sv.d = _
            rw [hkk]; rfl
          refine ⟨trivial, ?_⟩
          simp only [VLY, gNm, nD, List.set_cons_succ, List.set_cons_zero, ixp, ixk, dg1, dg2, ixj]
          by_cases hle : spt ks (rowOf w p).kn ≤ spt ks kk
          · rw [if_pos (by omega)]
            obtain ⟨t, ht⟩ := filter_first hp hf (by simpa using hle)
            have e2 : lateD w ks = .tup [.int (j : Nat), .int (p : Nat)] := by
              rw [e]
              show (match ltS w ks j kk with | [] => _ | p :: _ => _) = _
              rw [show ltS w ks j kk = p :: t from ht]
            rw [e2] at z
            exact z
          · rw [if_neg (by omega)]
            refine k2 _ _ ⟨some (.d (.int (p : Int))), by simp only [gcS_c, gcS_n, gcO_d, gcO_n, hs.gc, hs2.gc, gcO_r (show 0 < 2 by decide)], rfl, ?_⟩
            rw [take_snoc hp, List.filter_append, hf]
            rw [List.nil_append, List.filter_cons, if_neg fun h => hle (of_decide_eq_true h)]; rfl
      | _ =>
        simp only [VLY, gTp, setAll, rD]
        exact next e _ _
  · rintro j x acc M nx hx ⟨rfl, rfl⟩ k
    rw [hgd2]
    refine ⟨trivial, ?_⟩
    obtain ⟨x, hx2, rfl⟩ := enum_at hx
    rw [List.getElem?_map, Option.map_eq_some_iff] at hx2
    obtain ⟨kk, hk2, rfl⟩ := hx2
    simp only [VLY, gTp, setAll, nD]
    refine k _ _ ⟨?_, rfl⟩
    have e1 : (ks.zipIdx)[j]? = some (kk, j) := by rw [List.getElem?_zipIdx, hk2]; simp
    rw [take_snoc e1, List.map_append]; rfl
set_option maxHeartbeats 2000000
theorem tk_nats : ∀ ps : List Nat, tk0s (ps.map nD) = some (ps.map fun p : Nat => NestedKey.num (p : Int))
  | [] => rfl
  | p :: ps => by
    show (tk0 (nD p)).bind _ = _
    rw [show tk0 (nD p) = some (NestedKey.num (p : Int)) from rfl, Option.bind_some, tk_nats ps]; rfl
theorem rD_injR {a b : Rw} (h : rD a = rD b) : a = b := by
  have e := eqv_rD a b
  rw [← h, eqv_rD a a, decide_eq_true rfl] at e
  exact of_decide_eq_true e.symm
theorem tk_row (r : Rw) : ∃ k, tkD (rD r) = some k := by
  have fin : ∀ {ds : List D} {ks : List NestedKey}, tk0s ds = some ks → (NestedKey.tup ks).depth ≤ 8 → ∃ k, tkD (.tup ds) = some k := fun {ds ks} h d => ⟨.tup ks, by
    show (tk0s ds).bind _ = _
    rw [h, Option.bind_some, if_pos d]⟩
  cases r with
  | yes => exact fin (ks := [.text "yes"]) rfl (by simp [NestedKey.depth, NestedKey.depthAll])
  | no => exact fin (ks := [.text "no"]) rfl (by simp [NestedKey.depth, NestedKey.depthAll])
  | has k b => exact fin (ks := [.text "has", .num (k : Int), .num (if b then 1 else 0)]) (by cases b <;> rfl) (by simp [NestedKey.depth, NestedKey.depthAll])
  | pick k lo hi => exact fin (ks := [.text "pick", .num (k : Int), .num (lo : Int), .num (hi : Int)]) rfl (by simp [NestedKey.depth, NestedKey.depthAll])
  | all ps =>
    refine fin (ks := [.text "and", .tup (ps.map fun p : Nat => NestedKey.num (p : Int))]) ?_ (by simp [NestedKey.depth, NestedKey.depthAll, dep_nats])
    show (some (NestedKey.text "and")).bind _ = _
    rw [Option.bind_some]
    show ((((tk0s (ps.map nD)).map NestedKey.tup).bind _).map _) = _
    rw [tk_nats]; rfl
  | any ps =>
    refine fin (ks := [.text "or", .tup (ps.map fun p : Nat => NestedKey.num (p : Int))]) ?_ (by simp [NestedKey.depth, NestedKey.depthAll, dep_nats])
    show (some (NestedKey.text "or")).bind _ = _
    rw [Option.bind_some]
    show ((((tk0s (ps.map nD)).map NestedKey.tup).bind _).map _) = _
    rw [tk_nats]; rfl
theorem tks_rows : ∀ W : Wb, ∃ kss : List NestedKey, tkDs (W.map rD) = some kss ∧ kss.length = W.length ∧ ∀ i : Nat, ∀ k, kss[i]? = some k → ∃ r, W[i]? = some r ∧ tkD (rD r) = some k
  | [] => ⟨[], rfl, rfl, fun i k h => by cases h⟩
  | r :: W => by
    obtain ⟨k0, h0⟩ := tk_row r
    obtain ⟨kss, h1, h2, h3⟩ := tks_rows W
    refine ⟨k0 :: kss, ?_, by rw [List.length_cons, List.length_cons, h2], fun i k h => ?_⟩
    · show (tkD (rD r)).bind _ = _
      rw [h0, Option.bind_some, h1]; rfl
    · cases i with
      | zero => cases h; exact ⟨r, rfl, h0⟩
      | succ i => exact h3 i k h
set_option maxHeartbeats 2000000
local macro_rules
  | `(tactic| simp only [VLQ]) => `(tactic| simp -implicitDefEqProofs only [sSeq, sIf, sSet, sSub, sRet, sRetN, sNil, sDrop, sAsg, sPar, sParT, sAug, cP, bB, bTr, bNt, bAn, bOr, po1, po2, poN, pArgs, poIf, poAn, poOr, poNt, poTup, plLst, plN, pl2, pl1, pFz, pV, pC, eP, eo1, eo2, eoN, aP, aNil, aCons, eAn, eOr, eNt, eIf, eFz, eNw, fP, fN, f2, f1, tTupE, tLstF, tTr, tTb, tAn, tOrr, tNt, tYs, eSeal, eMt, poMt, mPure, eCh, pCh, ok_bind, ok_map, ok_some, ok_none, ok_gd, ok_ite, List.getElem?_cons_zero, List.getElem?_cons_succ, List.set_cons_zero, List.set_cons_succ, Option.join_some, Option.bind_some, Option.map_some, Option.bind_none, Option.map_none, ix_ref, ix_tup, ix_lst, ix_bor, ix_scr, add_int, add_str, add_tup, sub_int, mul_int, fdiv_int, mod_int, pow_int, neg_int, lt_int, le_int, gt_int, ge_int, eq_int, eq_str, eq_bl, ne_int, ne_str, ne_bl, is_bl, isnt_bl, is_non, isnt_non, len_tup, len_lst, len_ref, len_bor, len_scr, int_bl, int_int, abs_int, min_int, max_int, blD_bl, cell_lst, cellA_lst, cellA_dk, st_ref, at_0, at_1, at_2, at_3, at_4, ixN_10, ixN_20, ixN_21, ixN_30, ixN_31, ixN_32, dataS_d, datas_nil, datas_cons, truth_bl, notD, intS, blS, nonB, List.length_cons, List.length_nil, Nat.reduceAdd, endsF_rt, endsF_nx, rvQ_d, rvQ_new, rvQ_newK, rv_d, rv_ref, rv_cl, rv_ck, okRef_d, okRef_ref, List.not_mem_nil, List.nil_append, true_and, and_true, List.take_succ_cons, List.take_zero, Nat.zero_add, decide_eq_true_eq, Bool.false_eq_true, if_false, if_true, callS, handS_n, handS_tr, handS_fr, handS_fd, handS_fb, cellsAt_c, cellsAt_0, Option.getD_some, backS_0, backS_1, eCall, tup_lst, tup_tup, tup_ref, fLc, iRg, rng_1, rng_2, wipeS_c, wipeS_n, iPq, iSq, seq_tup, seq_lst, seq_bor, lst_lst, lst_bor, gdS_d, gdS_b, sFor, gNm, gcS_c, gcS_n, gcO_d, gcO_n, mapp, rcv_0, rcv_1, rcv_l, gcO_r0, gcO_r1, gcO_z, seal_d, eq_self, List.take_nil, List.cons_append, poSl, poI, poNo, slD_t, intO_i, list_t, list_l, in_str2, ofS_inj, String.reduceEq, or_false, false_or, or_true, true_or, or_self, decide_true, decide_false, Bool.not_true, Bool.not_false, at_m1_2, at_m1_3, cut_2, cut_3, all_bls, any_bls, count_bls, lcg_nm, lcg_tp, lst_ref, laid_l, laid_b, laid_r, list_b, list_r, len_refI, lenOf_ref, rcv_2, rcv_3, rcv_b, slF_l, slF_b, slF_r, cat_l, repr_d, plSl, backS_2, List.mem_singleton, one_ne, if_false, callS, seal_r, Nat.le_refl, cat_get, cat_set, List.append_assoc, List.length_append, List.append_nil, at_ite, Nat.zero_le, iTq, tupD])
  | `(tactic| simp only [VLQ, $xs,*]) => `(tactic| simp -implicitDefEqProofs only [sSeq, sIf, sSet, sSub, sRet, sRetN, sNil, sDrop, sAsg, sPar, sParT, sAug, cP, bB, bTr, bNt, bAn, bOr, po1, po2, poN, pArgs, poIf, poAn, poOr, poNt, poTup, plLst, plN, pl2, pl1, pFz, pV, pC, eP, eo1, eo2, eoN, aP, aNil, aCons, eAn, eOr, eNt, eIf, eFz, eNw, fP, fN, f2, f1, tTupE, tLstF, tTr, tTb, tAn, tOrr, tNt, tYs, eSeal, eMt, poMt, mPure, eCh, pCh, ok_bind, ok_map, ok_some, ok_none, ok_gd, ok_ite, List.getElem?_cons_zero, List.getElem?_cons_succ, List.set_cons_zero, List.set_cons_succ, Option.join_some, Option.bind_some, Option.map_some, Option.bind_none, Option.map_none, ix_ref, ix_tup, ix_lst, ix_bor, ix_scr, add_int, add_str, add_tup, sub_int, mul_int, fdiv_int, mod_int, pow_int, neg_int, lt_int, le_int, gt_int, ge_int, eq_int, eq_str, eq_bl, ne_int, ne_str, ne_bl, is_bl, isnt_bl, is_non, isnt_non, len_tup, len_lst, len_ref, len_bor, len_scr, int_bl, int_int, abs_int, min_int, max_int, blD_bl, cell_lst, cellA_lst, cellA_dk, st_ref, at_0, at_1, at_2, at_3, at_4, ixN_10, ixN_20, ixN_21, ixN_30, ixN_31, ixN_32, dataS_d, datas_nil, datas_cons, truth_bl, notD, intS, blS, nonB, List.length_cons, List.length_nil, Nat.reduceAdd, endsF_rt, endsF_nx, rvQ_d, rvQ_new, rvQ_newK, rv_d, rv_ref, rv_cl, rv_ck, okRef_d, okRef_ref, List.not_mem_nil, List.nil_append, true_and, and_true, List.take_succ_cons, List.take_zero, Nat.zero_add, decide_eq_true_eq, Bool.false_eq_true, if_false, if_true, callS, handS_n, handS_tr, handS_fr, handS_fd, handS_fb, cellsAt_c, cellsAt_0, Option.getD_some, backS_0, backS_1, eCall, tup_lst, tup_tup, tup_ref, fLc, iRg, rng_1, rng_2, wipeS_c, wipeS_n, iPq, iSq, seq_tup, seq_lst, seq_bor, lst_lst, lst_bor, gdS_d, gdS_b, sFor, gNm, gcS_c, gcS_n, gcO_d, gcO_n, mapp, rcv_0, rcv_1, rcv_l, gcO_r0, gcO_r1, gcO_z, seal_d, eq_self, List.take_nil, List.cons_append, poSl, poI, poNo, slD_t, intO_i, list_t, list_l, in_str2, ofS_inj, String.reduceEq, or_false, false_or, or_true, true_or, or_self, decide_true, decide_false, Bool.not_true, Bool.not_false, at_m1_2, at_m1_3, cut_2, cut_3, all_bls, any_bls, count_bls, lcg_nm, lcg_tp, lst_ref, laid_l, laid_b, laid_r, list_b, list_r, len_refI, lenOf_ref, rcv_2, rcv_3, rcv_b, slF_l, slF_b, slF_r, cat_l, repr_d, plSl, backS_2, List.mem_singleton, one_ne, if_false, callS, seal_r, Nat.le_refl, cat_get, cat_set, List.append_assoc, List.length_append, List.append_nil, at_ite, Nat.zero_le, iTq, tupD, $xs,*])
set_option maxHeartbeats 2000000
theorem dstK_len : ∀ l : List NestedKey, (dstK l).length < l.length ↔ ¬ l.Nodup
  | [] => by simp [dstK]
  | x :: l => by
    have ih := dstK_len l
    have hl := dstK_le (l := l)
    unfold dstK
    by_cases h : x ∈ l
    · rw [if_pos h, List.length_cons]
      exact ⟨fun _ n => (List.nodup_cons.mp n).1 h, fun _ => by omega⟩
    · rw [if_neg h, List.length_cons, List.length_cons, List.nodup_cons]
      constructor
      · intro k n
        exact ih.mp (by omega) n.2
      · intro k
        have : ¬ l.Nodup := fun n => k ⟨h, n⟩
        have := ih.mpr this
        omega
theorem leSetN_any {W : Wb} {s : Sv} (hs : LV s (W.map rD)) (few : W.length < 306) : ∃ k : Nat, (k < W.length ↔ ¬ W.Nodup) ∧ ∀ M, leSetN M s = some (.d (.int (k : Int))) := by
  obtain ⟨kss, h1, h2, h3⟩ := tks_rows W
  have hiff : kss.Nodup ↔ W.Nodup := by
    rw [List.nodup_iff_pairwise_ne, List.pairwise_iff_getElem, List.nodup_iff_pairwise_ne, List.pairwise_iff_getElem]
    constructor
    · intro h i j hi hj hij e
      refine h i j (by omega) (by omega) hij ?_
      obtain ⟨a, ea, ka⟩ := h3 i _ (List.getElem?_eq_getElem (by omega))
      obtain ⟨b, eb, kb⟩ := h3 j _ (List.getElem?_eq_getElem (by omega))
      rw [List.getElem?_eq_getElem hi] at ea
      rw [List.getElem?_eq_getElem hj] at eb
      cases ea
      cases eb
      rw [e] at ka
      rw [ka] at kb
      exact Option.some.inj kb
    · intro h i j hi hj hij e
      refine h i j (by omega) (by omega) hij ?_
      obtain ⟨a, ea, ka⟩ := h3 i _ (List.getElem?_eq_getElem hi)
      obtain ⟨b, eb, kb⟩ := h3 j _ (List.getElem?_eq_getElem hj)
      rw [List.getElem?_eq_getElem (by omega)] at ea eb
      cases ea
      cases eb
      rw [← e] at kb
      exact rD_injR (tkD_inj ka kb)
  refine ⟨(dstK kss).length, by rw [← h2, dstK_len, hiff], fun M => ?_⟩
  have hle := dstK_le (l := kss)
  have e2 : leSetN M s = (lstD M s).bind fun ds => (tkDs ds).bind fun kss => gd ((dstK kss).length < 306) (.d (.int (dstK kss).length)) := rfl
  rw [e2, hs.lst, Option.bind_some, h1, Option.bind_some, gd_pos (by omega)]
def isLr : Rw → Bool
  | .yes => true
  | .no => true
  | .pick _ _ _ => true
  | _ => false
def isOs : Rw → Bool
  | .pick _ lo hi => decide (lo = hi)
  | _ => false
/-- whether a web is a ladder by an order -/
noncomputable def islB (w : Wb) (ks : List Nat) : Bool := w.all isLr && (nonD (lateD w ks) && (decide w.Nodup && (decide ((spots w).length = w.length) && !w.any isOs)))
def sp_isl : SpD := fun as M Q => ∃ (s s2 : Sv) (n : Nat) (ks : List Nat) (W : Wb), as = [s, s2] ∧ LV s (W.map rD) ∧ LV s2 (ks.map nD) ∧ M = [] ∧ WbOk n W ∧ 1 ≤ W.length ∧ W.length < 306 ∧ ks.Nodup ∧ ks.length ≤ 1000 ∧ (W.all isLr = true → NmIn W ks) ∧ Q (.d (.bl (islB W ks))) []
def r_islG (sp_late_in : SpD) (sp_reached : SpD) : TS' :=
  (sSeq (sIf (tOrr (tNt (tTr (eoN allD (aCons (eFz (fLc (iPq (pV 0)) (.nm 2) tYs (eP (po2 inD (po2 ixD (pV 2) (pC (.int 0))) (poTup [(pC (.str "yes")), (pC (.str "no")), (pC (.str "pick"))]))) [2])) (aP []))))) (tTb (eo2 isntD (eCall [false, false] sp_late_in (aP [(pV 0), (pV 1)])) (eP (pC .non)))))
  (sRet (eP (pC (.bl false))))
  sNil)
  (sSeq (sIf (tOrr (cP (bB (po2 ltD (po1 leSetN (pV 0)) (poN lenD [(pV 0)])))) (tTb (eo2 ltD (eoN lenD (aCons (eSeal 0 (eCall [false] sp_reached (aP [(pV 0)]))) (aP []))) (eP (poN lenD [(pV 0)])))))
  (sRet (eP (pC (.bl false))))
  sNil)
  (sRet (eNt (eoN anyD (aCons (eFz (fLc (iPq (pV 0)) (.nm 2) tYs (eP (poAn (po2 eqD (po2 ixD (pV 2) (pC (.int 0))) (pC (.str "pick"))) (po2 eqD (po2 ixD (pV 2) (pC (.int 2))) (po2 ixD (pV 2) (pC (.int 3)))))) [2])) (aP [])))))))
theorem pure_isl (as : List Sv) (M : Mem) (Q : Rv → Mem → Prop) (h : sp_isl as M Q) : r_islG sp_late sp_reached (endsF M.length Q) (startD 3 as) M := by
  obtain ⟨s, s2, n, ks, W, rfl, hs, hs2, rfl, o, hpos, few, nd, h1000, hin, z⟩ := h
  show r_islG sp_late sp_reached (endsF 0 Q) [some s, some s2, none] []
  obtain ⟨k, hk, hls⟩ := leSetN_any hs few
  have hsp : ((spots W).map nD).length = (spots W).length := List.length_map _
  have hspl : (spots W).length ≤ W.length := by
    unfold spots
    exact Nat.le_trans (List.length_filter_le ..) (by rw [List.length_range]; exact Nat.le_refl _)
  have nz : ∀ M, ∀ R : Bool → Prop, R (!nonD (lateD W ks)) → ok (isntD M (.d (lateD W ks)) (.d .non)) fun d => ok (blD d) R := fun M R h => by
    show ok (some (Sv.d (.bl (!nonB (.d (lateD W ks)))))) _
    rw [ok_some, non_nonB]
    exact h
  unfold islB at z
  unfold r_islG
  rw [sSeq_app]
  generalize leSetN = LN at hls ⊢
  simp only [VLQ, hs.seq, hs.gd]
  refine lc_gm (e := rD) (f := fun r => .bl (isLr r)) trivial ?_ ?_
  · intro r hr R hR
    cases r <;> exact hR
  have ea : ∀ M, allD M [.d (.lst ([] ++ W.map fun r => D.bl (isLr r)))] = some (.d (.bl (W.all isLr))) := fun M => by
    have := all_bls (M := M) (bs := W.map isLr)
    rw [List.map_map, List.all_map] at this
    rw [List.nil_append]
    exact this
  rw [ea, ok_some]
  cases hal : W.all isLr with
  | false =>
    rw [hal, Bool.false_and] at z
    simp only [VLQ]
    exact z
  | true =>
    rw [hal, Bool.true_and] at z
    simp only [VLQ, hs.hand, hs2.hand]
    refine ⟨s, s2, W, n, ks, rfl, hs, hs2, rfl, o, by omega, nd, h1000, hin hal, ?_⟩
    have far : ∀ d : D, nonD d = false ∨ d = .non := fun d => by cases d <;> first | exact .inr rfl | exact .inl rfl
    simp only [VLQ]
    rcases far (lateD W ks) with hlt | hlt
    · rw [hlt, Bool.false_and] at z
      generalize lateD W ks = dd at hlt ⊢
      cases dd <;> first | exact z | cases hlt
    · rw [hlt, show nonD .non = true from rfl, Bool.true_and] at z
      rw [hlt]
      simp only [VLQ, hls, hs.len, hs.hand, List.length_map]
      by_cases hnd : W.Nodup
      · have hk1 : ¬ k < W.length := fun h => hk.mp h hnd
        rw [decide_eq_true hnd, Bool.true_and] at z
        rw [if_neg (by omega)]
        refine ⟨s, W, n, rfl, hs, rfl, o, hpos, by omega, ?_⟩
        simp only [VLQ, sealD, hsp, hs.len, List.length_map]
        by_cases hsl : (spots W).length = W.length
        · rw [if_neg (by omega)]
          rw [decide_eq_true hsl, Bool.true_and] at z
          refine lc_gm (e := rD) (f := fun r => .bl (isOs r)) trivial ?_ ?_
          · intro r hr R hR
            cases r with
            | pick x lo hi =>
              simp only [gNm, rD]
              simp only [VLQ]
              have : decide ((lo : Int) = (hi : Int)) = decide (lo = hi) := by
                rw [decide_eq_decide]; omega
              rw [this]
              exact hR
            | _ => exact hR
          have eb : ∀ M, anyD M [.d (.lst ([] ++ W.map fun r => D.bl (isOs r)))] = some (.d (.bl (W.any isOs))) := fun M => by
            have := any_bls (M := M) (bs := W.map isOs)
            rw [List.map_map, List.any_map] at this
            rw [List.nil_append]
            exact this
          rw [eb, ok_some]
          exact z
        · rw [if_pos (by omega)]
          rw [decide_eq_false hsl, Bool.false_and] at z
          exact z
      · have hk1 := hk.mpr hnd
        rw [decide_eq_false hnd, Bool.false_and] at z
        rw [if_pos (by omega)]
        exact z
set_option maxHeartbeats 2000000
theorem whr_inv {i k : Nat} {c : TT'} {b : TS'} {E : Ends'} (I : Nat → DS → Mem → Prop)
    (step : ∀ m δ M (nx : DS → Mem → Prop), I m δ M → (∀ m' δ' M', m' < m → I m' (reS i k δ' M') (reM i k δ' M') → nx δ' M') → c δ M fun t M' => if t then b ⟨nx, E.rt, E.nx, nx⟩ δ M' else E.nx δ M') {m : Nat} {δ : DS} {M : Mem} (h : I m δ M) : ∃ n, whR i k c b E n δ M := by
  have mono : ∀ n m δ M, m < n → I m δ M → whR i k c b E n δ M := by
    intro n
    induction n with
    | zero => intro m δ M h; omega
    | succ n ih =>
      intro m δ M hm hI
      exact step m δ M _ hI fun m' δ' M' h1 h2 => ih m' _ _ (by omega) h2
  exact ⟨m + 1, mono (m + 1) m δ M (Nat.lt_succ_self _) h⟩
set_option maxHeartbeats 2000000
theorem nats_okE {S : List Nat} : VL.okE (.lst (S.map nD)) = true := EqOk.lst nDs_eq
theorem left_nil {M : Mem} {i : Nat} {S : List Nat} (h : M[i]? = some (.lst (S.map nD))) : neD M (.ref i) (.d (.lst [])) = some (.d (.bl (!decide (S = [])))) := by
  rw [ne_rl h nats_okE okE_nil]
  cases S <;> rfl
theorem nodup_lt : ∀ (L : Nat) (K : List Nat), K.Nodup → (∀ p ∈ K, p < L) → K.length ≤ L
  | 0, K, _, h => by
    cases K with
    | nil => exact Nat.le_refl _
    | cons p K => have := h p List.mem_cons_self; omega
  | L + 1, K, hn, h => by
    have ih := nodup_lt L (K.erase L) (hn.erase L) fun p hp => by
      have h1 := h p (List.mem_of_mem_erase hp)
      have h2 : p ≠ L := fun e => by subst e; exact (List.Nodup.not_mem_erase hn) hp
      omega
    rw [List.length_erase] at ih
    split at ih <;> omega
theorem LV.mv {s : Sv} {xs : List D} {k q : Nat} (h : LV s xs) : mvO k q (some s) = some s := by rcases h with rfl | rfl <;> rfl
theorem cat_at {M : Mem} {i : Nat} {a b : List D} (h : M[i]? = some (.lst a)) : catF M (.ref i) (.d (.lst b)) = gd (a.length + b.length ≤ sizeLine) (a ++ b) := by
  unfold catF laidD
  simp only [h, cellL]
  rfl
set_option maxHeartbeats 2000000
set_option maxHeartbeats 2000000
theorem nin_refN {M : Mem} {i q : Nat} {ps : List Nat} (h : M[i]? = some (.lst (ps.map nD))) : ninD M (.d (.int (q : Int))) (.ref i) = some (.d (.bl (!decide (q ∈ ps)))) := by
  have e : ninD M (.d (.int (q : Int))) (.ref i) = ((cellL M[i]?).bind fun ds => gd ((atomD (.int (q : Int)) = true ∧ ds.all atomD = true) ∨ (okE (.int (q : Int)) = true ∧ isTupD (.ref i) = false ∧ okE (.lst ds) = true)) (ds.any fun z => eqvD z (.int (q : Int)))).map fun b => blS (!b) := rfl
  rw [e, h]
  simp only [cellL, Option.bind_some]
  rw [gd_pos (.inr ⟨EqOk.int.okE, rfl, nats_okE⟩)]
  have e2 : ((ps.map nD).any fun z => eqvD z (.int (q : Int))) = decide (q ∈ ps) := by
    rw [List.any_map, Bool.eq_iff_iff, List.any_eq_true, decide_eq_true_eq]
    constructor
    · rintro ⟨x, hx, hq⟩
      have hq2 : decide ((x : Int) = (q : Int)) = true := hq
      have hq3 := of_decide_eq_true hq2
      have : x = q := by omega
      rw [← this]; exact hx
    · intro h
      exact ⟨q, h, by simp [Function.comp, nD, eqvD]⟩
  rw [e2]; rfl
/-- the turns of the law's own going: what is told, what is left -/
structure GoA (w : Wb) (K S : List Nat) : Prop where
  kn : K.Nodup
  kr : ∀ p ∈ K, Rch w p
  sr : ∀ p ∈ S, Rch w p
  top : w.length - 1 ∈ K ∨ w.length - 1 ∈ S
  cl : ∀ p ∈ K, ∀ r, w[p]? = some r → ∀ q ∈ r.below, q ∈ K ∨ q ∈ S
theorem goA_end {n : Nat} {w : Wb} {K : List Nat} (o : WbOk n w) (g : GoA w K []) {p : Nat} : p ∈ K ↔ Rch w p := by
  constructor
  · exact g.kr p
  · intro h
    induction h with
    | top h =>
      rcases g.top with h | h
      · exact h
      · cases h
    | down h e hp ih =>
      rcases g.cl _ ih _ e _ hp with h | h
      · exact h
      · cases h
theorem goA_old {w : Wb} {K S : List Nat} {p : Nat} (g : GoA w K (S ++ [p])) (h : p ∈ K) : GoA w K S := by
  refine ⟨g.kn, g.kr, fun q hq => g.sr q (List.mem_append_left _ hq), ?_, fun q hq r hr t ht => ?_⟩
  · rcases g.top with z | z
    · exact .inl z
    · rcases List.mem_append.mp z with z | z
      · exact .inr z
      · exact .inl (by rw [List.mem_singleton.mp z]; exact h)
  · rcases g.cl q hq r hr t ht with z | z
    · exact .inl z
    · rcases List.mem_append.mp z with z | z
      · exact .inr z
      · exact .inl (by rw [List.mem_singleton.mp z]; exact h)
theorem goA_new {w : Wb} {K S : List Nat} {p : Nat} {r : Rw} (g : GoA w K (S ++ [p])) (h : p ∉ K) (hr : w[p]? = some r) : GoA w (K ++ [p]) (S ++ r.below) := by
  have hp : Rch w p := g.sr p (by simp)
  have mv : ∀ q, q ∈ K ∨ q ∈ S ++ [p] → q ∈ K ++ [p] ∨ q ∈ S ++ r.below := fun q z => by
    simp only [List.mem_append, List.mem_singleton] at z ⊢
    rcases z with z | z | z
    · exact .inl (.inl z)
    · exact .inr (.inl z)
    · exact .inl (.inr z)
  refine ⟨List.nodup_append.mpr ⟨g.kn, by simp, fun a ha b hb e => h (by rw [List.mem_singleton.mp hb] at e; rw [← e]; exact ha)⟩, fun q hq => ?_, fun q hq => ?_, mv _ g.top, fun q hq r' hr' t ht => ?_⟩
  · rcases List.mem_append.mp hq with z | z
    · exact g.kr q z
    · rw [List.mem_singleton.mp z]; exact hp
  · rcases List.mem_append.mp hq with z | z
    · exact g.sr q (List.mem_append_left _ z)
    · exact .down hp hr z
  · rcases List.mem_append.mp hq with z | z
    · exact mv t (g.cl q z r' hr' t ht)
    · rw [List.mem_singleton.mp z, hr] at hr'
      cases hr'
      exact .inr (List.mem_append_right _ ht)
theorem goA_len {w : Wb} {n : Nat} {K S : List Nat} (o : WbOk n w) (g : GoA w K S) : K.length ≤ w.length := nodup_lt _ _ g.kn fun p hp => rch_lt o (g.kr p hp)
set_option maxHeartbeats 2000000
def t_lil2 (sp__law_below : SpD) : TS' :=
  (sSeq (sIf (cP (bOr (bB (po2 ltD (poN lenD [(pV 3)]) (poN lenD [(pV 0)]))) (bB (po2 ltD (po1 leSetN (pV 0)) (poN lenD [(pV 0)])))))
  (sRet (eP (pC (.bl false))))
  sNil)
  (sSeq (sFor (iPq (pV 0)) (gNm 2)
  (sSeq (sIf (cP (bOr (bB (po2 ninD (po2 ixD (pV 2) (pC (.int 0))) (poTup [(pC (.str "yes")), (pC (.str "no")), (pC (.str "pick"))]))) (bAn (bB (po2 eqD (po2 ixD (pV 2) (pC (.int 0))) (pC (.str "pick")))) (bB (po2 eqD (po2 ixD (pV 2) (pC (.int 2))) (po2 ixD (pV 2) (pC (.int 3))))))))
  (sRet (eP (pC (.bl false))))
  sNil)
  (sIf (cP (bB (po2 eqD (po2 ixD (pV 2) (pC (.int 0))) (pC (.str "pick")))))
  (sSeq (sSet 6 (eFz (fLc (iPq (poSl (pV 2) (poI (pC (.int 2))) poNo)) (.nm 7) (cP (bB (po2 eqD (po2 ixD (po2 ixD (pV 0) (pV 7)) (pC (.int 0))) (pC (.str "pick"))))) (eP (po2 ixD (po2 ixD (pV 0) (pV 7)) (pC (.int 1)))) [7])))
  (sIf (tTr (eoN anyD (aCons (eFz (fLc (iPq (pV 6)) (.nm 8) tYs (eP (po2 leD (poMt "list" indexD (pV 1) [(pV 8)]) (poMt "list" indexD (pV 1) [(po2 ixD (pV 2) (pC (.int 1)))]))) [8])) (aP []))))
  (sRet (eP (pC (.bl false))))
  sNil))
  sNil)))
  (sRet (eP (pC (.bl true))))))
def t_lil1 (sp__law_below : SpD) : TS' :=
  (sSeq (sWhR 4 (cP (bB (po2 neD (pV 4) (pFz (plLst [])))))
  (sSeq (sSet 5 (eMt "list" mPop (eP (pV 4)) (aP [])))
  (sIf (cP (bB (po2 ninD (pV 5) (pV 3))))
  (sSeq (sDrop (eMt "list" mApp (eP (pV 3)) (aP [(pV 5)])))
  (sSet 4 (eNw (f2 catF (eP (pV 4)) (eSeal 0 (eCall [false] sp__law_below (aP [(po2 ixD (pV 0) (pV 5))])))))))
  sNil)))
  (t_lil2 sp__law_below))
def r_lil (sp__law_below : SpD) : TS' :=
  (sSeq (sPar 3 4 (aCons (eNw (fP (plLst []))) (aCons (eNw (fP (plLst [(po2 subD (poN lenD [(pV 0)]) (pC (.int 1)))]))) (aP []))))
  (t_lil1 sp__law_below))
/-- the parts of a pick that are picks, late -/
def lteB (w : Wb) (ks : List Nat) : Rw → Bool
  | .pick k lo hi => [lo, hi].any fun p => match rowOf w p with
    | .pick x _ _ => decide (spt ks x ≤ spt ks k)
    | _ => false
  | _ => false
def lilB (w : Wb) (ks : List Nat) : Bool := w.all fun r => isLr r && (!isOs r && !lteB w ks r)
noncomputable def llaB (w : Wb) (ks : List Nat) : Bool := decide ((spots w).length = w.length) && (decide w.Nodup && lilB w ks)
def sp_lil : SpD := fun as M Q => ∃ (s s2 : Sv) (n : Nat) (ks : List Nat) (W : Wb), as = [s, s2] ∧ LV s (W.map rD) ∧ LV s2 (ks.map nD) ∧ M = [] ∧ WbOk n W ∧ 1 ≤ W.length ∧ W.length < 306 ∧ ks.Nodup ∧ NmIn W ks ∧ Q (.d (.bl (llaB W ks))) []
theorem lil_go {ks : List Nat} {w : Wb} {n : Nat} {s s2 : Sv} {E : Ends'} (hs : LV s (w.map rD)) (hs2 : LV s2 (ks.map nD)) (o : WbOk n w) (hl : 1 ≤ w.length) (hl2 : w.length ≤ 100000)
    (fin : ∀ (K : List Nat) (o2 : Option Sv) (o3 : Option D) (G : Mem), K.Nodup → K.length ≤ w.length → (∀ p, p ∈ K ↔ Rch w p) → t_lil2 sp_below E [some s, some s2, none, some (.ref 0), o2, o3.map Sv.d, none, none, none] (.lst (K.map nD) :: G)) :
    t_lil1 sp_below E [some s, some s2, none, some (.ref 0), some (.ref 1), none, none, none, none] [.lst [], .lst [nD (w.length - 1)]] := by
  unfold t_lil1
  rw [sSeq_app]
  refine whr_inv (fun m δ M => ∃ (K S : List Nat) (X : Mem) (o3 : Option D), m = S.length + 40 * (w.length - K.length) ∧ GoA w K S ∧ S.length ≤ 40 * K.length + 1 ∧ (X = [] ∧ δ = [some s, some s2, none, some (.ref 0), some (.ref 1), o3.map Sv.d, none, none, none] ∨ (∃ x, X = [.lst x]) ∧ δ = [some s, some s2, none, some (.ref 0), some (.ref 2), o3.map Sv.d, none, none, none]) ∧ M = .lst (K.map nD) :: X ++ [.lst (S.map nD)]) ?_
    (m := 1 + 40 * w.length) ⟨[], [w.length - 1], [], none, by simp, ?_, by simp, .inl ⟨rfl, rfl⟩, rfl⟩
  · rintro m δ M nx ⟨K, S, X, o3, rfl, g, hS, hX, rfl⟩ k
    have hkl := goA_len o g
    have hgc : gcO 2 (some s) = some s := by rcases hs with rfl | rfl <;> rfl
    have hgc2 : gcO 2 (some s2) = some s2 := by rcases hs2 with rfl | rfl <;> rfl
    rcases hX with ⟨rfl, rfl⟩ | ⟨⟨x, rfl⟩, rfl⟩
    · rcases List.eq_nil_or_concat S with rfl | ⟨S, p, rfl⟩
      · simp only [List.cons_append, List.nil_append]
        simp only [VLY, left_nil (M := [.lst (K.map nD), .lst (([] : List Nat).map nD)]) (i := 1) rfl]
        exact fin K _ _ _ g.kn hkl (fun p => goA_end o g)
      · rw [List.concat_eq_append] at g hS k ⊢
        obtain ⟨r, hr⟩ : ∃ r, w[p]? = some r := ⟨_, List.getElem?_eq_getElem (rch_lt o (g.sr p (by simp)))⟩
        have ixw : ∀ M, ixD M s (.d (.int (p : Int))) = some (.d (rD r)) := fun M => by rw [hs.ix, at_nat, List.getElem?_map, hr]; rfl
        have hlast : ((S ++ [p]).map nD)[((S ++ [p]).map nD).length - 1]? = some (.int (p : Int)) := by simp [nD]
        have hdrop : ((S ++ [p]).map nD).dropLast = S.map nD := by rw [List.map_append]; simp
        have hne : ¬ (S ++ [p] = []) := by simp
        simp only [List.cons_append, List.nil_append]
        simp only [VLY, left_nil (M := [.lst (K.map nD), .lst ((S ++ [p]).map nD)]) (i := 1) rfl, hne, mpop, hlast, hdrop]
        simp only [nin_refN (M := [.lst (K.map nD), .lst (S.map nD)]) (i := 0) rfl]
        by_cases h : p ∈ K
        · simp only [VLY, h]
          refine k (S.length + 40 * (w.length - K.length)) _ _ (by simp) ⟨K, S, [], some (.int (p : Int)), rfl, goA_old g h, by simp at hS; omega, .inl ⟨rfl, ?_⟩, rfl⟩
          show List.map (gcO 2) _ = _
          simp only [List.map_cons, hgc, hgc2]; rfl
        · simp only [VLY, h, mApp, ixw]
          refine ⟨by rw [List.length_map, sizeLine_eq]; omega, r, rfl, rfl, ?_⟩
          simp only [VLY]
          have g2 := goA_new g h hr
          have hk2 := goA_len o g2
          have hb := below_len (o p r hr)
          simp only [List.length_append, List.length_singleton] at hS hk2
          simp only [cat_at (M := [.lst (K.map nD ++ [.int (p : Int)]), .lst (S.map nD), .gone]) (i := 1) rfl]
          simp only [VLY]
          refine ⟨by simp only [List.length_map]; rw [sizeLine_eq]; omega, ?_⟩
          refine k ((S ++ r.below).length + 40 * (w.length - (K ++ [p]).length)) _ _ (by simp only [List.length_append, List.length_singleton]; omega) ⟨K ++ [p], S ++ r.below, [.lst (S.map nD)], some (.int (p : Int)), rfl, g2, by simp only [List.length_append, List.length_singleton]; omega, .inr ⟨⟨_, rfl⟩, ?_⟩, ?_⟩
          · show List.map (mvO 2 3) _ = _
            simp only [List.map_cons, hs.mv, hs2.mv]; rfl
          · rw [List.map_append, List.map_append]; rfl
    · rcases List.eq_nil_or_concat S with rfl | ⟨S, p, rfl⟩
      · simp only [List.cons_append, List.nil_append]
        simp only [VLY, left_nil (M := [.lst (K.map nD), .lst x, .lst (([] : List Nat).map nD)]) (i := 2) rfl]
        exact fin K _ _ _ g.kn hkl (fun p => goA_end o g)
      · rw [List.concat_eq_append] at g hS k ⊢
        obtain ⟨r, hr⟩ : ∃ r, w[p]? = some r := ⟨_, List.getElem?_eq_getElem (rch_lt o (g.sr p (by simp)))⟩
        have ixw : ∀ M, ixD M s (.d (.int (p : Int))) = some (.d (rD r)) := fun M => by rw [hs.ix, at_nat, List.getElem?_map, hr]; rfl
        have hlast : ((S ++ [p]).map nD)[((S ++ [p]).map nD).length - 1]? = some (.int (p : Int)) := by simp [nD]
        have hdrop : ((S ++ [p]).map nD).dropLast = S.map nD := by rw [List.map_append]; simp
        have hne : ¬ (S ++ [p] = []) := by simp
        simp only [List.cons_append, List.nil_append]
        simp only [VLY, left_nil (M := [.lst (K.map nD), .lst x, .lst ((S ++ [p]).map nD)]) (i := 2) rfl, hne, mpop, hlast, hdrop]
        simp only [nin_refN (M := [.lst (K.map nD), .lst x, .lst (S.map nD)]) (i := 0) rfl]
        by_cases h : p ∈ K
        · simp only [VLY, h]
          refine k (S.length + 40 * (w.length - K.length)) _ _ (by simp) ⟨K, S, [.lst x], some (.int (p : Int)), rfl, goA_old g h, by simp at hS; omega, .inr ⟨⟨_, rfl⟩, ?_⟩, rfl⟩
          show List.map (mvO 2 2) _ = _
          simp only [List.map_cons, hs.mv, hs2.mv]; rfl
        · simp only [VLY, h, mApp, ixw]
          refine ⟨by rw [List.length_map, sizeLine_eq]; omega, r, rfl, rfl, ?_⟩
          simp only [VLY]
          have g2 := goA_new g h hr
          have hk2 := goA_len o g2
          have hb := below_len (o p r hr)
          simp only [List.length_append, List.length_singleton] at hS hk2
          simp only [cat_at (M := [.lst (K.map nD ++ [.int (p : Int)]), .lst x, .lst (S.map nD), .gone]) (i := 2) rfl]
          simp only [VLY]
          refine ⟨by simp only [List.length_map]; rw [sizeLine_eq]; omega, ?_⟩
          refine k ((S ++ r.below).length + 40 * (w.length - (K ++ [p]).length)) _ _ (by simp only [List.length_append, List.length_singleton]; omega) ⟨K ++ [p], S ++ r.below, [.lst x], some (.int (p : Int)), rfl, g2, by simp only [List.length_append, List.length_singleton]; omega, .inr ⟨⟨_, rfl⟩, ?_⟩, ?_⟩
          · show List.map (mvO 2 4) _ = _
            simp only [List.map_cons, hs.mv, hs2.mv]; rfl
          · rw [List.map_append, List.map_append]; rfl
  · refine ⟨.nil, fun p h => (by cases h), fun p h => ?_, .inr (by simp), fun p h => (by cases h)⟩
    rw [List.mem_singleton.mp h]
    exact .top hl
set_option maxHeartbeats 2000000
def b_lil  : TS' :=
  (sSeq (sIf (cP (bOr (bB (po2 ninD (po2 ixD (pV 2) (pC (.int 0))) (poTup [(pC (.str "yes")), (pC (.str "no")), (pC (.str "pick"))]))) (bAn (bB (po2 eqD (po2 ixD (pV 2) (pC (.int 0))) (pC (.str "pick")))) (bB (po2 eqD (po2 ixD (pV 2) (pC (.int 2))) (po2 ixD (pV 2) (pC (.int 3))))))))
  (sRet (eP (pC (.bl false))))
  sNil)
  (sIf (cP (bB (po2 eqD (po2 ixD (pV 2) (pC (.int 0))) (pC (.str "pick")))))
  (sSeq (sSet 6 (eFz (fLc (iPq (poSl (pV 2) (poI (pC (.int 2))) poNo)) (.nm 7) (cP (bB (po2 eqD (po2 ixD (po2 ixD (pV 0) (pV 7)) (pC (.int 0))) (pC (.str "pick"))))) (eP (po2 ixD (po2 ixD (pV 0) (pV 7)) (pC (.int 1)))) [7])))
  (sIf (tTr (eoN anyD (aCons (eFz (fLc (iPq (pV 6)) (.nm 8) tYs (eP (po2 leD (poMt "list" indexD (pV 1) [(pV 8)]) (poMt "list" indexD (pV 1) [(po2 ixD (pV 2) (pC (.int 1)))]))) [8])) (aP []))))
  (sRet (eP (pC (.bl false))))
  sNil))
  sNil))
def isPB : Rw → Bool
  | .pick _ _ _ => true
  | _ => false
theorem lte_eq {w : Wb} {ks : List Nat} {k lo hi : Nat} : lteB w ks (.pick k lo hi) = ((([lo, hi].filter fun q => isPB (rowOf w q)).map fun q => (rowOf w q).kn).map fun x => decide (spt ks x ≤ spt ks k)).any id := by
  have key : ∀ l : List Nat, (l.any fun p => match rowOf w p with | .pick x _ _ => decide (spt ks x ≤ spt ks k) | _ => false) = (((l.filter fun q => isPB (rowOf w q)).map fun q => (rowOf w q).kn).map fun x => decide (spt ks x ≤ spt ks k)).any id := fun l => by
    induction l with
    | nil => rfl
    | cons q l ih =>
      rw [List.any_cons, ih]
      cases h : rowOf w q with
      | pick x a b =>
        rw [List.filter_cons_of_pos (by rw [h]; rfl), List.map_cons, List.map_cons, List.any_cons, h]; rfl
      | _ => rw [List.filter_cons_of_neg (by rw [h]; exact Bool.false_ne_true)]; rfl
  exact key [lo, hi]
theorem lil_row {E : Ends'} {nx : DS → Mem → Prop} {G : Mem} {ks : List Nat} {w : Wb} {n i : Nat} {r : Rw} {s s2 : Sv} {x2 x3 x4 x5 x6 x7 x8 : Option Sv} (hs : LV s (w.map rD)) (hs2 : LV s2 (ks.map nD)) (o : WbOk n w) (nd : ks.Nodup) (hin : NmIn w ks) (hr : w[i]? = some r)
    (bad : (isLr r && (!isOs r && !lteB w ks r)) = false → E.rt (.d (.bl false)) G) (good : (isLr r && (!isOs r && !lteB w ks r)) = true → ∀ y6, E.nx [some s, some s2, some (.d (rD r)), x3, x4, x5, y6, none, none] G) :
    b_lil E [some s, some s2, some (.d (rD r)), x3, x4, x5, x6, none, none] G := by
  unfold b_lil
  rw [sSeq_app]
  have t1 : ∀ M, ninD M (.d (.str "yes")) (.d (.tup [.str "yes", .str "no", .str "pick"])) = some (.d (.bl false)) := fun M => rfl
  have t2 : ∀ M, ninD M (.d (.str "no")) (.d (.tup [.str "yes", .str "no", .str "pick"])) = some (.d (.bl false)) := fun M => rfl
  have t3 : ∀ M, ninD M (.d (.str "pick")) (.d (.tup [.str "yes", .str "no", .str "pick"])) = some (.d (.bl false)) := fun M => rfl
  have t4 : ∀ M, ninD M (.d (.str "has")) (.d (.tup [.str "yes", .str "no", .str "pick"])) = some (.d (.bl true)) := fun M => rfl
  have t5 : ∀ M, ninD M (.d (.str "and")) (.d (.tup [.str "yes", .str "no", .str "pick"])) = some (.d (.bl true)) := fun M => rfl
  have t6 : ∀ M, ninD M (.d (.str "or")) (.d (.tup [.str "yes", .str "no", .str "pick"])) = some (.d (.bl true)) := fun M => rfl
  cases r with
  | yes =>
    simp only [VLQ, rD, t1]
    exact good rfl _
  | no =>
    simp only [VLQ, rD, t2]
    exact good rfl _
  | has k b =>
    simp only [VLQ, rD, t4]
    exact bad rfl
  | all ps =>
    simp only [VLQ, rD, t5]
    exact bad rfl
  | any ps =>
    simp only [VLQ, rD, t6]
    exact bad rfl
  | pick k lo hi =>
    have hb := (o i _ hr).2
    have hi' := (List.getElem?_eq_some_iff.mp hr).1
    have hkk : k ∈ ks := hin i _ hr rfl
    simp only [VLQ, rD, t3]
    by_cases hlh : lo = hi
    · rw [if_pos (by omega)]
      exact bad (by show (true && (!decide (lo = hi) && _)) = false; rw [decide_eq_true hlh]; rfl)
    rw [if_neg (by omega)]
    have hwt : ∀ q ∈ [lo, hi], w[q]? = some (rowOf w q) := fun q hq => by
      have hql : q < w.length := by
        simp only [List.mem_cons, List.not_mem_nil, or_false] at hq
        rcases hq with rfl | rfl <;> omega
      show _ = some (w.getD q .yes)
      rw [List.getD_eq_getElem?_getD, List.getElem?_eq_getElem hql]; rfl
    have ixw : ∀ q ∈ [lo, hi], ∀ M, ixD M s (.d (.int (q : Int))) = some (.d (rD (rowOf w q))) := fun q hq M => by rw [hs.ix, at_nat, List.getElem?_map, hwt q hq]; rfl
    refine lc_gf (e := nD) (f := fun q => nD (rowOf w q).kn) (p := fun q => isPB (rowOf w q)) (l := [lo, hi]) trivial ?_ ?_
    · intro q hq R1 R2 h1 h2
      have hx := ixw q hq
      simp only [gNm, nD]
      cases h : rowOf w q with
      | pick x a b =>
        rw [h] at hx h1 h2
        simp only [VLQ, hx, rD]
        exact h1 rfl
      | _ =>
        rw [h] at hx h1 h2
        simp only [VLQ, hx, rD]
        exact h2 rfl
    · have eL : ([] : List D) ++ ([lo, hi].filter fun q => isPB (rowOf w q)).map (fun q => nD (rowOf w q).kn) = (([lo, hi].filter fun q => isPB (rowOf w q)).map fun q => (rowOf w q).kn).map nD := by rw [List.map_map]; rfl
      rw [eL]
      have hnm : ∀ x ∈ ([lo, hi].filter fun q => isPB (rowOf w q)).map (fun q => (rowOf w q).kn), x ∈ ks := fun x hx => by
        obtain ⟨q, hq, rfl⟩ := List.mem_map.mp hx
        obtain ⟨hq1, hq2⟩ := List.mem_filter.mp hq
        refine hin q _ (hwt q hq1) ?_
        cases h : rowOf w q with
        | pick x a b => rfl
        | _ => rw [h] at hq2; cases hq2
      rw [lte_eq] at good bad
      generalize ([lo, hi].filter fun q => isPB (rowOf w q)).map (fun q => (rowOf w q).kn) = L at hnm good bad ⊢
      refine lc_gm (e := nD) (f := fun x => .bl (decide (spt ks x ≤ spt ks k))) trivial ?_ ?_
      · intro x hx R hR
        have e1 := fun M => idx_spt (M := M) hs2 (hnm x hx)
        have e2 := fun M => idx_spt (M := M) hs2 hkk
        simp only [gNm, nD]
        simp only [VLQ, e1, e2]
        have hrc : ∀ M, rcv M s2 = some "list" := fun M => by rcases hs2 with rfl | rfl <;> rfl
        have hde : decide ((spt ks x : Int) ≤ (spt ks k : Int)) = decide (spt ks x ≤ spt ks k) := by rw [decide_eq_decide]; omega
        rw [hde]
        exact ⟨hrc _, hrc _, hR⟩
      · have e3 : ([] : List D) ++ L.map (fun x => D.bl (decide (spt ks x ≤ spt ks k))) = (L.map fun x => decide (spt ks x ≤ spt ks k)).map D.bl := by rw [List.map_map]; rfl
        rw [e3, any_bls, ok_some]
        have hos : isOs (.pick k lo hi) = false := decide_eq_false hlh
        rw [hos] at good bad
        cases ha : (L.map fun x => decide (spt ks x ≤ spt ks k)).any id with
        | true =>
          rw [ha] at bad
          exact bad rfl
        | false =>
          rw [ha] at good
          exact good rfl _
set_option maxHeartbeats 2000000
theorem pure_lil (as : List Sv) (M : Mem) (Q : Rv → Mem → Prop) (h : sp_lil as M Q) : r_lil sp_below (endsF M.length Q) (startD 9 as) M := by
  obtain ⟨s, s2, n, ks, w, rfl, hs, hs2, rfl, o, hpos, few, nd, hin, z⟩ := h
  show r_lil sp_below (endsF 0 Q) [some s, some s2, none, none, none, none, none, none, none] []
  obtain ⟨kn, hk, hls⟩ := leSetN_any hs few
  have e0 : ((w.length : Int) - 1) = ((w.length - 1 : Nat) : Int) := by omega
  unfold r_lil
  rw [sSeq_app]
  simp only [VLQ, hs.len, List.length_map, e0]
  refine lil_go hs hs2 o hpos (by omega) fun K o4 o5 G kd kl km => ?_
  have hsp : K.length = (spots w).length := by
    refine ((List.perm_ext_iff_of_nodup kd (List.nodup_range.sublist List.filter_sublist)).mpr fun p => ?_).length_eq
    rw [km, List.mem_filter, List.mem_range, rcB_iff]
    exact ⟨fun h => ⟨rch_lt o h, h⟩, fun h => h.2⟩
  unfold t_lil2
  rw [sSeq_app]
  generalize leSetN = LN at hls ⊢
  have hKl : lenD (.lst (K.map nD) :: G) [.ref 0] = some (.d (.int (K.length : Int))) := by rw [len_ref rfl, List.length_map]
  simp only [VLQ, hKl, hs.len, List.length_map, hls]
  unfold llaB at z
  have hspl : (spots w).length ≤ w.length := by
    unfold spots
    exact Nat.le_trans (List.length_filter_le ..) (by rw [List.length_range]; exact Nat.le_refl _)
  by_cases h1 : K.length < w.length
  · rw [if_pos (by omega)]
    rw [decide_eq_false (show ¬ (spots w).length = w.length by omega), Bool.false_and] at z
    exact z
  rw [if_neg (by omega)]
  rw [decide_eq_true (show (spots w).length = w.length by omega), Bool.true_and] at z
  by_cases h2 : w.Nodup
  · have h3 : ¬ kn < w.length := fun h => hk.mp h h2
    rw [if_neg (by omega)]
    rw [decide_eq_true h2, Bool.true_and] at z
    simp only [VLQ, hs.seq, hs.gd]
    have hgc : ∀ k, gcO k (some s) = some s := fun _ => hs.gc
    have hgc2 : ∀ k, gcO k (some s2) = some s2 := fun _ => hs2.gc
    refine for_ix (b := b_lil) _ (fun i δ M => ∃ x2 x4 x5 y6, δ = [some s, some s2, x2, some (.ref 0), x4, x5, y6, none, none] ∧ M = .lst (K.map nD) :: G ∧ ((w.take i).all fun r => isLr r && (!isOs r && !lteB w ks r)) = true) ?_ ?_ _ _ ⟨_, _, _, _, rfl, rfl, rfl⟩
    · rintro δ M ⟨x2, x4, x5, y6, rfl, rfl, ha⟩
      rw [List.length_map, List.take_length] at ha
      refine ⟨trivial, ?_⟩
      have : lilB w ks = true := ha
      rw [this] at z
      exact z
    · rintro i x δ M nx hx ⟨x2, x4, x5, y6, rfl, rfl, ha⟩ k
      obtain ⟨r, hr, rfl⟩ := wb_at hx
      refine ⟨trivial, ?_⟩
      simp only [gNm, List.set_cons_succ, List.set_cons_zero]
      refine lil_row (nx := nx) (x2 := none) (x7 := none) (x8 := none) hs hs2 o nd hin hr (fun hbad => ?_) fun hgood y6' => ?_
      · have : lilB w ks = false := by
          unfold lilB
          rw [List.all_eq_false]
          exact ⟨r, List.mem_of_getElem? hr, by rw [hbad]; decide⟩
        rw [this] at z
        simp only [VLQ]
        exact z
      · refine k _ _ ⟨some (.d (rD r)), gcO (G.length + 1) x4, gcO (G.length + 1) x5, gcO (G.length + 1) y6', ?_, by simp, ?_⟩
        · simp only [gcS_c, gcS_n, gcO_d, gcO_n, hgc, hgc2, gcO_r (show 0 < G.length + 1 by omega)]
        · rw [List.take_add_one, hr, List.all_append, ha]
          simp only [Option.toList_some, List.all_cons, List.all_nil, Bool.and_true, Bool.true_and]
          exact hgood
  · have h3 := hk.mpr h2
    rw [if_pos (by omega)]
    rw [decide_eq_false h2, Bool.false_and] at z
    exact z
set_option maxHeartbeats 2000000
theorem late_iff {w : Wb} {ks : List Nat} : ∀ (l : Wb) (j : Nat), nonD (lateGo w ks j l) = true ↔ ∀ (i k lo hi : Nat), l[i]? = some (.pick k lo hi) → ltS w ks (j + i) k = []
  | [], j => ⟨fun _ i k lo hi h => (by cases h), fun _ => rfl⟩
  | r :: l, j => by
    have ih := late_iff (w := w) (ks := ks) l (j + 1)
    have shift : (∀ (i k lo hi : Nat), l[i]? = some (.pick k lo hi) → ltS w ks (j + 1 + i) k = []) ↔ ∀ (i k lo hi : Nat), (r :: l)[i + 1]? = some (.pick k lo hi) → ltS w ks (j + (i + 1)) k = [] := by
      constructor
      · intro h i k lo hi e
        have := h i k lo hi e
        rwa [show j + 1 + i = j + (i + 1) by omega] at this
      · intro h i k lo hi e
        have := h i k lo hi e
        rwa [show j + (i + 1) = j + 1 + i by omega] at this
    have rest : (∀ (i k lo hi : Nat), (r :: l)[i]? = some (.pick k lo hi) → ltS w ks (j + i) k = []) ↔ (∀ k lo hi, r = .pick k lo hi → ltS w ks j k = []) ∧ nonD (lateGo w ks (j + 1) l) = true := by
      rw [ih, shift]
      constructor
      · intro h
        exact ⟨fun k lo hi e => h 0 k lo hi (by rw [e]; rfl), fun i => h (i + 1)⟩
      · rintro ⟨h1, h2⟩ i k lo hi e
        cases i with
        | zero => exact h1 k lo hi (Option.some.inj e)
        | succ i => exact h2 i k lo hi e
    rw [rest]
    cases r with
    | pick k lo hi =>
      cases h : ltS w ks j k with
      | nil =>
        have e0 : lateGo w ks j (.pick k lo hi :: l) = lateGo w ks (j + 1) l := by
          rw [lateGo]
          simp only [h]
        rw [e0]
        exact ⟨fun z => ⟨fun k' lo' hi' e => (by cases e; exact h), z⟩, fun z => z.2⟩
      | cons p ps =>
        have e0 : nonD (lateGo w ks j (.pick k lo hi :: l)) = false := by
          rw [lateGo]
          simp only [h]
          rfl
        rw [e0]
        constructor
        · intro z; cases z
        · rintro ⟨h1, _⟩
          have := h1 k lo hi rfl
          rw [h] at this; cases this
    | _ => exact ⟨fun z => ⟨fun k' lo' hi' e => (by cases e), z⟩, fun z => z.2⟩
theorem dn_lr {w : Wb} (hl : w.all isLr = true) {j p : Nat} (h : Dn w j p) : p ∈ (rowOf w j).below := by
  induction h with
  | one hp => exact hp
  | @more p u _ ha hu _ =>
    exfalso
    have hr : isLr (rowOf w p) = true := by
      by_cases hp : p < w.length
      · show isLr (w.getD p .yes) = true
        rw [List.getD_eq_getElem?_getD, List.getElem?_eq_getElem hp]
        exact List.all_eq_true.mp hl _ (List.getElem_mem hp)
      · show isLr (w.getD p .yes) = true
        rw [List.getD_eq_getElem?_getD, List.getElem?_eq_none (by omega)]; rfl
    cases h : rowOf w p with
    | yes => rw [h] at hu; cases hu
    | no => rw [h] at hu; cases hu
    | pick k a b => rw [h] at ha; cases ha
    | _ => rw [h] at hr; cases hr
theorem lt_lte {n : Nat} {w : Wb} {ks : List Nat} (o : WbOk n w) (hl : w.all isLr = true) {j k lo hi : Nat} (hw : w[j]? = some (.pick k lo hi)) : ltS w ks j k = [] ↔ lteB w ks (.pick k lo hi) = false := by
  have hrow := rowOf_at hw
  have hlr : ∀ p, isLr (rowOf w p) = true := fun p => by
    by_cases hp : p < w.length
    · show isLr (w.getD p .yes) = true
      rw [List.getD_eq_getElem?_getD, List.getElem?_eq_getElem hp]
      exact List.all_eq_true.mp hl _ (List.getElem_mem hp)
    · show isLr (w.getD p .yes) = true
      rw [List.getD_eq_getElem?_getD, List.getElem?_eq_none (by omega)]; rfl
  unfold ltS lteB
  rw [List.filter_eq_nil_iff, List.any_eq_false]
  constructor
  · intro h p hp hc
    have hp' : p ∈ (rowOf w j).below := by rw [hrow]; exact hp
    cases e : rowOf w p with
    | pick x a b =>
      rw [e] at hc
      have hin : p ∈ nxS w j := (nxS_mem o).mpr ⟨.one hp', by rw [e]; rfl⟩
      have := h p hin
      rw [e] at this
      exact this hc
    | _ => rw [e] at hc; cases hc
  · intro h p hp hc
    obtain ⟨hd, ha⟩ := (nxS_mem o).mp hp
    have hb := dn_lr hl hd
    rw [hrow] at hb
    have := h p hb
    have hr := hlr p
    cases e : rowOf w p with
    | pick x a b =>
      rw [e] at this hc
      exact this hc
    | yes => rw [e] at ha; cases ha
    | no => rw [e] at ha; cases ha
    | _ => rw [e] at hr; cases hr
theorem lla_isl {n : Nat} {w : Wb} {ks : List Nat} (o : WbOk n w) : llaB w ks = islB w ks := by
  unfold llaB islB lilB
  cases hal : w.all isLr with
  | false =>
    have : (w.all fun r => isLr r && (!isOs r && !lteB w ks r)) = false := by
      rw [List.all_eq_false] at hal ⊢
      obtain ⟨r, hr, h⟩ := hal
      exact ⟨r, hr, fun z => h (by rw [Bool.and_eq_true] at z; exact z.1)⟩
    rw [this]; simp
  | true =>
    have e1 : (w.all fun r => isLr r && (!isOs r && !lteB w ks r)) = (nonD (lateD w ks) && !w.any isOs) := by
      rw [Bool.eq_iff_iff, Bool.and_eq_true, Bool.not_eq_true', List.all_eq_true, List.any_eq_false]
      unfold lateD
      rw [late_iff]
      constructor
      · intro h
        refine ⟨fun i k lo hi e => ?_, fun r hr hc => ?_⟩
        · rw [Nat.zero_add, lt_lte o hal e]
          have := h _ (List.mem_of_getElem? e)
          simp only [Bool.and_eq_true, Bool.not_eq_true'] at this
          exact this.2.2
        · have := h r hr
          simp only [Bool.and_eq_true, Bool.not_eq_true'] at this
          rw [this.2.1] at hc; cases hc
      · rintro ⟨h1, h2⟩ r hr
        obtain ⟨i, e⟩ := List.getElem?_of_mem hr
        have hos : isOs r = false := by
          cases h : isOs r with
          | false => rfl
          | true => exact absurd h (h2 r hr)
        have hlr := List.all_eq_true.mp hal r hr
        rw [hlr, hos]
        cases r with
        | pick k lo hi =>
          have := h1 i k lo hi e
          rw [Nat.zero_add, lt_lte o hal e] at this
          rw [this]; rfl
        | yes => rfl
        | no => rfl
        | _ => cases hlr
    rw [e1]
    cases decide ((spots w).length = w.length) <;> cases decide w.Nodup <;> cases nonD (lateD w ks) <;> cases w.any isOs <;> rfl
set_option maxHeartbeats 2000000
def ren3 : Rw → Rw
  | .has k b => .has (3 * k + 1) b
  | .pick k lo hi => .pick (3 * k + 1) lo hi
  | r => r
def sp_ren17 : SpD := fun as M Q => ∃ (s : Sv) (n : Nat) (w : Wb), as = [s] ∧ LV s (w.map rD) ∧ M = [] ∧ WbOk n w ∧ n ≤ 1000 ∧ Q (.new ((w.map ren3).map rD)) []
def r_ren17  : TS' :=
  (sRet (eNw (fLc (iPq (pV 0)) (.nm 1) tYs (eP (poIf (bB (po2 inD (po2 ixD (pV 1) (pC (.int 0))) (poTup [(pC (.str "has")), (pC (.str "pick"))]))) (po2 addD (po2 addD (poSl (pV 1) poNo (poI (pC (.int 1)))) (poTup [(po2 addD (po2 mulD (pC (.int 3)) (po2 ixD (pV 1) (pC (.int 1)))) (pC (.int 1)))])) (poSl (pV 1) (poI (pC (.int 2))) poNo)) (pV 1))) [1])))
theorem pure_ren17 (as : List Sv) (M : Mem) (Q : Rv → Mem → Prop) (h : sp_ren17 as M Q) : r_ren17 (endsF M.length Q) (startD 2 as) M := by
  obtain ⟨s, n, w, rfl, hs, rfl, o, hn, z⟩ := h
  show r_ren17 (endsF 0 Q) [some s, none] []
  have i1 : ∀ M, inD M (.d (.str "yes")) (.d (.tup [.str "has", .str "pick"])) = some (.d (.bl false)) := fun M => rfl
  have i2 : ∀ M, inD M (.d (.str "no")) (.d (.tup [.str "has", .str "pick"])) = some (.d (.bl false)) := fun M => rfl
  have i3 : ∀ M, inD M (.d (.str "and")) (.d (.tup [.str "has", .str "pick"])) = some (.d (.bl false)) := fun M => rfl
  have i4 : ∀ M, inD M (.d (.str "or")) (.d (.tup [.str "has", .str "pick"])) = some (.d (.bl false)) := fun M => rfl
  have i5 : ∀ M, inD M (.d (.str "has")) (.d (.tup [.str "has", .str "pick"])) = some (.d (.bl true)) := fun M => rfl
  have i6 : ∀ M, inD M (.d (.str "pick")) (.d (.tup [.str "has", .str "pick"])) = some (.d (.bl true)) := fun M => rfl
  unfold r_ren17
  simp only [VLQ, hs.seq, hs.gd]
  refine lc_gm (e := rD) (f := fun r => rD (ren3 r)) trivial ?_ ?_
  · intro r hr R hR
    obtain ⟨i, e⟩ := List.getElem?_of_mem hr
    have ok1 := o i r e
    cases r with
    | yes => simp only [VLQ, gNm, rD, i1]; exact hR
    | no => simp only [VLQ, gNm, rD, i2]; exact hR
    | all ps => simp only [VLQ, gNm, rD, i3]; exact hR
    | any ps => simp only [VLQ, gNm, rD, i4]; exact hR
    | has k b =>
      have e3 : (3 * (k : Int) + 1) = ((3 * k + 1 : Nat) : Int) := by omega
      have hkn : k < n := ok1
      simp only [VLQ, gNm, rD, i5, e3]
      exact ⟨by unfold MulOk; omega, by rw [sizeLine_eq]; show 1 + 1 ≤ 16777216; decide, by rw [sizeLine_eq]; show 1 + 1 + 1 ≤ 16777216; decide, hR⟩
    | pick k lo hi =>
      have e3 : (3 * (k : Int) + 1) = ((3 * k + 1 : Nat) : Int) := by omega
      have hkn : k < n := ok1.1
      simp only [VLQ, gNm, rD, i6, e3]
      exact ⟨by unfold MulOk; omega, by rw [sizeLine_eq]; show 1 + 1 ≤ 16777216; decide, by rw [sizeLine_eq]; show 1 + 1 + 2 ≤ 16777216; decide, hR⟩
  · rw [List.nil_append]
    have : w.map (fun r => rD (ren3 r)) = (w.map ren3).map rD := by rw [List.map_map]; rfl
    rw [this]
    exact z
set_option maxHeartbeats 2000000
def putRw (w : Wb) (r : Rw) : Wb × Nat := if r ∈ w then (w, w.findIdx fun z => decide (z = r)) else (w ++ [r], w.length)
def csB (m : List Bool) : Bool := decide (m.all id = m.any id)
def mkR : List Nat → List Bool → Wb → Wb × Nat
  | [], m, w => putRw w (if m.headD false then .yes else .no)
  | k :: ks, m, w => if csB m = true then putRw w (if m.headD false then .yes else .no) else
    if (mkR ks (m.take (2 ^ ks.length)) w).2 = (mkR ks (m.drop (2 ^ ks.length)) (mkR ks (m.take (2 ^ ks.length)) w).1).2 then mkR ks (m.drop (2 ^ ks.length)) (mkR ks (m.take (2 ^ ks.length)) w).1
    else putRw (mkR ks (m.drop (2 ^ ks.length)) (mkR ks (m.take (2 ^ ks.length)) w).1).1 (.pick k (mkR ks (m.take (2 ^ ks.length)) w).2 (mkR ks (m.drop (2 ^ ks.length)) (mkR ks (m.take (2 ^ ks.length)) w).1).2)
theorem putRw_len {w : Wb} {r : Rw} : (putRw w r).1.length ≤ w.length + 1 := by
  unfold putRw
  split
  · exact Nat.le_succ _
  · show (w ++ [r]).length ≤ _
    rw [List.length_append]; exact Nat.le_refl _
theorem mkR_len : ∀ (ks : List Nat) (m : List Bool) (w : Wb), (mkR ks m w).1.length + 1 ≤ w.length + 2 ^ (ks.length + 1)
  | [], m, w => by
    have := putRw_len (w := w) (r := if m.headD false then .yes else .no)
    show (putRw w _).1.length + 1 ≤ w.length + 2
    omega
  | k :: ks, m, w => by
    have hp : 2 ≤ 2 ^ (ks.length + 1) := by
      rw [Nat.pow_succ]
      have := Nat.two_pow_pos ks.length
      omega
    have e : 2 ^ ((k :: ks).length + 1) = 2 ^ (ks.length + 1) + 2 ^ (ks.length + 1) := by rw [List.length_cons, Nat.pow_succ 2 (ks.length + 1)]; omega
    have h1 := mkR_len ks (m.take (2 ^ ks.length)) w
    have h2 := mkR_len ks (m.drop (2 ^ ks.length)) (mkR ks (m.take (2 ^ ks.length)) w).1
    rw [mkR]
    split
    · have := putRw_len (w := w) (r := if m.headD false then .yes else .no)
      omega
    · split
      · omega
      · have := putRw_len (w := (mkR ks (m.drop (2 ^ ks.length)) (mkR ks (m.take (2 ^ ks.length)) w).1).1) (r := .pick k (mkR ks (m.take (2 ^ ks.length)) w).2 (mkR ks (m.drop (2 ^ ks.length)) (mkR ks (m.take (2 ^ ks.length)) w).1).2)
        omega
def sp_made17 (e : Nat) : SpD := fun as M Q => ∃ (w : Wb) (ks : List Nat) (m : List Bool), as = [.ref 0, .d (.tup (m.map .bl)), .d (.lst (ks.map nD))] ∧ M = [.lst (w.map rD)] ∧ m.length = 2 ^ ks.length ∧ ks.length ≤ e ∧ ks.length ≤ 8 ∧ w.length + 2 ^ (ks.length + 1) ≤ 100000 ∧ Q (.d (.int ((mkR ks m w).2 : Int))) [.lst ((mkR ks m w).1.map rD)]
def t_mdb (sp__law_made : SpD) : TS' :=
  (sSeq (sIf (cP (bB (po2 ninD (pV 3) (pV 0))))
  (sDrop (eMt "list" mApp (eP (pV 0)) (aP [(pV 3)])))
  sNil)
  (sRet (eP (poMt "list" indexD (pV 0) [(pV 3)]))))
def r_made17 (sp__law_made : SpD) : TS' :=
  (sSeq (sIf (cP (bB (po2 eqD (poN minBB [(pV 1)]) (poN maxBB [(pV 1)]))))
  (sSet 3 (eP (poIf (bTr (po2 ixD (pV 1) (pC (.int 0)))) (poTup [(pC (.str "yes"))]) (poTup [(pC (.str "no"))]))))
  (sSeq (sSet 4 (eP (po2 fdivD (poN lenD [(pV 1)]) (pC (.int 2)))))
  (sSeq (sPar 5 6 (aCons (eCall [true, false, false] sp__law_made (aP [(pV 0), (poSl (pV 1) poNo (poI (pV 4))), (pFz (plSl (pV 2) (poI (pC (.int 1))) poNo))])) (aCons (eCall [true, false, false] sp__law_made (aP [(pV 0), (poSl (pV 1) (poI (pV 4)) poNo), (pFz (plSl (pV 2) (poI (pC (.int 1))) poNo))])) (aP []))))
  (sSeq (sIf (cP (bB (po2 eqD (pV 5) (pV 6))))
  (sRet (eP (pV 5)))
  sNil)
  (sSet 3 (eP (poTup [(pC (.str "pick")), (po2 ixD (pV 2) (pC (.int 0))), (pV 5), (pV 6)])))))))
  (t_mdb sp__law_made))
theorem mdb_ok {d : Nat} {Q : Rv → Mem → Prop} {w : Wb} {r : Rw} {x1 x2 x4 x5 x6 : Option Sv} {G : Mem} (hl : w.length ≤ 200000) (z : Q (.d (.int ((putRw w r).2 : Int))) [.lst ((putRw w r).1.map rD)]) :
    t_mdb (spB sp_made17 d) (endsF 1 Q) [some (.ref 0), x1, x2, some (.d (rD r)), x4, x5, x6] (.lst (w.map rD) :: G) := by
  have hni : ∀ M : Mem, M[0]? = some (.lst (w.map rD)) → ninD M (.d (rD r)) (.ref 0) = some (.d (.bl (!decide (r ∈ w)))) := fun M h => by
    have h2 := in_wb (r := r) h
    have e : ∀ o : Option Bool, o.map blS = some (.d (.bl (decide (r ∈ w)))) → o.map (fun b => blS (!b)) = some (.d (.bl (!decide (r ∈ w)))) := fun o h => by
      cases o with
      | none => cases h
      | some b => cases h; rfl
    exact e _ h2
  unfold t_mdb
  rw [sSeq_app]
  have hn0 : ∀ G : Mem, ninD (.lst (w.map rD) :: G) (.d (rD r)) (.ref 0) = some (.d (.bl (!decide (r ∈ w)))) := fun G => hni _ rfl
  simp only [VLQ, hn0]
  unfold putRw at z
  by_cases h : r ∈ w
  · rw [if_pos h] at z
    rw [decide_eq_true h, Bool.not_true, if_neg Bool.false_ne_true, index_wb (w := w) (M := .lst (w.map rD) :: G) rfl h]
    simp only [VLQ]
    exact z
  · rw [if_neg h] at z
    rw [decide_eq_false h, Bool.not_false, if_pos rfl]
    have e2 : w.map rD ++ [rD r] = (w ++ [r]).map rD := by rw [List.map_append]; rfl
    have hf : ((w ++ [r]).findIdx fun z => decide (z = r)) = w.length := by
      rw [List.findIdx_append]
      have h1 : (w.findIdx fun z => decide (z = r)) = w.length := List.findIdx_eq_length.mpr fun x hx => by
        cases hd : decide (x = r) with
        | false => rfl
        | true => exact absurd (of_decide_eq_true hd ▸ hx) h
      rw [h1, if_neg (Nat.lt_irrefl _)]
      simp [List.findIdx_cons]
    refine ⟨by rw [List.length_map, sizeLine_eq]; omega, ?_⟩
    rw [e2, index_wb (w := w ++ [r]) (M := .lst ((w ++ [r]).map rD) :: G) rfl (by simp), hf]
    simp only [VLQ]
    exact z
set_option maxHeartbeats 2000000
theorem min_m {M : Mem} {m : List Bool} (h : m ≠ []) : minBB M [.d (.tup (m.map .bl))] = some (.d (.bl (m.all id))) := by
  obtain ⟨b, bs, rfl⟩ := List.exists_cons_of_ne_nil h
  show (match blsOf ((b :: bs).map D.bl) with | some (b :: bs) => _ | _ => none) = _
  rw [blsOf_map]; rfl
theorem max_m {M : Mem} {m : List Bool} (h : m ≠ []) : maxBB M [.d (.tup (m.map .bl))] = some (.d (.bl (m.any id))) := by
  obtain ⟨b, bs, rfl⟩ := List.exists_cons_of_ne_nil h
  show (match blsOf ((b :: bs).map D.bl) with | some (b :: bs) => _ | _ => none) = _
  rw [blsOf_map]; rfl
theorem pure_made17 {d : Nat} (as : List Sv) (M : Mem) (Q : Rv → Mem → Prop) (h : spB sp_made17 (d + 1) as M Q) : r_made17 (spB sp_made17 d) (endsF M.length Q) (startD 7 as) M := by
  obtain ⟨e, he, w, ks, m, rfl, rfl, hm, hke, h8, hw, z⟩ := h
  show r_made17 (spB sp_made17 d) (endsF 1 Q) [some (.ref 0), some (.d (.tup (m.map .bl))), some (.d (.lst (ks.map nD))), none, none, none, none] [.lst (w.map rD)]
  have hne : m ≠ [] := fun h => by
    rw [h] at hm
    have := Nat.two_pow_pos ks.length
    rw [List.length_nil] at hm
    omega
  have h1 := fun M => min_m (M := M) hne
  have h2 := fun M => max_m (M := M) hne
  have h3 : ∀ M, ixD M (.d (.tup (m.map .bl))) (.d (.int 0)) = some (.d (.bl (m.headD false))) := fun M => by
    obtain ⟨b, bs, rfl⟩ := List.exists_cons_of_ne_nil hne
    show (atI (D.bl b :: bs.map D.bl) 0).map Sv.d = _
    rw [at_0]; rfl
  unfold r_made17
  rw [sSeq_app]
  generalize minBB = mn at h1 ⊢
  generalize maxBB = mx at h2 ⊢
  simp only [VLQ, h1, h2]
  by_cases hc : m.all id = m.any id
  · rw [if_pos hc]
    have h3' : atI (m.map D.bl) 0 = some (.bl (m.headD false)) := by
      obtain ⟨b, bs, rfl⟩ := List.exists_cons_of_ne_nil hne
      show atI (D.bl b :: bs.map D.bl) 0 = _
      rw [at_0]; rfl
    have hmk : mkR ks m w = putRw w (if m.headD false then .yes else .no) := by
      cases ks with
      | nil => rfl
      | cons k ks =>
        rw [mkR, if_pos]
        exact decide_eq_true hc
    rw [hmk] at z
    simp only [VLQ, h3']
    cases hb : m.headD false with
    | true =>
      rw [hb] at z
      exact mdb_ok (d := d) (r := .yes) (by omega) z
    | false =>
      rw [hb] at z
      exact mdb_ok (d := d) (r := .no) (by omega) z
  · rw [if_neg hc]
    cases ks with
    | nil =>
      exfalso
      match m, hm with
      | [b], _ => exact hc (by simp)
    | cons k ks =>
      rw [List.length_cons] at hm hke h8 hw
      have hp := Nat.two_pow_pos ks.length
      have hm2 : m.length = 2 ^ ks.length + 2 ^ ks.length := by rw [hm, Nat.pow_succ]; omega
      have hw2 : w.length + (2 ^ (ks.length + 1) + 2 ^ (ks.length + 1)) ≤ 100000 := by
        have : 2 ^ (ks.length + 1 + 1) = 2 ^ (ks.length + 1) + 2 ^ (ks.length + 1) := by rw [Nat.pow_succ 2 (ks.length + 1)]; omega
        omega
      have hh : (((m.map D.bl).length : Int) / 2) = ((2 ^ ks.length : Nat) : Int) := by
        rw [List.length_map, hm2]; omega
      have c1 : cutD (m.map D.bl) none (some ((2 ^ ks.length : Nat) : Int)) = (m.take (2 ^ ks.length)).map D.bl := by rw [cut_to, List.map_take]
      have c2 : cutD (m.map D.bl) (some ((2 ^ ks.length : Nat) : Int)) none = (m.drop (2 ^ ks.length)).map D.bl := by rw [cut_from, List.map_drop]
      have c3 : cutD ((k :: ks).map nD) (some 1) none = ks.map nD := cut_from (k := 1)
      have l1 := mkR_len ks (m.take (2 ^ ks.length)) w
      have l2 := mkR_len ks (m.drop (2 ^ ks.length)) (mkR ks (m.take (2 ^ ks.length)) w).1
      have hcs : ¬ csB m = true := fun h => hc (of_decide_eq_true h)
      rw [mkR, if_neg hcs] at z
      rw [hh, c1, c2, c3]
      refine ⟨⟨by decide, by decide⟩, ks.length, by omega, w, ks, _, rfl, rfl, by rw [List.length_take, hm2]; omega, Nat.le_refl _, by omega, by omega, ?_⟩
      generalize mkR ks (m.take (2 ^ ks.length)) w = A at l1 l2 z ⊢
      simp only [VLQ]
      refine ⟨ks.length, by omega, A.1, ks, _, rfl, rfl, by rw [List.length_drop, hm2]; omega, Nat.le_refl _, by omega, by omega, ?_⟩
      generalize mkR ks (m.drop (2 ^ ks.length)) A.1 = B at l2 z ⊢
      simp only [VLQ]
      by_cases hAB : A.2 = B.2
      · rw [if_pos (by omega)]
        rw [if_pos hAB] at z
        rw [hAB]
        exact z
      · rw [if_neg (by omega)]
        rw [if_neg hAB] at z
        have ha : atI ((k :: ks).map nD) 0 = some (nD k) := at_0
        rw [ha, ok_some]
        exact mdb_ok (d := d) (r := .pick k A.2 B.2) (by omega) z
set_option maxHeartbeats 2000000
def sp_laddered : SpD := fun as M Q => ∃ (ks : List Nat) (m : List Bool), as = [.d (.tup (m.map .bl)), .d (.lst (ks.map nD))] ∧ M = [] ∧ m.length = 2 ^ ks.length ∧ ks.length ≤ 8 ∧ Q (.new ((mkR ks m []).1.map rD)) []
def r_laddered (sp__law_made : SpD) : TS' :=
  (sSeq (sSet 2 (eNw (fP (plLst []))))
  (sSeq (sDrop (eCall [true, false, false] sp__law_made (aP [(pV 2), (pV 0), (pV 1)])))
  (sRet (eP (pV 2)))))
theorem pure_laddered (as : List Sv) (M : Mem) (Q : Rv → Mem → Prop) (h : sp_laddered as M Q) : r_laddered (spB sp_made17 9) (endsF M.length Q) (startD 3 as) M := by
  obtain ⟨ks, m, rfl, rfl, hm, h8, z⟩ := h
  show r_laddered (spB sp_made17 9) (endsF 0 Q) [some (.d (.tup (m.map .bl))), some (.d (.lst (ks.map nD))), none] []
  have h512 : 2 ^ (ks.length + 1) ≤ 2 ^ 9 := Nat.pow_le_pow_right (by decide) (by omega)
  unfold r_laddered
  rw [sSeq_app]
  simp only [VLQ]
  refine ⟨8, by decide, [], ks, m, rfl, rfl, hm, h8, h8, by rw [List.length_nil]; omega, ?_⟩
  simp only [VLQ]
  exact z
set_option maxHeartbeats 2000000
/-- what a making comes to: the web stays in front, the row told asks a name of these, if any -/
structure MkI (n : Nat) (ks : List Nat) (w w' : Wb) (i : Nat) : Prop where
  pre : w <+: w'
  ok : WbOk n w → WbOk n w'
  nd : w.Nodup → w'.Nodup
  lt : i < w'.length
  row : ∀ r, w'[i]? = some r → isLr r = true ∧ (∀ x lo hi, r = .pick x lo hi → x ∈ ks)
  lr : w.all isLr = true → w'.all isLr = true
  os : w.any isOs = false → w'.any isOs = false
  nm : ∀ q, w.length ≤ q → q < w'.length → q = i ∨ ∃ (j : Nat) (r : Rw), w'[j]? = some r ∧ q ∈ r.below
theorem put_mk {n : Nat} {ks : List Nat} {w : Wb} {r : Rw} (hr : r.ok n w.length) (hl : isLr r = true) (ho : isOs r = false) (hx : ∀ x lo hi, r = .pick x lo hi → x ∈ ks) : MkI n ks w (putRw w r).1 (putRw w r).2 := by
  unfold putRw
  by_cases h : r ∈ w
  · rw [if_pos h]
    have hf := findIdx_at h
    refine ⟨List.prefix_refl _, id, id, (List.getElem?_eq_some_iff.mp hf).1, fun r' e => ?_, id, id, fun q h1 h2 => absurd h2 (by show ¬ q < w.length; omega)⟩
    have e : w[w.findIdx fun z => decide (z = r)]? = some r' := e
    rw [hf] at e
    cases e
    exact ⟨hl, hx⟩
  · rw [if_neg h]
    refine ⟨List.prefix_append _ _, fun o i r' e => ?_, fun nd => List.nodup_append.mpr ⟨nd, by simp, fun a ha b hb e => h (by rw [List.mem_singleton.mp hb] at e; rw [← e]; exact ha)⟩, by simp, fun r' e => ?_, fun a => ?_, fun a => ?_, fun q h1 h2 => .inl ?_⟩
    · by_cases hi : i < w.length
      · rw [List.getElem?_append_left hi] at e
        exact o i r' e
      · have hlt := (List.getElem?_eq_some_iff.mp e).1
        rw [List.length_append, List.length_singleton] at hlt
        have : i = w.length := by omega
        subst this
        rw [List.getElem?_concat_length] at e
        cases e
        exact hr
    · have e : (w ++ [r])[w.length]? = some r' := e
      rw [List.getElem?_concat_length] at e
      cases e
      exact ⟨hl, hx⟩
    · rw [List.all_append, a]; simp [hl]
    · rw [List.any_append, a]; simp [ho]
    · rw [List.length_append, List.length_singleton] at h2
      show q = w.length
      omega
theorem putRw_at {w : Wb} {r : Rw} : (putRw w r).1[(putRw w r).2]? = some r := by
  unfold putRw
  by_cases h : r ∈ w
  · rw [if_pos h]; exact findIdx_at h
  · rw [if_neg h]; exact List.getElem?_concat_length ..
theorem MkI.up {n : Nat} {ks : List Nat} {w a b : Wb} {i j : Nat} (p : MkI n ks w a i) (q : MkI n ks a b j) {ls : List Nat} (hs : ∀ x ∈ ks, x ∈ ls) (h : i = j) : MkI n ls w b j := by
  refine ⟨p.pre.trans q.pre, fun o => q.ok (p.ok o), fun o => q.nd (p.nd o), q.lt, fun r e => ⟨(q.row r e).1, fun x lo hi z => hs x ((q.row r e).2 x lo hi z)⟩, fun o => q.lr (p.lr o), fun o => q.os (p.os o), fun t h1 h2 => ?_⟩
  by_cases ht : t < a.length
  · rcases p.nm t h1 ht with z | ⟨j', r, e, z⟩
    · exact .inl (z.trans h)
    · exact .inr ⟨j', r, pre_get? q.pre e, z⟩
  · exact q.nm t (by omega) h2
theorem mkR_mk {n : Nat} : ∀ (ks : List Nat) (m : List Bool) (w : Wb), (∀ k ∈ ks, k < n) → MkI n ks w (mkR ks m w).1 (mkR ks m w).2
  | [], m, w, _ => by
    rw [mkR]
    cases m.headD false
    · exact put_mk (r := .no) trivial rfl rfl fun x lo hi e => by cases e
    · exact put_mk (r := .yes) trivial rfl rfl fun x lo hi e => by cases e
  | k :: ks, m, w, hk => by
    have p := mkR_mk (n := n) ks (m.take (2 ^ ks.length)) w fun x hx => hk x (List.mem_cons_of_mem _ hx)
    have q := mkR_mk (n := n) ks (m.drop (2 ^ ks.length)) (mkR ks (m.take (2 ^ ks.length)) w).1 fun x hx => hk x (List.mem_cons_of_mem _ hx)
    rw [mkR]
    split
    · cases m.headD false
      · exact put_mk (r := .no) trivial rfl rfl fun x lo hi e => by cases e
      · exact put_mk (r := .yes) trivial rfl rfl fun x lo hi e => by cases e
    · generalize mkR ks (m.take (2 ^ ks.length)) w = A at p q ⊢
      generalize mkR ks (m.drop (2 ^ ks.length)) A.1 = B at q ⊢
      split
      · rename_i h
        exact p.up q (fun x hx => List.mem_cons_of_mem _ hx) h
      · rename_i hne
        have hAB := q.pre.length_le
        have hlt := p.lt
        have u := put_mk (n := n) (ks := k :: ks) (w := B.1) (r := .pick k A.2 B.2) ⟨hk k List.mem_cons_self, by omega, q.lt⟩ rfl (decide_eq_false hne) fun x lo hi e => by cases e; exact List.mem_cons_self
        have at_ := putRw_at (w := B.1) (r := .pick k A.2 B.2)
        generalize putRw B.1 (.pick k A.2 B.2) = P at u at_ ⊢
        refine ⟨(p.pre.trans q.pre).trans u.pre, fun o => u.ok (q.ok (p.ok o)), fun o => u.nd (q.nd (p.nd o)), u.lt, u.row, fun o => u.lr (q.lr (p.lr o)), fun o => u.os (q.os (p.os o)), fun t h1 h2 => ?_⟩
        by_cases ht : t < A.1.length
        · rcases p.nm t h1 ht with z | ⟨j', r, e, z⟩
          · exact .inr ⟨P.2, _, at_, by rw [z]; exact List.mem_cons_self⟩
          · exact .inr ⟨j', r, pre_get? (q.pre.trans u.pre) e, z⟩
        · by_cases ht2 : t < B.1.length
          · rcases q.nm t (by omega) ht2 with z | ⟨j', r, e, z⟩
            · exact .inr ⟨P.2, _, at_, by rw [z]; exact List.mem_cons_of_mem _ List.mem_cons_self⟩
            · exact .inr ⟨j', r, pre_get? u.pre e, z⟩
          · exact u.nm t (by omega) h2
set_option maxHeartbeats 2000000
/-- parts ask names that stand behind -/
def LtI (ks0 : List Nat) (w : Wb) : Prop := ∀ (j x lo hi : Nat), w[j]? = some (.pick x lo hi) → ∀ p, p = lo ∨ p = hi → ∀ y a b, w[p]? = some (.pick y a b) → spt ks0 x < spt ks0 y
theorem put_lt {ks0 : List Nat} {w : Wb} {n : Nat} {r : Rw} (o : WbOk n w) (h : LtI ks0 w) (hr : ∀ x lo hi, r = .pick x lo hi → lo < w.length ∧ hi < w.length ∧ ∀ p, p = lo ∨ p = hi → ∀ y a b, w[p]? = some (.pick y a b) → spt ks0 x < spt ks0 y) : LtI ks0 (putRw w r).1 := by
  unfold putRw
  by_cases hm : r ∈ w
  · rw [if_pos hm]; exact h
  · rw [if_neg hm]
    intro j x lo hi e p hp y a b e2
    have e : (w ++ [r])[j]? = some (.pick x lo hi) := e
    have e2 : (w ++ [r])[p]? = some (.pick y a b) := e2
    by_cases hj : j < w.length
    · rw [List.getElem?_append_left hj] at e
      have hb := o j _ e
      have hpj : p < w.length := by
        have := hb.2
        rcases hp with rfl | rfl <;> omega
      rw [List.getElem?_append_left hpj] at e2
      exact h j x lo hi e p hp y a b e2
    · have hlt := (List.getElem?_eq_some_iff.mp e).1
      rw [List.length_append, List.length_singleton] at hlt
      have : j = w.length := by omega
      subst this
      rw [List.getElem?_concat_length] at e
      obtain ⟨h1, h2, h3⟩ := hr x lo hi (Option.some.inj e)
      have hpw : p < w.length := by rcases hp with rfl | rfl <;> assumption
      rw [List.getElem?_append_left hpw] at e2
      exact h3 p hp y a b e2
theorem suf_lt {ks0 ks : List Nat} {k y : Nat} (hn : ks0.Nodup) (hs : (k :: ks) <:+ ks0) (hy : y ∈ ks) : spt ks0 k < spt ks0 y := by
  obtain ⟨t, rfl⟩ := hs
  obtain ⟨i, hi, e⟩ := List.getElem_of_mem hy
  have g1 : (t ++ k :: ks)[t.length]? = some k := by rw [List.getElem?_append_right (Nat.le_refl _), Nat.sub_self]; rfl
  have g2 : (t ++ k :: ks)[t.length + (i + 1)]? = some y := by
    rw [List.getElem?_append_right (by omega), show t.length + (i + 1) - t.length = i + 1 by omega, List.getElem?_cons_succ, List.getElem?_eq_getElem hi, e]
  rw [spt_at hn g1, spt_at hn g2]
  omega
theorem mkR_lt {n : Nat} {ks0 : List Nat} (hn : ks0.Nodup) (hk0 : ∀ k ∈ ks0, k < n) : ∀ (ks : List Nat) (m : List Bool) (w : Wb), ks <:+ ks0 → WbOk n w → LtI ks0 w → LtI ks0 (mkR ks m w).1
  | [], m, w, _, o, h => by
    rw [mkR]
    cases m.headD false
    · exact put_lt (r := .no) o h fun x lo hi e => by cases e
    · exact put_lt (r := .yes) o h fun x lo hi e => by cases e
  | k :: ks, m, w, hs, o, h => by
    have hs2 : ks <:+ ks0 := (List.suffix_cons k ks).trans hs
    have hkn : ∀ x ∈ ks, x < n := fun x hx => hk0 x (hs2.mem hx)
    have p := mkR_mk (n := n) ks (m.take (2 ^ ks.length)) w hkn
    have q := mkR_mk (n := n) ks (m.drop (2 ^ ks.length)) (mkR ks (m.take (2 ^ ks.length)) w).1 hkn
    have h1 := mkR_lt hn hk0 ks (m.take (2 ^ ks.length)) w hs2 o h
    have h2 := mkR_lt hn hk0 ks (m.drop (2 ^ ks.length)) (mkR ks (m.take (2 ^ ks.length)) w).1 hs2 (p.ok o) h1
    rw [mkR]
    split
    · cases m.headD false
      · exact put_lt (r := .no) o h fun x lo hi e => by cases e
      · exact put_lt (r := .yes) o h fun x lo hi e => by cases e
    · generalize mkR ks (m.take (2 ^ ks.length)) w = A at p q h1 h2 ⊢
      generalize mkR ks (m.drop (2 ^ ks.length)) A.1 = B at q h2 ⊢
      split
      · exact h2
      · have hAB := q.pre.length_le
        have hlt := p.lt
        refine put_lt (q.ok (p.ok o)) h2 fun x lo hi e => ?_
        cases e
        refine ⟨by omega, q.lt, fun t ht y a b e2 => suf_lt hn hs ?_⟩
        rcases ht with rfl | rfl
        · obtain ⟨r, hr⟩ : ∃ r, A.1[A.2]? = some r := ⟨_, List.getElem?_eq_getElem p.lt⟩
          have := pre_get? q.pre hr
          rw [e2] at this
          cases this
          exact (p.row _ hr).2 y a b rfl
        · exact (q.row _ e2).2 y a b rfl
set_option maxHeartbeats 2000000
theorem isl_made {ks : List Nat} (hn : ks.Nodup) {n : Nat} (hk : ∀ k ∈ ks, k < n) (m : List Bool) : WbOk n (mkR ks m []).1 ∧ 1 ≤ (mkR ks m []).1.length ∧ islB (mkR ks m []).1 ks = true := by
  have I := mkR_mk (n := n) ks m [] hk
  have hw0 : WbOk n [] := fun i r e => by cases e
  have hl0 : LtI ks [] := fun j x lo hi e => by cases e
  have L := mkR_lt hn hk ks m [] (List.suffix_refl _) hw0 hl0
  have o := I.ok hw0
  have nd := I.nd List.nodup_nil
  have lr := I.lr rfl
  have os := I.os rfl
  have lt := I.lt
  have nm := I.nm
  generalize mkR ks m [] = P at *
  have htop : P.2 = P.1.length - 1 := by
    rcases nm (P.1.length - 1) (Nat.zero_le _) (by omega) with h | ⟨j, r, e, hb⟩
    · exact h.symm
    · exfalso
      have h1 := (o j r e).below _ hb
      have h2 := (List.getElem?_eq_some_iff.mp e).1
      omega
  have reach : ∀ d i, P.1.length - i ≤ d → i < P.1.length → Rch P.1 i := by
    intro d
    induction d with
    | zero => intro i h1 h2; omega
    | succ d ih =>
      intro i h1 h2
      rcases nm i (Nat.zero_le _) h2 with h | ⟨j, r, e, hb⟩
      · rw [h, htop]; exact .top (by omega)
      · have h3 := (o j r e).below _ hb
        have h4 := (List.getElem?_eq_some_iff.mp e).1
        exact .down (ih j (by omega) h4) e hb
  have hsp : (spots P.1).length = P.1.length := by
    have : spots P.1 = List.range P.1.length := List.filter_eq_self.mpr fun i hi => rcB_iff.mpr (reach _ i (Nat.le_refl _) (List.mem_range.mp hi))
    rw [this, List.length_range]
  have hlate : nonD (lateD P.1 ks) = true := by
    unfold lateD
    rw [late_iff]
    intro i k lo hi e
    rw [Nat.zero_add, lt_lte o lr e]
    unfold lteB
    rw [List.any_eq_false]
    intro p hp hc
    have hp2 : p = lo ∨ p = hi := by
      simp only [List.mem_cons, List.not_mem_nil, or_false] at hp
      exact hp
    cases hr : rowOf P.1 p with
    | pick x a b =>
      rw [hr] at hc
      have hb := (o i _ e).2
      have hil := (List.getElem?_eq_some_iff.mp e).1
      have hpl : p < P.1.length := by rcases hp2 with rfl | rfl <;> omega
      have e2 : P.1[p]? = some (.pick x a b) := by
        rw [← hr]
        show _ = some (P.1.getD p .yes)
        rw [List.getD_eq_getElem?_getD, List.getElem?_eq_getElem hpl]; rfl
      have := L i k lo hi e p hp2 x a b e2
      have hc := of_decide_eq_true hc
      omega
    | _ => rw [hr] at hc; cases hc
  refine ⟨o, by omega, ?_⟩
  unfold islB
  rw [lr, hlate, decide_eq_true nd, decide_eq_true hsp, os]; rfl
set_option maxHeartbeats 2000000
theorem put_pk {w : Wb} {r : Rw} : ((putRw w r).1.filter isPB).length ≤ (w.filter isPB).length + if isPB r then 1 else 0 := by
  unfold putRw
  split
  · exact Nat.le_add_right _ _
  · show ((w ++ [r]).filter isPB).length ≤ _
    rw [List.filter_append, List.length_append]
    cases h : isPB r
    · rw [List.filter_cons_of_neg (by rw [h]; exact Bool.false_ne_true)]; exact Nat.le_refl _
    · rw [List.filter_cons_of_pos h]; exact Nat.le_refl _
theorem mkR_pk : ∀ (ks : List Nat) (m : List Bool) (w : Wb), ((mkR ks m w).1.filter isPB).length + 1 ≤ (w.filter isPB).length + 2 ^ ks.length
  | [], m, w => by
    have := put_pk (w := w) (r := if m.headD false then .yes else .no)
    have e : isPB (if m.headD false then Rw.yes else Rw.no) = false := by split <;> rfl
    rw [e, if_neg Bool.false_ne_true] at this
    show ((putRw w _).1.filter isPB).length + 1 ≤ _ + 1
    omega
  | k :: ks, m, w => by
    have hp := Nat.two_pow_pos ks.length
    have e : 2 ^ (k :: ks).length = 2 ^ ks.length + 2 ^ ks.length := by rw [List.length_cons, Nat.pow_succ]; omega
    have h1 := mkR_pk ks (m.take (2 ^ ks.length)) w
    have h2 := mkR_pk ks (m.drop (2 ^ ks.length)) (mkR ks (m.take (2 ^ ks.length)) w).1
    rw [mkR]
    split
    · have := put_pk (w := w) (r := if m.headD false then .yes else .no)
      have e : isPB (if m.headD false then Rw.yes else Rw.no) = false := by split <;> rfl
      rw [e, if_neg Bool.false_ne_true] at this
      omega
    · split
      · omega
      · have := put_pk (w := (mkR ks (m.drop (2 ^ ks.length)) (mkR ks (m.take (2 ^ ks.length)) w).1).1) (r := .pick k (mkR ks (m.take (2 ^ ks.length)) w).2 (mkR ks (m.drop (2 ^ ks.length)) (mkR ks (m.take (2 ^ ks.length)) w).1).2)
        rw [show isPB (.pick k _ _) = true from rfl, if_pos rfl] at this
        omega
theorem fil_two : ∀ W : Wb, W.length = (W.filter isPB).length + (W.filter fun r => !isPB r).length
  | [] => rfl
  | r :: W => by
    have ih := fil_two W
    cases h : isPB r
    · rw [List.filter_cons_of_neg (by rw [h]; exact Bool.false_ne_true), List.filter_cons_of_pos (by rw [h]; rfl), List.length_cons, List.length_cons]; omega
    · rw [List.filter_cons_of_pos h, List.filter_cons_of_neg (by rw [h]; exact Bool.false_ne_true), List.length_cons, List.length_cons]; omega
theorem made_few {ks : List Nat} {n : Nat} (hk : ∀ k ∈ ks, k < n) (h8 : ks.length ≤ 8) (m : List Bool) : (mkR ks m []).1.length ≤ 257 := by
  have I := mkR_mk (n := n) ks m [] hk
  have nd := I.nd List.nodup_nil
  have lr := I.lr rfl
  have hp := mkR_pk ks m []
  have h256 : 2 ^ ks.length ≤ 2 ^ 8 := Nat.pow_le_pow_right (by decide) h8
  generalize (mkR ks m []).1 = W at *
  have h2 : (W.filter fun r => !isPB r).length ≤ 2 := by
    have := nodup_leG (l := W.filter fun r => !isPB r) (m := [Rw.yes, Rw.no]) (nd.sublist List.filter_sublist) fun r hr => by
      obtain ⟨h1, h2⟩ := List.mem_filter.mp hr
      have h3 := List.all_eq_true.mp lr r h1
      cases r with
      | yes => simp
      | no => simp
      | pick x a b => cases h2
      | _ => cases h3
    exact this
  have hs := fil_two W
  have h0 : (([] : Wb).filter isPB).length = 0 := rfl
  omega
set_option maxHeartbeats 2000000
theorem ok_set {n : Nat} {w : Wb} (o : WbOk n w) {p : Nat} {r : Rw} (hr : r.ok n p) : WbOk n (w.set p r) := fun i q e => by
  by_cases h : i = p
  · subst h
    rw [List.getElem?_set_self' ] at e
    cases hw : w[i]? with
    | none => rw [hw] at e; cases e
    | some y => rw [hw] at e; cases e; exact hr
  · rw [List.getElem?_set_ne (fun z => h z.symm)] at e
    exact o i q e
theorem set_D {w : Wb} {p : Nat} {r : Rw} (h : p < w.length) : List.take p (w.map rD) ++ [rD r] ++ List.drop (p + 1) (w.map rD) = (w.set p r).map rD := by
  rw [List.set_eq_take_append_cons_drop, if_pos h, List.map_append, List.map_cons, List.map_take, List.map_drop, List.append_assoc]; rfl
theorem ok_ins {n : Nat} {w : Wb} (o : WbOk n w) {r a : Rw} (hr : r.ok n (w.length - 1)) (ha : w[w.length - 1]? = some a) : WbOk n (w.take (w.length - 1) ++ [r] ++ [a]) := by
  have h1 : WbOk n (w.take (w.length - 1)) := o.pre (List.take_prefix _ _)
  have hl : (w.take (w.length - 1)).length = w.length - 1 := by rw [List.length_take]; omega
  refine WbOk.snoc (WbOk.snoc h1 (by rw [hl]; exact hr)) ?_
  rw [List.length_append, hl]
  exact (o _ _ ha).mono (Nat.le_refl _) (by omega)
theorem cut_tom1 {ds : List D} : cutD ds none (some (-1)) = ds.take (ds.length - 1) := by
  have e : HT.sIx ds.length ds.length (some (-1)) = ds.length - 1 := by
    show (if (-1 : Int) < 0 then ((-1 : Int) + (ds.length : Int)).toNat else min (-1 : Int).toNat ds.length) = _
    rw [if_pos (by decide)]; omega
  unfold cutD
  rw [HT.sIx_none, e, List.drop_zero, Nat.sub_zero]
theorem at_m1 {w : Wb} {a : Rw} (h : w[w.length - 1]? = some a) : atI (w.map rD) (-1) = some (rD a) := by
  have h1 := (List.getElem?_eq_some_iff.mp h).1
  unfold atI ixN
  rw [if_neg (by omega), List.length_map, if_pos (by omega)]
  have e : ((-1 : Int) + (w.length : Int)).toNat = w.length - 1 := by omega
  rw [e, Option.bind_some, List.getElem?_map, h]; rfl
def tgR : Rw → Str
  | .yes => "yes"
  | .no => "no"
  | .has _ _ => "has"
  | .all _ => "and"
  | .any _ => "or"
  | .pick _ _ _ => "pick"
def sp_spoilt17 : SpD := fun as M Q => ∃ (ds : List D) (b n : Nat) (w : Wb), as = [.ref 0, .d (.lst (w.map rD)), .d (.int (n : Int))] ∧ M = [.lst ds] ∧ Tp b ds ∧ b + 10 < 1099511627776 ∧ WbOk n w ∧ 1 ≤ w.length ∧ w.length ≤ 300 ∧ 1 ≤ n ∧ n ≤ 1000 ∧
  ∀ (v : Wb) (ds' : List D), WbOk n v → 1 ≤ v.length → v.length ≤ w.length + 1 → Tp (b + 4) ds' → Q (.new (v.map rD)) [.lst ds']
def r_spoilt17 (sp__law_take : SpD) : TS' :=
  (sSeq (sPar 3 4 (aCons (eCall [true, false] sp__law_take (aP [(pV 0), (poN lenD [(pV 1)])])) (aCons (eCall [true, false] sp__law_take (aP [(pV 0), (pC (.int 8))])) (aP []))))
  (sSeq (sPar 5 6 (aP [(po2 ixD (pV 1) (pV 3)), (po2 subD (poN lenD [(pV 1)]) (pC (.int 1)))]))
  (sSeq (sIf (cP (bB (po2 eqD (pV 4) (pC (.int 0)))))
  (sRet (eIf (tTb (eo2 eqD (eCall [true, false] sp__law_take (aP [(pV 0), (pC (.int 2))])) (eP (pC (.int 0))))) (eNw (fP (pl2 catF (pFz (plSl (pV 1) poNo (poI (pV 6)))) (pFz (plLst [(pV 5), (po2 ixD (pV 1) (pV 6))]))))) (eNw (fP (pl2 catF (pV 1) (pFz (plLst [(pV 5)])))))))
  sNil)
  (sSeq (sIf (cP (bB (po2 eqD (pV 4) (pC (.int 1)))))
  (sRet (eNw (f2 catF (eP (pV 1)) (eFz (tLstF (aCons (tTupE (aCons (eP (pC (.str "pick"))) (aCons (eCall [true, false] sp__law_take (aP [(pV 0), (pV 2)])) (aP [(pV 6), (pV 6)])))) (aP [])))))))
  sNil)
  (sSeq (sIf (cP (bAn (bB (po2 eqD (pV 4) (pC (.int 2)))) (bB (po2 eqD (po2 ixD (pV 5) (pC (.int 0))) (pC (.str "pick"))))))
  (sRet (eNw (fP (pl2 catF (pFz (pl2 catF (pFz (plSl (pV 1) poNo (poI (pV 3)))) (pFz (plLst [(poTup [(pC (.str "pick")), (po2 ixD (pV 5) (pC (.int 1))), (po2 ixD (pV 5) (pC (.int 3))), (po2 ixD (pV 5) (pC (.int 2)))])])))) (pFz (plSl (pV 1) (poI (po2 addD (pV 3) (pC (.int 1)))) poNo))))))
  sNil)
  (sSeq (sIf (cP (bAn (bB (po2 eqD (pV 4) (pC (.int 3)))) (bB (po2 eqD (po2 ixD (pV 5) (pC (.int 0))) (pC (.str "pick"))))))
  (sRet (eNw (f2 catF (eFz (f2 catF (eP (pFz (plSl (pV 1) poNo (poI (pV 3))))) (eFz (tLstF (aCons (tTupE (aCons (eP (pC (.str "pick"))) (aCons (eCall [true, false] sp__law_take (aP [(pV 0), (pV 2)])) (aP [(po2 ixD (pV 5) (pC (.int 2))), (po2 ixD (pV 5) (pC (.int 3)))])))) (aP [])))))) (eP (pFz (plSl (pV 1) (poI (po2 addD (pV 3) (pC (.int 1)))) poNo))))))
  sNil)
  (sSeq (sIf (cP (bB (po2 eqD (pV 4) (pC (.int 4)))))
  (sRet (eNw (f2 catF (eP (pV 1)) (eFz (tLstF (aCons (tTupE (aCons (eP (pC (.str "has"))) (aCons (eCall [true, false] sp__law_take (aP [(pV 0), (pV 2)])) (aP [(pC (.int 1))])))) (aP [])))))))
  sNil)
  (sSeq (sIf (cP (bAn (bB (po2 eqD (pV 4) (pC (.int 5)))) (bB (po2 gtD (pV 6) (pC (.int 0))))))
  (sRet (eNw (fP (pl2 catF (pV 1) (pFz (plLst [(poTup [(pC (.str "and")), (poIf (bB (po2 ltD (pV 3) (pV 6))) (poTup [(pV 3), (pV 6)]) (poTup [(pC (.int 0)), (pV 6)]))])]))))))
  sNil)
  (sRet (eIf (cP (bB (po2 eqD (pV 4) (pC (.int 6))))) (eNw (f2 catF (eP (pV 1)) (eFz (tLstF (aCons (tTupE (aCons (eP (pC (.str "pick"))) (aCons (eCall [true, false] sp__law_take (aP [(pV 0), (pV 2)])) (aP [(pV 3), (pV 6)])))) (aP [])))))) (eNw (fP (pl2 catF (pFz (plSl (pV 1) poNo (poI (po1 negD (pC (.int 1)))))) (pFz (plLst [(poTup [(pC (.str "no"))]), (po2 ixD (pV 1) (po1 negD (pC (.int 1))))])))))))))))))))
local macro_rules
  | `(tactic| simp only [VLQ]) => `(tactic| simp -implicitDefEqProofs only [q_sSeq, q_sIf, q_sSet, q_sSub, q_sRet, q_sRetN, q_sNil, q_sDrop, q_sAsg, sPar, q_sParT, q_sAug, q_cP, q_bB, q_bTr, q_bNt, q_bAn, q_bOr, q_po1, q_po2, q_poN, pArgs, q_poIf, q_poAn, q_poOr, q_poNt, q_poTup, q_plLst, q_plN, q_pl2, q_pl1, q_pFz, q_pV, q_pC, q_eP, q_eo1, q_eo2, q_eoN, q_aP, q_aNil, q_aCons, q_eAn, q_eOr, q_eNt, q_eIf, q_eFz, q_eNw, q_fP, q_fN, q_f2, q_f1, q_tTupE, q_tLstF, q_tTr, q_tTb, q_tAn, q_tOrr, q_tNt, q_tYs, q_eSeal, q_eMt, q_poMt, q_mPure, q_eCh, q_pCh, ok_bind, ok_map, ok_some, ok_none, ok_gd, ok_ite, List.getElem?_cons_zero, List.getElem?_cons_succ, List.set_cons_zero, List.set_cons_succ, Option.join_some, Option.bind_some, Option.map_some, Option.bind_none, Option.map_none, ix_ref, ix_tup, ix_lst, ix_bor, ix_scr, add_int, add_str, add_tup, sub_int, mul_int, fdiv_int, mod_int, pow_int, neg_int, lt_int, le_int, gt_int, ge_int, eq_int, eq_str, eq_bl, ne_int, ne_str, ne_bl, is_bl, isnt_bl, is_non, isnt_non, len_tup, len_lst, len_ref, len_bor, len_scr, int_bl, int_int, abs_int, min_int, max_int, blD_bl, cell_lst, cellA_lst, cellA_dk, st_ref, at_0, at_1, at_2, at_3, at_4, ixN_10, ixN_20, ixN_21, ixN_30, ixN_31, ixN_32, dataS_d, datas_nil, datas_cons, truth_bl, notD, intS, blS, nonB, List.length_cons, List.length_nil, Nat.reduceAdd, endsF_rt, endsF_nx, rvQ_d, rvQ_new, rvQ_newK, rv_d, rv_ref, rv_cl, rv_ck, okRef_d, okRef_ref, List.not_mem_nil, List.nil_append, true_and, and_true, List.take_succ_cons, List.take_zero, Nat.zero_add, decide_eq_true_eq, Bool.false_eq_true, if_false, if_true, callS, handS_n, handS_tr, handS_fr, handS_fd, handS_fb, cellsAt_c, cellsAt_0, Option.getD_some, backS_0, backS_1, q_eCall, tup_lst, tup_tup, tup_ref, q_fLc, q_iRg, rng_1, rng_2, wipeS_c, wipeS_n, q_iPq, q_iSq, seq_tup, seq_lst, seq_bor, lst_lst, lst_bor, gdS_d, gdS_b, q_sFor, q_gNm, gcS_c, gcS_n, gcO_d, gcO_n, mapp, rcv_0, rcv_1, rcv_l, gcO_r0, gcO_r1, gcO_z, seal_d, eq_self, List.take_nil, List.cons_append, q_poSl, q_poI, q_poNo, slD_t, intO_i, list_t, list_l, in_str2, ofS_inj, String.reduceEq, or_false, false_or, or_true, true_or, or_self, decide_true, decide_false, Bool.not_true, Bool.not_false, at_m1_2, at_m1_3, cut_2, cut_3, all_bls, any_bls, count_bls, lcg_nm, lcg_tp, lst_ref, laid_l, laid_b, laid_r, list_b, list_r, len_refI, lenOf_ref, rcv_2, rcv_3, rcv_b, slF_l, slF_b, slF_r, cat_l, repr_d, q_plSl, backS_2, List.mem_singleton, one_ne, if_false, callS, seal_r, Nat.le_refl, cat_get, cat_set, List.append_assoc, List.length_append, List.append_nil, at_ite, Nat.zero_le, q_iTq, tupD])
  | `(tactic| simp only [VLQ, $xs,*]) => `(tactic| simp -implicitDefEqProofs only [q_sSeq, q_sIf, q_sSet, q_sSub, q_sRet, q_sRetN, q_sNil, q_sDrop, q_sAsg, sPar, q_sParT, q_sAug, q_cP, q_bB, q_bTr, q_bNt, q_bAn, q_bOr, q_po1, q_po2, q_poN, pArgs, q_poIf, q_poAn, q_poOr, q_poNt, q_poTup, q_plLst, q_plN, q_pl2, q_pl1, q_pFz, q_pV, q_pC, q_eP, q_eo1, q_eo2, q_eoN, q_aP, q_aNil, q_aCons, q_eAn, q_eOr, q_eNt, q_eIf, q_eFz, q_eNw, q_fP, q_fN, q_f2, q_f1, q_tTupE, q_tLstF, q_tTr, q_tTb, q_tAn, q_tOrr, q_tNt, q_tYs, q_eSeal, q_eMt, q_poMt, q_mPure, q_eCh, q_pCh, ok_bind, ok_map, ok_some, ok_none, ok_gd, ok_ite, List.getElem?_cons_zero, List.getElem?_cons_succ, List.set_cons_zero, List.set_cons_succ, Option.join_some, Option.bind_some, Option.map_some, Option.bind_none, Option.map_none, ix_ref, ix_tup, ix_lst, ix_bor, ix_scr, add_int, add_str, add_tup, sub_int, mul_int, fdiv_int, mod_int, pow_int, neg_int, lt_int, le_int, gt_int, ge_int, eq_int, eq_str, eq_bl, ne_int, ne_str, ne_bl, is_bl, isnt_bl, is_non, isnt_non, len_tup, len_lst, len_ref, len_bor, len_scr, int_bl, int_int, abs_int, min_int, max_int, blD_bl, cell_lst, cellA_lst, cellA_dk, st_ref, at_0, at_1, at_2, at_3, at_4, ixN_10, ixN_20, ixN_21, ixN_30, ixN_31, ixN_32, dataS_d, datas_nil, datas_cons, truth_bl, notD, intS, blS, nonB, List.length_cons, List.length_nil, Nat.reduceAdd, endsF_rt, endsF_nx, rvQ_d, rvQ_new, rvQ_newK, rv_d, rv_ref, rv_cl, rv_ck, okRef_d, okRef_ref, List.not_mem_nil, List.nil_append, true_and, and_true, List.take_succ_cons, List.take_zero, Nat.zero_add, decide_eq_true_eq, Bool.false_eq_true, if_false, if_true, callS, handS_n, handS_tr, handS_fr, handS_fd, handS_fb, cellsAt_c, cellsAt_0, Option.getD_some, backS_0, backS_1, q_eCall, tup_lst, tup_tup, tup_ref, q_fLc, q_iRg, rng_1, rng_2, wipeS_c, wipeS_n, q_iPq, q_iSq, seq_tup, seq_lst, seq_bor, lst_lst, lst_bor, gdS_d, gdS_b, q_sFor, q_gNm, gcS_c, gcS_n, gcO_d, gcO_n, mapp, rcv_0, rcv_1, rcv_l, gcO_r0, gcO_r1, gcO_z, seal_d, eq_self, List.take_nil, List.cons_append, q_poSl, q_poI, q_poNo, slD_t, intO_i, list_t, list_l, in_str2, ofS_inj, String.reduceEq, or_false, false_or, or_true, true_or, or_self, decide_true, decide_false, Bool.not_true, Bool.not_false, at_m1_2, at_m1_3, cut_2, cut_3, all_bls, any_bls, count_bls, lcg_nm, lcg_tp, lst_ref, laid_l, laid_b, laid_r, list_b, list_r, len_refI, lenOf_ref, rcv_2, rcv_3, rcv_b, slF_l, slF_b, slF_r, cat_l, repr_d, q_plSl, backS_2, List.mem_singleton, one_ne, if_false, callS, seal_r, Nat.le_refl, cat_get, cat_set, List.append_assoc, List.length_append, List.append_nil, at_ite, Nat.zero_le, q_iTq, tupD, $xs,*])
theorem pure_spoilt17 (as : List Sv) (M : Mem) (Q : Rv → Mem → Prop) (h : sp_spoilt17 as M Q) : r_spoilt17 sp_take (endsF M.length Q) (startD 7 as) M := by
  obtain ⟨ds, b, n, w, rfl, rfl, t, hb, o, hpos, hl, hn1, hn, z⟩ := h
  show r_spoilt17 sp_take (endsF 1 Q) [some (.ref 0), some (.d (.lst (w.map rD))), some (.d (.int (n : Int))), none, none, none, none] [.lst ds]
  unfold r_spoilt17
  simp only [VLQ, List.length_map]
  refine take_ok t (by omega) (by omega) (by omega) fun a dt a0 a1 t1 => ?_
  obtain ⟨a, rfl⟩ := Int.eq_ofNat_of_zero_le a0
  simp only [VLQ]
  refine take_ok t1 (by omega) (by omega) (by omega) fun u dt2 u0 u1 t2 => ?_
  have ha : a < w.length := by omega
  obtain ⟨r, hr⟩ : ∃ r, w[a]? = some r := ⟨_, List.getElem?_eq_getElem ha⟩
  obtain ⟨y, hy⟩ : ∃ y, w[w.length - 1]? = some y := ⟨_, List.getElem?_eq_getElem (by omega)⟩
  have ro := o a r hr
  have el : (w.length : Int) - 1 = ((w.length - 1 : Nat) : Int) := by omega
  have ea1 : (a : Int) + 1 = ((a + 1 : Nat) : Int) := by omega
  have h0 : ∀ M, ixD M (.d (rD r)) (.d (.int 0)) = some (.d (.str (tgR r))) := fun M => by cases r <;> rfl
  have h1 : ∀ M, eqD M (.d (.str (tgR r))) (.d (.str "pick")) = some (.d (.bl (isPB r))) := fun M => by cases r <;> rfl
  simp only [VLQ, el, ea1, at_nat, List.getElem?_map, hr, hy, Option.map_some, h0, h1]
  have sl : sizeLine = 16777216 := sizeLine_eq
  have fin1 : ∀ (q : Rw) (dt' : List D), q.ok n w.length → Tp (b + 4) dt' → w.length + 1 ≤ sizeLine ∧ Q (.new (w.map rD ++ [rD q])) [.lst dt'] := fun q dt' hq t' => ⟨by omega, by
    have e : w.map rD ++ [rD q] = (w ++ [q]).map rD := by rw [List.map_append]; rfl
    rw [e]; exact z _ _ (o.snoc hq) (by simp) (by simp) t'⟩
  have fin2 : ∀ (q : Rw) (dt' : List D), q.ok n (w.length - 1) → Tp (b + 4) dt' → (List.take (w.length - 1) (w.map rD)).length + 2 ≤ sizeLine ∧ Q (.new (List.take (w.length - 1) (w.map rD) ++ [rD q, rD y])) [.lst dt'] := fun q dt' hq t' => ⟨by rw [List.length_take, List.length_map]; omega, by
    have e : List.take (w.length - 1) (w.map rD) ++ [rD q, rD y] = (w.take (w.length - 1) ++ [q] ++ [y]).map rD := by rw [List.map_append, List.map_append, List.map_take, List.append_assoc]; rfl
    rw [e]; exact z _ _ (ok_ins o hq hy) (by simp) (by simp; omega) t'⟩
  have fin3 : ∀ (q : Rw) (dt' : List D), q.ok n a → Tp (b + 4) dt' → (List.take a (w.map rD)).length + 1 ≤ sizeLine ∧ (List.take a (w.map rD)).length + 1 + (List.drop (a + 1) (w.map rD)).length ≤ sizeLine ∧ Q (.new (List.take a (w.map rD) ++ rD q :: List.drop (a + 1) (w.map rD))) [.lst dt'] := fun q dt' hq t' => ⟨by rw [List.length_take, List.length_map]; omega, by rw [List.length_take, List.length_drop, List.length_map]; omega, by
    have e := set_D (r := q) ha
    rw [List.append_assoc] at e
    rw [show List.take a (w.map rD) ++ rD q :: List.drop (a + 1) (w.map rD) = (w.set a q).map rD from e]
    exact z _ _ (ok_set o hq) (by rw [List.length_set]; omega) (by rw [List.length_set]; omega) t'⟩
  have rl : r.ok n (w.length - 1) := ro.mono (Nat.le_refl _) (by omega)
  refine ite_of (fun e => ?_) fun n0 => ?_
  · refine take_ok t2 (by omega) (by decide) (by decide) fun x dt3 x0 x1 t3 => ?_
    simp only [VLQ, cut_to]
    refine ite_of (fun _ => ?_) fun _ => ?_
    · exact fin2 r dt3 rl (t3.mono (by omega))
    · exact fin1 r dt3 (ro.mono (Nat.le_refl _) (by omega)) (t3.mono (by omega))
  refine ite_of (fun e => ?_) fun n1 => ?_
  · refine take_ok t2 (by omega) (by omega) (by omega) fun x dt3 x0 x1 t3 => ?_
    obtain ⟨x, rfl⟩ := Int.eq_ofNat_of_zero_le x0
    simp only [VLQ]
    exact fin1 (.pick x (w.length - 1) (w.length - 1)) dt3 ⟨by omega, by omega, by omega⟩ (t3.mono (by omega))
  have fin0 : (cutD (w.map rD) none (some (-1))).length + 2 ≤ sizeLine ∧ Q (.new (cutD (w.map rD) none (some (-1)) ++ [.tup [.str "no"], rD y])) [.lst dt2] := by
    rw [cut_tom1, List.length_map]
    exact fin2 .no dt2 trivial (t2.mono (by omega))
  have a1 : atI (w.map rD) (-1) = some (rD y) := at_m1 hy
  have ct : ∀ A B : Nat, cutD (w.map rD) none (some (A : Int)) = List.take A (w.map rD) ∧ cutD (w.map rD) (some (B : Int)) none = List.drop B (w.map rD) := fun A B => ⟨cut_to, cut_from⟩
  simp only [VLQ, a1, cut_to, cut_from]
  by_cases hp : isPB r = true
  · obtain ⟨k, lo, hi, rfl⟩ : ∃ k lo hi, r = .pick k lo hi := by cases r <;> first | exact ⟨_, _, _, rfl⟩ | cases hp
    have p1 : ∀ M, ixD M (.d (rD (.pick k lo hi))) (.d (.int 1)) = some (.d (.int (k : Int))) := fun M => rfl
    have p2 : ∀ M, ixD M (.d (rD (.pick k lo hi))) (.d (.int 2)) = some (.d (.int (lo : Int))) := fun M => rfl
    have p3 : ∀ M, ixD M (.d (rD (.pick k lo hi))) (.d (.int 3)) = some (.d (.int (hi : Int))) := fun M => rfl
    simp only [VLQ, hp, if_true, p1, p2, p3]
    refine ite_of (fun e => ?_) fun n2 => ?_
    · exact fin3 (.pick k hi lo) dt2 ⟨ro.1, ro.2.2, ro.2.1⟩ (t2.mono (by omega))
    refine ite_of (fun e => ?_) fun n3 => ?_
    · refine take_ok t2 (by omega) (by omega) (by omega) fun x dt3 x0 x1 t3 => ?_
      obtain ⟨x, rfl⟩ := Int.eq_ofNat_of_zero_le x0
      simp only [VLQ, p2, p3]
      exact fin3 (.pick x lo hi) dt3 ⟨by omega, ro.2.1, ro.2.2⟩ (t3.mono (by omega))
    repeat' refine ite_of (fun _ => ?_) fun _ => ?_
    all_goals first
      | (exfalso; omega)
      | exact fin0
      | exact fin1 (.all [a, w.length - 1]) dt2 ⟨⟨by simp, by simp⟩, by simp; omega, fun p hp => by simp at hp; omega⟩ (t2.mono (by omega))
      | exact fin1 (.all [0, w.length - 1]) dt2 ⟨⟨by simp, by simp⟩, by simp; omega, fun p hp => by simp at hp; omega⟩ (t2.mono (by omega))
      | (refine take_ok t2 (by omega) (by omega) (by omega) fun x dt3 x0 x1 t3 => ?_
         obtain ⟨x, rfl⟩ := Int.eq_ofNat_of_zero_le x0
         simp only [VLQ]
         first
           | exact fin1 (.has x true) dt3 (show x < n by omega) (t3.mono (by omega))
           | exact fin1 (.pick x a (w.length - 1)) dt3 ⟨by omega, by omega, by omega⟩ (t3.mono (by omega)))
  · rw [Bool.not_eq_true] at hp
    simp only [VLQ, hp, Bool.false_eq_true, if_false]
    repeat' refine ite_of (fun _ => ?_) fun _ => ?_
    all_goals first
      | (exfalso; omega)
      | exact fin0
      | exact fin1 (.all [a, w.length - 1]) dt2 ⟨⟨by simp, by simp⟩, by simp; omega, fun p hp => by simp at hp; omega⟩ (t2.mono (by omega))
      | exact fin1 (.all [0, w.length - 1]) dt2 ⟨⟨by simp, by simp⟩, by simp; omega, fun p hp => by simp at hp; omega⟩ (t2.mono (by omega))
      | (refine take_ok t2 (by omega) (by omega) (by omega) fun x dt3 x0 x1 t3 => ?_
         obtain ⟨x, rfl⟩ := Int.eq_ofNat_of_zero_le x0
         simp only [VLQ]
         first
           | exact fin1 (.has x true) dt3 (show x < n by omega) (t3.mono (by omega))
           | exact fin1 (.pick x a (w.length - 1)) dt3 ⟨by omega, by omega, by omega⟩ (t3.mono (by omega)))
set_option maxHeartbeats 4000000
theorem wo_okQ {n : Nat} {w : Wb} {ks : List Nat} (o : WbOk n w) (hn : n ≤ 90000) (hw : w.length ≤ 2010) (hk : ks.length ≤ 1000) (hlt : ∀ k ∈ ks, k < 90000) : VL.okR (.lst [.lst (w.map rD), .lst (ks.map nD)]) = true := by
  have h1 : Pq (721 * 2010) 3 (.lst (w.map rD)) := (Pq.lst (Pqs.alls (w := 720) (dp := 2) fun d hd => by
    obtain ⟨r, hr, rfl⟩ := List.mem_map.mp hd
    obtain ⟨j, hj, rfl⟩ := List.getElem_of_mem hr
    exact rD_pq (o j _ (List.getElem?_eq_getElem hj)) hn (by omega))).mono (by rw [List.length_map]; exact Nat.mul_le_mul_left 721 hw) (Nat.le_refl _)
  have h2 : Pq (21 * 1000) 3 (.lst (ks.map nD)) := (Pq.lst (Pqs.alls (w := 20) (dp := 0) fun d hd => by
    obtain ⟨k, hk, rfl⟩ := List.mem_map.mp hd
    exact Pq.nat (by have := hlt k hk; omega))).mono (by rw [List.length_map]; exact Nat.mul_le_mul_left 21 hk) (by decide)
  exact (Pq.lst (Pqs.cons h1 (Pqs.cons h2 Pqs.nil))).okR (by omega) (by decide)
theorem shl_17 {M : Mem} {N : Nat} (h : N ≤ 8) : shlD M (.d (.int 1)) (.d (.int (N : Int))) = some (.d (.int ((2 ^ N : Nat) : Int))) := by
  show gd _ _ = _
  rw [gd_pos (show CPow 1 (N : Int) from ?_), Int.toNat_natCast, Int.one_mul, Int.natCast_pow]
  · rfl
  · exact ⟨Int.natCast_nonneg _, by omega, by decide⟩
theorem nmin_17 {n : Nat} {w : Wb} {ks : List Nat} (o : WbOk n w) (h : ∀ k, k < n → k ∈ ks) : NmIn w ks := fun p r e ha => by
  have := o p r e
  cases r with
  | has k b => exact h _ this
  | pick k lo hi => exact h _ this.1
  | _ => cases ha
/-- a web and an order that are asked -/
structure Pr17 (B : Nat) (d : D) : Prop where
  ex : ∃ (w : Wb) (ks : List Nat) (n : Nat), d = .tup [.lst (w.map rD), .lst (ks.map nD)] ∧ WbOk n w ∧ 1 ≤ w.length ∧ w.length ≤ 301 ∧ ks.Nodup ∧ ks.length ≤ 8 ∧ (∀ k ∈ ks, k < B) ∧ n ≤ B ∧ NmIn w ks
theorem Pr17.up {B C : Nat} {d : D} (h : Pr17 B d) (hb : B ≤ C) : Pr17 C d := by
  obtain ⟨w, ks, n, e, o, h1, h2, h3, h4, h5, h6, h7⟩ := h.ex
  exact ⟨w, ks, n, e, o, h1, h2, h3, h4, fun k hk => Nat.lt_of_lt_of_le (h5 k hk) hb, Nat.le_trans h6 hb, h7⟩
theorem ren_ok {n : Nat} {w : Wb} (o : WbOk n w) : WbOk (3 * n) (w.map ren3) := fun i r e => by
  rw [List.getElem?_map] at e
  obtain ⟨q, hq, rfl⟩ := Option.map_eq_some_iff.mp e
  have h := o i q hq
  cases q with
  | has k b => show 3 * k + 1 < 3 * n; have : k < n := h; omega
  | pick k lo hi => exact ⟨by have := h.1; omega, h.2⟩
  | _ => exact h
theorem ren_nm {w : Wb} {ks : List Nat} (h : NmIn w ks) : NmIn (w.map ren3) (ks.map fun k => 3 * k + 1) := fun i r e ha => by
  rw [List.getElem?_map] at e
  obtain ⟨q, hq, rfl⟩ := Option.map_eq_some_iff.mp e
  cases q with
  | has k b => exact List.mem_map.mpr ⟨k, h i _ hq rfl, rfl⟩
  | pick k lo hi => exact List.mem_map.mpr ⟨k, h i _ hq rfl, rfl⟩
  | _ => cases ha
theorem ren_nd {ks : List Nat} (h : ks.Nodup) : (ks.map fun k => 3 * k + 1).Nodup := by
  rw [List.nodup_iff_pairwise_ne, List.pairwise_map]
  exact (List.nodup_iff_pairwise_ne.mp h).imp fun hab => by omega
def b_17 (sp_is_ladder : SpD) (sp__law_is_ladder : SpD) : TS' :=
  (sSeq (sSet 11 (eP (poN reprD [(pFz (plLst [(pV 9), (pV 10)]))])))
  (sSeq (sSet 12 (eCall [false, false] sp_is_ladder (aP [(pV 9), (pV 10)])))
  (sIf (tOrr (cP (bNt (bTr (poN isiD [(pV 12), (pC (.ty "bool"))])))) (tOrr (tTb (eo2 neD (eP (pV 12)) (eCall [false, false] sp__law_is_ladder (aP [(pV 9), (pV 10)])))) (cP (bB (po2 neD (poN reprD [(pFz (plLst [(pV 9), (pV 10)]))]) (pV 11))))))
  (sRet (eP (pC (.bl false))))
  sNil)))
def r_law17 (sp__law_tape : SpD) (sp__law_many : SpD) (sp__law_order : SpD) (sp__law_take : SpD) (sp__law_laddered : SpD) (sp__law_wild_web : SpD) (sp__law_spoilt : SpD) (sp__law_renamed : SpD) (sp_is_ladder : SpD) (sp__law_is_ladder : SpD) : TS' :=
  (sSeq (sFor (iRg false (aP [(po2 addD (pC (.int 1)) (poN minD [(pC (.int 6)), (poN lenD [(pV 0)])]))])) (gNm 1)
  (sSeq (sSet 2 (eCall [false, false] sp__law_tape (aP [(pV 0), (pV 1)])))
  (sSeq (sSet 3 (eo2 addD (eP (pC (.int 1))) (eo2 modD (eCall [true] sp__law_many (aP [(pV 2)])) (eP (pC (.int 8))))))
  (sSeq (sSet 4 (eSeal 0 (eCall [true, false] sp__law_order (aP [(pV 2), (pV 3)]))))
  (sSeq (sSet 5 (eo1 tupC (eFz (fLc (iRg true (aP [(po2 shlD (pC (.int 1)) (pV 3))])) (.nm 9) tYs (eo2 eqD (eCall [true, false] sp__law_take (aP [(pV 2), (pC (.int 2))])) (eP (pC (.int 1)))) [9]))))
  (sSeq (sSet 6 (eSeal 0 (eCall [false, false] sp__law_laddered (aP [(pV 5), (pV 4)]))))
  (sSeq (sSet 7 (eFz (tLstF (aCons (eP (poTup [(pV 6), (pV 4)])) (aCons (eP (poTup [(pV 6), (pFz (pl1 revF (pV 4)))])) (aCons (tTupE (aCons (eSeal 0 (eCall [true, false] sp__law_wild_web (aP [(pV 2), (pV 3)]))) (aP [(pV 4)]))) (aP [])))))))
  (sSeq (sSet 7 (eFz (f2 catF (eP (pV 7)) (eFz (fLc (iRg true (aP [(pC (.int 12))])) (.nm 13) tYs (tTupE (aCons (eSeal 0 (eCall [true, false, false] sp__law_spoilt (aP [(pV 2), (pV 6), (pV 3)]))) (aP [(pV 4)]))) [13])))))
  (sSeq (sSet 8 (eFz (fLc (iPq (pFz (plSl (pV 7) poNo (poI (pC (.int 6)))))) (.tp [9, 10]) tYs (tTupE (aCons (eSeal 0 (eCall [false] sp__law_renamed (aP [(pV 9)]))) (aCons (eFz (fLc (iPq (pV 10)) (.nm 14) tYs (eP (po2 addD (po2 mulD (pC (.int 3)) (pV 14)) (pC (.int 1)))) [14])) (aP [])))) [9, 10])))
  (sSeq (sFor (iSq (eFz (f2 catF (eP (pFz (pl2 catF (pV 7) (pV 8)))) (eFz (tLstF (aCons (tTupE (aCons (eP (pV 6)) (aCons (eSeal 0 (eCall [true, false] sp__law_order (aP [(pV 2), (pV 3)]))) (aP [])))) (aP []))))))) (gTp [9, 10])
  (sSeq (sSet 11 (eP (poN reprD [(pFz (plLst [(pV 9), (pV 10)]))])))
  (sSeq (sSet 12 (eCall [false, false] sp_is_ladder (aP [(pV 9), (pV 10)])))
  (sIf (tOrr (cP (bNt (bTr (poN isiD [(pV 12), (pC (.ty "bool"))])))) (tOrr (tTb (eo2 neD (eP (pV 12)) (eCall [false, false] sp__law_is_ladder (aP [(pV 9), (pV 10)])))) (cP (bB (po2 neD (poN reprD [(pFz (plLst [(pV 9), (pV 10)]))]) (pV 11))))))
  (sRet (eP (pC (.bl false))))
  sNil))))
  (sIf (tTb (eo2 isntD (eCall [false, false] sp_is_ladder (aP [(pV 6), (pV 4)])) (eP (pC (.bl true)))))
  (sRet (eP (pC (.bl false))))
  sNil)))))))))))
  (sRet (eP (pC (.bl true)))))
theorem k17_one {E : Ends'} {some_ : List D} {x0 x1 x2 x3 x4 x5 x6 x7 x8 : Option Sv} {o9 o10 o11 o12 : Option Sv} {M : Mem} (h0 : ∀ k, gcO k x0 = x0) (h1 : ∀ k, gcO k x1 = x1) (h2 : gcO M.length x2 = x2) (h3 : ∀ k, gcO k x3 = x3) (h4 : ∀ k, gcO k x4 = x4) (h5 : ∀ k, gcO k x5 = x5) (h6 : ∀ k, gcO k x6 = x6) (h7 : ∀ k, gcO k x7 = x7) (hx8 : ∀ k, gcO k x8 = x8) (hS : ∀ d ∈ some_, Pr17 1000 d)
    (fin : ∀ y9 y10 y11 y12, E.nx [x0, x1, x2, x3, x4, x5, x6, x7, x8, y9, y10, y11, y12, none, none] M) : 
    forL M.length (gTp [9, 10]) (b_17 sp_isl sp_lil) E (fun _ => True) some_ [x0, x1, x2, x3, x4, x5, x6, x7, x8, o9, o10, o11, o12, none, none] M := by
  refine for_kp (fun δ M' => ∃ y9 y10 y11 y12, δ = [x0, x1, x2, x3, x4, x5, x6, x7, x8, y9, y10, y11, y12, none, none] ∧ M' = M) ?_ ?_ ⟨_, _, _, _, rfl, rfl⟩
  · rintro δ M' ⟨y9, y10, y11, y12, rfl, rfl⟩
    exact ⟨trivial, fin _ _ _ _⟩
  · rintro d hd δ M' nx ⟨y9, y10, y11, y12, rfl, rfl⟩ k
    obtain ⟨w, ks, n, rfl, o, hpos, hl, nd, h8, hk, hn, hin⟩ := (hS d hd).ex
    have hrep := wo_okQ (ks := ks) o (by omega) (show w.length ≤ 2010 by omega) (by omega) (fun x hx => by have := hk x hx; omega)
    refine ⟨trivial, ?_⟩
    unfold b_17
    simp only [gTp, setAll, List.set_cons_succ, List.set_cons_zero, ok_some]
    rw [sSeq_app]
    simp only [VLQ, gd_pos hrep]
    refine ⟨_, _, n, ks, w, rfl, .inl rfl, .inl rfl, rfl, o, hpos, by omega, nd, by omega, fun _ => hin, ?_⟩
    have ib : ∀ (M : Mem) (x : Bool), isiD M [.d (.bl x), .d (.ty "bool")] = some (.d (.bl true)) := fun M x => rfl
    have nb : ∀ (M : Mem) (x : Bool), neD M (.d (.bl x)) (.d (.bl x)) = some (.d (.bl false)) := fun M x => by cases x <;> rfl
    simp only [VLQ, gd_pos hrep, ib]
    refine ⟨_, _, n, ks, w, rfl, .inl rfl, .inl rfl, rfl, o, hpos, by omega, nd, hin, ?_⟩
    rw [lla_isl o]
    simp only [VLQ, nb]
    exact ⟨hrep, k _ _ ⟨_, _, _, _, by simp only [gcS_c, gcS_n, h0, h1, h2, h3, h4, h5, h6, h7, hx8, gcO_d, gcO_n]; rfl, List.take_length⟩⟩
theorem pure_law17 (as : List Sv) (M : Mem) (Q : Rv → Mem → Prop) (h : sp_law as M Q) : r_law17 sp_tape sp_many sp_order sp_take sp_laddered sp_wild sp_spoilt17 sp_ren17 sp_isl sp_lil (endsF M.length Q) (startD 15 as) M := by
  obtain ⟨ns, rfl, rfl, hns, z⟩ := h
  show r_law17 sp_tape sp_many sp_order sp_take sp_laddered sp_wild sp_spoilt17 sp_ren17 sp_isl sp_lil (endsF 0 Q) [some (.d (.scr ns)), none, none, none, none, none, none, none, none, none, none, none, none, none, none] []
  unfold r_law17
  rw [sSeq_app]
  simp only [VLQ]
  have hJ : 0 ≤ (1 + if (ns.length : Int) < 6 then (ns.length : Int) else 6) ∧ (1 + if (ns.length : Int) < 6 then (ns.length : Int) else 6) ≤ 7 := by split <;> omega
  generalize (1 + if (ns.length : Int) < 6 then (ns.length : Int) else 6) = J at hJ
  refine ⟨⟨by omega, by omega⟩, fun h => h.elim, ?_⟩
  refine for_kp (fun δ M => ∃ o1 o2 o3 o4 o5 o6 o7 o8 o9 o10 o11 o12, δ = [some (.d (.scr ns)), gcO 0 o1, gcO 0 o2, gcO 0 o3, gcO 0 o4, gcO 0 o5, gcO 0 o6, gcO 0 o7, gcO 0 o8, gcO 0 o9, gcO 0 o10, gcO 0 o11, gcO 0 o12, none, none] ∧ M = []) ?_ ?_ ⟨none, none, none, none, none, none, none, none, none, none, none, none, rfl, rfl⟩
  · rintro δ M ⟨o1, o2, o3, o4, o5, o6, o7, o8, o9, o10, o11, o12, rfl, rfl⟩
    exact ⟨trivial, z⟩
  · rintro d hd δ M nx ⟨o1, o2, o3, o4, o5, o6, o7, o8, o9, o10, o11, o12, rfl, rfl⟩ k
    obtain ⟨j, hj, rfl⟩ := rg_mem hd
    refine ⟨trivial, ?_⟩
    simp only [gNm, List.set_cons_succ, List.set_cons_zero]
    rw [sSeq_app]
    refine call_tape rfl rfl (by omega) (by omega) fun ds0 t0 => ?_
    simp only [VLQ]
    refine ⟨ds0, 0, rfl, rfl, t0, by decide, fun v ds1 hv t1 => ?_⟩
    obtain ⟨n, hn, hn1, hn8⟩ : ∃ n : Nat, 1 + (v : Int) % 8 = (n : Int) ∧ 1 ≤ n ∧ n ≤ 8 := ⟨(1 + (v : Int) % 8).toNat, by omega, by omega, by omega⟩
    simp only [VLQ, hn]
    refine ⟨by decide, ?_⟩
    refine ⟨ds1, _, n, rfl, rfl, t1, by omega, by omega, fun ks ds2 hks t2 => ?_⟩
    have kl : ks.length = n := by have := hks.length_eq; simpa using this
    have hk : ∀ k ∈ ks, k < n := fun k hm => List.mem_range.mp (hks.mem_iff.mp hm)
    have hnd : ks.Nodup := hks.nodup_iff.mpr List.nodup_range
    have sd : ∀ (M : Mem) (x : D), sealD 0 M (.d x) = some (.d x, M) := fun M x => rfl
    have hsh : ∀ M, shlD M (.d (.int 1)) (.d (.int (n : Int))) = some (.d (.int ((2 ^ n : Nat) : Int))) := fun M => shl_17 hn8
    have h256 : 2 ^ n ≤ 2 ^ 8 := Nat.pow_le_pow_right (by decide) hn8
    have h0 : 0 < 2 ^ n := Nat.two_pow_pos n
    obtain ⟨B, hB⟩ : ∃ B, 2 ^ n = B := ⟨_, rfl⟩
    rw [hB] at hsh h256 h0
    have h256 : B ≤ 256 := h256
    simp only [VLQ, sd, hsh, Int.toNat_natCast]
    refine ⟨⟨by omega, by omega⟩, fun _ => by rw [rgL_len, sizeLine_eq]; omega, ?_⟩
    refine lc_ix _ (fun i acc M => ∃ (bs : List Bool) (dt : List D), acc = bs.map .bl ∧ bs.length = i ∧ M = [.lst dt] ∧ Tp (100 + i) dt) ?_ ?_ _ _ ⟨[], ds2, rfl, rfl, rfl, t2.mono (by omega)⟩
    · rintro acc M ⟨m, dt, rfl, hm, rfl, t3⟩
      rw [rgL_len] at hm t3
      refine ⟨trivial, ?_⟩
      refine ⟨ks, m, rfl, rfl, by rw [hm, ← hB, kl], by omega, ?_⟩
      obtain ⟨ow, pw, iw⟩ := isl_made (n := n) hnd hk m
      have lw := made_few (n := n) hk (show ks.length ≤ 8 by omega) m
      have nw : NmIn (mkR ks m []).1 ks := nmin_17 ow fun x hx => hks.mem_iff.mpr (List.mem_range.mpr hx)
      generalize (mkR ks m []).1 = W at ow pw iw lw nw ⊢
      simp only [VLQ, rvQ_new, backS_0, sealD]
      refine ⟨dt, _, n, rfl, rfl, t3, by simp only [wBd]; omega, hn1, by omega, fun w2 dt2 ok2 l2 l2' t4 => ?_⟩
      simp only [VLQ, rvQ_new, backS_0, sealD]
      have P1 : Pr17 100 (.tup [.lst (W.map rD), .lst (ks.map nD)]) := ⟨W, ks, n, rfl, ow, pw, by omega, hnd, by omega, fun x hx => by have := hk x hx; omega, by omega, nw⟩
      have P2 : Pr17 100 (.tup [.lst (W.map rD), .lst (ks.map nD).reverse]) := ⟨W, ks.reverse, n, by rw [List.map_reverse], ow, pw, by omega, (List.reverse_perm ks).nodup_iff.mpr hnd, by rw [List.length_reverse]; omega, fun x hx => by have := hk x (List.mem_reverse.mp hx); omega, by omega, fun p r e ha => List.mem_reverse.mpr (nw p r e ha)⟩
      have P3 : Pr17 100 (.tup [.lst (w2.map rD), .lst (ks.map nD)]) := ⟨w2, ks, n, rfl, ok2, by omega, by omega, hnd, by omega, fun x hx => by have := hk x hx; omega, by omega, nmin_17 ok2 fun x hx => hks.mem_iff.mpr (List.mem_range.mpr hx)⟩
      refine ⟨by decide, fun _ => by decide, ?_⟩
      refine lc_ix _ (fun i acc M => ∃ (dt : List D) (G : Mem), acc.length = i ∧ (∀ d ∈ acc, Pr17 100 d) ∧ M = .lst dt :: G ∧ Tp (2000 + 10 * i) dt) ?_ ?_ _ _ ⟨dt2, [.gone, .gone], rfl, (fun d h => absurd h List.not_mem_nil), rfl, t4.mono (by simp only [wBd]; omega)⟩
      · rintro acc M ⟨dt3, G, hl, hS, rfl, t5⟩
        have hl : acc.length = 12 := hl
        refine ⟨trivial, by rw [sizeLine_eq]; omega, ?_⟩
        have hS3 : ∀ d ∈ (D.tup [.lst (W.map rD), .lst (ks.map nD)] :: D.tup [.lst (W.map rD), .lst (ks.map nD).reverse] :: D.tup [.lst (w2.map rD), .lst (ks.map nD)] :: acc), Pr17 100 d := fun d hd => by
          simp only [List.mem_cons] at hd
          rcases hd with rfl | rfl | rfl | hd
          · exact P1
          · exact P2
          · exact P3
          · exact hS d hd
        have e6 : ∀ l : List D, cutD l none (some 6) = l.take 6 := fun l => cut_to (k := 6)
        rw [e6]
        have hS6 : ∀ d ∈ List.take 6 (D.tup [.lst (W.map rD), .lst (ks.map nD)] :: D.tup [.lst (W.map rD), .lst (ks.map nD).reverse] :: D.tup [.lst (w2.map rD), .lst (ks.map nD)] :: acc), Pr17 100 d := fun d hd => hS3 d (List.mem_of_mem_take hd)
        have l6 : (List.take 6 (D.tup [.lst (W.map rD), .lst (ks.map nD)] :: D.tup [.lst (W.map rD), .lst (ks.map nD).reverse] :: D.tup [.lst (w2.map rD), .lst (ks.map nD)] :: acc)).length = 6 := by
          rw [List.length_take, List.length_cons, List.length_cons, List.length_cons]; omega
        generalize List.take 6 (D.tup [.lst (W.map rD), .lst (ks.map nD)] :: D.tup [.lst (W.map rD), .lst (ks.map nD).reverse] :: D.tup [.lst (w2.map rD), .lst (ks.map nD)] :: acc) = L6 at hS6 l6 ⊢
        refine lc_ix _ (fun i far M => ∃ (G : Mem), far.length = i ∧ (∀ d ∈ far, Pr17 1000 d) ∧ M = .lst dt3 :: G) ?_ ?_ _ _ ⟨G, rfl, (fun d h => absurd h List.not_mem_nil), rfl⟩
        · rintro far M ⟨G, hf, hF, rfl⟩
          rw [l6] at hf
          refine ⟨trivial, by rw [sizeLine_eq]; omega, ?_⟩
          simp only [VLQ]
          refine ⟨dt3, _, n, rfl, rfl, t5, by omega, by omega, fun us dt4 hus t6 => ?_⟩
          have ul : us.length = n := by have := hus.length_eq; simpa using this
          have uk : ∀ k ∈ us, k < n := fun k hm => List.mem_range.mp (hus.mem_iff.mp hm)
          have P4 : Pr17 100 (.tup [.lst (W.map rD), .lst (us.map nD)]) := ⟨W, us, n, rfl, ow, pw, by omega, hus.nodup_iff.mpr List.nodup_range, by omega, fun x hx => by have := uk x hx; omega, by omega, nmin_17 ow fun x hx => hus.mem_iff.mpr (List.mem_range.mpr hx)⟩
          simp only [VLQ, sealD]
          refine ⟨by rw [sizeLine_eq]; omega, ?_⟩
          refine k17_one (M := .lst dt4 :: G) (fun _ => rfl) (fun _ => rfl) (by rw [gcO_r (by rw [List.length_cons]; omega)]) (fun _ => rfl) (fun _ => rfl) (fun _ => rfl) (fun _ => rfl) (fun _ => rfl) (fun _ => rfl) (fun d hd => ?_) fun y9 y10 y11 y12 => ?_
          · simp only [List.mem_cons, List.mem_append, List.not_mem_nil, or_false] at hd
            rcases hd with rfl | rfl | rfl | hd | hd | rfl
            · exact P1.up (by decide)
            · exact P2.up (by decide)
            · exact P3.up (by decide)
            · exact (hS d hd).up (by decide)
            · exact hF d hd
            · exact P4.up (by decide)
          · simp only [VLQ]
            refine ⟨_, _, n, ks, W, rfl, .inl rfl, .inl rfl, rfl, ow, pw, by omega, hnd, by omega, fun _ => nw, ?_⟩
            rw [iw]
            have it : ∀ M, isntD M (.d (.bl true)) (.d (.bl true)) = some (.d (.bl false)) := fun M => rfl
            simp only [VLQ, it]
            exact k _ _ ⟨some (.d (.int (j : Int))), some (.ref 0), some (.d (.int (n : Int))), some (.d (.lst (ks.map nD))), some (.d (.tup (m.map D.bl))), some (.d (.lst (W.map rD))), some (.d (.lst (_ :: _ :: _ :: acc))), some (.d (.lst far)), y9, y10, y11, y12, rfl, rfl⟩
        · rintro i d far M nx hd ⟨G, hf, hF, rfl⟩ kk
          obtain ⟨w, qs, q, rfl, o, hpos, hl2, nd, h8, hk2, hn2, hin⟩ := (hS6 d (List.mem_of_getElem? hd)).ex
          refine ⟨trivial, ?_⟩
          simp only [VLQ, gTp, setAll]
          refine ⟨_, q, w, rfl, .inl rfl, rfl, o, by omega, ?_⟩
          simp only [VLQ, rvQ_new, backS_0, sealD]
          refine lc_gm (e := nD) (f := fun k => nD (3 * k + 1)) trivial ?_ ?_
          · intro x hx R hR
            have := hk2 x hx
            have e3 : (3 * (x : Int) + 1) = ((3 * x + 1 : Nat) : Int) := by omega
            simp only [VLQ, gNm, nD, e3]
            exact ⟨by unfold MulOk; omega, hR⟩
          · rw [List.nil_append]
            have em : qs.map (fun k => nD (3 * k + 1)) = (qs.map fun k => 3 * k + 1).map nD := by rw [List.map_map]; rfl
            rw [em]
            refine kk _ _ ⟨_, by rw [List.length_append, hf]; rfl, fun d hd => ?_, rfl⟩
            rcases List.mem_append.mp hd with hd | hd
            · exact hF d hd
            · rw [List.mem_singleton.mp hd]
              exact ⟨w.map ren3, qs.map fun k => 3 * k + 1, 3 * q, rfl, ren_ok o, by rw [List.length_map]; exact hpos, by rw [List.length_map]; exact hl2, ren_nd nd, by rw [List.length_map]; exact h8, fun x hx => by obtain ⟨y, hy, rfl⟩ := List.mem_map.mp hx; have := hk2 y hy; omega, by omega, ren_nm hin⟩
      · rintro i d acc M nx hd ⟨dt3, G, hl, hS, rfl, t5⟩ kk
        have hi : i < 12 := (List.getElem?_eq_some_iff.mp hd).1
        refine ⟨trivial, ?_⟩
        simp only [VLQ, gNm]
        refine ⟨dt3, _, n, W, rfl, rfl, t5, by omega, ow, pw, by omega, hn1, by omega, fun v dt4 ov pv lv t6 => ?_⟩
        simp only [VLQ, rvQ_new, backS_0, sealD]
        refine kk _ _ ⟨dt4, _, by rw [List.length_append, hl]; rfl, fun d hd => ?_, rfl, t6.mono (by omega)⟩
        rcases List.mem_append.mp hd with hd | hd
        · exact hS d hd
        · rw [List.mem_singleton.mp hd]
          exact ⟨v, ks, n, rfl, ov, pv, by omega, hnd, by omega, fun x hx => by have := hk x hx; omega, by omega, nmin_17 ov fun x hx => hks.mem_iff.mpr (List.mem_range.mpr hx)⟩
    · rintro i d acc M nx hd ⟨bs, dt, rfl, hb, rfl, t3⟩ kk
      have hi := (List.getElem?_eq_some_iff.mp hd).1
      rw [rgL_len] at hi
      refine ⟨trivial, ?_⟩
      simp only [VLQ]
      refine take_ok t3 (by omega) (by decide) (by decide) fun x dt3 x0 x1 t4 => ?_
      simp only [VLQ]
      exact kk _ _ ⟨bs ++ [decide (x = 1)], dt3, by rw [List.map_append]; rfl, by rw [List.length_append, hb]; rfl, rfl, t4⟩
end VL
set_option Elab.async false
set_option linter.all false
set_option maxRecDepth 100000
set_option maxHeartbeats 1000000
open PySem PySem.Spec L2 RT RZ VL
namespace Zk17
theorem ok_law {P : Program} {w : World} {K : PySem.W.Frag} {mg : Str → Option Value} {h base : Heap} (X : K.In h) (G : h.Ns mainGlobals mg) (c : SaysV fa fn cs K) {fd : FuncData} (F : FunD K "law" "law" (defArgs s_law) (defBody s_law) (defScope s_law) [] [] (He.fAd K ("law", none)) fd) :
    FnG P w K mg base C8.CX0 12 (He.fAd K ("law", none)) fd ["_law_script"] (lP K 1 sp_law) := by
  have m_list := He.free_ok X G (c.d.fact 19 (f := .free "list") rfl)
  have m_len := He.free_ok X G (c.d.fact 20 (f := .free "len") rfl)
  have m_range := He.free_ok X G (c.d.fact 21 (f := .free "range") rfl)
  have m_enumerate := He.free_ok X G (c.d.fact 22 (f := .free "enumerate") rfl)
  have m_sorted := He.free_ok X G (c.d.fact 23 (f := .free "sorted") rfl)
  have m_dict := He.free_ok X G (c.d.fact 24 (f := .free "dict") rfl)
  have m_all := He.free_ok X G (c.d.fact 25 (f := .free "all") rfl)
  have m_set := He.free_ok X G (c.d.fact 26 (f := .free "set") rfl)
  have m_any := He.free_ok X G (c.d.fact 27 (f := .free "any") rfl)
  have m_abs := He.free_ok X G (c.d.fact 28 (f := .free "abs") rfl)
  have m_int := He.free_ok X G (c.d.fact 29 (f := .free "int") rfl)
  have m_tuple := He.free_ok X G (c.d.fact 30 (f := .free "tuple") rfl)
  have m_min := He.free_ok X G (c.d.fact 31 (f := .free "min") rfl)
  have m_max := He.free_ok X G (c.d.fact 32 (f := .free "max") rfl)
  have m_repr := He.free_ok X G (c.d.fact 33 (f := .free "repr") rfl)
  have m_bool := He.free_ok X G (c.d.fact 34 (f := .free "bool") rfl)
  have m_isinstance := He.free_ok X G (c.d.fact 35 (f := .free "isinstance") rfl)
  obtain ⟨u_PARTED, hm_PARTED, kv_PARTED⟩ := c.con X G 0 (x := "PARTED") (d := c_PARTED) rfl
  obtain ⟨fd_rows_below, F_rows_below⟩ := c.d.def_ 0 (d := dd_rows_below) rfl
  have g_rows_below : mg "rows_below" = some (.ref (He.fAd K ("rows_below", none))) := He.glo_ok X G (c.d.fact 0 (f := .glo "rows_below") rfl)
  have b_rows_below : Binds K fd_rows_below ["row"] [] := FunD.bindsN F_rows_below fun _ _ _ _ _ _ us hl => match us, hl with | [_], _ => rfl
  have ca_rbelow : Ca P w K mg base 1 "rows_below" 1 sp_below := ca_of (k := 0) F_rows_below g_rows_below b_rows_below sc_rows_below (m0 := 0) (by rintro as M Q ⟨_, _,  rfl, _⟩; rfl) (d_rows_below m_list hm_PARTED kv_PARTED) (fun as M Q _ h => pure_rbelow as M Q h)
  obtain ⟨fd_reached, F_reached⟩ := c.d.def_ 1 (d := dd_reached) rfl
  have g_reached : mg "reached" = some (.ref (He.fAd K ("reached", none))) := He.glo_ok X G (c.d.fact 1 (f := .glo "reached") rfl)
  have b_reached : Binds K fd_reached ["web"] [] := FunD.bindsN F_reached fun _ _ _ _ _ _ us hl => match us, hl with | [_], _ => rfl
  have ca_reached : Ca P w K mg base 2 "reached" 1 sp_reached := ca_of (k := 1) F_reached g_reached b_reached sc_reached (m0 := 0) (by rintro as M Q ⟨_, _, _, _, _, rfl, _⟩; rfl) (d_reached m_len m_range m_enumerate ca_rbelow (by omega)) (fun as M Q _ h => pure_reached as M Q h)
  obtain ⟨fd_next_asked, F_next_asked⟩ := c.d.def_ 2 (d := dd_next_asked) rfl
  have g_next_asked : mg "next_asked" = some (.ref (He.fAd K ("next_asked", none))) := He.glo_ok X G (c.d.fact 2 (f := .glo "next_asked") rfl)
  have b_next_asked : Binds K fd_next_asked ["web", "place"] [] := FunD.bindsN F_next_asked fun _ _ _ _ _ _ us hl => match us, hl with | [_, _], _ => rfl
  have ca_nexta : Ca P w K mg base 2 "next_asked" 2 sp_nexta := ca_of (k := 1) F_next_asked g_next_asked b_next_asked sc_next_asked (m0 := 0) (by rintro as M Q ⟨_, _, _, _, _, _,  rfl, _⟩; rfl) (d_next_asked m_len m_sorted ca_rbelow (by omega)) (fun as M Q _ h => pure_nexta as M Q h)
  obtain ⟨fd_late_in, F_late_in⟩ := c.d.def_ 3 (d := dd_late_in) rfl
  have g_late_in : mg "late_in" = some (.ref (He.fAd K ("late_in", none))) := He.glo_ok X G (c.d.fact 3 (f := .glo "late_in") rfl)
  have b_late_in : Binds K fd_late_in ["web", "order"] [] := FunD.bindsN F_late_in fun _ _ _ _ _ _ us hl => match us, hl with | [_, _], _ => rfl
  have ca_late : Ca P w K mg base 3 "late_in" 2 sp_late := ca_of (k := 2) F_late_in g_late_in b_late_in sc_late_in (m0 := 0) (by rintro as M Q ⟨_, _, _, _, _, _, _, _,  rfl, _⟩; rfl) (d_late_in m_enumerate m_dict ca_nexta (by omega)) (fun as M Q _ h => pure_late as M Q h)
  obtain ⟨fd_is_ladder, F_is_ladder⟩ := c.d.def_ 4 (d := dd_is_ladder) rfl
  have g_is_ladder : mg "is_ladder" = some (.ref (He.fAd K ("is_ladder", none))) := He.glo_ok X G (c.d.fact 4 (f := .glo "is_ladder") rfl)
  have b_is_ladder : Binds K fd_is_ladder ["web", "order"] [] := FunD.bindsN F_is_ladder fun _ _ _ _ _ _ us hl => match us, hl with | [_, _], _ => rfl
  have ca_islad : Ca P w K mg base 6 "is_ladder" 2 sp_isl := ca_of (k := 5) F_is_ladder g_is_ladder b_is_ladder sc_is_ladder (m0 := 0) (by rintro as M Q ⟨_, _, _, _, _, _, _, _,  rfl, _⟩; rfl) (d_is_ladder m_all m_len m_set m_any ca_late (by omega) ca_reached (by omega)) (fun as M Q _ h => pure_isl as M Q h)
  obtain ⟨fd__law_cell_at, F__law_cell_at⟩ := c.d.def_ 5 (d := dd__law_cell_at) rfl
  have g__law_cell_at : mg "_law_cell_at" = some (.ref (He.fAd K ("_law_cell_at", none))) := He.glo_ok X G (c.d.fact 5 (f := .glo "_law_cell_at") rfl)
  have b__law_cell_at : Binds K fd__law_cell_at ["_law_script", "_law_k"] [] := FunD.bindsN F__law_cell_at fun _ _ _ _ _ _ us hl => match us, hl with | [_, _], _ => rfl
  have ca_cell : Ca P w K mg base 1 "_law_cell_at" 2 sp_cell := ca_of (k := 0) F__law_cell_at g__law_cell_at b__law_cell_at sc__law_cell_at (m0 := 0) (by rintro as M Q ⟨_, _, _,  rfl, _⟩; rfl) (d__law_cell_at m_len) (fun as M Q _ h => pure_cell as M Q h)
  obtain ⟨fd__law_tape, F__law_tape⟩ := c.d.def_ 6 (d := dd__law_tape) rfl
  have g__law_tape : mg "_law_tape" = some (.ref (He.fAd K ("_law_tape", none))) := He.glo_ok X G (c.d.fact 6 (f := .glo "_law_tape") rfl)
  have b__law_tape : Binds K fd__law_tape ["_law_script", "_law_k"] [] := FunD.bindsN F__law_tape fun _ _ _ _ _ _ us hl => match us, hl with | [_, _], _ => rfl
  have ca_tape : Ca P w K mg base 2 "_law_tape" 2 sp_tape := ca_of (k := 1) F__law_tape g__law_tape b__law_tape sc__law_tape (m0 := 0) (by rintro as M Q ⟨_, _, _,  rfl, _⟩; rfl) (d__law_tape m_abs m_int ca_cell (by omega)) (fun as M Q _ h => pure_tape as M Q h)
  obtain ⟨fd__law_take, F__law_take⟩ := c.d.def_ 7 (d := dd__law_take) rfl
  have g__law_take : mg "_law_take" = some (.ref (He.fAd K ("_law_take", none))) := He.glo_ok X G (c.d.fact 7 (f := .glo "_law_take") rfl)
  have b__law_take : Binds K fd__law_take ["_law_tape_here", "_law_many_here"] [] := FunD.bindsN F__law_take fun _ _ _ _ _ _ us hl => match us, hl with | [_, _], _ => rfl
  have bot__law_take : Ca P w K mg base 0 "_law_take" 2 (spB (fun _ => fun _ _ _ => False) 0) := ca_bot F__law_take g__law_take b__law_take 2
  have ca_take : Ca P w K mg base 1 "_law_take" 2 sp_take := ca_of (k := 0) F__law_take g__law_take b__law_take sc__law_take (m0 := 1) (by rintro as M Q ⟨_, _, _, _,  rfl, _⟩; rfl) (d__law_take bot__law_take (by omega)) (fun as M Q _ h => pure_take as M Q h)
  obtain ⟨fd__law_mixed, F__law_mixed⟩ := c.d.def_ 8 (d := dd__law_mixed) rfl
  have g__law_mixed : mg "_law_mixed" = some (.ref (He.fAd K ("_law_mixed", none))) := He.glo_ok X G (c.d.fact 8 (f := .glo "_law_mixed") rfl)
  have b__law_mixed : Binds K fd__law_mixed ["_law_tape_here", "_law_some"] [] := FunD.bindsN F__law_mixed fun _ _ _ _ _ _ us hl => match us, hl with | [_, _], _ => rfl
  have ca_mixed : Ca P w K mg base 2 "_law_mixed" 2 sp_mixed := ca_of (k := 1) F__law_mixed g__law_mixed b__law_mixed sc__law_mixed (m0 := 1) (by rintro as M Q ⟨_, _, _, _, _, _,  rfl, _⟩; rfl) (d__law_mixed m_list m_len ca_take (by omega)) (fun as M Q _ h => pure_mixed as M Q h)
  obtain ⟨fd__law_many, F__law_many⟩ := c.d.def_ 9 (d := dd__law_many) rfl
  have g__law_many : mg "_law_many" = some (.ref (He.fAd K ("_law_many", none))) := He.glo_ok X G (c.d.fact 9 (f := .glo "_law_many") rfl)
  have b__law_many : Binds K fd__law_many ["_law_tape_here"] [] := FunD.bindsN F__law_many fun _ _ _ _ _ _ us hl => match us, hl with | [_], _ => rfl
  have ca_many : Ca P w K mg base 2 "_law_many" 1 sp_many := ca_of (k := 1) F__law_many g__law_many b__law_many sc__law_many (m0 := 1) (by rintro as M Q ⟨_, _, _,  rfl, _⟩; rfl) (d__law_many ca_take (by omega)) (fun as M Q _ h => pure_many as M Q h)
  obtain ⟨fd__law_below, F__law_below⟩ := c.d.def_ 10 (d := dd__law_below) rfl
  have g__law_below : mg "_law_below" = some (.ref (He.fAd K ("_law_below", none))) := He.glo_ok X G (c.d.fact 10 (f := .glo "_law_below") rfl)
  have b__law_below : Binds K fd__law_below ["_law_row"] [] := FunD.bindsN F__law_below fun _ _ _ _ _ _ us hl => match us, hl with | [_], _ => rfl
  have ca_lbelow : Ca P w K mg base 1 "_law_below" 1 sp_below := ca_of (k := 0) F__law_below g__law_below b__law_below sc__law_below (m0 := 0) (by rintro as M Q ⟨_, _,  rfl, _⟩; rfl) (d__law_below m_list) (fun as M Q _ h => pure_lbelow as M Q h)
  obtain ⟨fd__law_wild_web, F__law_wild_web⟩ := c.d.def_ 11 (d := dd__law_wild_web) rfl
  have g__law_wild_web : mg "_law_wild_web" = some (.ref (He.fAd K ("_law_wild_web", none))) := He.glo_ok X G (c.d.fact 11 (f := .glo "_law_wild_web") rfl)
  have b__law_wild_web : Binds K fd__law_wild_web ["_law_tape_here", "_law_many_here"] [] := FunD.bindsN F__law_wild_web fun _ _ _ _ _ _ us hl => match us, hl with | [_, _], _ => rfl
  have ca_wild : Ca P w K mg base 2 "_law_wild_web" 2 sp_wild := ca_of (k := 1) F__law_wild_web g__law_wild_web b__law_wild_web sc__law_wild_web (m0 := 1) (by rintro as M Q ⟨_, _, _, _,  rfl, _⟩; rfl) (d__law_wild_web m_range m_sorted m_set m_tuple ca_take (by omega)) (fun as M Q _ h => pure_wild as M Q h)
  obtain ⟨fd__law_order, F__law_order⟩ := c.d.def_ 12 (d := dd__law_order) rfl
  have g__law_order : mg "_law_order" = some (.ref (He.fAd K ("_law_order", none))) := He.glo_ok X G (c.d.fact 12 (f := .glo "_law_order") rfl)
  have b__law_order : Binds K fd__law_order ["_law_tape_here", "_law_many_here"] [] := FunD.bindsN F__law_order fun _ _ _ _ _ _ us hl => match us, hl with | [_, _], _ => rfl
  have ca_order : Ca P w K mg base 3 "_law_order" 2 sp_order := ca_of (k := 2) F__law_order g__law_order b__law_order sc__law_order (m0 := 1) (by rintro as M Q ⟨_, _, _, _,  rfl, _⟩; rfl) (d__law_order m_list m_range ca_take (by omega) ca_mixed (by omega)) (fun as M Q _ h => pure_order as M Q h)
  obtain ⟨fd__law_is_ladder, F__law_is_ladder⟩ := c.d.def_ 13 (d := dd__law_is_ladder) rfl
  have g__law_is_ladder : mg "_law_is_ladder" = some (.ref (He.fAd K ("_law_is_ladder", none))) := He.glo_ok X G (c.d.fact 13 (f := .glo "_law_is_ladder") rfl)
  have b__law_is_ladder : Binds K fd__law_is_ladder ["_law_web", "_law_order_here"] [] := FunD.bindsN F__law_is_ladder fun _ _ _ _ _ _ us hl => match us, hl with | [_, _], _ => rfl
  have ca_lil : Ca P w K mg base 3 "_law_is_ladder" 2 sp_lil := ca_of (k := 2) F__law_is_ladder g__law_is_ladder b__law_is_ladder sc__law_is_ladder (m0 := 0) (by rintro as M Q ⟨_, _, _, _, _, _, _, _,  rfl, _⟩; rfl) (d__law_is_ladder m_len m_set m_any ca_lbelow (by omega)) (fun as M Q _ h => pure_lil as M Q h)
  obtain ⟨fd__law_made, F__law_made⟩ := c.d.def_ 14 (d := dd__law_made) rfl
  have g__law_made : mg "_law_made" = some (.ref (He.fAd K ("_law_made", none))) := He.glo_ok X G (c.d.fact 14 (f := .glo "_law_made") rfl)
  have b__law_made : Binds K fd__law_made ["_law_rows", "_law_table", "_law_order_here"] [] := FunD.bindsN F__law_made fun _ _ _ _ _ _ us hl => match us, hl with | [_, _, _], _ => rfl
  have ca_made : ∀ d, Ca P w K mg base (0 + d) "_law_made" 3 (spB sp_made17 d) := fun d => by
    induction d with
    | zero => exact ca_bot F__law_made g__law_made b__law_made 3
    | succ d ih => exact ca_of (k := 0 + d) F__law_made g__law_made b__law_made sc__law_made (m0 := 1) (by rintro as M Q ⟨_, _, _, _, _, _,  rfl, _⟩; rfl) (d__law_made m_min m_max m_len ih (by omega)) (fun as M Q _ h => pure_made17 as M Q h)
  obtain ⟨fd__law_laddered, F__law_laddered⟩ := c.d.def_ 15 (d := dd__law_laddered) rfl
  have g__law_laddered : mg "_law_laddered" = some (.ref (He.fAd K ("_law_laddered", none))) := He.glo_ok X G (c.d.fact 15 (f := .glo "_law_laddered") rfl)
  have b__law_laddered : Binds K fd__law_laddered ["_law_meaning", "_law_order_here"] [] := FunD.bindsN F__law_laddered fun _ _ _ _ _ _ us hl => match us, hl with | [_, _], _ => rfl
  have ca_laddered : Ca P w K mg base 11 "_law_laddered" 2 sp_laddered := ca_of (k := 10) F__law_laddered g__law_laddered b__law_laddered sc__law_laddered (m0 := 0) (by rintro as M Q ⟨_, _, _,  rfl, _⟩; rfl) (d__law_laddered (ca_made 9) (by omega)) (fun as M Q _ h => pure_laddered as M Q h)
  obtain ⟨fd__law_spoilt, F__law_spoilt⟩ := c.d.def_ 16 (d := dd__law_spoilt) rfl
  have g__law_spoilt : mg "_law_spoilt" = some (.ref (He.fAd K ("_law_spoilt", none))) := He.glo_ok X G (c.d.fact 16 (f := .glo "_law_spoilt") rfl)
  have b__law_spoilt : Binds K fd__law_spoilt ["_law_tape_here", "_law_web", "_law_many_here"] [] := FunD.bindsN F__law_spoilt fun _ _ _ _ _ _ us hl => match us, hl with | [_, _, _], _ => rfl
  have ca_spoilt : Ca P w K mg base 2 "_law_spoilt" 3 sp_spoilt17 := ca_of (k := 1) F__law_spoilt g__law_spoilt b__law_spoilt sc__law_spoilt (m0 := 1) (by rintro as M Q ⟨_, _, _, _, _,  rfl, _⟩; rfl) (d__law_spoilt m_len ca_take (by omega)) (fun as M Q _ h => pure_spoilt17 as M Q h)
  obtain ⟨fd__law_renamed, F__law_renamed⟩ := c.d.def_ 17 (d := dd__law_renamed) rfl
  have g__law_renamed : mg "_law_renamed" = some (.ref (He.fAd K ("_law_renamed", none))) := He.glo_ok X G (c.d.fact 17 (f := .glo "_law_renamed") rfl)
  have b__law_renamed : Binds K fd__law_renamed ["_law_web"] [] := FunD.bindsN F__law_renamed fun _ _ _ _ _ _ us hl => match us, hl with | [_], _ => rfl
  have ca_ren : Ca P w K mg base 1 "_law_renamed" 1 sp_ren17 := ca_of (k := 0) F__law_renamed g__law_renamed b__law_renamed sc__law_renamed (m0 := 0) (by rintro as M Q ⟨_, _, _, _, _,  rfl, _⟩; rfl) (d__law_renamed ) (fun as M Q _ h => pure_ren17 as M Q h)
  obtain ⟨fd_law, F_law⟩ := c.d.def_ 18 (d := dd_law) rfl
  have g_law : mg "law" = some (.ref (He.fAd K ("law", none))) := He.glo_ok X G (c.d.fact 18 (f := .glo "law") rfl)
  exact fg_of (k := 11) F sc_law (m0 := 0) (by rintro as M Q ⟨_, _,  rfl, _⟩; rfl) (d_law m_len m_min m_range m_tuple m_repr m_bool m_isinstance ca_tape (by omega) ca_many (by omega) ca_order (by omega) ca_take (by omega) ca_laddered (by omega) ca_wild (by omega) ca_spoilt (by omega) ca_ren (by omega) ca_islad (by omega) ca_lil (by omega)) (fun as M Q _ h => pure_law17 as M Q h)
end Zk17
open PySem PySem.W PySem.Calls PyProof.Rows
theorem PySem.Challenge.cw_countforms_k17_ladders_looked_at_holds : PySem.Challenge.rw_countforms_k17_ladders_looked_at.Holds := by
  w_on; o_law
  refine HandSHeadRun.head_any (r := OpenLaw.row PySem.Challenge.rw_countforms_k17_ladders_looked_at) (q := view (OpenLaw.row PySem.Challenge.rw_countforms_k17_ladders_looked_at).prog [22]) (H := Zk17.hk) (ob := Zk17.ob) (M := 20000) (loose := ["PARTED", "rows_below", "reached", "next_asked", "late_in", "is_ladder", "_law_cell_at", "_law_tape", "_law_take", "_law_mixed", "_law_many", "_law_below", "_law_wild_web", "_law_order", "_law_is_ladder", "_law_laddered", "_law_made", "_law_spoilt", "_law_renamed"]) (d := HandSHeadRun.topDef (OpenLaw.row PySem.Challenge.rw_countforms_k17_ladders_looked_at).prog 22) (kwd := []) Zk17.ob_eq
    (by kernel_rfl) (fun s => by kernel_rfl) Zk17.run (by kernel_rfl) (by kernel_rfl) (by kernel_rfl) (by rfl) (by first | assumption | decide +kernel) (by decide +kernel) ⟨rfl, rfl, rfl, rfl, rfl, by decide +kernel⟩ ?hw ?hc
  case hw => w_witness2
  case hc =>
    refine VL.walk_g (l := PySem.Challenge.rw_countforms_k17_ladders_looked_at) (n := 63) (k := 12) (x := "_law_script") (CX := C8.CX0) rfl (by decide) (by kernel_rfl) ⟨rfl, by decide, by decide⟩ ?F (fun _ _ _ _ z => z)
    intro w mg fa h Y G hmg0
    obtain ⟨K, KX, c⟩ := Y
    have hmg : mg ("law" : PySem.Str) = some (.ref fa) := by
      have e : (HandSHeadRun.topDef (OpenLaw.row PySem.Challenge.rw_countforms_k17_ladders_looked_at).prog 22).name = ("law" : PySem.Str) := by kernel_rfl
      rw [← e]
      exact hmg0
    obtain ⟨fd, F⟩ := c.d.def_ 18 (d := Zk17.dd_law) rfl
    have e := hmg.symm.trans (He.glo_ok KX G (c.d.fact 18 (f := .glo "law") rfl))
    cases e
    have b := L2.FunD.bindsA (ps := ["_law_script"]) F fun _ _ _ _ _ _ us hl => match us, hl with | [_], _ => rfl
    exact ⟨K, fd, VL.lP K 1 VL.sp_law, KX, fun s v => b s [v] rfl, fun H a ns hl hO hS => VL.lawSp hl hO hS, fun base _ _ => Zk17.ok_law KX G c F⟩
