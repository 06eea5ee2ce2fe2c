import PyProof.Rows.All
import HandS.ForMost
import HandS.Walk
import HandS.IsInst
import HandS.Conv
import HandS.Zip
import HandS.Rev
import HandS.RevRange
import HandS.TupAny
import HandS.TupMul
import HandS.TupLe
import HandS.SortInts
import HandS.Deep
import HandS.Wide
import HandS.WideBits
import HandS.Flow
import HandS.Exc
import HandS.ExcOwn
import HandS.ExcInit
import HandS.Strs
import HandS.More
import HandS.Style
import HandS.Defaults
import HandS.Codes
import HandS.WordsExc
import HandS.Head0
import HandS.Head1
import HandS.Head2
import HandS.HeadEnd
import HandS.HeadHook1
import HandS.HeadHook2
import HandS.RaiseMore
import PySem.Challenge.RW_countforms_k03_what_holds
set_option Elab.async false
set_option linter.all false
set_option maxRecDepth 100000
set_option maxHeartbeats 4000000
namespace VL
open PySem PySem.Spec L2

/-- data; lst: a list that nobody changes any more -/
inductive D where
  | non | bl (b : Bool) | int (i : Int) | str (s : Str) | tup (ds : List D) | lst (ds : List D) | scr (ns : List Int) | fn (a : Addr) | ty (n : String)
  deriving Inhabited
/-- a value: data, the n-th changing object, or a list that is lent -/
inductive Sv where
  | d (x : D) | ref (n : Nat) | bor (ds : List D)
  deriving Inhabited
inductive Cell where
  | gone | lst (ds : List D) | dk (kvs : List (Key × D))
  deriving Inhabited
abbrev Mem := List Cell
abbrev DS := List (Option Sv)
/-- where the changing objects stand (none: one that is no more) -/
abbrev Ix := List (Option Addr)

/-- a tuple of the written part -/
def KT (K : PySem.W.Frag) (a : Addr) (xs : List V) : Prop :=
  ∃ (o : Obj) (its : Array Value) (n : Nat), K.lookup a = some o ∧ o.cls = .type "tuple" ∧ o.data = .seq its n ∧ its.size ≤ sizeLine ∧ Vals xs its.toList
/-- a list of the written part -/
def KL (K : PySem.W.Frag) (a : Addr) (xs : List V) : Prop :=
  ∃ (o : Obj) (its : Array Value) (n : Nat), K.lookup a = some o ∧ o.cls = .type "list" ∧ o.dict = none ∧ o.data = .seq its n ∧ its.size ≤ sizeLine ∧ Vals xs its.toList
mutual
def RD (K : PySem.W.Frag) (N : Bool → Addr → Prop) (H : Hp) (ι : Ix) : D → V → Prop
  | .non, v => v = .non
  | .bl b, v => v = .bl b
  | .int i, v => v = .int i
  | .str s, v => v = .str s
  | .tup ds, v => ∃ a xs, v = .ref a ∧ ((H a = some (.tup xs) ∧ some a ∉ ι) ∨ KT K a xs) ∧ ds.length ≤ sizeLine ∧ RDs K N H ι ds xs
  | .lst ds, v => ∃ a xs, v = .ref a ∧ H a = some (.lst xs) ∧ some a ∉ ι ∧ N true a ∧ ds.length ≤ sizeLine ∧ RDs K N H ι ds xs
  | .scr ns, v => ∃ a, v = .ref a ∧ ((∃ o, H a = some (.frz o (.lst (ns.map V.int))) ∧ some a ∉ ι) ∨ KL K a (ns.map V.int)) ∧ ns.length ≤ sizeLine
  | .fn a, v => v = .ref a
  | .ty n, v => v = .ty n
def RDs (K : PySem.W.Frag) (N : Bool → Addr → Prop) (H : Hp) (ι : Ix) : List D → List V → Prop
  | [], xs => xs = []
  | d :: ds, xs => ∃ x r, xs = x :: r ∧ RD K N H ι d x ∧ RDs K N H ι ds r
end
def RS (K : PySem.W.Frag) (N : Bool → Addr → Prop) (H : Hp) (ι : Ix) : Sv → V → Prop
  | .d x, v => RD K N H ι x v
  | .ref n, v => ∃ a, v = .ref a ∧ (ι[n]? = some (some a) ∨ ι[n]? = some none)
  | .bor ds, v => ∃ a xs, v = .ref a ∧ H a = some (.lst xs) ∧ some a ∉ ι ∧ N false a ∧ ds.length ≤ sizeLine ∧ RDs K N H ι ds xs
def RSs (K : PySem.W.Frag) (N : Bool → Addr → Prop) (H : Hp) (ι : Ix) : List Sv → List V → Prop
  | [], xs => xs = []
  | d :: ds, xs => ∃ x r, xs = x :: r ∧ RS K N H ι d x ∧ RSs K N H ι ds r

/-- what is not changing stays -/
def Kp (ι : Ix) (H : Hp) (ι' : Ix) (H' : Hp) : Prop := ∀ a o, H a = some o → some a ∉ ι → H' a = some o ∧ some a ∉ ι'
theorem Kp.refl (ι : Ix) (H : Hp) : Kp ι H ι H := fun _ _ h n => ⟨h, n⟩
theorem Kp.trans {ι ι1 ι2 : Ix} {H H1 H2 : Hp} (a : Kp ι H ι1 H1) (b : Kp ι1 H1 ι2 H2) : Kp ι H ι2 H2 := fun c o h n =>
  let ⟨h1, n1⟩ := a c o h n
  b c o h1 n1
/-- names stay, or go -/
def Ex (ι ι' : Ix) : Prop := ∀ (n : Nat) (o : Option Addr), ι[n]? = some o → ι'[n]? = some o ∨ ι'[n]? = some none
theorem Ex.refl (ι : Ix) : Ex ι ι := fun _ _ h => .inl h
theorem Ex.trans {a b c : Ix} (h : Ex a b) (g : Ex b c) : Ex a c := fun n o e => by
  rcases h n o e with h | h
  · exact g n o h
  · rcases g n none h with g | g <;> exact .inr g
theorem Ex.app (ι r : Ix) : Ex ι (ι ++ r) := fun n o e => by
  have hlt := (List.getElem?_eq_some_iff.mp e).1
  rw [List.getElem?_append_left hlt]; exact .inl e

section
variable {K : PySem.W.Frag} {N N' : Bool → Addr → Prop} {H H' : Hp} {ι ι' : Ix}
mutual
theorem RD.mono (k : Kp ι H ι' H') (hn : ∀ b a o, H a = some o → N b a → N' b a) : ∀ (d : D) (v : V), RD K N H ι d v → RD K N' H' ι' d v
  | .non, _, h => h
  | .bl _, _, h => h
  | .int _, _, h => h
  | .str _, _, h => h
  | .fn _, _, h => h
  | .ty _, _, h => h
  | .scr ns, v, h => by
    obtain ⟨a, e, ⟨o, q, n⟩ | q, l⟩ := h
    · exact ⟨a, e, .inl ⟨o, k a _ q n⟩, l⟩
    · exact ⟨a, e, .inr q, l⟩
  | .tup ds, v, h => by
    obtain ⟨a, xs, e, q, l, r⟩ := h
    refine ⟨a, xs, e, ?_, l, RDs.mono k hn ds xs r⟩
    rcases q with ⟨q, n⟩ | q
    · exact .inl (k a _ q n)
    · exact .inr q
  | .lst ds, v, h => by
    obtain ⟨a, xs, e, q, n, z, l, r⟩ := h
    exact ⟨a, xs, e, (k a _ q n).1, (k a _ q n).2, hn _ a _ q z, l, RDs.mono k hn ds xs r⟩
theorem RDs.mono (k : Kp ι H ι' H') (hn : ∀ b a o, H a = some o → N b a → N' b a) : ∀ (ds : List D) (vs : List V), RDs K N H ι ds vs → RDs K N' H' ι' ds vs
  | [], _, h => h
  | d :: ds, vs, h => by
    obtain ⟨x, r, e, h1, h2⟩ := h
    exact ⟨x, r, e, RD.mono k hn d x h1, RDs.mono k hn ds r h2⟩
end
theorem RS.mono {x : Sv} {v : V} (k : Kp ι H ι' H') (p : Ex ι ι') (hn : ∀ b a o, H a = some o → N b a → N' b a) (h : RS K N H ι x v) : RS K N' H' ι' x v := by
  cases x with
  | d x => exact RD.mono k hn x v h
  | ref n =>
    obtain ⟨a, e, q | q⟩ := h
    · exact ⟨a, e, p n _ q⟩
    · rcases p n _ q with z | z <;> exact ⟨a, e, .inr z⟩
  | bor ds =>
    obtain ⟨a, xs, e, q, n, z, l, r⟩ := h
    exact ⟨a, xs, e, (k a _ q n).1, (k a _ q n).2, hn _ a _ q z, l, RDs.mono k hn ds xs r⟩
theorem RSs.mono (k : Kp ι H ι' H') (p : Ex ι ι') (hn : ∀ b a o, H a = some o → N b a → N' b a) : ∀ {xs : List Sv} {vs : List V}, RSs K N H ι xs vs → RSs K N' H' ι' xs vs
  | [], _, h => h
  | d :: ds, vs, h => by
    obtain ⟨x, r, e, h1, h2⟩ := h
    exact ⟨x, r, e, h1.mono k p hn, RSs.mono k p hn h2⟩
theorem RDs.nil_iff {vs : List V} : RDs K N H ι [] vs ↔ vs = [] := Iff.rfl
theorem RDs.length : ∀ {ds : List D} {vs : List V}, RDs K N H ι ds vs → ds.length = vs.length
  | [], _, h => by cases (show _ = _ from h); rfl
  | d :: ds, _, h => by
    obtain ⟨x, r, rfl, _, h2⟩ := h
    simp [RDs.length h2]
theorem RDs.get : ∀ {ds : List D} {vs : List V} {i : Nat} {d : D}, RDs K N H ι ds vs → ds[i]? = some d → ∃ v, vs[i]? = some v ∧ RD K N H ι d v
  | [], _, _, _, _, e => by simp at e
  | d :: ds, _, i, d', h, e => by
    obtain ⟨x, r, rfl, h1, h2⟩ := h
    cases i with
    | zero => simp at e; subst e; exact ⟨x, rfl, h1⟩
    | succ i => exact RDs.get (i := i) h2 (by simpa using e)
theorem RDs.append : ∀ {ds es : List D} {vs ws : List V}, RDs K N H ι ds vs → RDs K N H ι es ws → RDs K N H ι (ds ++ es) (vs ++ ws)
  | [], _, _, _, h, g => by cases (show _ = _ from h); exact g
  | d :: ds, _, _, _, h, g => by
    obtain ⟨x, r, rfl, h1, h2⟩ := h
    exact ⟨x, _, rfl, h1, RDs.append h2 g⟩
theorem RDs.set : ∀ {ds : List D} {vs : List V} {d : D} {v : V} (i : Nat), RD K N H ι d v → RDs K N H ι ds vs → RDs K N H ι (ds.set i d) (vs.set i v)
  | [], _, _, _, _, _, h => by cases (show _ = _ from h); rfl
  | e :: ds, _, d, v, i, r, h => by
    obtain ⟨x, t, rfl, h1, h2⟩ := h
    cases i with
    | zero => exact ⟨v, t, rfl, r, h2⟩
    | succ i => exact ⟨x, _, rfl, h1, RDs.set i r h2⟩
theorem RDs.take : ∀ {ds : List D} {vs : List V} (n : Nat), RDs K N H ι ds vs → RDs K N H ι (ds.take n) (vs.take n)
  | [], _, n, h => by cases (show _ = _ from h); cases n <;> rfl
  | e :: ds, _, n, h => by
    obtain ⟨x, t, rfl, h1, h2⟩ := h
    cases n with
    | zero => exact rfl
    | succ n => exact ⟨x, _, rfl, h1, RDs.take n h2⟩
theorem RDs.drop : ∀ {ds : List D} {vs : List V} (n : Nat), RDs K N H ι ds vs → RDs K N H ι (ds.drop n) (vs.drop n)
  | [], _, n, h => by cases (show _ = _ from h); cases n <;> rfl
  | e :: ds, _, n, h => by
    obtain ⟨x, t, rfl, h1, h2⟩ := h
    cases n with
    | zero => exact ⟨x, t, rfl, h1, h2⟩
    | succ n => exact RDs.drop n h2
theorem RDs.eraseIdx : ∀ {ds : List D} {vs : List V} (i : Nat), RDs K N H ι ds vs → RDs K N H ι (ds.eraseIdx i) (vs.eraseIdx i)
  | [], _, n, h => by cases (show _ = _ from h); rfl
  | e :: ds, _, n, h => by
    obtain ⟨x, t, rfl, h1, h2⟩ := h
    cases n with
    | zero => exact h2
    | succ n => exact ⟨x, _, rfl, h1, RDs.eraseIdx n h2⟩
theorem RDs.reverse : ∀ {ds : List D} {vs : List V}, RDs K N H ι ds vs → RDs K N H ι ds.reverse vs.reverse
  | [], _, h => by cases (show _ = _ from h); rfl
  | e :: ds, _, h => by
    obtain ⟨x, t, rfl, h1, h2⟩ := h
    rw [List.reverse_cons, List.reverse_cons]
    exact RDs.append (RDs.reverse h2) ⟨x, [], rfl, h1, rfl⟩
theorem RDs.dropLast {ds : List D} {vs : List V} (h : RDs K N H ι ds vs) : RDs K N H ι ds.dropLast vs.dropLast := by
  rw [List.dropLast_eq_take, List.dropLast_eq_take, h.length]; exact h.take _
theorem RDs.ints {ns : List Int} : ∀ {vs : List V}, RDs K N H ι (ns.map D.int) vs → vs = ns.map V.int := by
  induction ns with
  | nil => intro vs h; exact h
  | cons n ns ih =>
    intro vs h
    obtain ⟨x, r, rfl, h1, h2⟩ := h
    rw [ih h2]; cases (show _ = _ from h1); rfl
theorem RDs.of_ints : ∀ (ns : List Int), RDs K N H ι (ns.map D.int) (ns.map V.int)
  | [] => rfl
  | n :: ns => ⟨_, _, rfl, rfl, RDs.of_ints ns⟩
theorem RDs.bls {ns : List Bool} : ∀ {vs : List V}, RDs K N H ι (ns.map D.bl) vs → vs = ns.map V.bl := by
  induction ns with
  | nil => intro vs h; exact h
  | cons n ns ih =>
    intro vs h
    obtain ⟨x, r, rfl, h1, h2⟩ := h
    rw [ih h2]; cases (show _ = _ from h1); rfl
theorem KT.sq {a : Addr} {xs : List V} (h : KT K a xs) : SqT K H a xs := .inr h
theorem tup_sq {a : Addr} {xs : List V} (h : (H a = some (.tup xs) ∧ some a ∉ ι) ∨ KT K a xs) : SqT K H a xs := by
  rcases h with h | h
  · exact SqT.of h.1
  · exact .inr h
end

/-! ### cells -/
def RC (K : PySem.W.Frag) (N : Bool → Addr → Prop) (H : Hp) (ι : Ix) : Cell → Addr → Prop
  | .gone, _ => False
  | .lst ds, a => ∃ xs, H a = some (.lst xs) ∧ ds.length ≤ sizeLine ∧ RDs K N H ι ds xs
  | .dk kvs, a => ∃ ws, H a = some (.dK ws) ∧ kvs.map (·.1) = ws.map (·.1) ∧ RDs K N H ι (kvs.map (·.2)) (ws.map (·.2))
structure RM (K : PySem.W.Frag) (N : Bool → Addr → Prop) (H : Hp) (ι : Ix) (M : Mem) : Prop where
  len : M.length = ι.length
  nod : ∀ (n m : Nat) (a : Addr), ι[n]? = some (some a) → ι[m]? = some (some a) → n = m
  cell : ∀ (n : Nat) (c : Cell) (a : Addr), M[n]? = some c → ι[n]? = some (some a) → RC K N H ι c a
  gone : ∀ (n : Nat), ι[n]? = some none → M[n]? = some .gone
theorem RC.has {K : PySem.W.Frag} {N : Bool → Addr → Prop} {H : Hp} {ι : Ix} {c : Cell} {a : Addr} (h : RC K N H ι c a) : ∃ o, H a = some o := by
  cases c with
  | gone => exact h.elim
  | lst ds => exact ⟨_, h.choose_spec.1⟩
  | dk kvs => exact ⟨_, h.choose_spec.1⟩
theorem RM.fresh {K : PySem.W.Frag} {N : Bool → Addr → Prop} {H : Hp} {ι : Ix} {M : Mem} (r : RM K N H ι M) {p : Addr} (h : H p = none) : some p ∉ ι := fun hp => by
  obtain ⟨n, hn, e⟩ := List.getElem_of_mem hp
  have hM : n < M.length := by rw [r.len]; exact hn
  obtain ⟨o, q⟩ := (r.cell n M[n] p (List.getElem?_eq_getElem hM) (by rw [List.getElem?_eq_getElem hn, e])).has
  rw [h] at q; cases q
/-- a name that is not gone -/
theorem RM.at {K : PySem.W.Frag} {N : Bool → Addr → Prop} {H : Hp} {ι : Ix} {M : Mem} (r : RM K N H ι M) {n : Nat} {c : Cell} {v : V} (h : RS K N H ι (.ref n) v) (e : M[n]? = some c) (hc : c ≠ .gone) : ∃ a, v = .ref a ∧ ι[n]? = some (some a) ∧ RC K N H ι c a := by
  obtain ⟨a, e1, q | q⟩ := h
  · exact ⟨a, e1, q, r.cell n c a e q⟩
  · rw [r.gone n q] at e; cases e; exact absurd rfl hc
theorem RC.mono {K : PySem.W.Frag} {N N' : Bool → Addr → Prop} {H H' : Hp} {ι ι' : Ix} {c : Cell} {a : Addr} (k : Kp ι H ι' H') (hn : ∀ b a o, H a = some o → N b a → N' b a) (e : H' a = H a) (h : RC K N H ι c a) : RC K N' H' ι' c a := by
  cases c with
  | gone => exact h.elim
  | lst ds => obtain ⟨xs, q, l, r⟩ := h; exact ⟨xs, e.trans q, l, r.mono k hn⟩
  | dk kvs => obtain ⟨ws, q, z, r⟩ := h; exact ⟨ws, e.trans q, z, r.mono k hn⟩

/-! ### the state -/
/-- the ground of a def: the heap at its entry, its changing arguments, what its callers may change -/
structure Gd where
  He : Hp
  i0 : List Addr
  B : Addr → Prop
  /-- what a comprehension is just making -/
  Hd : Addr → Prop
abbrev Gd.N (G : Gd) : Bool → Addr → Prop := fun b a => ¬ G.Hd a ∧ (b = true → ¬ G.B a)
structure Sr (K : PySem.W.Frag) (G : Gd) (δ : DS) (M : Mem) (ι : Ix) (σ : L2.St) (H : Hp) : Prop where
  len : δ.length = σ.length
  slot : ∀ (i : Nat) (d : Sv), δ[i]? = some (some d) → ∃ v, σ[i]? = some (some v) ∧ RS K G.N H ι d v
  mem : RM K G.N H ι M
  pre : ∀ (n : Nat) (a : Addr), G.i0[n]? = some a → ι[n]? = some (some a)
  kp : Kp (G.i0.map some) G.He ι H
  new : ∀ a, some a ∈ ι → a ∉ G.i0 → G.He a = none
  bad : ∀ a, G.B a → ∃ o, G.He a = some o
  hid : ∀ a, G.Hd a → some a ∉ ι ∧ ∃ o, H a = some o

/-- H' is H with a new thing, or a turned changing object -/
theorem Kp.laid {ι : Ix} {H : Hp} {p : Addr} {o : HO} (h : H p = none) : Kp ι H ι (upd H p o) := fun a u e n => by
  refine ⟨?_, n⟩
  rw [upd_ne (ne_of_none e h)]; exact e
theorem Kp.named {ι : Ix} {H : Hp} {p : Addr} {o : HO} (h : H p = none) : Kp ι H (ι ++ [some p]) (upd H p o) := fun a u e n => by
  have hne := ne_of_none e h
  refine ⟨?_, ?_⟩
  · rw [upd_ne hne]; exact e
  · simp only [List.mem_append, List.mem_singleton, Option.some.injEq, not_or]; exact ⟨n, hne⟩
theorem Kp.turned {ι : Ix} {H : Hp} {p : Addr} {o : HO} (h : some p ∈ ι) : Kp ι H ι (upd H p o) := fun a u e n => by
  refine ⟨?_, n⟩
  rw [upd_ne (fun z => n (by rw [z]; exact h))]; exact e
theorem Kp.take {ι : Ix} {H : Hp} (k : Nat) : Kp ι H (ι.take k) H := fun a u e n => ⟨e, fun h => n (List.mem_of_mem_take h)⟩
section
variable {K : PySem.W.Frag} {G : Gd} {δ : DS} {M : Mem} {ι : Ix} {σ : L2.St} {H : Hp}
/-- a thing that is not tracked by name is laid -/
theorem Sr.laid {p : Addr} {o : HO} (S : Sr K G δ M ι σ H) (h : H p = none) : Sr K G δ M ι σ (upd H p o) := by
  have k := Kp.laid (ι := ι) (o := o) h
  refine ⟨S.len, fun i d e => ?_, ⟨S.mem.len, S.mem.nod, fun n c a e1 e2 => ?_, S.mem.gone⟩, S.pre, S.kp.trans k, S.new, S.bad, fun a ha => ⟨(S.hid a ha).1, ?_⟩⟩
  · obtain ⟨v, e1, r⟩ := S.slot i d e
    exact ⟨v, e1, r.mono k (Ex.refl _) (fun _ _ _ _ z => z)⟩
  · refine (S.mem.cell n c a e1 e2).mono k (fun _ _ _ _ z => z) (upd_ne ?_)
    rintro rfl
    exact S.mem.fresh h (List.mem_of_getElem? e2)
  · obtain ⟨u, q⟩ := (S.hid a ha).2
    exact ⟨u, by rw [upd_ne (ne_of_none q h)]; exact q⟩
/-- a new changing object -/
theorem Sr.named {p : Addr} {o : HO} {c : Cell} (S : Sr K G δ M ι σ H) (h : H p = none) (hc : RC K G.N (upd H p o) (ι ++ [some p]) c p) : Sr K G δ (M ++ [c]) (ι ++ [some p]) σ (upd H p o) := by
  have k := Kp.named (ι := ι) (o := o) h
  have hp := S.mem.fresh h
  have hpre : Ex ι (ι ++ [some p]) := Ex.app _ _
  refine ⟨S.len, fun i d e => ?_, ⟨by simp [S.mem.len], fun n m a e1 e2 => ?_, fun n c' a e1 e2 => ?_, fun n e => ?_⟩, fun n a e => ?_, S.kp.trans k, fun a ha hn => ?_, ?_, fun a ha => ?_⟩
  · obtain ⟨v, e1, r⟩ := S.slot i d e
    exact ⟨v, e1, r.mono k hpre (fun _ _ _ _ z => z)⟩
  · by_cases hn : n < ι.length
    · rw [List.getElem?_append_left hn] at e1
      by_cases hm : m < ι.length
      · rw [List.getElem?_append_left hm] at e2
        exact S.mem.nod n m a e1 e2
      · rw [List.getElem?_append_right (by omega)] at e2
        have : a = p := by
          cases q : m - ι.length with
          | zero => rw [q] at e2; simpa using e2.symm
          | succ j => rw [q] at e2; simp at e2
        subst this
        exact absurd (List.mem_of_getElem? e1) hp
    · rw [List.getElem?_append_right (by omega)] at e1
      have h1 : n = ι.length ∧ a = p := by
        cases q : n - ι.length with
        | zero => rw [q] at e1; exact ⟨by omega, by simpa using e1.symm⟩
        | succ j => rw [q] at e1; simp at e1
      obtain ⟨h1, rfl⟩ := h1
      by_cases hm : m < ι.length
      · rw [List.getElem?_append_left hm] at e2
        exact absurd (List.mem_of_getElem? e2) hp
      · have h2 := (List.getElem?_eq_some_iff.mp e2).1
        simp at h2; omega
  · by_cases hn : n < M.length
    · rw [List.getElem?_append_left hn] at e1
      rw [List.getElem?_append_left (by rw [← S.mem.len]; exact hn)] at e2
      refine (S.mem.cell n c' a e1 e2).mono k (fun _ _ _ _ z => z) (upd_ne ?_)
      rintro rfl
      exact hp (List.mem_of_getElem? e2)
    · have h1 : n = M.length := by
        have := (List.getElem?_eq_some_iff.mp e1).1
        simp at this; omega
      subst h1
      rw [List.getElem?_append_right (Nat.le_refl _)] at e1
      rw [List.getElem?_append_right (by rw [S.mem.len]; exact Nat.le_refl _)] at e2
      simp [S.mem.len] at e1 e2
      subst e1 e2
      exact hc
  · by_cases hn : n < ι.length
    · rw [List.getElem?_append_left hn] at e
      rw [List.getElem?_append_left (by rw [S.mem.len]; exact hn)]
      exact S.mem.gone n e
    · rw [List.getElem?_append_right (by omega)] at e
      cases q : n - ι.length with
      | zero => rw [q] at e; simp at e
      | succ j => rw [q] at e; simp at e
  · have e1 := S.pre n a e
    rw [List.getElem?_append_left (List.getElem?_eq_some_iff.mp e1).1]; exact e1
  · rcases List.mem_append.mp ha with z | z
    · exact S.new a z hn
    · simp only [List.mem_singleton, Option.some.injEq] at z; subst z
      cases q : G.He a with
      | none => rfl
      | some u => rw [(S.kp a u q (by simpa using hn)).1] at h; cases h
  · exact S.bad
  · obtain ⟨n1, u, q⟩ := S.hid a ha
    have hne := ne_of_none q h
    refine ⟨?_, u, by rw [upd_ne hne]; exact q⟩
    simp only [List.mem_append, List.mem_singleton, Option.some.injEq, not_or]; exact ⟨n1, hne⟩
/-- a changing object turns -/
theorem Sr.turned {n : Nat} {p : Addr} {o : HO} {c : Cell} (S : Sr K G δ M ι σ H) (hp : ι[n]? = some (some p)) (hc : RC K G.N (upd H p o) ι c p) : Sr K G δ (M.set n c) ι σ (upd H p o) := by
  have k := Kp.turned (H := H) (o := o) (List.mem_of_getElem? hp)
  refine ⟨S.len, fun i d e => ?_, ⟨by simp [S.mem.len], S.mem.nod, fun m c' a e1 e2 => ?_, fun m e => ?_⟩, S.pre, S.kp.trans k, S.new, S.bad, fun a ha => ⟨(S.hid a ha).1, ?_⟩⟩
  · obtain ⟨v, e1, r⟩ := S.slot i d e
    exact ⟨v, e1, r.mono k (Ex.refl _) (fun _ _ _ _ z => z)⟩
  · by_cases hm : n = m
    · subst hm
      have hlt : n < M.length := by
        have := (List.getElem?_eq_some_iff.mp e1).1
        simpa using this
      rw [List.getElem?_set_self hlt] at e1
      cases e1
      rw [hp] at e2; cases e2
      exact hc
    · rw [List.getElem?_set_ne hm] at e1
      refine (S.mem.cell m c' a e1 e2).mono k (fun _ _ _ _ z => z) (upd_ne ?_)
      rintro rfl
      exact hm (S.mem.nod _ _ _ hp e2)
  · by_cases hm : n = m
    · subst hm; rw [hp] at e; cases e
    · rw [List.getElem?_set_ne hm]; exact S.mem.gone m e
  · obtain ⟨n1, u, q⟩ := S.hid a ha
    refine ⟨u, ?_⟩
    rw [upd_ne (fun z => n1 (by rw [z]; exact List.mem_of_getElem? hp))]; exact q
theorem Sr.set {i : Nat} {d : Sv} {v : V} (S : Sr K G δ M ι σ H) (r : RS K G.N H ι d v) : Sr K G (δ.set i (some d)) M ι (σ.set i (some v)) H := by
  refine ⟨by simp [S.len], fun j d' e => ?_, S.mem, S.pre, S.kp, S.new, S.bad, S.hid⟩
  by_cases hj : i = j
  · subst hj
    have hlt : i < δ.length := by
      have := (List.getElem?_eq_some_iff.mp e).1
      simpa using this
    rw [List.getElem?_set_self hlt] at e
    cases e
    exact ⟨v, by rw [List.getElem?_set_self (by rw [← S.len]; exact hlt)], r⟩
  · rw [List.getElem?_set_ne hj] at e
    obtain ⟨w, e1, r1⟩ := S.slot j d' e
    exact ⟨w, by rw [List.getElem?_set_ne hj]; exact e1, r1⟩
/-- names from k on are forgotten -/
def gcO (k : Nat) : Option Sv → Option Sv
  | some (.d x) => some (.d x)
  | some (.ref n) => if n < k then some (.ref n) else none
  | some (.bor ds) => some (.bor ds)
  | none => none
def gcS (k : Nat) (δ : DS) : DS := δ.map (gcO k)
theorem Sr.gc (S : Sr K G δ M ι σ H) (k : Nat) (hk : G.i0.length ≤ k) : Sr K G (gcS k δ) (M.take k) (ι.take k) σ H := by
  have kk := Kp.take (ι := ι) (H := H) k
  have tk : ∀ (n : Nat) (o : Option Addr), (ι.take k)[n]? = some o → ι[n]? = some o := fun n o e => by
    rw [List.getElem?_take] at e
    split at e
    · exact e
    · cases e
  refine ⟨by simp [gcS, S.len], fun i d e => ?_, ⟨by simp [S.mem.len], fun n m a e1 e2 => S.mem.nod n m a (tk _ _ e1) (tk _ _ e2), fun n c a e1 e2 => ?_, fun n e => ?_⟩, fun n a e => ?_, S.kp.trans kk, fun a ha hn => S.new a (List.mem_of_mem_take ha) hn, S.bad, fun a ha => ⟨fun z => (S.hid a ha).1 (List.mem_of_mem_take z), (S.hid a ha).2⟩⟩
  · unfold gcS at e
    rw [List.getElem?_map] at e
    cases q : δ[i]? with
    | none => rw [q] at e; cases e
    | some o =>
      rw [q] at e
      cases o with
      | none => cases e
      | some w =>
        obtain ⟨v, e1, r⟩ := S.slot i w q
        cases w with
        | d x => cases e; exact ⟨v, e1, RD.mono kk (fun _ _ _ _ z => z) x v r⟩
        | bor ds =>
          cases e
          obtain ⟨a, xs, e2, q1, q2, q4, l, q3⟩ := r
          exact ⟨v, e1, a, xs, e2, q1, (kk a _ q1 q2).2, q4, l, q3.mono kk fun _ _ _ _ z => z⟩
        | ref n =>
          simp only [Option.map_some, gcO] at e
          split at e
          · rename_i hn
            cases e
            obtain ⟨a, e2, z⟩ := r
            refine ⟨v, e1, a, e2, ?_⟩
            rw [List.getElem?_take, if_pos hn]; exact z
          · cases e
  · rw [List.getElem?_take] at e1
    split at e1
    · exact (S.mem.cell n c a e1 (tk _ _ e2)).mono kk (fun _ _ _ _ z => z) rfl
    · cases e1
  · have h1 := (List.getElem?_eq_some_iff.mp e).1
    rw [List.getElem?_take, if_pos (by simp at h1; omega)]
    exact S.mem.gone n (tk _ _ e)
  · have h1 := (List.getElem?_eq_some_iff.mp e).1
    rw [List.getElem?_take, if_pos (by omega)]
    exact S.pre n a e
end

/-! ### readings over data -/
abbrev QD := Sv → Mem → Prop
abbrev TE' := DS → Mem → QD → Prop
structure Ends' where
  nx : DS → Mem → Prop
  rt : Sv → Mem → Prop
  bk : DS → Mem → Prop := fun _ _ => False
  ct : DS → Mem → Prop := fun _ _ => False
abbrev TS' := Ends' → DS → Mem → Prop

def lE (K : PySem.W.Frag) (G : Gd) (t : TE') : TE := fun σ H Q => ∃ δ M ι Q0, Sr K G δ M ι σ H ∧ t δ M Q0 ∧
  ∀ d M' ι' H' v, Q0 d M' → Ex ι ι' → Kp ι H ι' H' → Sr K G δ M' ι' σ H' → RS K G.N H' ι' d v → Q v H'
structure EndsR (K : PySem.W.Frag) (G : Gd) (ι : Ix) (H : Hp) (E0 : Ends') (E : Ends) : Prop where
  nx : ∀ δ' M' ι' σ' H', E0.nx δ' M' → Ex ι ι' → Kp ι H ι' H' → Sr K G δ' M' ι' σ' H' → E.nx σ' H'
  rt : ∀ d δ' M' ι' σ' H' v, E0.rt d M' → Sr K G δ' M' ι' σ' H' → RS K G.N H' ι' d v → E.rt v H'
  bk : ∀ δ' M' ι' σ' H', E0.bk δ' M' → Ex ι ι' → Kp ι H ι' H' → Sr K G δ' M' ι' σ' H' → E.bk σ' H'
  ct : ∀ δ' M' ι' σ' H', E0.ct δ' M' → Ex ι ι' → Kp ι H ι' H' → Sr K G δ' M' ι' σ' H' → E.ct σ' H'
theorem EndsR.to {K : PySem.W.Frag} {G : Gd} {ι ι1 : Ix} {H H1 : Hp} {E0 : Ends'} {E : Ends} (z : EndsR K G ι H E0 E) (p : Ex ι ι1) (k : Kp ι H ι1 H1) : EndsR K G ι1 H1 E0 E :=
  ⟨fun δ' M' ι' σ' H' q p' k' S => z.nx δ' M' ι' σ' H' q (p.trans p') (k.trans k') S, z.rt, fun δ' M' ι' σ' H' q p' k' S => z.bk δ' M' ι' σ' H' q (p.trans p') (k.trans k') S,
    fun δ' M' ι' σ' H' q p' k' S => z.ct δ' M' ι' σ' H' q (p.trans p') (k.trans k') S⟩
def lS (K : PySem.W.Frag) (G : Gd) (t : TS') : TS := fun E σ H => ∃ δ M ι E0, Sr K G δ M ι σ H ∧ t E0 δ M ∧ EndsR K G ι H E0 E
abbrev VE (X : Cx) (G : Gd) (e : Expr) (t : TE') : Prop := PE X e (lE X.K G t)
abbrev VS (X : Cx) (G : Gd) (s : Stmt) (t : TS') : Prop := PS X s (lS X.K G t)
abbrev VSs (X : Cx) (G : Gd) (s : List Stmt) (t : TS') : Prop := PSs X s (lS X.K G t)

theorem PE.weak {X : Cx} {e : Expr} {t t' : TE} (h : PE X e t) (w : ∀ σ H Q, t' σ H Q → t σ H Q) : PE X e t' := ⟨fun pins s σ H Q I q => h.run pins s σ H Q I (w _ _ _ q)⟩
theorem PS.weak {X : Cx} {e : Stmt} {t t' : TS} (h : PS X e t) (w : ∀ D σ H, t' D σ H → t D σ H) : PS X e t' := ⟨fun pins s σ H Q I q => h.run pins s σ H Q I (w _ _ _ q)⟩
theorem PSs.weak {X : Cx} {e : List Stmt} {t t' : TS} (h : PSs X e t) (w : ∀ D σ H, t' D σ H → t D σ H) : PSs X e t' := ⟨fun pins s σ H Q I q => h.run pins s σ H Q I (w _ _ _ q)⟩

end VL
set_option Elab.async false
set_option linter.all false
set_option maxRecDepth 100000
set_option maxHeartbeats 4000000
namespace VL
open PySem PySem.Spec L2

/-! ### pure values -/
abbrev PV := DS → Mem → Option Sv
abbrev TA' := DS → Mem → (List Sv → Mem → Prop) → Prop
def ok {α : Type} (o : Option α) (k : α → Prop) : Prop := match o with | some d => k d | none => False
theorem ok_some {α : Type} {d : α} {k : α → Prop} : ok (some d) k = k d := rfl
theorem ok_none {α : Type} {k : α → Prop} : ok none k = False := rfl
theorem ok_of {α : Type} {o : Option α} {d : α} {k : α → Prop} (e : o = some d) (h : k d) : ok o k := by subst e; exact h
theorem ok_elim {α : Type} {o : Option α} {k : α → Prop} (h : ok o k) : ∃ d, o = some d ∧ k d := by
  cases o with
  | none => exact h.elim
  | some d => exact ⟨d, rfl, h⟩
theorem ok_bind {α β : Type} {o : Option α} {f : α → Option β} {k : β → Prop} : ok (o.bind f) k = ok o fun d => ok (f d) k := by
  cases o <;> rfl
theorem ok_map {α β : Type} {o : Option α} {f : α → β} {k : β → Prop} : ok (o.map f) k = ok o fun d => k (f d) := by
  cases o <;> rfl
def eP (p : PV) : TE' := fun δ M Q => ok (p δ M) fun d => Q d M
def pArgs : List PV → DS → Mem → Option (List Sv)
  | [], _, _ => some []
  | p :: ps, δ, M => (p δ M).bind fun d => (pArgs ps δ M).map fun ds => d :: ds
def aP (ps : List PV) : TA' := fun δ M Q => ok (pArgs ps δ M) fun ds => Q ds M
def aNil : TA' := fun _ M Q => Q [] M
def aCons (t : TE') (r : TA') : TA' := fun δ M Q => t δ M fun d M1 => r δ M1 fun ds M2 => Q (d :: ds) M2
def lA (K : PySem.W.Frag) (G : Gd) (n : Nat) (t : TA') : TA := fun σ H Q => ∃ δ M ι Q0, Sr K G δ M ι σ H ∧ t δ M Q0 ∧
  ∀ ds M' ι' H' vs, ds.length = n → Q0 ds M' → Ex ι ι' → Kp ι H ι' H' → Sr K G δ M' ι' σ H' → RSs K G.N H' ι' ds vs → Q vs H'
abbrev VA (X : Cx) (G : Gd) (es : List Expr) (n : Nat) (t : TA') : Prop := PA X es (lA X.K G n t)

section
variable {X : Cx} {G : Gd} {e a b : Expr} {es : List Expr} {pos : Pos} {ta tb t : TE'} {p q : PV}
theorem VE.weak {t' : TE'} (h : VE X G e t) (w : ∀ δ M Q, t' δ M Q → t δ M Q) : VE X G e t' :=
  PE.weak h fun _ _ _ ⟨δ, M, ι, Q0, S, q, z⟩ => ⟨δ, M, ι, Q0, S, w _ _ _ q, z⟩
theorem VA.weak {n : Nat} {t t' : TA'} (h : VA X G es n t) (w : ∀ δ M Q, t' δ M Q → t δ M Q) : VA X G es n t' :=
  ⟨fun pos pins s σ H Q I ⟨δ, M, ι, Q0, S, q, z⟩ => h.run pos pins s σ H Q I ⟨δ, M, ι, Q0, S, w _ _ _ q, z⟩⟩

/-! names, constants -/
def pV (i : Nat) : PV := fun δ _ => (δ[i]?).join
theorem ve_var {i : Nat} {x : Str} (hN : X.N[i]? = some x) (hv : Vis X.env.scope x) (hd : (x == ("__debug__" : Str)) = false := by decide) (hcd : (x == ("__classdict__" : Str)) = false := by decide) : VE X G (.Name x pos) (eP (pV i)) := by
  refine PE.weak (pe_var hN hv hd hcd) fun σ H Q ⟨δ, M, ι, Q0, S, h, z⟩ => ?_
  obtain ⟨d, e1, h⟩ := ok_elim h
  have e2 : δ[i]? = some (some d) := by
    unfold pV at e1
    cases q : δ[i]? with
    | none => rw [q] at e1; cases e1
    | some o =>
      rw [q] at e1
      cases o with
      | none => cases e1
      | some u => cases e1; rfl
  obtain ⟨v, e3, r⟩ := S.slot i d e2
  exact ⟨v, e3, z d M ι H v h (Ex.refl _) (Kp.refl _ _) S r⟩
theorem ve_v (i : Nat) {x : Str} (hN : X.N[i]? = some x := by rfl) (hv : Vis X.env.scope x := by first | exact Or.inl rfl | exact Or.inr (Or.inl rfl) | exact Or.inr (Or.inr rfl)) (hd : (x == ("__debug__" : Str)) = false := by decide)
    (hcd : (x == ("__classdict__" : Str)) = false := by decide) : VE X G (.Name x pos) (eP (pV i)) := ve_var hN hv hd hcd
def pC (d : D) : PV := fun _ _ => some (.d d)
theorem ve_const {v : V} {d : D} (h : PE X e (tC v)) (r : ∀ K N H ι, RD K N H ι d v) : VE X G e (eP (pC d)) :=
  PE.weak h fun σ H Q ⟨δ, M, ι, Q0, S, h, z⟩ => z _ M ι H v h (Ex.refl _) (Kp.refl _ _) S (r _ _ _ _)
theorem ve_int {i j} : VE X G (.Constant (.int i) j pos) (eP (pC (.int i))) := ve_const pe_int fun _ _ _ _ => rfl
theorem ve_bl {i j} : VE X G (.Constant (.bool i) j pos) (eP (pC (.bl i))) := ve_const pe_bl fun _ _ _ _ => rfl
theorem ve_non {j} : VE X G (.Constant .none j pos) (eP (pC .non)) := ve_const pe_non fun _ _ _ _ => rfl
theorem ve_str {i j} : VE X G (.Constant (.str i) j pos) (eP (pC (.str i))) := ve_const pe_str fun _ _ _ _ => rfl

/-! ### values put together -/
/-- a rule by values, read over data -/
def Rd2 (K : PySem.W.Frag) (r : R2) (f : Mem → Sv → Sv → Option Sv) : Prop := ∀ (G : Gd) (δ : DS) (M : Mem) (ι : Ix) (σ : L2.St) (H : Hp) (x y : Sv) (v u : V) (d : Sv), Sr K G δ M ι σ H → RS K G.N H ι x v → RS K G.N H ι y u → f M x y = some d →
  ∀ Q : VK, (∀ ι' H' w, Ex ι ι' → Kp ι H ι' H' → Sr K G δ M ι' σ H' → RS K G.N H' ι' d w → Q w H') → r v u H Q
def Rd1 (K : PySem.W.Frag) (r : V → Hp → VK → Prop) (f : Mem → Sv → Option Sv) : Prop := ∀ (G : Gd) (δ : DS) (M : Mem) (ι : Ix) (σ : L2.St) (H : Hp) (x : Sv) (v : V) (d : Sv), Sr K G δ M ι σ H → RS K G.N H ι x v → f M x = some d →
  ∀ Q : VK, (∀ ι' H' w, Ex ι ι' → Kp ι H ι' H' → Sr K G δ M ι' σ H' → RS K G.N H' ι' d w → Q w H') → r v H Q
def RdN (K : PySem.W.Frag) (r : List V → Hp → VK → Prop) (f : Mem → List Sv → Option Sv) : Prop := ∀ (G : Gd) (δ : DS) (M : Mem) (ι : Ix) (σ : L2.St) (H : Hp) (xs : List Sv) (vs : List V) (d : Sv), Sr K G δ M ι σ H → RSs K G.N H ι xs vs → f M xs = some d →
  ∀ Q : VK, (∀ ι' H' w, Ex ι ι' → Kp ι H ι' H' → Sr K G δ M ι' σ H' → RS K G.N H' ι' d w → Q w H') → r vs H Q
def eo1 (f : Mem → Sv → Option Sv) (ta : TE') : TE' := fun δ M Q => ta δ M fun x M1 => ok (f M1 x) fun d => Q d M1
def eo2 (f : Mem → Sv → Sv → Option Sv) (ta tb : TE') : TE' := fun δ M Q => ta δ M fun x M1 => tb δ M1 fun y M2 => ok (f M2 x y) fun d => Q d M2
def po1 (f : Mem → Sv → Option Sv) (a : PV) : PV := fun δ M => (a δ M).bind (f M)
def po2 (f : Mem → Sv → Sv → Option Sv) (a b : PV) : PV := fun δ M => (a δ M).bind fun x => (b δ M).bind fun y => f M x y
def eoN (f : Mem → List Sv → Option Sv) (t : TA') : TE' := fun δ M Q => t δ M fun xs M1 => ok (f M1 xs) fun d => Q d M1
def poN (f : Mem → List Sv → Option Sv) (ps : List PV) : PV := fun δ M => (pArgs ps δ M).bind (f M)
theorem VE.pure1 {f : Mem → Sv → Option Sv} (h : VE X G e (eo1 f (eP p))) : VE X G e (eP (po1 f p)) := h.weak fun δ M Q h => by
  unfold eP po1 at h; rw [ok_bind] at h; exact h
theorem VE.pure2 {f : Mem → Sv → Sv → Option Sv} (h : VE X G e (eo2 f (eP p) (eP q))) : VE X G e (eP (po2 f p q)) := h.weak fun δ M Q h => by
  unfold eP po2 at h
  rw [ok_bind] at h
  obtain ⟨d, e1, h⟩ := ok_elim h
  rw [ok_bind] at h
  exact ok_of e1 h
theorem VE.pureN {f : Mem → List Sv → Option Sv} {ps : List PV} (h : VE X G e (eoN f (aP ps))) : VE X G e (eP (poN f ps)) := h.weak fun δ M Q h => by
  unfold eP poN at h; rw [ok_bind] at h; exact h


/-- one value, then more -/
theorem th1 {K : PySem.W.Frag} {σ : L2.St} {H : Hp} {δ : DS} {M : Mem} {ι : Ix} {Q0 : QD} {R : VK} (S : Sr K G δ M ι σ H) (h : ta δ M Q0)
    (k : ∀ d M' ι' H' v, Q0 d M' → Ex ι ι' → Kp ι H ι' H' → Sr K G δ M' ι' σ H' → RS K G.N H' ι' d v → R v H') : lE K G ta σ H R := ⟨δ, M, ι, Q0, S, h, k⟩
theorem thA {K : PySem.W.Frag} {n : Nat} {tA : TA'} {σ : L2.St} {H : Hp} {δ : DS} {M : Mem} {ι : Ix} {Q0 : List Sv → Mem → Prop} {R : List V → Hp → Prop} (S : Sr K G δ M ι σ H) (h : tA δ M Q0)
    (k : ∀ d M' ι' H' v, d.length = n → Q0 d M' → Ex ι ι' → Kp ι H ι' H' → Sr K G δ M' ι' σ H' → RSs K G.N H' ι' d v → R v H') : lA K G n tA σ H R := ⟨δ, M, ι, Q0, S, h, k⟩
theorem fin2 {K : PySem.W.Frag} {r : R2} {f : Mem → Sv → Sv → Option Sv} (hf : Rd2 K r f) {σ : L2.St} {H : Hp} {Q : VK} (h : lE K G (eo2 f ta tb) σ H Q) : tOp r (lE K G ta) (lE K G tb) σ H Q := by
  obtain ⟨δ, M, ι, Q0, S, h, z⟩ := h
  refine th1 S h fun x M1 ι1 H1 v h1 p1 k1 S1 r1 => ?_
  refine th1 S1 h1 fun y M2 ι2 H2 u h2 p2 k2 S2 r2 => ?_
  obtain ⟨d, e, h2⟩ := ok_elim h2
  exact hf G δ M2 ι2 σ H2 x y v u d S2 (r1.mono k2 p2 (fun _ _ _ _ q => q)) r2 e Q fun ι3 H3 w p3 k3 S3 r3 => z d M2 ι3 H3 w h2 ((p1.trans p2).trans p3) ((k1.trans k2).trans k3) S3 r3
theorem fin1 {K : PySem.W.Frag} {r : V → Hp → VK → Prop} {f : Mem → Sv → Option Sv} (hf : Rd1 K r f) {σ : L2.St} {H : Hp} {Q : VK} (h : lE K G (eo1 f ta) σ H Q) : lE K G ta σ H fun v H1 => r v H1 Q := by
  obtain ⟨δ, M, ι, Q0, S, h, z⟩ := h
  refine th1 S h fun x M1 ι1 H1 v h1 p1 k1 S1 r1 => ?_
  obtain ⟨d, e, h1⟩ := ok_elim h1
  exact hf G δ M1 ι1 σ H1 x v d S1 r1 e Q fun ι3 H3 w p3 k3 S3 r3 => z d M1 ι3 H3 w h1 (p1.trans p3) (k1.trans k3) S3 r3
theorem finN {K : PySem.W.Frag} {n : Nat} {tA : TA'} {r : List V → Hp → VK → Prop} {f : Mem → List Sv → Option Sv} (hf : RdN K r f) {σ : L2.St} {H : Hp} {Q : VK} (h : lE K G (eoN f tA) σ H Q)   : lA K G n tA σ H fun v H1 => r v H1 Q := by
  obtain ⟨δ, M, ι, Q0, S, h, z⟩ := h
  refine thA S h fun x M1 ι1 H1 v hn h1 p1 k1 S1 r1 => ?_
  obtain ⟨d, e, h1⟩ := ok_elim h1
  exact hf G δ M1 ι1 σ H1 x v d S1 r1 e Q fun ι3 H3 w p3 k3 S3 r3 => z d M1 ι3 H3 w h1 (p1.trans p3) (k1.trans k3) S3 r3

theorem ve_bin {op : Operator} {r : R2} {f : Mem → Sv → Sv → Option Sv} (ho : OpR X (binaryOp op) r) (hf : Rd2 X.K r f) (ha : VE X G a ta) (hb : VE X G b tb) : VE X G (.BinOp a op b pos) (eo2 f ta tb) :=
  PE.weak (pe_op ho ha hb) fun σ H Q h => fin2 hf h
theorem ve_cmp {op : CmpOp} {r : R2} {f : Mem → Sv → Sv → Option Sv} (ho : OpR X (compareOp op) r) (hf : Rd2 X.K r f) (ha : VE X G a ta) (hb : VE X G b tb) (hm : behindInMarks op b = false) : VE X G (.Compare a [op] [b] pos) (eo2 f ta tb) :=
  PE.weak (pe_cmpR ho ha hb hm) fun σ H Q h => fin2 hf h
theorem ve_un {op : UnaryOp} {r : V → Hp → VK → Prop} {f : Mem → Sv → Option Sv} (ho : UnR X (unaryOp op) r) (hf : Rd1 X.K r f) (ha : VE X G a ta) : VE X G (.UnaryOp op a pos) (eo1 f ta) :=
  PE.weak (pe_un ho ha) fun σ H Q h => fin1 hf h
theorem ve_ix {r : R2} {f : Mem → Sv → Sv → Option Sv} (hr : IxR X r) (hf : Rd2 X.K r f) (ha : VE X G a ta) (hb : VE X G b tb) (hs : PlainIx b) : VE X G (.Subscript a b pos) (eo2 f ta tb) :=
  PE.weak (pe_ix hr ha hb hs) fun σ H Q h => fin2 hf h
theorem va_nil : VA X G [] 0 aNil := ⟨fun pos pins s σ H Q I ⟨δ, M, ι, Q0, S, h, z⟩ => pa_nil.run pos pins s σ H Q I (z [] M ι H [] rfl h (Ex.refl _) (Kp.refl _ _) S rfl)⟩
theorem va_cons {n : Nat} {tA : TA'} (ha : VE X G e ta) (hr : VA X G es n tA) (hs : starEach (e :: es) X.env = (false, eval e X.env) :: starEach es X.env := by rfl) : VA X G (e :: es) (n + 1) (aCons ta tA) := by
  refine ⟨fun pos pins s σ H Q I ⟨δ, M, ι, Q0, S, h, z⟩ => (pa_cons ha hr hs).run pos pins s σ H Q I ?_⟩
  refine th1 S h fun x M1 ι1 H1 v h1 p1 k1 S1 r1 => ?_
  refine thA S1 h1 fun y M2 ι2 H2 u hn h2 p2 k2 S2 r2 => ?_
  exact z _ M2 ι2 H2 _ (by rw [List.length_cons, hn]) h2 (p1.trans p2) (k1.trans k2) S2 ⟨v, u, rfl, r1.mono k2 p2 (fun _ _ _ _ q => q), r2⟩
theorem va_p0 : VA X G [] 0 (aP []) := va_nil.weak fun δ M Q h => h
theorem va_p {n : Nat} {ps : List PV} (ha : VE X G e (eP p)) (hr : VA X G es n (aP ps)) (hs : starEach (e :: es) X.env = (false, eval e X.env) :: starEach es X.env := by rfl) : VA X G (e :: es) (n + 1) (aP (p :: ps)) :=
  (va_cons ha hr hs).weak fun δ M Q h => by
    have h : ok (pArgs (p :: ps) δ M) fun ds => Q ds M := h
    unfold pArgs at h
    rw [ok_bind] at h
    obtain ⟨d, e1, h⟩ := ok_elim h
    rw [ok_map] at h
    exact ok_of e1 h
theorem ve_callB {x : Str} {id : String} {p : Pos} {n : Nat} {tA : TA'} {r : List V → Hp → VK → Prop} {f : Mem → List Sv → Option Sv} (hc : CallR X (.builtin id) r) (hf : RdN X.K r f) (hg : Gl X x) (hm : X.mg x = none) (hv : bootBuiltins x = some (.builtin id)) (ha : VA X G (e :: es) n tA) (hn : x ≠ "__name__" := by decide) (hdb : (x == ("__debug__" : Str)) = false := by decide)
    (he : starEach (e :: es) X.env = (false, eval e X.env) :: starEach es X.env := by rfl) (hpl : (backTo pos (starEach es X.env)).any (·.1) = false := by rfl) : VE X G (.Call (.Name x p) (e :: es) [] pos) (eoN f tA) :=
  PE.weak (pe_callB hc hg hm hv ha hn hdb he hpl) fun σ H Q h => finN hf h
theorem ve_callTy {x : Str} {T : String} {p : Pos} {n : Nat} {tA : TA'} {r : List V → Hp → VK → Prop} {f : Mem → List Sv → Option Sv} (hc : CallR X (.type T) r) (hf : RdN X.K r f) (hg : Gl X x) (hm : X.mg x = none) (hv : bootBuiltins x = some (.type T)) (ha : VA X G (e :: es) n tA) (hn : x ≠ "__name__" := by decide) (hdb : (x == ("__debug__" : Str)) = false := by decide)
    (he : starEach (e :: es) X.env = (false, eval e X.env) :: starEach es X.env := by rfl) (hpl : (backTo pos (starEach es X.env)).any (·.1) = false := by rfl) : VE X G (.Call (.Name x p) (e :: es) [] pos) (eoN f tA) :=
  PE.weak (pe_callTy hc hg hm hv ha hn hdb he hpl) fun σ H Q h => finN hf h
end
end VL
set_option Elab.async false
set_option linter.all false
set_option maxRecDepth 100000
set_option maxHeartbeats 4000000
namespace VL
open PySem PySem.Spec L2

/-! ### what is read of sequences -/
def cellL : Option Cell → Option (List D)
  | some (.lst ds) => some ds
  | _ => none
theorem cellL_some {c : Option Cell} {ds : List D} (h : cellL c = some ds) : c = some (.lst ds) := by
  unfold cellL at h
  split at h
  · cases h; rfl
  · cases h
def seqD (M : Mem) : Sv → Option (List D)
  | .d (.lst ds) => some ds
  | .bor ds => some ds
  | .d (.tup ds) => some ds
  | .d (.scr ns) => some (ns.map D.int)
  | .ref n => cellL M[n]?
  | _ => none
section
variable {K : PySem.W.Frag} {G : Gd} {δ : DS} {M : Mem} {ι : Ix} {σ : L2.St} {H : Hp}
/-- a sequence's value and items -/
theorem seq_of {d : Sv} {v : V} {ds : List D} (S : Sr K G δ M ι σ H) (h : RS K G.N H ι d v) (e : seqD M d = some ds) : ∃ a xs, v = .ref a ∧ (SqL K H a xs ∨ SqT K H a xs) ∧ RDs K G.N H ι ds xs := by
  cases d with
  | ref n =>
    obtain ⟨a, e1, hn, xs, q, _, r⟩ := S.mem.at h (cellL_some (show cellL M[n]? = some ds from e)) (fun z => nomatch z)
    exact ⟨a, xs, e1, .inl (SqL.of q), r⟩
  | bor es =>
    cases e
    obtain ⟨a, xs, e1, q, n, _, _, r⟩ := h
    exact ⟨a, xs, e1, .inl (SqL.of q), r⟩
  | d d =>
    cases d with
    | lst es =>
      cases e
      obtain ⟨a, xs, e1, q, n, z, _, r⟩ := h
      exact ⟨a, xs, e1, .inl (SqL.of q), r⟩
    | tup es =>
      cases e
      obtain ⟨a, xs, e1, q, _, r⟩ := h
      exact ⟨a, xs, e1, .inr (tup_sq q), r⟩
    | scr ns =>
      cases e
      obtain ⟨a, e1, ⟨o, q, n⟩ | q, _⟩ := h
      · exact ⟨a, _, e1, .inl (.inl (.inr ⟨o, q⟩)), RDs.of_ints ns⟩
      · exact ⟨a, _, e1, .inl (.inr q), RDs.of_ints ns⟩
    | _ => cases e
theorem RDs.atI {ds : List D} {vs : List V} {i : Int} {d : D} (h : RDs K G.N H ι ds vs) (e : atI ds i = some d) : ∃ v, atI vs i = some v ∧ RD K G.N H ι d v := by
  unfold L2.atI at e ⊢
  rw [← h.length]
  cases q : ixN ds.length i with
  | none => rw [q] at e; cases e
  | some j => rw [q] at e; exact h.get e

/-! ### ends of a reading -/
theorem fin_same {d : Sv} {w : V} {Q : VK} (S : Sr K G δ M ι σ H) (z : ∀ ι' H' w, Ex ι ι' → Kp ι H ι' H' → Sr K G δ M ι' σ H' → RS K G.N H' ι' d w → Q w H') (r : RS K G.N H ι d w) : Q w H :=
  z ι H w (Ex.refl _) (Kp.refl _ _) S r
theorem RDs.laid {ds : List D} {xs : List V} {p : Addr} {o : HO} (r : RDs K G.N H ι ds xs) (hp : H p = none) : RDs K G.N (upd H p o) ι ds xs := r.mono (Kp.laid hp) fun _ _ _ _ q => q
theorem fin_tup {ds : List D} {xs : List V} {p : Addr} {Q : VK} (S : Sr K G δ M ι σ H) (z : ∀ ι' H' w, Ex ι ι' → Kp ι H ι' H' → Sr K G δ M ι' σ H' → RS K G.N H' ι' (.d (.tup ds)) w → Q w H') (r : RDs K G.N H ι ds xs) (hl : ds.length ≤ sizeLine) (hp : H p = none) : Q (.ref p) (upd H p (.tup xs)) :=
  z ι _ _ (Ex.refl _) (Kp.laid hp) (S.laid hp) ⟨p, xs, rfl, .inl ⟨upd_same, S.mem.fresh hp⟩, hl, r.laid hp⟩
theorem Sr.newN {p : Addr} {b : Bool} (S : Sr K G δ M ι σ H) (hp : H p = none) : G.N b p := by
  refine ⟨fun hh => ?_, fun _ hb => ?_⟩
  · obtain ⟨_, u, q⟩ := S.hid p hh
    rw [hp] at q; cases q
  · obtain ⟨u, q⟩ := S.bad p hb
    by_cases hi : p ∈ G.i0
    · obtain ⟨n, hn⟩ := List.getElem?_of_mem hi
      exact absurd (List.mem_of_getElem? (S.pre n p hn)) (S.mem.fresh hp)
    · rw [(S.kp p u q (by simpa using hi)).1] at hp; cases hp
theorem fin_lst {ds : List D} {xs : List V} {p : Addr} {Q : VK} (S : Sr K G δ M ι σ H) (z : ∀ ι' H' w, Ex ι ι' → Kp ι H ι' H' → Sr K G δ M ι' σ H' → RS K G.N H' ι' (.d (.lst ds)) w → Q w H') (r : RDs K G.N H ι ds xs) (hl : ds.length ≤ sizeLine) (hp : H p = none) : Q (.ref p) (upd H p (.lst xs)) :=
  z ι _ _ (Ex.refl _) (Kp.laid hp) (S.laid hp) ⟨p, xs, rfl, upd_same, S.mem.fresh hp, S.newN hp, hl, r.laid hp⟩
end

/-! ### arithmetic -/
instance {i j : Int} : Decidable (CPow i j) := by unfold CPow; infer_instance
def gd {α : Type} (c : Prop) [Decidable c] (d : α) : Option α := if c then some d else none
theorem gd_pos {α : Type} {c : Prop} [Decidable c] {d : α} (h : c) : gd c d = some d := if_pos h
theorem gd_some {α : Type} {c : Prop} [Decidable c] {d e : α} (h : gd c d = some e) : c ∧ d = e := by
  unfold gd at h
  split at h
  · cases h; exact ⟨by assumption, rfl⟩
  · cases h
def addD (_ : Mem) : Sv → Sv → Option Sv
  | .d (.int i), .d (.int j) => some (.d (.int (i + j)))
  | .d (.str i), .d (.str j) => gd (i.length + j.length ≤ sizeLine) (.d (.str (i ++ j)))
  | .d (.tup a), .d (.tup b) => gd (a.length + b.length ≤ sizeLine) (.d (.tup (a ++ b)))
  | _, _ => none
def subD (_ : Mem) : Sv → Sv → Option Sv
  | .d (.int i), .d (.int j) => some (.d (.int (i - j)))
  | _, _ => none
abbrev MulOk (i j : Int) : Prop := (-(2 ^ 64) < i ∧ i < 2 ^ 64) ∨ (-(2 ^ 64) < j ∧ j < 2 ^ 64) ∨ i.natAbs.log2 + j.natAbs.log2 < 1000000
def mulD (_ : Mem) : Sv → Sv → Option Sv
  | .d (.int i), .d (.int j) => gd (MulOk i j) (.d (.int (i * j)))
  | _, _ => none
def fdivD (_ : Mem) : Sv → Sv → Option Sv
  | .d (.int i), .d (.int j) => gd (0 < j ∧ j.natAbs.log2 < 9000) (.d (.int (i / j)))
  | _, _ => none
def modD (_ : Mem) : Sv → Sv → Option Sv
  | .d (.int i), .d (.int j) => gd (0 < j) (.d (.int (i % j)))
  | _, _ => none
def powD (_ : Mem) : Sv → Sv → Option Sv
  | .d (.int i), .d (.int j) => gd (CPow i j) (.d (.int (i ^ j.toNat)))
  | _, _ => none
def shlD (_ : Mem) : Sv → Sv → Option Sv
  | .d (.int i), .d (.int j) => gd (CPow i j) (.d (.int (i * 2 ^ j.toNat)))
  | _, _ => none
def shrD (_ : Mem) : Sv → Sv → Option Sv
  | .d (.int i), .d (.int j) => gd (0 ≤ j) (.d (.int (i / 2 ^ j.toNat)))
  | _, _ => none
def negD (_ : Mem) : Sv → Option Sv
  | .d (.int i) => some (.d (.int (-i)))
  | _ => none
section
variable {K : PySem.W.Frag} {X : Cx} {G : Gd} {e a b : Expr} {pos : Pos} {ta tb : TE'}
theorem rd_add : Rd2 K (fun x y H Q => (fun x y H Q => rI0 (fun i j => .int (i + j)) x y H Q ∨ (fun x y H Q => ∃ i j, x = .str i ∧ y = .str j ∧ i.length + j.length ≤ sizeLine ∧ Q (.str (i ++ j)) H) x y H Q) x y H Q ∨ rCatA K x y H Q) addD := by
  intro G δ M ι σ H x y v u d S rx ry e Q z
  unfold addD at e
  split at e
  · cases e; cases (show _ = _ from rx); cases (show _ = _ from ry)
    exact .inl (.inl ⟨_, _, rfl, rfl, fin_same S z rfl⟩)
  · obtain ⟨hc, rfl⟩ := gd_some e
    cases (show _ = _ from rx); cases (show _ = _ from ry)
    exact .inl (.inr ⟨_, _, rfl, rfl, hc, fin_same S z rfl⟩)
  · obtain ⟨hc, rfl⟩ := gd_some e
    obtain ⟨p, xs, rfl, qa, la, ra⟩ := id rx
    obtain ⟨p', ys, rfl, qb, lb, rb⟩ := id ry
    refine .inr ⟨p, p', xs, ys, rfl, rfl, tup_sq qa, tup_sq qb, by rw [← ra.length, ← rb.length]; exact hc, fun h => ?_, fun _ h => ?_, fun _ _ q hq => ?_⟩
    · subst h
      have hl := ra.length
      have : _ = [] := List.length_eq_zero_iff.mp (by simpa using hl)
      subst this
      exact fin_same S z ⟨p', ys, rfl, qb, by simpa using lb, by simpa using rb⟩
    · subst h
      have hl := rb.length
      have : _ = [] := List.length_eq_zero_iff.mp (by simpa using hl)
      subst this
      exact fin_same S z ⟨p, xs, rfl, qa, by simpa using la, by simpa using ra⟩
    · exact fin_tup S z (ra.append rb) (by rw [List.length_append]; exact hc) hq
  · cases e
theorem ve_add (ha : VE X G a ta) (hb : VE X G b tb) : VE X G (.BinOp a .Add b pos) (eo2 addD ta tb) := ve_bin ((op_add.or op_add_str).or op_catA) rd_add ha hb
theorem rd_int {C : Int → Int → Prop} {g : Int → Int → Int} {f : Mem → Sv → Sv → Option Sv} (hf : ∀ M x y d, f M x y = some d → ∃ i j, x = .d (.int i) ∧ y = .d (.int j) ∧ C i j ∧ d = .d (.int (g i j))) : Rd2 K (rI C fun i j => .int (g i j)) f := by
  intro G δ M ι σ H x y v u d S rx ry e Q z
  obtain ⟨i, j, rfl, rfl, hc, rfl⟩ := hf _ _ _ _ e
  cases (show _ = _ from rx); cases (show _ = _ from ry)
  exact ⟨_, _, rfl, rfl, hc, fin_same S z rfl⟩
theorem ve_sub (ha : VE X G a ta) (hb : VE X G b tb) : VE X G (.BinOp a .Sub b pos) (eo2 subD ta tb) := by
  refine ve_bin op_sub ?_ ha hb
  intro G δ M ι σ H x y v u d S rx ry e Q z
  unfold subD at e
  split at e
  · cases e; cases (show _ = _ from rx); cases (show _ = _ from ry)
    exact ⟨_, _, rfl, rfl, fin_same S z rfl⟩
  · cases e
theorem ve_mul (ha : VE X G a ta) (hb : VE X G b tb) : VE X G (.BinOp a .Mult b pos) (eo2 mulD ta tb) := by
  refine ve_bin (op_mul.or op_mulW) ?_ ha hb
  intro G δ M ι σ H x y v u d S rx ry e Q z
  unfold mulD at e
  split at e
  · obtain ⟨hc, rfl⟩ := gd_some e
    cases (show _ = _ from rx); cases (show _ = _ from ry)
    rcases hc with hc | hc | hc
    · exact .inl ⟨_, _, rfl, rfl, .inl hc, fin_same S z rfl⟩
    · exact .inl ⟨_, _, rfl, rfl, .inr hc, fin_same S z rfl⟩
    · exact .inr ⟨_, _, rfl, rfl, hc, fin_same S z rfl⟩
  · cases e
theorem ve_fdiv (ha : VE X G a ta) (hb : VE X G b tb) : VE X G (.BinOp a .FloorDiv b pos) (eo2 fdivD ta tb) := by
  refine ve_bin op_fdivW (rd_int fun M x y d e => ?_) ha hb
  unfold fdivD at e
  split at e
  · obtain ⟨hc, rfl⟩ := gd_some e; exact ⟨_, _, rfl, rfl, hc, rfl⟩
  · cases e
theorem ve_mod (ha : VE X G a ta) (hb : VE X G b tb) : VE X G (.BinOp a .Mod b pos) (eo2 modD ta tb) := by
  refine ve_bin op_mod (rd_int fun M x y d e => ?_) ha hb
  unfold modD at e
  split at e
  · obtain ⟨hc, rfl⟩ := gd_some e; exact ⟨_, _, rfl, rfl, hc, rfl⟩
  · cases e
theorem ve_pow (ha : VE X G a ta) (hb : VE X G b tb) : VE X G (.BinOp a .Pow b pos) (eo2 powD ta tb) := by
  refine ve_bin op_pow (rd_int fun M x y d e => ?_) ha hb
  unfold powD at e
  split at e
  · obtain ⟨hc, rfl⟩ := gd_some e; exact ⟨_, _, rfl, rfl, hc, rfl⟩
  · cases e
theorem ve_shl (ha : VE X G a ta) (hb : VE X G b tb) : VE X G (.BinOp a .LShift b pos) (eo2 shlD ta tb) := by
  refine ve_bin op_shl (rd_int fun M x y d e => ?_) ha hb
  unfold shlD at e
  split at e
  · obtain ⟨hc, rfl⟩ := gd_some e; exact ⟨_, _, rfl, rfl, hc, rfl⟩
  · cases e
theorem ve_shr (ha : VE X G a ta) (hb : VE X G b tb) : VE X G (.BinOp a .RShift b pos) (eo2 shrD ta tb) := by
  refine ve_bin op_shr (rd_int fun M x y d e => ?_) ha hb
  unfold shrD at e
  split at e
  · obtain ⟨hc, rfl⟩ := gd_some e; exact ⟨_, _, rfl, rfl, hc, rfl⟩
  · cases e
theorem ve_neg (ha : VE X G a ta) : VE X G (.UnaryOp .USub a pos) (eo1 negD ta) := by
  refine ve_un un_neg ?_ ha
  intro G δ M ι σ H x v d S rx e Q z
  unfold negD at e
  split at e
  · cases e; cases (show _ = _ from rx)
    exact ⟨_, rfl, fin_same S z rfl⟩
  · cases e

/-! ### items -/
def ixD (M : Mem) (x y : Sv) : Option Sv := match y with
  | .d (.int i) => (match x with
    | .d (.str s) => (gd (s.length ≤ sizeLine) ()).bind fun _ => (atI s.cps.toList i).map fun c => .d (.str ⟨#[c]⟩)
    | x => (seqD M x).bind fun ds => (atI ds i).map .d)
  | _ => none
theorem rd_ix : Rd2 K (rIx K) ixD := by
  intro G δ M ι σ H x y v u d S rx ry e Q z
  unfold ixD at e
  split at e
  · cases (show _ = _ from ry)
    split at e
    · rename_i s
      cases (show _ = _ from rx)
      cases hq : gd (s.length ≤ sizeLine) () with
      | none => rw [hq] at e; cases e
      | some _ =>
        rw [hq] at e
        obtain ⟨hc, _⟩ := gd_some hq
        cases ha : atI s.cps.toList _ with
        | none => rw [ha] at e; cases e
        | some c =>
          rw [ha] at e; cases e
          exact .inr (.inr ⟨_, _, c, rfl, rfl, hc, ha, fin_same S z rfl⟩)
    · cases hs : seqD M x with
      | none => rw [hs] at e; cases e
      | some ds =>
        rw [hs] at e
        obtain ⟨a, xs, rfl, q, r⟩ := seq_of S rx hs
        obtain ⟨d', ha, rfl⟩ := Option.map_eq_some_iff.mp (show (atI ds _).map Sv.d = some d from e)
        · obtain ⟨w, e3, r3⟩ := r.atI ha
          rcases q with q | q
          · exact .inl ⟨a, xs, _, w, rfl, rfl, q, e3, fin_same (d := .d d') S z r3⟩
          · exact .inr (.inl ⟨a, xs, _, w, rfl, rfl, q, e3, fin_same (d := .d d') S z r3⟩)
  · cases e
theorem ve_idx (ha : VE X G a ta) (hb : VE X G b tb) (hs : PlainIx b := by first | exact fun _ _ => rfl) : VE X G (.Subscript a b pos) (eo2 ixD ta tb) := ve_ix ix_seq rd_ix ha hb hs
end
end VL
set_option Elab.async false
set_option linter.all false
set_option maxRecDepth 100000
set_option maxHeartbeats 4000000
namespace VL
open PySem PySem.Spec L2

/-! ### equality -/
mutual
def py : D → PyData
  | .non => .none
  | .bl b => .bool b
  | .int i => .int i
  | .str s => .str s
  | .tup ds => .tuple (pys ds)
  | .lst ds => .list (pys ds)
  | .scr _ => .none
  | .fn _ => .none
  | .ty _ => .none
def pys : List D → List PyData
  | [] => []
  | d :: ds => py d :: pys ds
end
mutual
/-- data alone -/
def noR : D → Bool
  | .tup ds => noRs ds
  | .lst ds => noRs ds
  | .scr _ => false
  | .fn _ => false
  | .ty _ => false
  | .non => true
  | .bl _ => true
  | .int _ => true
  | .str _ => true
def noRs : List D → Bool
  | [] => true
  | d :: ds => noR d && noRs ds
end
mutual
def eqvD : D → D → Bool
  | .non, .non => true
  | .bl a, .bl b => a == b
  | .bl a, .int j => (if a then 1 else 0) == j
  | .int i, .bl b => i == (if b then 1 else 0)
  | .int i, .int j => i == j
  | .str a, .str b => a == b
  | .tup a, .tup b => eqvDs a b
  | .lst a, .lst b => eqvDs a b
  | _, _ => false
def eqvDs : List D → List D → Bool
  | [], [] => true
  | a :: as, b :: bs => eqvD a b && eqvDs as bs
  | _, _ => false
end
mutual
theorem eqv_py : ∀ (x y : D), noR x = true → noR y = true → PyData.eqv (py x) (py y) = eqvD x y
  | .non, y, _, hy => by cases y <;> simp_all [py, eqvD, PyData.eqv, noR]
  | .bl _, y, _, hy => by cases y <;> simp_all [py, eqvD, PyData.eqv, noR]
  | .int _, y, _, hy => by cases y <;> simp_all [py, eqvD, PyData.eqv, noR]
  | .str _, y, _, hy => by cases y <;> simp_all [py, eqvD, PyData.eqv, noR]
  | .scr _, _, hx, _ => by simp [noR] at hx
  | .fn _, _, hx, _ => by simp [noR] at hx
  | .ty _, _, hx, _ => by simp [noR] at hx
  | .tup a, y, hx, hy => by
    cases y with
    | tup b =>
      simp only [py, eqvD, PyData.eqv]
      exact eqvs_py a b (by simpa [noR] using hx) (by simpa [noR] using hy)
    | _ => first | (simp [noR] at hy; done) | simp [py, eqvD, PyData.eqv]
  | .lst a, y, hx, hy => by
    cases y with
    | lst b =>
      simp only [py, eqvD, PyData.eqv]
      exact eqvs_py a b (by simpa [noR] using hx) (by simpa [noR] using hy)
    | _ => first | (simp [noR] at hy; done) | simp [py, eqvD, PyData.eqv]
theorem eqvs_py : ∀ (x y : List D), noRs x = true → noRs y = true → PyData.eqvAll (pys x) (pys y) = eqvDs x y
  | [], [], _, _ => by simp [pys, eqvDs, PyData.eqvAll]
  | [], _ :: _, _, _ => by simp [pys, eqvDs, PyData.eqvAll]
  | _ :: _, [], _, _ => by simp [pys, eqvDs, PyData.eqvAll]
  | a :: as, b :: bs, hx, hy => by
    simp only [noRs, Bool.and_eq_true] at hx hy
    simp only [pys, eqvDs, PyData.eqvAll, eqv_py a b hx.1 hy.1, eqvs_py as bs hx.2 hy.2]
end
/-- the top resolved -/
def rsv (M : Mem) : Sv → D
  | .ref n => match cellL M[n]? with
    | some ds => .lst ds
    | none => .ty ""
  | .bor ds => .lst ds
  | .d d => d
/-- data that == may look at -/
def okE (d : D) : Bool := noR d && SeqAt.shaped (py d)
def atomD : D → Bool
  | .non => true | .bl _ => true | .int _ => true | .str _ => true | _ => false
def eqD (M : Mem) : Sv → Sv → Option Sv
  | .d (.int i), .d (.int j) => some (.d (.bl (decide (i = j))))
  | .d (.str i), .d (.str j) => some (.d (.bl (decide (i = j))))
  | .d (.bl i), .d (.bl j) => some (.d (.bl (decide (i = j))))
  | .d .non, .d .non => some (.d (.bl true))
  | .d (.int _), .d (.str _) => some (.d (.bl false))
  | .d (.str _), .d (.int _) => some (.d (.bl false))
  | x, y => gd (okE (rsv M x) = true ∧ okE (rsv M y) = true) (.d (.bl (eqvD (rsv M x) (rsv M y))))
def notD : Sv → Sv
  | .d (.bl b) => .d (.bl (!b))
  | d => d
def neD (M : Mem) (x y : Sv) : Option Sv := (eqD M x y).map notD
section
variable {K : PySem.W.Frag} {G : Gd} {δ : DS} {M : Mem} {ι : Ix} {σ : L2.St} {H : Hp} {N : Bool → Addr → Prop}
mutual
theorem RD.dp : ∀ (d : D) (v : V), RD K N H ι d v → noR d = true → Dp K H v (py d)
  | .non, _, h, _ => by cases (show _ = _ from h); exact .non
  | .bl _, _, h, _ => by cases (show _ = _ from h); exact .bl _
  | .int _, _, h, _ => by cases (show _ = _ from h); exact .int _
  | .str _, _, h, _ => by cases (show _ = _ from h); exact .str _
  | .scr _, _, _, h => by simp [noR] at h
  | .fn _, _, _, h => by simp [noR] at h
  | .ty _, _, _, h => by simp [noR] at h
  | .tup ds, _, h, n => by
    obtain ⟨a, xs, rfl, q, _, r⟩ := h
    simp only [py]
    exact .tup (tup_sq q) (RDs.dp ds xs r (by simpa [noR] using n))
  | .lst ds, _, h, n => by
    obtain ⟨a, xs, rfl, q, _, _, _, r⟩ := h
    simp only [py]
    exact .lst (SqL.of q) (RDs.dp ds xs r (by simpa [noR] using n))
theorem RDs.dp : ∀ (ds : List D) (vs : List V), RDs K N H ι ds vs → noRs ds = true → DpAll K H vs (pys ds)
  | [], _, h, _ => by cases (show _ = _ from h); simp only [pys]; exact .nil
  | d :: ds, _, h, n => by
    obtain ⟨x, r, rfl, h1, h2⟩ := h
    simp only [noRs, Bool.and_eq_true] at n
    simp only [pys]
    exact .cons (RD.dp d x h1 n.1) (RDs.dp ds r h2 n.2)
end
theorem rsv_dp {d : Sv} {v : V} (S : Sr K G δ M ι σ H) (h : RS K G.N H ι d v) (n : noR (rsv M d) = true) : Dp K H v (py (rsv M d)) := by
  cases d with
  | ref k =>
    unfold rsv at n ⊢
    cases q : cellL M[k]? with
    | none => simp only [q] at n; simp [noR] at n
    | some ds =>
      simp only [q] at n ⊢
      obtain ⟨a, rfl, hn, xs, hH, _, r⟩ := S.mem.at h (cellL_some q) (fun z => nomatch z)
      simp only [py]
      exact .lst (SqL.of hH) (RDs.dp ds xs r (by simpa [noR] using n))
  | bor ds =>
    obtain ⟨a, xs, rfl, q, _, _, _, r⟩ := h
    simp only [rsv, py]
    exact .lst (SqL.of q) (RDs.dp ds xs r (by simpa [rsv, noR] using n))
  | d d => exact RD.dp _ v h n
theorem okE_and {d : D} (h : okE d = true) : noR d = true ∧ SeqAt.shaped (py d) = true := by
  unfold okE at h; simpa using h
def rEqX (K : PySem.W.Frag) : R2 := fun x y H Q => (rEq x y H Q) ∨ rEqD K x y H Q
theorem rd_eq : Rd2 K (rEqX K) eqD := by
  intro G δ M ι σ H x y v u d S rx ry e Q z
  unfold eqD at e
  split at e
  · cases e; cases (show _ = _ from rx); cases (show _ = _ from ry)
    refine .inl ⟨rfl, fin_same S z ?_⟩
    show _ = _; simp
  · cases e; cases (show _ = _ from rx); cases (show _ = _ from ry)
    refine .inl ⟨rfl, fin_same S z ?_⟩
    show _ = _; simp
  · cases e; cases (show _ = _ from rx); cases (show _ = _ from ry)
    refine .inl ⟨rfl, fin_same S z ?_⟩
    show _ = _; simp
  · cases e; cases (show _ = _ from rx); cases (show _ = _ from ry)
    exact .inl ⟨rfl, fin_same S z rfl⟩
  · cases e; cases (show _ = _ from rx); cases (show _ = _ from ry)
    exact .inl ⟨rfl, fin_same S z rfl⟩
  · cases e; cases (show _ = _ from rx); cases (show _ = _ from ry)
    exact .inl ⟨rfl, fin_same S z rfl⟩
  · obtain ⟨⟨hx, hy⟩, rfl⟩ := gd_some e
    obtain ⟨nx, sx⟩ := okE_and hx
    obtain ⟨ny, sy⟩ := okE_and hy
    exact .inr ⟨_, _, rsv_dp S rx nx, rsv_dp S ry ny, sx, sy, fin_same S z (by rw [eqv_py _ _ nx ny]; rfl)⟩
def rNeX (K : PySem.W.Frag) : R2 := fun x y H Q => (rNe x y H Q) ∨ rNeD K x y H Q
theorem eqD_bl {x y d : Sv} (h : eqD M x y = some d) : ∃ b, d = .d (.bl b) := by
  unfold eqD at h
  split at h
  all_goals first | (cases h; exact ⟨_, rfl⟩) | (obtain ⟨_, rfl⟩ := gd_some h; exact ⟨_, rfl⟩)
theorem rd_ne : Rd2 K (rNeX K) neD := by
  intro G δ M ι σ H x y v u d S rx ry e Q z
  unfold neD at e
  cases q : eqD M x y with
  | none => rw [q] at e; cases e
  | some d' =>
    rw [q] at e
    obtain ⟨b, rfl⟩ := eqD_bl q
    have hd : d = .d (.bl (!b)) := by simpa [notD] using e.symm
    subst hd
    unfold eqD at q
    split at q
    · cases q; cases (show _ = _ from rx); cases (show _ = _ from ry)
      refine .inl ⟨rfl, fin_same S z ?_⟩
      show _ = _; simp
    · cases q; cases (show _ = _ from rx); cases (show _ = _ from ry)
      refine .inl ⟨rfl, fin_same S z ?_⟩
      show _ = _; simp
    · cases q; cases (show _ = _ from rx); cases (show _ = _ from ry)
      refine .inl ⟨rfl, fin_same S z ?_⟩
      show _ = _; simp
    · cases q; cases (show _ = _ from rx); cases (show _ = _ from ry)
      exact .inl ⟨rfl, fin_same S z rfl⟩
    · cases q; cases (show _ = _ from rx); cases (show _ = _ from ry)
      exact .inl ⟨rfl, fin_same S z rfl⟩
    · cases q; cases (show _ = _ from rx); cases (show _ = _ from ry)
      exact .inl ⟨rfl, fin_same S z rfl⟩
    · obtain ⟨⟨hx, hy⟩, hq⟩ := gd_some q
      cases hq
      obtain ⟨nx, sx⟩ := okE_and hx
      obtain ⟨ny, sy⟩ := okE_and hy
      exact .inr ⟨_, _, rsv_dp S rx nx, rsv_dp S ry ny, sx, sy, fin_same S z (by rw [eqv_py _ _ nx ny]; rfl)⟩
end
end VL
set_option Elab.async false
set_option linter.all false
set_option maxRecDepth 100000
set_option maxHeartbeats 4000000
namespace VL
open PySem PySem.Spec L2

/-! ### order, in, is -/
def ltD (_ : Mem) : Sv → Sv → Option Sv
  | .d (.int i), .d (.int j) => some (.d (.bl (decide (i < j))))
  | _, _ => none
def leD (_ : Mem) : Sv → Sv → Option Sv
  | .d (.int i), .d (.int j) => some (.d (.bl (decide (i ≤ j))))
  | _, _ => none
def gtD (_ : Mem) : Sv → Sv → Option Sv
  | .d (.int i), .d (.int j) => some (.d (.bl (decide (j < i))))
  | _, _ => none
def geD (_ : Mem) : Sv → Sv → Option Sv
  | .d (.int i), .d (.int j) => some (.d (.bl (decide (j ≤ i))))
  | _, _ => none
def isTupD : Sv → Bool
  | .d (.tup _) => true
  | _ => false
def inL (M : Mem) (x y : Sv) : Option Bool := match x with
  | .d x => (seqD M y).bind fun ds => gd ((atomD x = true ∧ ds.all atomD = true) ∨ (okE x = true ∧ isTupD y = false ∧ okE (.lst ds) = true)) (ds.any fun z => eqvD z x)
  | _ => none
def blS (b : Bool) : Sv := .d (.bl b)
def inD (M : Mem) (x y : Sv) : Option Sv := (inL M x y).map blS
def ninD (M : Mem) (x y : Sv) : Option Sv := (inL M x y).map fun b => blS (!b)
def nonB : Sv → Bool
  | .d .non => true
  | _ => false
def isD (_ : Mem) : Sv → Sv → Option Sv
  | x, .d .non => some (.d (.bl (nonB x)))
  | .d (.bl a), .d (.bl b) => some (.d (.bl (decide (a = b))))
  | _, _ => none
def isntD (_ : Mem) : Sv → Sv → Option Sv
  | x, .d .non => some (.d (.bl (!nonB x)))
  | .d (.bl a), .d (.bl b) => some (.d (.bl (!decide (a = b))))
  | _, _ => none
section
variable {K : PySem.W.Frag} {X : Cx} {G : Gd} {e a b : Expr} {es : List Expr} {pos : Pos} {ta tb : TE'} {N : Bool → Addr → Prop} {H : Hp} {ι : Ix}
theorem rd_cmpI {g : Int → Int → Bool} {f : Mem → Sv → Sv → Option Sv} (hf : ∀ M x y d, f M x y = some d → ∃ i j, x = .d (.int i) ∧ y = .d (.int j) ∧ d = .d (.bl (g i j))) : Rd2 K (rI0 fun i j => .bl (g i j)) f := by
  intro G δ M ι σ H x y v u d S rx ry e Q z
  obtain ⟨i, j, rfl, rfl, rfl⟩ := hf _ _ _ _ e
  cases (show _ = _ from rx); cases (show _ = _ from ry)
  exact ⟨_, _, rfl, rfl, fin_same S z rfl⟩
theorem rd_lt : Rd2 K (rI0 fun i j => .bl (decide (i < j))) ltD := rd_cmpI fun M x y d e => by
  unfold ltD at e
  split at e
  · cases e; exact ⟨_, _, rfl, rfl, rfl⟩
  · cases e
theorem rd_le : Rd2 K (rI0 fun i j => .bl (decide (i ≤ j))) leD := rd_cmpI fun M x y d e => by
  unfold leD at e
  split at e
  · cases e; exact ⟨_, _, rfl, rfl, rfl⟩
  · cases e
theorem rd_gt : Rd2 K (rI0 fun i j => .bl (decide (j < i))) gtD := rd_cmpI fun M x y d e => by
  unfold gtD at e
  split at e
  · cases e; exact ⟨_, _, rfl, rfl, rfl⟩
  · cases e
theorem rd_ge : Rd2 K (rI0 fun i j => .bl (decide (j ≤ i))) geD := rd_cmpI fun M x y d e => by
  unfold geD at e
  split at e
  · cases e; exact ⟨_, _, rfl, rfl, rfl⟩
  · cases e
theorem atom_flat {d : D} {v : V} (h : RD K N H ι d v) (a : atomD d = true) : flatV v = true := by
  cases d with
  | non => cases (show _ = _ from h); rfl
  | bl b => cases (show _ = _ from h); rfl
  | int b => cases (show _ = _ from h); rfl
  | str b => cases (show _ = _ from h); rfl
  | _ => cases (show false = true from a)
theorem atom_eqV {d d' : D} {v v' : V} (h : RD K N H ι d v) (h' : RD K N H ι d' v') (a : atomD d = true) (a' : atomD d' = true) : eqV v v' = eqvD d d' := by
  cases d with
  | non => cases (show _ = _ from h); cases d' <;> first | (cases (show false = true from a')) | (cases (show _ = _ from h'); rfl)
  | bl b => cases (show _ = _ from h); cases d' <;> first | (cases (show false = true from a')) | (cases (show _ = _ from h'); rfl)
  | int b => cases (show _ = _ from h); cases d' <;> first | (cases (show false = true from a')) | (cases (show _ = _ from h'); rfl)
  | str b => cases (show _ = _ from h); cases d' <;> first | (cases (show false = true from a')) | (cases (show _ = _ from h'); rfl)
  | _ => cases (show false = true from a)
theorem atoms_in {x : D} {v : V} (hx : RD K N H ι x v) (ax : atomD x = true) : ∀ {ds : List D} {vs : List V}, RDs K N H ι ds vs → ds.all atomD = true → vs.all flatV = true ∧ inV v vs = ds.any fun z => eqvD z x
  | [], _, h, _ => by cases (show _ = _ from h); exact ⟨rfl, rfl⟩
  | d :: ds, _, h, a => by
    obtain ⟨y, r, rfl, h1, h2⟩ := h
    rw [List.all_cons, Bool.and_eq_true] at a
    obtain ⟨i1, i2⟩ := atoms_in hx ax h2 a.2
    refine ⟨by rw [List.all_cons, atom_flat h1 a.1, i1]; rfl, ?_⟩
    unfold inV at i2 ⊢
    rw [List.any_cons, List.any_cons, i2, atom_eqV h1 hx a.1 ax]
def rInX (K : PySem.W.Frag) (neg : Bool) : R2 := fun x y H Q => rIn K neg x y H Q ∨ (if neg then rNotInD K else rInD K) x y H Q
theorem any_py {x : D} (nx : noR x = true) : ∀ {ds : List D}, noRs ds = true → (pys ds).any (fun z => PyData.eqv z (py x)) = ds.any fun z => eqvD z x
  | [], _ => by simp [pys]
  | d :: ds, h => by
    simp only [noRs, Bool.and_eq_true] at h
    simp only [pys, List.any_cons, any_py nx h.2, eqv_py d x h.1 nx]
theorem inL_rd {neg : Bool} {δ : DS} {M : Mem} {σ : L2.St} {x y : Sv} {v u : V} {c : Bool} {Q : VK} (S : Sr K G δ M ι σ H) (rx : RS K G.N H ι x v) (ry : RS K G.N H ι y u) (e : inL M x y = some c) (q : Q (.bl (if neg then !c else c)) H) : rInX K neg v u H Q := by
  cases x with
  | ref n => cases e
  | bor n => cases e
  | d x =>
  simp only [inL] at e
  cases hs : seqD M y with
  | none => rw [hs] at e; cases e
  | some ds =>
    rw [hs] at e
    obtain ⟨hc, hb⟩ := gd_some (show gd _ _ = some c from e)
    obtain ⟨a, xs, rfl, hq, r⟩ := seq_of S ry hs
    rcases hc with ⟨ax, ads⟩ | ⟨ox, ty, ods⟩
    · obtain ⟨f1, f2⟩ := atoms_in (show RD K G.N H ι x v from rx) ax r ads
      refine .inl ⟨a, xs, rfl, hq, atom_flat (show RD K G.N H ι x v from rx) ax, f1, ?_⟩
      rw [f2, hb]; exact q
    · obtain ⟨nx, sx⟩ := okE_and ox
      obtain ⟨ny, sy⟩ := okE_and ods
      simp only [noR] at ny
      have hl : Dp K H (.ref a) (.list (pys ds)) := by
        cases y with
        | ref n =>
          obtain ⟨a', e1, hn, xs', hH, _, r'⟩ := S.mem.at ry (cellL_some (show cellL M[n]? = some ds from hs)) (fun z => nomatch z)
          cases e1
          exact .lst (SqL.of hH) (RDs.dp ds xs' r' ny)
        | bor es =>
          cases hs
          obtain ⟨a', xs', e1, hH, _, _, _, r'⟩ := ry
          cases e1
          exact .lst (SqL.of hH) (RDs.dp ds xs' r' ny)
        | d y =>
          cases y with
          | tup es => cases (show true = false from ty)
          | lst es => cases hs; exact RD.dp (.lst _) _ ry (by simpa [noR] using ny)
          | scr ns =>
            cases hs
            obtain ⟨a', e1, q', _⟩ := ry
            cases e1
            have hsq : SqL K H a (ns.map V.int) := by
              rcases q' with ⟨o, q', _⟩ | q'
              · exact .inl (.inr ⟨o, q'⟩)
              · exact .inr q'
            exact .lst hsq (RDs.dp (N := G.N) (ι := ι) _ _ (RDs.of_ints ns) ny)
          | _ => cases hs
      have hq' : Q (.bl (if neg then !((pys ds).any fun z => PyData.eqv z (py x)) else (pys ds).any fun z => PyData.eqv z (py x))) H := by
        rw [any_py nx ny, hb]; exact q
      refine .inr ?_
      cases neg with
      | false => exact ⟨_, _, RD.dp x v rx nx, hl, sx, by simpa [py] using sy, hq'⟩
      | true => exact ⟨_, _, RD.dp x v rx nx, hl, sx, by simpa [py] using sy, hq'⟩
theorem rd_in : Rd2 K (rInX K false) inD := by
  intro G δ M ι σ H x y v u d S rx ry e Q z
  unfold inD at e
  cases q : inL M x y with
  | none => rw [q] at e; cases e
  | some c => rw [q] at e; cases e; exact inL_rd S rx ry q (fin_same S z rfl)
theorem rd_nin : Rd2 K (rInX K true) ninD := by
  intro G δ M ι σ H x y v u d S rx ry e Q z
  unfold ninD at e
  cases q : inL M x y with
  | none => rw [q] at e; cases e
  | some c => rw [q] at e; cases e; exact inL_rd S rx ry q (fin_same S z rfl)
theorem op_inX (hu : X.A.units + 65 < cLine) : OpR X (compareOp .In) (rInX X.K false) := op_in_seq.or (op_inD hu)
theorem op_ninX (hu : X.A.units + 65 < cLine) : OpR X (compareOp .NotIn) (rInX X.K true) := op_notIn_seq.or (op_notInD hu)
theorem op_eqX (hu : X.A.units + 64 < cLine) : OpR X (compareOp .Eq) (rEqX X.K) := op_eq.or (op_eqD hu)
theorem op_neX (hu : X.A.units + 64 < cLine) : OpR X (compareOp .NotEq) (rNeX X.K) := op_ne.or (op_neD hu)
theorem nonB_of {d : Sv} {v : V} (h : RS K N H ι d v) : decide (v = .non) = nonB d := by
  cases d with
  | ref n => obtain ⟨a, rfl, _⟩ := h; rfl
  | bor ds => obtain ⟨a, xs, rfl, _⟩ := h; rfl
  | d d =>
  cases d with
  | non => cases (show _ = _ from h); rfl
  | bl b => cases (show _ = _ from h); rfl
  | int b => cases (show _ = _ from h); rfl
  | str b => cases (show _ = _ from h); rfl
  | fn b => cases (show _ = _ from h); rfl
  | ty b => cases (show _ = _ from h); rfl
  | tup ds => obtain ⟨a, xs, rfl, _⟩ := h; rfl
  | lst ds => obtain ⟨a, xs, rfl, _⟩ := h; rfl
  | scr ds => obtain ⟨a, rfl, _⟩ := h; rfl
def rIsX : R2 := fun x y H Q => (y = .non ∧ Q (.bl (decide (x = .non))) H) ∨ rIsB x y H Q
def rIsntX : R2 := fun x y H Q => (y = .non ∧ Q (.bl (!decide (x = .non))) H) ∨ rNotB x y H Q
theorem op_isX : OpR X (compareOp .Is) rIsX := op_isN.or op_isBl
theorem op_isntX : OpR X (compareOp .IsNot) rIsntX := op_notN.or op_notBl
theorem rd_is : Rd2 K rIsX isD := by
  intro G δ M ι σ H x y v u d S rx ry e Q z
  unfold isD at e
  split at e
  · cases e; cases (show _ = _ from ry)
    refine .inl ⟨rfl, ?_⟩
    rw [nonB_of rx]; exact fin_same S z rfl
  · cases e; cases (show _ = _ from rx); cases (show _ = _ from ry)
    exact .inr ⟨_, _, rfl, rfl, fin_same S z rfl⟩
  · cases e
theorem rd_isnt : Rd2 K rIsntX isntD := by
  intro G δ M ι σ H x y v u d S rx ry e Q z
  unfold isntD at e
  split at e
  · cases e; cases (show _ = _ from ry)
    refine .inl ⟨rfl, ?_⟩
    rw [nonB_of rx]; exact fin_same S z rfl
  · cases e; cases (show _ = _ from rx); cases (show _ = _ from ry)
    exact .inr ⟨_, _, rfl, rfl, fin_same S z rfl⟩
  · cases e
end

/-! ### isinstance -/
def tyN (M : Mem) : Sv → Option String
  | .d .non => some "NoneType"
  | .d (.bl _) => some "bool"
  | .d (.int _) => some "int"
  | .d (.str _) => some "str"
  | .d (.tup _) => some "tuple"
  | .d (.lst _) => some "list"
  | .bor _ => some "list"
  | .d (.scr _) => some "list"
  | .ref n => match M[n]? with
    | some (.lst _) => some "list"
    | some (.dk _) => some "dict"
    | _ => none
  | _ => none
/-- whether a thing of the first type is one of the second -/
def subT (a t : String) : Bool := decide (a = t) || (decide (a = "bool") && decide (t = "int"))
def known (t : String) : Bool := decide (t = "int") || decide (t = "bool") || decide (t = "str") || decide (t = "tuple") || decide (t = "list") || decide (t = "dict")
def isiD (M : Mem) : List Sv → Option Sv
  | [x, .d (.ty t)] => (tyN M x).bind fun a => gd (known t = true) (.d (.bl (subT a t)))
  | [x, .d (.tup [.ty t, .ty u])] => (tyN M x).bind fun a => gd (known t = true ∧ known u = true) (.d (.bl (subT a t || subT a u)))
  | _ => none
section
variable {K : PySem.W.Frag} {X : Cx} {G : Gd} {e a b : Expr} {es : List Expr} {pos : Pos} {ta tb : TE'} {N : Bool → Addr → Prop} {H : Hp} {ι : Ix}
theorem kit_all : ∀ a ∈ ["NoneType", "bool", "int", "str", "tuple", "list", "dict"], ∀ t ∈ ["int", "bool", "str", "tuple", "list", "dict"], kitB a t = some (subT a t) := by decide +kernel
theorem known_mem {t : String} (h : known t = true) : t ∈ ["int", "bool", "str", "tuple", "list", "dict"] := by
  unfold known at h
  simp only [Bool.or_eq_true, decide_eq_true_eq] at h
  simp only [List.mem_cons, List.not_mem_nil, or_false]
  rcases h with ((((h | h) | h) | h) | h) | h <;> simp [h]
theorem ty_of {δ : DS} {M : Mem} {σ : L2.St} {d : Sv} {v : V} {t : String} (S : Sr K G δ M ι σ H) (h : RS K G.N H ι d v) (e : tyN M d = some t) : TyX K H v (.type t) ∧ t ∈ ["NoneType", "bool", "int", "str", "tuple", "list", "dict"] := by
  cases d with
  | ref n =>
    simp only [tyN] at e
    split at e
    · rename_i ds hM
      cases e
      obtain ⟨a, rfl, hn, xs, q, _⟩ := S.mem.at h hM (fun z => nomatch z)
      exact ⟨.base (.lst q), by decide⟩
    · rename_i ds hM
      cases e
      obtain ⟨a, rfl, hn, xs, q, _⟩ := S.mem.at h hM (fun z => nomatch z)
      exact ⟨.base (.dK q), by decide⟩
    · cases e
  | bor ds => cases e; obtain ⟨a, xs, rfl, q, _⟩ := h; exact ⟨.base (.lst q), by decide⟩
  | d d =>
  cases d with
  | non => cases e; cases (show _ = _ from h); exact ⟨.base .non, by decide⟩
  | bl b => cases e; cases (show _ = _ from h); exact ⟨.base (.bl _), by decide⟩
  | int b => cases e; cases (show _ = _ from h); exact ⟨.base (.int _), by decide⟩
  | str b => cases e; cases (show _ = _ from h); exact ⟨.base (.str _), by decide⟩
  | tup ds =>
    cases e
    obtain ⟨a, xs, rfl, q, _⟩ := h
    rcases q with ⟨q, _⟩ | ⟨o, its, n, q, hc, _⟩
    · exact ⟨.base (.tup q), by decide⟩
    · exact ⟨.kTuple q hc, by decide⟩
  | lst ds => cases e; obtain ⟨a, xs, rfl, q, _⟩ := h; exact ⟨.base (.lst q), by decide⟩
  | scr ns =>
    cases e
    obtain ⟨a, rfl, ⟨o, q, _⟩ | ⟨o, its, n, q, hc, _⟩, _⟩ := h
    · exact ⟨.base (.frz q), by decide⟩
    · exact ⟨.kList q hc, by decide⟩
  | fn b => cases e
  | ty b => cases e
theorem rd_isi : RdN K (fun xs H Q => (fun xs H Q => rIsi K xs H Q ∨ rIsiT K xs H Q) xs H Q ∨ rIsiK K xs H Q) isiD := by
  intro G δ M ι σ H xs vs d S rx e Q z
  unfold isiD at e
  split at e
  · rename_i x t
    obtain ⟨v, r, rfl, h1, h2⟩ := rx
    obtain ⟨u, r', rfl, h3, h4⟩ := h2
    cases (show _ = _ from h3); cases (show _ = _ from h4)
    cases q : tyN M x with
    | none => rw [q] at e; cases e
    | some a =>
      rw [q] at e
      obtain ⟨hc, rfl⟩ := gd_some (show gd _ _ = some d from e)
      obtain ⟨h5, h6⟩ := ty_of S h1 q
      exact .inl (.inl ⟨v, .ty t, _, _, _, rfl, .ty t, h5, kit_ty (kit_all a h6 t (known_mem hc)), fin_same S z rfl⟩)
  · rename_i x t u
    obtain ⟨v, r, rfl, h1, h2⟩ := rx
    obtain ⟨w, r', rfl, h3, h4⟩ := h2
    cases (show _ = _ from h4)
    obtain ⟨tp, cs, rfl, hq, _, h7⟩ := h3
    obtain ⟨c1, r1, rfl, h8, h9⟩ := h7
    obtain ⟨c2, r2, rfl, h10, h11⟩ := h9
    cases (show _ = _ from h11); cases (show _ = _ from h8); cases (show _ = _ from h10)
    cases q : tyN M x with
    | none => rw [q] at e; cases e
    | some a =>
      rw [q] at e
      obtain ⟨⟨hc, hc2⟩, rfl⟩ := gd_some (show gd _ _ = some d from e)
      obtain ⟨h5, h6⟩ := ty_of S h1 q
      have hk : PySem.W.kitAny K (.type a) [.type t, .type u] = some (subT a t || subT a u) := by
        refine kitAny_cons (kit_ty (kit_all a h6 t (known_mem hc))) (fun h => ?_) fun h => by rw [h]; rfl
        refine kitAny_cons (kit_ty (kit_all a h6 u (known_mem hc2))) (fun h' => ?_) fun h' => by rw [h, h']; rfl
        rw [h, h']; exact kitAny_nil
      rcases hq with ⟨hq, _⟩ | ⟨o, its, n, hq, hcl, hda, hsz, hv⟩
      · exact .inl (.inr ⟨v, tp, _, _, _, _, rfl, hq, .cons (.ty t) (.cons (.ty u) .nil), h5, hk, fin_same S z rfl⟩)
      · obtain ⟨oc, od, dt, sl⟩ := o
        simp only at hcl hda
        subst hcl hda
        obtain ⟨u1, u2, e3, r1, r2⟩ := vals2 hv
        cases (show _ = _ from r1); cases (show _ = _ from r2)
        exact .inr ⟨v, tp, od, [.type t, .type u], n, sl, _, _, rfl, by rw [← e3]; exact hq, h5, hk, fin_same S z rfl⟩
  · cases e
end
end VL
set_option Elab.async false
set_option linter.all false
set_option maxRecDepth 100000
set_option maxHeartbeats 4000000
namespace VL
open PySem PySem.Spec L2

/-! ### built-ins by values -/
def lenOf (M : Mem) (d : Sv) : Option Int := match d with
  | .d (.str s) => gd (s.length ≤ sizeLine) (s.length : Int)
  | .ref n => (match M[n]? with
    | some (.lst ds) => some (ds.length : Int)
    | some (.dk kvs) => some (kvs.length : Int)
    | _ => none)
  | d => (seqD M d).map fun ds => (ds.length : Int)
def intS (i : Int) : Sv := .d (.int i)
def lenD (M : Mem) : List Sv → Option Sv
  | [d] => (lenOf M d).map intS
  | _ => none
def absD (_ : Mem) : List Sv → Option Sv
  | [.d (.int i)] => some (.d (.int (if i < 0 then -i else i)))
  | _ => none
def intsOf : List D → Option (List Int)
  | [] => some []
  | .int i :: ds => (intsOf ds).map (i :: ·)
  | _ => none
def blsOf : List D → Option (List Bool)
  | [] => some []
  | .bl i :: ds => (blsOf ds).map (i :: ·)
  | _ => none
/-- the items of a list (no tuple) -/
def lstD (M : Mem) : Sv → Option (List D)
  | .d (.lst ds) => some ds
  | .bor ds => some ds
  | .d (.scr ns) => some (ns.map D.int)
  | .ref n => cellL M[n]?
  | _ => none
def minI : List Int → Int
  | [] => 0
  | [x] => x
  | x :: xs => let m := minI xs; if m < x then m else x
def maxI : List Int → Int
  | [] => 0
  | [x] => x
  | x :: xs => let m := maxI xs; if x < m then m else x
def minD (M : Mem) : List Sv → Option Sv
  | [.d (.int i), .d (.int j)] => some (.d (.int (if j < i then j else i)))
  | [d] => (lstD M d).bind fun ds => (intsOf ds).bind fun ns => gd (ns ≠ []) (intS (minI ns))
  | _ => none
def maxD (M : Mem) : List Sv → Option Sv
  | [.d (.int i), .d (.int j)] => some (.d (.int (if j > i then j else i)))
  | [d] => (lstD M d).bind fun ds => (intsOf ds).bind fun ns => gd (ns ≠ []) (intS (maxI ns))
  | _ => none
def intD (_ : Mem) : List Sv → Option Sv
  | [.d (.int i)] => some (.d (.int i))
  | [.d (.bl k)] => some (.d (.int (if k then 1 else 0)))
  | _ => none
def sumD (M : Mem) : List Sv → Option Sv
  | [d] => (lstD M d).bind fun ds => (intsOf ds).map fun ns => intS ns.sum
  | _ => none
def allD (M : Mem) : List Sv → Option Sv
  | [d] => (lstD M d).bind fun ds => (blsOf ds).map fun bs => blS (bs.all id)
  | _ => none
def anyD (M : Mem) : List Sv → Option Sv
  | [d] => (lstD M d).bind fun ds => (blsOf ds).map fun bs => blS (bs.any id)
  | _ => none
section
variable {K : PySem.W.Frag} {X : Cx} {G : Gd} {e a b : Expr} {es : List Expr} {pos : Pos} {ta tb : TE'} {N : Bool → Addr → Prop} {H : Hp} {ι : Ix}
theorem intsOf_some : ∀ {ds : List D} {ns : List Int}, intsOf ds = some ns → ds = ns.map .int
  | [], _, h => by cases h; rfl
  | .int i :: ds, ns, h => by
    simp only [intsOf] at h
    cases q : intsOf ds with
    | none => rw [q] at h; cases h
    | some ms => rw [q] at h; cases h; rw [intsOf_some q]; rfl
  | .non :: _, _, h => by cases h
  | .bl _ :: _, _, h => by cases h
  | .str _ :: _, _, h => by cases h
  | .tup _ :: _, _, h => by cases h
  | .lst _ :: _, _, h => by cases h
  | .scr _ :: _, _, h => by cases h
  | .fn _ :: _, _, h => by cases h
  | .ty _ :: _, _, h => by cases h
theorem blsOf_some : ∀ {ds : List D} {ns : List Bool}, blsOf ds = some ns → ds = ns.map .bl
  | [], _, h => by cases h; rfl
  | .bl i :: ds, ns, h => by
    simp only [blsOf] at h
    cases q : blsOf ds with
    | none => rw [q] at h; cases h
    | some ms => rw [q] at h; cases h; rw [blsOf_some q]; rfl
  | .non :: _, _, h => by cases h
  | .int _ :: _, _, h => by cases h
  | .str _ :: _, _, h => by cases h
  | .tup _ :: _, _, h => by cases h
  | .lst _ :: _, _, h => by cases h
  | .scr _ :: _, _, h => by cases h
  | .fn _ :: _, _, h => by cases h
  | .ty _ :: _, _, h => by cases h
theorem intsOf_map (ns : List Int) : intsOf (ns.map .int) = some ns := by
  induction ns with
  | nil => rfl
  | cons n ns ih => simp [intsOf, ih]
theorem blsOf_map (ns : List Bool) : blsOf (ns.map .bl) = some ns := by
  induction ns with
  | nil => rfl
  | cons n ns ih => simp [blsOf, ih]
/-- a list's value and items -/
theorem lst_of {δ : DS} {M : Mem} {σ : L2.St} {d : Sv} {v : V} {ds : List D} (S : Sr K G δ M ι σ H) (h : RS K G.N H ι d v) (e : lstD M d = some ds) : ∃ a xs, v = .ref a ∧ SqL K H a xs ∧ RDs K G.N H ι ds xs := by
  cases d with
  | ref n =>
    obtain ⟨a, e1, hn, xs, q, _, r⟩ := S.mem.at h (cellL_some (show cellL M[n]? = some ds from e)) (fun z => nomatch z)
    exact ⟨a, xs, e1, SqL.of q, r⟩
  | bor es => cases e; obtain ⟨a, xs, e1, q, n, _, _, r⟩ := h; exact ⟨a, xs, e1, SqL.of q, r⟩
  | d d =>
    cases d with
    | lst es => cases e; obtain ⟨a, xs, e1, q, n, z, _, r⟩ := h; exact ⟨a, xs, e1, SqL.of q, r⟩
    | scr ns =>
      cases e
      obtain ⟨a, e1, ⟨o, q, n⟩ | q, _⟩ := h
      · exact ⟨a, _, e1, .inl (.inr ⟨o, q⟩), RDs.of_ints ns⟩
      · exact ⟨a, _, e1, .inr q, RDs.of_ints ns⟩
    | _ => cases e
theorem vint {i : Int} {v : V} (h : RD K N H ι (.int i) v) : v = .int i := h
theorem one_of {x : Sv} {vs : List V} (h : RSs K N H ι [x] vs) : ∃ v, vs = [v] ∧ RS K N H ι x v := by
  obtain ⟨v, r, rfl, h1, h2⟩ := h
  cases (show _ = _ from h2)
  exact ⟨v, rfl, h1⟩
theorem two_of {x y : Sv} {vs : List V} (h : RSs K N H ι [x, y] vs) : ∃ v u, vs = [v, u] ∧ RS K N H ι x v ∧ RS K N H ι y u := by
  obtain ⟨v, r, rfl, h1, h2⟩ := h
  obtain ⟨u, rfl, h3⟩ := one_of h2
  exact ⟨v, u, rfl, h1, h3⟩
def rLenX (K : PySem.W.Frag) : List V → Hp → VK → Prop := fun xs H Q => (∃ x n, xs = [x] ∧ LenV K x H n ∧ Q (.int n) H) ∨ (∃ a kvs, xs = [V.ref a] ∧ H a = some (.dK kvs) ∧ Q (.int kvs.length) H)
theorem call_lenX : CallR X (.builtin "len") (rLenX X.K) := call_len.or call_lenD
theorem rd_len : RdN K (rLenX K) lenD := by
  intro G δ M ι σ H xs vs d S rx e Q z
  unfold lenD at e
  split at e
  · rename_i x
    obtain ⟨v, rfl, r⟩ := one_of rx
    cases q : lenOf M x with
    | none => rw [q] at e; cases e
    | some n =>
      rw [q] at e; cases e
      unfold lenOf at q
      split at q
      · obtain ⟨hc, rfl⟩ := gd_some q
        cases (show _ = _ from r)
        exact .inl ⟨_, _, rfl, ⟨hc, rfl⟩, fin_same S z rfl⟩
      · split at q
        · rename_i ds hM
          cases q
          obtain ⟨a, rfl, hn, ys, hH, _, ry⟩ := S.mem.at r hM (fun z => nomatch z)
          refine .inl ⟨_, ys.length, rfl, .inl ⟨ys, SqL.of hH, rfl⟩, ?_⟩
          rw [← ry.length]; exact fin_same S z rfl
        · rename_i kvs hM
          cases q
          obtain ⟨a, rfl, hn, ws, hH, e1, ry⟩ := S.mem.at r hM (fun z => nomatch z)
          refine .inr ⟨a, ws, rfl, hH, ?_⟩
          have hl : kvs.length = ws.length := by simpa using congrArg List.length e1
          rw [← hl]; exact fin_same S z rfl
        · cases q
      · cases hs : seqD M x with
        | none => rw [hs] at q; cases q
        | some ds =>
          rw [hs] at q; cases q
          obtain ⟨a, ys, rfl, hq, ry⟩ := seq_of S r hs
          refine .inl ⟨_, ys.length, rfl, ?_, ?_⟩
          · rcases hq with hq | hq
            · exact .inl ⟨ys, hq, rfl⟩
            · exact .inr ⟨ys, hq, rfl⟩
          · rw [← ry.length]; exact fin_same S z rfl
  · cases e
theorem rd_abs : RdN K (fun xs H Q => ∃ i, xs = [V.int i] ∧ Q (.int (if i < 0 then -i else i)) H) absD := by
  intro G δ M ι σ H xs vs d S rx e Q z
  unfold absD at e
  split at e
  · cases e
    obtain ⟨v, rfl, r⟩ := one_of rx
    cases (show _ = _ from r)
    exact ⟨_, rfl, fin_same S z rfl⟩
  · cases e
theorem minI_cons {x y : Int} {ns : List Int} : minI (x :: y :: ns) = if minI (y :: ns) < x then minI (y :: ns) else x := rfl
theorem maxI_cons {x y : Int} {ns : List Int} : maxI (x :: y :: ns) = if x < maxI (y :: ns) then maxI (y :: ns) else x := rfl
theorem minI_mem : ∀ {ns : List Int}, ns ≠ [] → minI ns ∈ ns ∧ ∀ y ∈ ns, minI ns ≤ y
  | [], h => (h rfl).elim
  | [x], _ => ⟨by simp [minI], by simp [minI]⟩
  | x :: y :: ns, _ => by
    obtain ⟨h1, h2⟩ := minI_mem (ns := y :: ns) (by simp)
    rw [minI_cons]
    by_cases hc : (minI (y :: ns)) < x
    · rw [if_pos hc]
      refine ⟨List.mem_cons_of_mem _ h1, fun z hz => ?_⟩
      rcases List.mem_cons.mp hz with rfl | hz
      · omega
      · exact h2 z hz
    · rw [if_neg hc]
      refine ⟨List.mem_cons_self, fun z hz => ?_⟩
      rcases List.mem_cons.mp hz with rfl | hz
      · omega
      · have := h2 z hz; omega
theorem maxI_mem : ∀ {ns : List Int}, ns ≠ [] → maxI ns ∈ ns ∧ ∀ y ∈ ns, y ≤ maxI ns
  | [], h => (h rfl).elim
  | [x], _ => ⟨by simp [maxI], by simp [maxI]⟩
  | x :: y :: ns, _ => by
    obtain ⟨h1, h2⟩ := maxI_mem (ns := y :: ns) (by simp)
    rw [maxI_cons]
    by_cases hc : x < (maxI (y :: ns))
    · rw [if_pos hc]
      refine ⟨List.mem_cons_of_mem _ h1, fun z hz => ?_⟩
      rcases List.mem_cons.mp hz with rfl | hz
      · omega
      · exact h2 z hz
    · rw [if_neg hc]
      refine ⟨List.mem_cons_self, fun z hz => ?_⟩
      rcases List.mem_cons.mp hz with rfl | hz
      · omega
      · have := h2 z hz; omega
def rMinX (K : PySem.W.Frag) : List V → Hp → VK → Prop := fun xs H Q => (∃ i j, xs = [V.int i, .int j] ∧ Q (.int (if j < i then j else i)) H) ∨ rMin K xs H Q
def rMaxX (K : PySem.W.Frag) : List V → Hp → VK → Prop := fun xs H Q => (∃ i j, xs = [V.int i, .int j] ∧ Q (.int (if j > i then j else i)) H) ∨ rMax K xs H Q
theorem call_minX (hc : X.calm = true) : CallR X (.builtin "min") (rMinX X.K) := (call_min2 hc).or (cr_min hc)
theorem call_maxX (hc : X.calm = true) : CallR X (.builtin "max") (rMaxX X.K) := (call_max2 hc).or (cr_max hc)
theorem lints_of {δ : DS} {M : Mem} {σ : L2.St} {x d : Sv} {v : V} {f : List Int → Option Sv} (S : Sr K G δ M ι σ H) (r : RS K G.N H ι x v) (e : ((lstD M x).bind fun ds => (intsOf ds).bind f) = some d) :
    ∃ a ns, v = .ref a ∧ SqL K H a (ns.map V.int) ∧ f ns = some d := by
  cases q : lstD M x with
  | none => rw [q] at e; cases e
  | some ds =>
    rw [q] at e
    obtain ⟨a, xs, rfl, hs, ry⟩ := lst_of S r q
    cases qi : intsOf ds with
    | none => simp only [Option.bind_some, qi] at e; cases e
    | some ns =>
      simp only [Option.bind_some, qi] at e
      rw [intsOf_some qi] at ry
      rw [ry.ints] at hs
      exact ⟨a, ns, rfl, hs, e⟩
theorem lbls_of {δ : DS} {M : Mem} {σ : L2.St} {x d : Sv} {v : V} {f : List Bool → Option Sv} (S : Sr K G δ M ι σ H) (r : RS K G.N H ι x v) (e : ((lstD M x).bind fun ds => (blsOf ds).bind f) = some d) :
    ∃ a ns, v = .ref a ∧ SqL K H a (ns.map V.bl) ∧ f ns = some d := by
  cases q : lstD M x with
  | none => rw [q] at e; cases e
  | some ds =>
    rw [q] at e
    obtain ⟨a, xs, rfl, hs, ry⟩ := lst_of S r q
    cases qi : blsOf ds with
    | none => simp only [Option.bind_some, qi] at e; cases e
    | some ns =>
      simp only [Option.bind_some, qi] at e
      rw [blsOf_some qi] at ry
      rw [ry.bls] at hs
      exact ⟨a, ns, rfl, hs, e⟩
theorem rd_min : RdN K (rMinX K) minD := by
  intro G δ M ι σ H xs vs d S rx e Q z
  unfold minD at e
  split at e
  · cases e
    obtain ⟨v, u, rfl, r1, r2⟩ := two_of rx
    cases (show _ = _ from r1); cases (show _ = _ from r2)
    exact .inl ⟨_, _, rfl, fin_same S z rfl⟩
  · obtain ⟨v, rfl, r⟩ := one_of rx
    obtain ⟨a, ns, rfl, hs, e⟩ := lints_of S r e
    obtain ⟨hc, rfl⟩ := gd_some e
    refine .inr ⟨a, ns, rfl, hs, List.length_pos_iff.mpr hc, fun m hm hl => ?_⟩
    obtain ⟨h1, h2⟩ := minI_mem hc
    have : m = minI ns := by have := h2 m hm; have := hl _ h1; omega
    subst this
    exact fin_same S z rfl
  · cases e
theorem rd_max : RdN K (rMaxX K) maxD := by
  intro G δ M ι σ H xs vs d S rx e Q z
  unfold maxD at e
  split at e
  · cases e
    obtain ⟨v, u, rfl, r1, r2⟩ := two_of rx
    cases (show _ = _ from r1); cases (show _ = _ from r2)
    exact .inl ⟨_, _, rfl, fin_same S z rfl⟩
  · obtain ⟨v, rfl, r⟩ := one_of rx
    obtain ⟨a, ns, rfl, hs, e⟩ := lints_of S r e
    obtain ⟨hc, rfl⟩ := gd_some e
    refine .inr ⟨a, ns, rfl, hs, List.length_pos_iff.mpr hc, fun m hm hl => ?_⟩
    obtain ⟨h1, h2⟩ := maxI_mem hc
    have : m = maxI ns := by have := h2 m hm; have := hl _ h1; omega
    subst this
    exact fin_same S z rfl
  · cases e
theorem rd_intC : RdN K (fun xs H Q => (∃ i, xs = [V.int i] ∧ Q (.int i) H) ∨ ∃ k, xs = [V.bl k] ∧ Q (.int (if k then 1 else 0)) H) intD := by
  intro G δ M ι σ H xs vs d S rx e Q z
  unfold intD at e
  split at e
  · cases e
    obtain ⟨v, rfl, r⟩ := one_of rx
    cases (show _ = _ from r)
    exact .inl ⟨_, rfl, fin_same S z rfl⟩
  · cases e
    obtain ⟨v, rfl, r⟩ := one_of rx
    cases (show _ = _ from r)
    exact .inr ⟨_, rfl, fin_same S z rfl⟩
  · cases e
theorem rd_sum : RdN K (rSum K) sumD := by
  intro G δ M ι σ H xs vs d S rx e Q z
  unfold sumD at e
  split at e
  · obtain ⟨v, rfl, r⟩ := one_of rx
    obtain ⟨a, ns, rfl, hs, e⟩ := lints_of (f := fun ns => some (intS ns.sum)) S r (by simpa only [Option.map_eq_bind, Function.comp_def] using e)
    cases e
    exact ⟨a, ns, rfl, hs, fin_same S z rfl⟩
  · cases e
theorem rd_all : RdN K (rAll K) allD := by
  intro G δ M ι σ H xs vs d S rx e Q z
  unfold allD at e
  split at e
  · obtain ⟨v, rfl, r⟩ := one_of rx
    obtain ⟨a, ns, rfl, hs, e⟩ := lbls_of (f := fun ns => some (blS (ns.all id))) S r (by simpa only [Option.map_eq_bind, Function.comp_def] using e)
    cases e
    exact ⟨a, ns, rfl, hs, fin_same S z rfl⟩
  · cases e
theorem rd_any : RdN K (rAny K) anyD := by
  intro G δ M ι σ H xs vs d S rx e Q z
  unfold anyD at e
  split at e
  · obtain ⟨v, rfl, r⟩ := one_of rx
    obtain ⟨a, ns, rfl, hs, e⟩ := lbls_of (f := fun ns => some (blS (ns.any id))) S r (by simpa only [Option.map_eq_bind, Function.comp_def] using e)
    cases e
    exact ⟨a, ns, rfl, hs, fin_same S z rfl⟩
  · cases e
end

/-! ### truth, tests -/
def truth (M : Mem) : Sv → Option Bool
  | .d .non => some false
  | .d (.bl b) => some b
  | .d (.int i) => some (i != 0)
  | .d (.str s) => gd (s.length ≤ sizeLine) ((s.length : Int) != 0)
  | .ref n => match M[n]? with
    | some (.lst ds) => some !ds.isEmpty
    | some (.dk kvs) => some !kvs.isEmpty
    | _ => none
  | d => (seqD M d).map fun ds => !ds.isEmpty
abbrev TT' := DS → Mem → (Bool → Mem → Prop) → Prop
def lT (K : PySem.W.Frag) (G : Gd) (t : TT') : TT := fun σ H Q => ∃ δ M ι Q0, Sr K G δ M ι σ H ∧ t δ M Q0 ∧
  ∀ b M' ι' H', Q0 b M' → Ex ι ι' → Kp ι H ι' H' → Sr K G δ M' ι' σ H' → Q b H'
abbrev VT (X : Cx) (G : Gd) (e : Expr) (t : TT') : Prop := PT X e (lT X.K G t)
abbrev VW (X : Cx) (G : Gd) (e : Expr) (t : TT') : Prop := PW X e (lT X.K G t)
abbrev PB := DS → Mem → Option Bool
def cP (p : PB) : TT' := fun δ M Q => ok (p δ M) fun b => Q b M
def tTr (t : TE') : TT' := fun δ M Q => t δ M fun d M' => ok (truth M' d) fun b => Q b M'
def bTr (p : PV) : PB := fun δ M => (p δ M).bind (truth M)
def blD : Sv → Option Bool
  | .d (.bl b) => some b
  | _ => none
def tTb (t : TE') : TT' := fun δ M Q => t δ M fun d M' => ok (blD d) fun b => Q b M'
def bB (p : PV) : PB := fun δ M => (p δ M).bind blD
def tAn (t u : TT') : TT' := fun δ M Q => t δ M fun b M' => if b then u δ M' Q else Q false M'
def tOrr (t u : TT') : TT' := fun δ M Q => t δ M fun b M' => if b then Q true M' else u δ M' Q
def tNt (t : TT') : TT' := fun δ M Q => t δ M fun b M' => Q (!b) M'
def bAn (p q : PB) : PB := fun δ M => (p δ M).bind fun b => if b then q δ M else some false
def bOr (p q : PB) : PB := fun δ M => (p δ M).bind fun b => if b then some true else q δ M
def bNt (p : PB) : PB := fun δ M => (p δ M).map fun b => !b
section
variable {K : PySem.W.Frag} {X : Cx} {G : Gd} {e a b c : Expr} {es rest : List Expr} {pos : Pos} {ta tb : TE'} {t u : TT'} {p q : PB}
theorem VT.weak {t' : TT'} (h : VT X G e t) (w : ∀ δ M Q, t' δ M Q → t δ M Q) : VT X G e t' :=
  ⟨fun pins s σ H Q I ⟨δ, M, ι, Q0, S, q, z⟩ => h.run pins s σ H Q I ⟨δ, M, ι, Q0, S, w _ _ _ q, z⟩⟩
theorem VW.weak {t' : TT'} (h : VW X G e t) (w : ∀ δ M Q, t' δ M Q → t δ M Q) : VW X G e t' :=
  ⟨fun wh pins s σ H Q I ⟨δ, M, ι, Q0, S, q, z⟩ => h.run wh pins s σ H Q I ⟨δ, M, ι, Q0, S, w _ _ _ q, z⟩⟩
theorem truth_of {δ : DS} {M : Mem} {ι : Ix} {σ : L2.St} {H : Hp} {d : Sv} {v : V} {k : Bool} (S : Sr K G δ M ι σ H) (h : RS K G.N H ι d v) (e : truth M d = some k) : TruV K v H k := by
  cases d with
  | ref n =>
    simp only [truth] at e
    split at e
    · rename_i ds hM
      cases e
      obtain ⟨a, rfl, hn, xs, q, _, r⟩ := S.mem.at h hM (fun z => nomatch z)
      refine .inl ⟨xs, SqL.of q, ?_⟩
      have := r.length
      cases ds <;> cases xs <;> simp_all
    · rename_i kvs hM
      cases e
      obtain ⟨a, rfl, hn, ws, q, e1, r⟩ := S.mem.at h hM (fun z => nomatch z)
      refine .inr (.inr ⟨ws, q, ?_⟩)
      have hl : kvs.length = ws.length := by simpa using congrArg List.length e1
      cases kvs <;> cases ws <;> simp_all
    · cases e
  | bor ds =>
    cases e
    obtain ⟨a, xs, rfl, q, _, _, _, r⟩ := h
    refine .inl ⟨xs, SqL.of q, ?_⟩
    have := r.length
    cases ds <;> cases xs <;> simp_all
  | d d =>
  cases d with
  | non => cases e; cases (show _ = _ from h); rfl
  | bl b => cases e; cases (show _ = _ from h); rfl
  | int i => cases e; cases (show _ = _ from h); rfl
  | str s => obtain ⟨hc, rfl⟩ := gd_some (show gd _ _ = some k from e); cases (show _ = _ from h); exact ⟨hc, rfl⟩
  | fn b => cases e
  | ty b => cases e
  | tup ds =>
    cases e
    obtain ⟨a, xs, rfl, q, _, r⟩ := h
    refine .inr (.inl ⟨xs, tup_sq q, ?_⟩)
    have := r.length
    cases ds <;> cases xs <;> simp_all
  | lst ds =>
    cases e
    obtain ⟨a, xs, rfl, q, _, _, _, r⟩ := h
    refine .inl ⟨xs, SqL.of q, ?_⟩
    have := r.length
    cases ds <;> cases xs <;> simp_all
  | scr ns =>
    cases e
    obtain ⟨a, rfl, q, _⟩ := h
    have hsq : SqL K H a (ns.map V.int) := by
      rcases q with ⟨o, q', _⟩ | q'
      · exact .inl (.inr ⟨o, q'⟩)
      · exact .inr q'
    refine .inl ⟨_, hsq, ?_⟩
    cases ns <;> rfl
theorem fin_tr {σ : L2.St} {H : Hp} {Q : Bool → Hp → Prop} (h : lT K G (tTr ta) σ H Q) : lE K G ta σ H fun x H' => ∃ k, TruV K x H' k ∧ Q k H' := by
  obtain ⟨δ, M, ι, Q0, S, h, z⟩ := h
  refine th1 S h fun x M1 ι1 H1 v h1 p1 k1 S1 r1 => ?_
  obtain ⟨k, e, h1⟩ := ok_elim h1
  exact ⟨k, truth_of S1 r1 e, z k M1 ι1 H1 h1 p1 k1 S1⟩
/-- the test of a value's truth -/
theorem vt_val (ha : VE X G a ta) (he : ∀ whole, isTrue a X.env whole = (do let v ← whole; standAt a.pos; holding [v] (truthy v)) := by exact fun _ => rfl) : VT X G a (tTr ta) := by
  have h := pt_truth ha he
  exact ⟨fun pins s σ H Q I q => h.run pins s σ H Q I (fin_tr q)⟩
theorem VT.pure (h : VT X G a (tTr (eP v))) : VT X G a (cP (bTr v)) := h.weak fun δ M Q h => by
  unfold cP bTr at h; rw [ok_bind] at h; exact h
theorem fin_tb {σ : L2.St} {H : Hp} {Q : Bool → Hp → Prop} (h : lT K G (tTb ta) σ H Q) : lE K G ta σ H fun x H' => ∃ k, x = .bl k ∧ Q k H' := by
  obtain ⟨δ, M, ι, Q0, S, h, z⟩ := h
  refine th1 S h fun x M1 ι1 H1 v h1 p1 k1 S1 r1 => ?_
  obtain ⟨k, e, h1⟩ := ok_elim h1
  unfold blD at e
  split at e
  · cases e; cases (show _ = _ from r1); exact ⟨_, rfl, z _ M1 ι1 H1 h1 p1 k1 S1⟩
  · cases e
theorem vt_cmp {op : CmpOp} {r : R2} {f : Mem → Sv → Sv → Option Sv} (ho : OpR X (compareOp op) r) (hf : Rd2 X.K r f) (ha : VE X G a ta) (hb : VE X G b tb) (hm : behindInMarks op b = false) : VT X G (.Compare a [op] [b] pos) (tTb (eo2 f ta tb)) := by
  have h := pt_cmpR (pos := pos) ho ha hb hm
  exact ⟨fun pins s σ H Q I q => h.run pins s σ H Q I (fin2 hf (fin_tb q))⟩
theorem VT.pureB (h : VT X G a (tTb (eP v))) : VT X G a (cP (bB v)) := h.weak fun δ M Q h => by
  unfold cP bB at h; rw [ok_bind] at h; exact h
theorem VT.pureB2 {f : Mem → Sv → Sv → Option Sv} {v w : PV} (h : VT X G a (tTb (eo2 f (eP v) (eP w)))) : VT X G a (cP (bB (po2 f v w))) := h.weak fun δ M Q h => by
  unfold cP bB po2 at h
  rw [ok_bind, ok_bind] at h
  obtain ⟨d, q1, h⟩ := ok_elim h
  rw [ok_bind] at h
  exact ok_of q1 h
theorem vt_not (h : VT X G a t) : VT X G (.UnaryOp .Not a pos) (tNt t) := by
  have hn := pt_not (pos := pos) h
  exact ⟨fun pins s σ H Q I ⟨δ, M, ι, Q0, S, q, z⟩ => hn.run pins s σ H Q I ⟨δ, M, ι, _, S, q, fun b M' ι' H' q1 p1 k1 S1 => z (!b) M' ι' H' q1 p1 k1 S1⟩⟩
theorem vw_and1 (h : VT X G a t) : VW X G (.BoolOp .And [a] pos) t := pw_and1 h
theorem vw_or1 (h : VT X G a t) : VW X G (.BoolOp .Or [a] pos) t := pw_or1 h
theorem vw_and (h : VT X G a t) (h2 : VW X G (.BoolOp .And (b :: rest) pos) u) : VW X G (.BoolOp .And (a :: b :: rest) pos) (tAn t u) := by
  have hn := pw_and h h2
  refine ⟨fun wh pins s σ H Q I ⟨δ, M, ι, Q0, S, q, z⟩ => hn.run wh pins s σ H Q I ⟨δ, M, ι, _, S, q, fun b M' ι' H' q1 p1 k1 S1 => ?_⟩⟩
  cases b with
  | false => exact z false M' ι' H' q1 p1 k1 S1
  | true => exact ⟨δ, M', ι', Q0, S1, q1, fun b M2 ι2 H2 q2 p2 k2 S2 => z b M2 ι2 H2 q2 (p1.trans p2) (k1.trans k2) S2⟩
theorem vw_or (h : VT X G a t) (h2 : VW X G (.BoolOp .Or (b :: rest) pos) u) : VW X G (.BoolOp .Or (a :: b :: rest) pos) (tOrr t u) := by
  have hn := pw_or h h2
  refine ⟨fun wh pins s σ H Q I ⟨δ, M, ι, Q0, S, q, z⟩ => hn.run wh pins s σ H Q I ⟨δ, M, ι, _, S, q, fun b M' ι' H' q1 p1 k1 S1 => ?_⟩⟩
  cases b with
  | true => exact z true M' ι' H' q1 p1 k1 S1
  | false => exact ⟨δ, M', ι', Q0, S1, q1, fun b M2 ι2 H2 q2 p2 k2 S2 => z b M2 ι2 H2 q2 (p1.trans p2) (k1.trans k2) S2⟩
theorem VW.vt (h : VW X G a t) : VT X G a t := PW.pt h
theorem VT.pNot (h : VT X G a (tNt (cP p))) : VT X G a (cP (bNt p)) := h.weak fun δ M Q h => by
  unfold cP bNt at h; rw [ok_map] at h; exact h
theorem VW.pAn (h : VW X G a (tAn (cP p) (cP q))) : VW X G a (cP (bAn p q)) := h.weak fun δ M Q h => by
  unfold cP bAn at h
  rw [ok_bind] at h
  obtain ⟨d, q1, h⟩ := ok_elim h
  refine ok_of q1 ?_
  cases d <;> exact h
theorem VW.pOr (h : VW X G a (tOrr (cP p) (cP q))) : VW X G a (cP (bOr p q)) := h.weak fun δ M Q h => by
  unfold cP bOr at h
  rw [ok_bind] at h
  obtain ⟨d, q1, h⟩ := ok_elim h
  refine ok_of q1 ?_
  cases d <;> exact h

/-! ### values by tests -/
def eAn (ta tb : TE') : TE' := fun δ M Q => ta δ M fun x M1 => ok (truth M1 x) fun k => if k then tb δ M1 Q else Q x M1
def eOr (ta tb : TE') : TE' := fun δ M Q => ta δ M fun x M1 => ok (truth M1 x) fun k => if k then Q x M1 else tb δ M1 Q
def eNt (ta : TE') : TE' := fun δ M Q => ta δ M fun x M1 => ok (truth M1 x) fun k => Q (blS (!k)) M1
def eIf (t : TT') (ta tb : TE') : TE' := fun δ M Q => t δ M fun b M1 => if b then ta δ M1 Q else tb δ M1 Q
def poAn (a b : PV) : PV := fun δ M => (a δ M).bind fun x => (truth M x).bind fun k => if k then b δ M else some x
def poOr (a b : PV) : PV := fun δ M => (a δ M).bind fun x => (truth M x).bind fun k => if k then some x else b δ M
def poNt (a : PV) : PV := fun δ M => (a δ M).bind fun x => (truth M x).map fun k => blS (!k)
def poIf (t : PB) (a b : PV) : PV := fun δ M => (t δ M).bind fun k => if k then a δ M else b δ M
theorem ve_one {op} (h : VE X G a ta) : VE X G (.BoolOp op [a] pos) ta := pe_one h
theorem ve_and (ha : VE X G a ta) (hb : VE X G (.BoolOp .And (b :: rest) pos) tb) : VE X G (.BoolOp .And (a :: b :: rest) pos) (eAn ta tb) := by
  refine PE.weak (pe_andT ha hb) fun σ H Q ⟨δ, M, ι, Q0, S, h, z⟩ => ?_
  refine th1 S h fun x M1 ι1 H1 v h1 p1 k1 S1 r1 => ?_
  obtain ⟨k, e, h1⟩ := ok_elim h1
  refine ⟨k, truth_of S1 r1 e, ?_⟩
  cases k with
  | false => exact z x M1 ι1 H1 v h1 p1 k1 S1 r1
  | true => exact th1 S1 h1 fun y M2 ι2 H2 w h2 p2 k2 S2 r2 => z y M2 ι2 H2 w h2 (p1.trans p2) (k1.trans k2) S2 r2
theorem ve_or (ha : VE X G a ta) (hb : VE X G (.BoolOp .Or (b :: rest) pos) tb) : VE X G (.BoolOp .Or (a :: b :: rest) pos) (eOr ta tb) := by
  refine PE.weak (pe_orT ha hb) fun σ H Q ⟨δ, M, ι, Q0, S, h, z⟩ => ?_
  refine th1 S h fun x M1 ι1 H1 v h1 p1 k1 S1 r1 => ?_
  obtain ⟨k, e, h1⟩ := ok_elim h1
  refine ⟨k, truth_of S1 r1 e, ?_⟩
  cases k with
  | true => exact z x M1 ι1 H1 v h1 p1 k1 S1 r1
  | false => exact th1 S1 h1 fun y M2 ι2 H2 w h2 p2 k2 S2 r2 => z y M2 ι2 H2 w h2 (p1.trans p2) (k1.trans k2) S2 r2
theorem ve_not (ha : VE X G a ta) : VE X G (.UnaryOp .Not a pos) (eNt ta) := by
  refine PE.weak (pe_notT ha) fun σ H Q ⟨δ, M, ι, Q0, S, h, z⟩ => ?_
  refine th1 S h fun x M1 ι1 H1 v h1 p1 k1 S1 r1 => ?_
  obtain ⟨k, e, h1⟩ := ok_elim h1
  exact ⟨k, truth_of S1 r1 e, z _ M1 ι1 H1 _ h1 p1 k1 S1 rfl⟩
theorem ve_if (hc : VT X G c t) (ha : VE X G a ta) (hb : VE X G b tb) : VE X G (.IfExp c a b pos) (eIf t ta tb) := by
  refine PE.weak (pe_ifExp hc ha hb) fun σ H Q ⟨δ, M, ι, Q0, S, h, z⟩ => ⟨δ, M, ι, _, S, h, fun k M1 ι1 H1 h1 p1 k1 S1 => ?_⟩
  cases k with
  | true => exact th1 S1 h1 fun y M2 ι2 H2 w h2 p2 k2 S2 r2 => z y M2 ι2 H2 w h2 (p1.trans p2) (k1.trans k2) S2 r2
  | false => exact th1 S1 h1 fun y M2 ι2 H2 w h2 p2 k2 S2 r2 => z y M2 ι2 H2 w h2 (p1.trans p2) (k1.trans k2) S2 r2
theorem VE.pAn {v w : PV} (h : VE X G a (eAn (eP v) (eP w))) : VE X G a (eP (poAn v w)) := h.weak fun δ M Q h => by
  unfold eP poAn at h
  rw [ok_bind] at h
  obtain ⟨d, q1, h⟩ := ok_elim h
  rw [ok_bind] at h
  obtain ⟨k, q2, h⟩ := ok_elim h
  refine ok_of q1 (ok_of q2 ?_)
  cases k <;> exact h
theorem VE.pOr {v w : PV} (h : VE X G a (eOr (eP v) (eP w))) : VE X G a (eP (poOr v w)) := h.weak fun δ M Q h => by
  unfold eP poOr at h
  rw [ok_bind] at h
  obtain ⟨d, q1, h⟩ := ok_elim h
  rw [ok_bind] at h
  obtain ⟨k, q2, h⟩ := ok_elim h
  refine ok_of q1 (ok_of q2 ?_)
  cases k <;> exact h
theorem VE.pNt {v : PV} (h : VE X G a (eNt (eP v))) : VE X G a (eP (poNt v)) := h.weak fun δ M Q h => by
  unfold eP poNt at h
  rw [ok_bind] at h
  obtain ⟨d, q1, h⟩ := ok_elim h
  rw [ok_map] at h
  exact ok_of q1 h
theorem VE.pIf {v w : PV} (h : VE X G a (eIf (cP p) (eP v) (eP w))) : VE X G a (eP (poIf p v w)) := h.weak fun δ M Q h => by
  unfold eP poIf at h
  rw [ok_bind] at h
  obtain ⟨d, q1, h⟩ := ok_elim h
  refine ok_of q1 ?_
  cases d <;> exact h
end
end VL
set_option Elab.async false
set_option linter.all false
set_option maxRecDepth 100000
set_option maxHeartbeats 4000000
namespace VL
open PySem PySem.Spec L2

/-! ### tuples, lists -/
def dataS : Sv → Option D
  | .d x => some x
  | _ => none
def datas : List Sv → Option (List D)
  | [] => some []
  | x :: xs => (dataS x).bind fun d => (datas xs).map fun ds => d :: ds
/-- a new list of these -/
abbrev TF' := DS → Mem → (List D → Mem → Prop) → Prop
def lF (K : PySem.W.Frag) (G : Gd) (t : TF') : TE := fun σ H Q => ∃ δ M ι Q0, Sr K G δ M ι σ H ∧ t δ M Q0 ∧
  ∀ ds M' ι' H' xs p, Q0 ds M' → Ex ι ι' → Kp ι H ι' H' → Sr K G δ M' ι' σ H' → RDs K G.N H' ι' ds xs → ds.length ≤ sizeLine → H' p = none → Q (.ref p) (upd H' p (.lst xs))
abbrev VF (X : Cx) (G : Gd) (e : Expr) (t : TF') : Prop := PE X e (lF X.K G t)
def tTupE (t : TA') : TE' := fun δ M Q => t δ M fun xs M1 => ok (datas xs) fun ds => Q (.d (.tup ds)) M1
def tLstF (t : TA') : TF' := fun δ M Q => t δ M fun xs M1 => ok (datas xs) fun ds => Q ds M1
def eFz (t : TF') : TE' := fun δ M Q => t δ M fun ds M' => Q (.d (.lst ds)) M'
def eNw (t : TF') : TE' := fun δ M Q => t δ M fun ds M' => Q (.ref M'.length) (M' ++ [.lst ds])
abbrev PL := DS → Mem → Option (List D)
def fP (p : PL) : TF' := fun δ M Q => ok (p δ M) fun ds => Q ds M
def pFz (p : PL) : PV := fun δ M => (p δ M).map fun ds => .d (.lst ds)
def poTup (ps : List PV) : PV := fun δ M => ((pArgs ps δ M).bind datas).map fun ds => .d (.tup ds)
def plLst (ps : List PV) : PL := fun δ M => (pArgs ps δ M).bind datas
section
variable {K : PySem.W.Frag} {X : Cx} {G : Gd} {e a b : Expr} {es : List Expr} {pos : Pos} {ta tb t : TE'} {N : Bool → Addr → Prop} {H : Hp} {ι : Ix} {tf : TF'}
theorem VF.weak {t' : TF'} (h : VF X G e tf) (w : ∀ δ M Q, t' δ M Q → tf δ M Q) : VF X G e t' :=
  PE.weak h fun _ _ _ ⟨δ, M, ι, Q0, S, q, z⟩ => ⟨δ, M, ι, Q0, S, w _ _ _ q, z⟩
theorem datas_of : ∀ {xs : List Sv} {ds : List D} {vs : List V}, datas xs = some ds → RSs K N H ι xs vs → RDs K N H ι ds vs ∧ ds.length = xs.length
  | [], ds, vs, e, h => by cases e; exact ⟨h, rfl⟩
  | x :: xs, ds, vs, e, h => by
    obtain ⟨v, r, rfl, h1, h2⟩ := h
    cases x with
    | d d =>
      obtain ⟨ds', e2, rfl⟩ := Option.map_eq_some_iff.mp (show (datas xs).map (fun ds => d :: ds) = some ds from e)
      obtain ⟨h3, h4⟩ := datas_of e2 h2
      exact ⟨⟨v, r, rfl, h1, h3⟩, by simp [h4]⟩
    | ref n => cases e
    | bor n => cases e
theorem ve_tup {n k : Nat} {tA : TA'} (h : VA X G es n tA) (hn : n ≤ sizeLine := by decide) : VE X G (.Tuple es k pos) (tTupE tA) := by
  refine PE.weak (pe_tup h) fun σ H Q ⟨δ, M, ι, Q0, S, q, z⟩ => ?_
  refine thA S q fun xs M1 ι1 H1 vs hl h1 p1 k1 S1 r1 => ?_
  obtain ⟨ds, e, h1⟩ := ok_elim h1
  obtain ⟨r2, l2⟩ := datas_of e r1
  refine ⟨by rw [← r2.length, l2, hl]; exact hn, fun p hp => ?_⟩
  exact fin_tup S1 (fun ι' H' w e2 k2 S2 r3 => z _ M1 ι' H' w h1 (p1.trans e2) (k1.trans k2) S2 r3) r2 (by rw [l2, hl]; exact hn) hp
theorem vf_lst {n : Nat} {tA : TA'} (h : VA X G es n tA) (hn : n ≤ sizeLine := by decide) : VF X G (.List es pos) (tLstF tA) := by
  refine PE.weak (pe_lst h) fun σ H Q ⟨δ, M, ι, Q0, S, q, z⟩ => ?_
  refine thA S q fun xs M1 ι1 H1 vs hl h1 p1 k1 S1 r1 => ?_
  obtain ⟨ds, e, h1⟩ := ok_elim h1
  obtain ⟨r2, l2⟩ := datas_of e r1
  exact ⟨by rw [← r2.length, l2, hl]; exact hn, fun p hp => z ds M1 ι1 H1 vs p h1 p1 k1 S1 r2 (by rw [l2, hl]; exact hn) hp⟩
theorem VF.fz (h : VF X G e tf) : VE X G e (eFz tf) :=
  PE.weak h fun σ H Q ⟨δ, M, ι, Q0, S, q, z⟩ => ⟨δ, M, ι, _, S, q, fun ds M' ι' H' xs p h1 p1 k1 S1 r1 hl hp =>
    fin_lst S1 (fun ι2 H2 w e2 k2 S2 r3 => z _ M' ι2 H2 w h1 (p1.trans e2) (k1.trans k2) S2 r3) r1 hl hp⟩
theorem VF.nw (h : VF X G e tf) : VE X G e (eNw tf) :=
  PE.weak h fun σ H Q ⟨δ, M, ι, Q0, S, q, z⟩ => ⟨δ, M, ι, _, S, q, fun ds M' ι' H' xs p h1 p1 k1 S1 r1 hl hp => by
    have S2 := S1.named (o := .lst xs) (c := .lst ds) hp ⟨xs, upd_same, hl, r1.mono (Kp.named hp) fun _ _ _ _ q => q⟩
    refine z _ _ _ _ _ h1 (p1.trans (Ex.app _ _)) (k1.trans (Kp.named hp)) S2 ⟨p, rfl, .inl ?_⟩
    rw [S1.mem.len]; simp⟩
theorem VF.pure {p : PL} (h : VF X G e (fP p)) : VE X G e (eP (pFz p)) := h.fz.weak fun δ M Q h => by
  unfold eP pFz at h; rw [ok_map] at h; exact h
theorem VE.pTup {ps : List PV} (h : VE X G e (tTupE (aP ps))) : VE X G e (eP (poTup ps)) := h.weak fun δ M Q h => by
  unfold eP poTup at h
  rw [ok_map, ok_bind] at h
  exact h
theorem VF.pLst {ps : List PV} (h : VF X G e (tLstF (aP ps))) : VF X G e (fP (plLst ps)) := h.weak fun δ M Q h => by
  unfold fP plLst at h
  rw [ok_bind] at h
  exact h
end

/-! ### statements -/
def sSeq (t u : TS') : TS' := fun E δ M => t { E with nx := fun δ' M' => u E δ' M' } δ M
def sNil : TS' := fun E δ M => E.nx δ M
def sRet (t : TE') : TS' := fun E δ M => t δ M fun d M' => E.rt d M'
def sRetN : TS' := fun E δ M => E.rt (.d .non) M
def sDrop (t : TE') : TS' := fun E δ M => t δ M fun _ M' => E.nx δ M'
def sSet (i : Nat) (t : TE') : TS' := fun E δ M => t δ M fun d M' => E.nx (δ.set i (some d)) M'
def sIf (c : TT') (t u : TS') : TS' := fun E δ M => c δ M fun b M' => if b then t E δ M' else u E δ M'
def sBrk : TS' := fun E δ M => E.bk δ M
def sCnt : TS' := fun E δ M => E.ct δ M
section
variable {K : PySem.W.Frag} {X : Cx} {G : Gd} {e a b c : Expr} {st : Stmt} {ss ss' : List Stmt} {es : List Expr} {pos : Pos} {ta tb t : TE'} {tc : TT'} {s u : TS'}
theorem VS.weak {u' : TS'} (h : VS X G st u) (w : ∀ E δ M, u' E δ M → u E δ M) : VS X G st u' :=
  PS.weak h fun _ _ _ ⟨δ, M, ι, E0, S, q, z⟩ => ⟨δ, M, ι, E0, S, w _ _ _ q, z⟩
theorem VSs.weak {u' : TS'} (h : VSs X G ss u) (w : ∀ E δ M, u' E δ M → u E δ M) : VSs X G ss u' :=
  PSs.weak h fun _ _ _ ⟨δ, M, ι, E0, S, q, z⟩ => ⟨δ, M, ι, E0, S, w _ _ _ q, z⟩
theorem vss_nil : VSs X G [] sNil := PSs.weak pss_nil fun E σ H ⟨δ, M, ι, E0, S, q, z⟩ => z.nx δ M ι σ H q (Ex.refl _) (Kp.refl _ _) S
theorem vss_one (h : VS X G st s) : VSs X G [st] s := pss_one h
theorem vss_cons (h : VS X G st s) (h2 : VSs X G ss u) : VSs X G (st :: ss) (sSeq s u) :=
  PSs.weak (pss_cons h h2) fun E σ H ⟨δ, M, ι, E0, S, q, z⟩ => ⟨δ, M, ι, _, S, q, ⟨fun δ' M' ι' σ' H' q' p' k' S' => ⟨δ', M', ι', E0, S', q', z.to p' k'⟩, z.rt, z.bk, z.ct⟩⟩
theorem vs_ret (h : VE X G e t) : VS X G (.Return (some e) pos) (sRet t) :=
  PS.weak (ps_ret h) fun E σ H ⟨δ, M, ι, E0, S, q, z⟩ => ⟨δ, M, ι, _, S, q, fun d M' ι' H' v q' p' k' S' r' => z.rt d δ M' ι' σ H' v q' S' r'⟩
theorem vs_retN : VS X G (.Return none pos) sRetN :=
  PS.weak ps_retN fun E σ H ⟨δ, M, ι, E0, S, q, z⟩ => z.rt _ δ M ι σ H .non q S rfl
theorem vs_expr (h : VE X G e t) (hs : swapsWith e none pos.line X.env = pure false := by rfl) : VS X G (.Expr e pos) (sDrop t) :=
  PS.weak (ps_expr h hs) fun E σ H ⟨δ, M, ι, E0, S, q, z⟩ => ⟨δ, M, ι, _, S, q, fun d M' ι' H' v q' p' k' S' r' => z.nx δ M' ι' σ H' q' p' k' S'⟩
theorem vs_set {i : Nat} {x : Str} {pos' : Pos} (hN : X.N.Nodup) (hi : X.N[i]? = some x) (hx : Loc X.env.scope x) (he : VE X G e t) (hs : swapsWith e (some (.Name x pos')) pos.line X.env = pure false := by rfl) (hf : X.fn x = true ∨ X.env.scope.names.lookup x = some .local := by first | exact .inl rfl | exact .inr rfl | assumption) :
    VS X G (.Assign [.Name x pos'] e pos) (sSet i t) :=
  PS.weak (ps_set hN hi hx he hs hf) fun E σ H ⟨δ, M, ι, E0, S, q, z⟩ => ⟨δ, M, ι, _, S, q, fun d M' ι' H' v q' p' k' S' r' => z.nx _ M' ι' _ H' q' p' k' (S'.set r')⟩
theorem vs_if (hc : VT X G c tc) (ha : VSs X G ss s) (hb : VSs X G ss' u) : VS X G (.If c ss ss' pos) (sIf tc s u) :=
  PS.weak (ps_if hc ha hb) fun E σ H ⟨δ, M, ι, E0, S, q, z⟩ => ⟨δ, M, ι, _, S, q, fun b M' ι' H' q' p' k' S' => by
    cases b with
    | true => exact ⟨δ, M', ι', E0, S', q', z.to p' k'⟩
    | false => exact ⟨δ, M', ι', E0, S', q', z.to p' k'⟩⟩
theorem vs_pass : VS X G (.Pass pos) sNil := PS.weak ps_pass fun E σ H ⟨δ, M, ι, E0, S, q, z⟩ => z.nx δ M ι σ H q (Ex.refl _) (Kp.refl _ _) S
theorem vs_break : VS X G (.Break pos) sBrk := PS.weak ps_break fun E σ H ⟨δ, M, ι, E0, S, q, z⟩ => z.bk δ M ι σ H q (Ex.refl _) (Kp.refl _ _) S
theorem vs_continue : VS X G (.Continue pos) sCnt := PS.weak ps_continue fun E σ H ⟨δ, M, ι, E0, S, q, z⟩ => z.ct δ M ι σ H q (Ex.refl _) (Kp.refl _ _) S
end

/-! ### targets -/
abbrev TG' := D → DS → Mem → (DS → Mem → Prop) → Prop
def lG (K : PySem.W.Frag) (G : Gd) (t : TG') : TG := fun v σ H Q => ∃ d δ M ι Q0, Sr K G δ M ι σ H ∧ RD K G.N H ι d v ∧ t d δ M Q0 ∧
  ∀ δ' M' ι' σ' H', Q0 δ' M' → Ex ι ι' → Kp ι H ι' H' → Sr K G δ' M' ι' σ' H' → Q σ' H'
abbrev VG (X : Cx) (G : Gd) (e : Expr) (t : TG') : Prop := PG X e (lG X.K G t)
def gNm (i : Nat) : TG' := fun d δ M Q => Q (δ.set i (some (.d d))) M
/-- names for a tuple's items -/
def setAll : List Nat → List D → DS → Option DS
  | [], [], δ => some δ
  | i :: is, d :: ds, δ => setAll is ds (δ.set i (some (.d d)))
  | _, _, _ => none
def gTp (is : List Nat) : TG' := fun d δ M Q => match d with
  | .tup ds => ok (setAll is ds δ) fun δ' => Q δ' M
  | _ => False
def lGs (K : PySem.W.Frag) (G : Gd) (is : List Nat) : TGs := fun vs σ H Q => ∃ ds δ M ι δ', Sr K G δ M ι σ H ∧ RDs K G.N H ι ds vs ∧ setAll is ds δ = some δ' ∧
  ∀ σ' , Sr K G δ' M ι σ' H → Q σ' H
section
variable {K : PySem.W.Frag} {X : Cx} {G : Gd} {e a b c : Expr} {es : List Expr} {pos : Pos}
theorem vg_name {i : Nat} {x : Str} (hN : X.N.Nodup) (hi : X.N[i]? = some x) (hx : Loc X.env.scope x) (hf : X.fn x = true ∨ X.env.scope.names.lookup x = some .local := by first | exact .inl rfl | exact .inr rfl | assumption) : VG X G (.Name x pos) (gNm i) := by
  have h := pg_name (pos := pos) hN hi hx hf
  refine ⟨fun pins s σ H v u Q I r ⟨d, δ, M, ι, Q0, S, rd, q, z⟩ => h.run pins s σ H v u Q I r ?_⟩
  exact z _ M ι _ H q (Ex.refl _) (Kp.refl _ _) (S.set (d := .d d) rd)
theorem vgs_nil : PGs X [] (lGs X.K G []) := by
  refine ⟨fun pins s σ H vs us Q I r ⟨ds, δ, M, ι, δ', S, rd, q, z⟩ => pgs_nil.run pins s σ H vs us Q I r ?_⟩
  cases ds with
  | nil => cases q; exact ⟨rd, z σ S⟩
  | cons d ds => cases q
theorem vgs_cons {i : Nat} {is : List Nat} {x : Str} {px : Pos} (hN : X.N.Nodup) (hi : X.N[i]? = some x) (hx : Loc X.env.scope x) (hr : PGs X es (lGs X.K G is)) (hf : X.fn x = true ∨ X.env.scope.names.lookup x = some .local := by first | exact .inl rfl | exact .inr rfl | assumption)
    (hs : (assignEach (.Name x px :: es) X.env).map (·.2) = assign (.Name x px) X.env :: (assignEach es X.env).map (·.2) := by rfl) : PGs X (.Name x px :: es) (lGs X.K G (i :: is)) := by
  have h := pgs_cons (pg_name (pos := px) hN hi hx hf) hr hs
  refine ⟨fun pins s σ H vs us Q I r ⟨ds, δ, M, ι, δ', S, rd, q, z⟩ => h.run pins s σ H vs us Q I r ?_⟩
  cases ds with
  | nil => cases q
  | cons d ds =>
    obtain ⟨v, vr, rfl, r1, r2⟩ := rd
    exact ⟨v, vr, rfl, ds, _, M, ι, δ', S.set (d := .d d) r1, r2, q, z⟩
theorem setAll_len : ∀ {is : List Nat} {ds : List D} {δ δ' : DS}, setAll is ds δ = some δ' → ds.length = is.length
  | [], [], _, _, _ => rfl
  | [], _ :: _, _, _, h => by cases h
  | _ :: _, [], _, _, h => by cases h
  | i :: is, d :: ds, δ, δ', h => by simp [setAll_len (is := is) h]
theorem vg_tup {is : List Nat} {k : Nat} (hc : X.calm = true) (h : PGs X es (lGs X.K G is)) (hn : (assignEach es X.env).length = is.length := by rfl) (hst : (assignEach es X.env).findIdx? (·.1) = none := by rfl) : VG X G (.Tuple es k pos) (gTp is) := by
  have hg := pg_tup (pos := pos) (k := k) hc h hn hst
  refine ⟨fun pins s σ H v u Q I r ⟨d, δ, M, ι, Q0, S, rd, q, z⟩ => hg.run pins s σ H v u Q I r ?_⟩
  unfold gTp at q
  split at q
  · rename_i ds
    obtain ⟨δ', e, q⟩ := ok_elim q
    obtain ⟨a, xs, rfl, hq, _, r2⟩ := rd
    exact ⟨a, xs, rfl, tup_sq hq, by rw [← r2.length, setAll_len e], ds, δ, M, ι, δ', S, r2, e, fun σ' S' => z δ' M ι σ' H q (Ex.refl _) (Kp.refl _ _) S'⟩
  · exact q.elim
/-- target = value -/
def sAsg (t : TE') (g : TG') : TS' := fun E δ M => t δ M fun s M' => ok (dataS s) fun d => g d δ M' E.nx
theorem vs_asg {tg : Expr} {t : TE'} {g : TG'} (he : VE X G e t) (hg : VG X G tg g) (hs : swapsWithSole [tg] e pos.line X.env = pure false := by rfl) (hw : swappedStores [tg] e X.env = pure none := by rfl)
    (h1 : (assignEach [tg] X.env).map (·.2) = [assign tg X.env] := by rfl) : VS X G (.Assign [tg] e pos) (sAsg t g) :=
  PS.weak (ps_asg he hg hs hw h1) fun E σ H ⟨δ, M, ι, E0, S, q, z⟩ => th1 S q fun s M1 ι1 H1 v q1 p1 k1 S1 r1 => by
    obtain ⟨d, e, q1⟩ := ok_elim q1
    cases s with
    | d x => cases e; exact ⟨_, δ, M1, ι1, _, S1, r1, q1, fun δ' M' ι' σ' H' q' p' k' S' => z.nx δ' M' ι' σ' H' q' (p1.trans p') (k1.trans k') S'⟩
    | ref n => cases e
    | bor n => cases e
end
end VL
set_option Elab.async false
set_option linter.all false
set_option maxRecDepth 100000
set_option maxHeartbeats 4000000
namespace VL
open PySem PySem.Spec L2

/-! ### what a loop walks: the items, and what must stay of the changing objects -/
abbrev TI' := DS → Mem → (List D → (Mem → Prop) → Mem → Prop) → Prop
/-- at each turn, while gd stands, the iterator J gives the next of ds -/
def IterD (K : PySem.W.Frag) (G : Gd) (ι : Ix) (H : Hp) (J : It) (ds : List D) (gd : Mem → Prop) : Prop :=
  ∀ (G2 : Gd) (δ2 : DS) (M2 : Mem) (ι2 : Ix) (σ2 : L2.St) (H2 : Hp), (∀ b a o, H a = some o → G.N b a → G2.N b a) → Sr K G2 δ2 M2 ι2 σ2 H2 → Ex ι ι2 → Kp ι H ι2 H2 → gd M2 →
    J.stop ds.length H2 ∧ ∀ i d, ds[i]? = some d → J.go i H2 ∧ ∀ x H3, J.yld i H2 x H3 → (H3 = H2 ∨ ∃ p o, H2 p = none ∧ H3 = upd H2 p o) ∧ Sr K G2 δ2 M2 ι2 σ2 H3 ∧ Kp ι2 H2 ι2 H3 ∧ RD K G2.N H3 ι2 d x
def lI (K : PySem.W.Frag) (G : Gd) (bd : Bool) (it : TI') : TI := fun σ H R => ∃ δ M ι Q0, Sr K G δ M ι σ H ∧ it δ M Q0 ∧
  ∀ ds gd M' ι' H' J, (bd = true → ds.length ≤ sizeLine) → Q0 ds gd M' → Ex ι ι' → Kp ι H ι' H' → Sr K G δ M' ι' σ H' → IterD K G ι' H' J ds gd → R J H'
abbrev VI (X : Cx) (G : Gd) (bd : Bool) (tg e : Expr) (it : TI') : Prop := PI X tg e (lI X.K G bd it)

/-- the turns of a for; k: how many changing objects there were -/
def forL (k : Nat) (g : TG') (b : TS') (E : Ends') (gd : Mem → Prop) : List D → DS → Mem → Prop
  | [], δ, M => gd M ∧ E.nx δ M
  | d :: ds, δ, M => gd M ∧ g d δ M fun δ1 M1 => b ⟨fun δ' M' => forL k g b E gd ds (gcS k δ') (M'.take k), E.rt, E.nx, fun δ' M' => forL k g b E gd ds (gcS k δ') (M'.take k)⟩ δ1 M1
def sFor (it : TI') (g : TG') (b : TS') : TS' := fun E δ M => it δ M fun ds gd M' => forL M'.length g b E gd ds δ M'

section
variable {K : PySem.W.Frag} {X : Cx} {G : Gd} {e a b c tg iter elt : Expr} {st : Stmt} {body : List Stmt} {es : List Expr} {pos : Pos} {ta tb t : TE'} {tc : TT'} {s u : TS'} {it : TI'} {g : TG'}
theorem Sr.i0len {δ : DS} {M : Mem} {ι : Ix} {σ : L2.St} {H : Hp} (S : Sr K G δ M ι σ H) : G.i0.length ≤ M.length := by
  rw [S.mem.len]
  cases q : G.i0.length with
  | zero => exact Nat.zero_le _
  | succ n =>
    have h : n < G.i0.length := by omega
    exact (List.getElem?_eq_some_iff.mp (S.pre n _ (List.getElem?_eq_getElem h))).1
theorem ex_take {a b : Ix} (h : Ex a b) : Ex a (b.take a.length) := fun n o e => by
  have hlt := (List.getElem?_eq_some_iff.mp e).1
  rw [List.getElem?_take, if_pos hlt]; exact h n o e
theorem vs_for {bd : Bool} (hp : PassesOwn (model X.prog X.w) X.A X.env X.xe) (hc : X.calm = true) (hi : VI X G bd tg iter it) (hg : VG X G tg g) (hb : VSs X G body s)
    (hs : ∀ x, foldedSetIterable iter X.env x = pure x := by intro _; rfl) : VS X G (.For tg iter body [] pos) (sFor it g s) := by
  refine PS.weak (ps_for hp hc hi hg hb hs) fun E σ H ⟨δ, M, ι, E0, S, q, z⟩ => ?_
  refine ⟨δ, M, ι, _, S, q, fun ds gd M' ι' H' J _ q1 p1 k1 S1 hJ => ?_⟩
  have hk : G.i0.length ≤ M'.length := S1.i0len
  have hlen : M'.length = ι'.length := S1.mem.len
  refine ⟨fun i m σ2 H2 => m = ds.length - i ∧ i ≤ ds.length ∧ ∃ δ2 M2 ι2, Sr X.K G δ2 M2 ι2 σ2 H2 ∧ Ex ι' ι2 ∧ Kp ι' H' ι2 H2 ∧ forL M'.length g s E0 gd (ds.drop i) δ2 M2,
    ⟨ds.length, by simp, Nat.zero_le _, δ, M', ι', S1, Ex.refl _, Kp.refl _ _, by simpa using q1⟩, ?_⟩
  rintro i m σ2 H2 ⟨rfl, hi, δ2, M2, ι2, S2, e2, k2, q2⟩
  by_cases hlt : i < ds.length
  · have hd : ds.drop i = ds[i] :: ds.drop (i + 1) := List.drop_eq_getElem_cons hlt
    rw [hd] at q2
    obtain ⟨hgd, q2⟩ := q2
    obtain ⟨_, hgo⟩ := hJ G δ2 M2 ι2 σ2 H2 (fun _ _ _ _ z => z) S2 e2 k2 hgd
    obtain ⟨go, hy⟩ := hgo i ds[i] (List.getElem?_eq_getElem hlt)
    refine .inr ⟨go, fun σ3 H3 => ∃ δ3 M3 ι3, Sr X.K G δ3 M3 ι3 σ3 H3 ∧ Ex ι' ι3 ∧ Kp ι' H' ι3 H3 ∧ forL M'.length g s E0 gd (ds.drop (i + 1)) δ3 M3, fun σ3 H3 h3 => ⟨ds.length - (i + 1), by omega, rfl, hlt, h3⟩, fun x H3 y3 => ?_⟩
    obtain ⟨_, S3, k3, r3⟩ := hy x H3 y3
    refine ⟨_, δ2, M2, ι2, _, S3, r3, q2, fun δ4 M4 ι4 σ4 H4 q4 e4 k4 S4 => ?_⟩
    -- the state at the body's start: names since the loop's start
    have fin : ∀ δ5 M5 ι5 σ5 H5, Sr X.K G δ5 M5 ι5 σ5 H5 → Ex ι' ι5 → Kp ι' H' ι5 H5 → forL M'.length g s E0 gd (ds.drop (i + 1)) (gcS M'.length δ5) (M5.take M'.length) →
        ∃ δ3 M3 ι3, Sr X.K G δ3 M3 ι3 σ5 H5 ∧ Ex ι' ι3 ∧ Kp ι' H' ι3 H5 ∧ forL M'.length g s E0 gd (ds.drop (i + 1)) δ3 M3 := fun δ5 M5 ι5 σ5 H5 S5 e5 k5 q5 => by
      refine ⟨_, _, _, S5.gc M'.length hk, ?_, k5.trans (Kp.take _), q5⟩
      rw [hlen]; exact ex_take e5
    have Z := z
    refine ⟨δ4, M4, ι4, _, S4, q4, ⟨fun δ5 M5 ι5 σ5 H5 q5 e5 k5 S5 => ?_, fun d5 δ5 M5 ι5 σ5 H5 v5 q5 S5 r5 => ?_, fun δ5 M5 ι5 σ5 H5 q5 e5 k5 S5 => ?_, fun δ5 M5 ι5 σ5 H5 q5 e5 k5 S5 => ?_⟩⟩
    · exact fin δ5 M5 ι5 σ5 H5 S5 ((e2.trans e4).trans e5) (((k2.trans k3).trans k4).trans k5) q5
    · exact z.rt d5 δ5 M5 ι5 σ5 H5 v5 q5 S5 r5
    · exact z.nx δ5 M5 ι5 σ5 H5 q5 (p1.trans ((e2.trans e4).trans e5)) (k1.trans (((k2.trans k3).trans k4).trans k5)) S5
    · exact fin δ5 M5 ι5 σ5 H5 S5 ((e2.trans e4).trans e5) (((k2.trans k3).trans k4).trans k5) q5
  · have hd : ds.drop i = [] := List.drop_eq_nil_of_le (by omega)
    rw [hd] at q2
    obtain ⟨hgd, q2⟩ := q2
    obtain ⟨hst, _⟩ := hJ G δ2 M2 ι2 σ2 H2 (fun _ _ _ _ z => z) S2 e2 k2 hgd
    have e : i = ds.length := by omega
    subst e
    exact .inl ⟨hst, z.nx δ2 M2 ι2 σ2 H2 q2 (p1.trans e2) (k1.trans k2) S2⟩
end
end VL
set_option Elab.async false
set_option linter.all false
set_option maxRecDepth 100000
set_option maxHeartbeats 4000000
namespace VL
open PySem PySem.Spec L2 RT RZ

def gdS (s : Sv) (ds : List D) : Mem → Prop := match s with
  | .ref n => fun M => cellL M[n]? = some ds
  | _ => fun _ => True
def gdT : Mem → Prop := fun _ => True
/-- over a sequence -/
def iSq (t : TE') : TI' := fun δ M Q => t δ M fun s M1 => ok (lstD M1 s) fun ds => Q ds (gdS s ds) M1
def iPq (p : PV) : TI' := fun δ M Q => ok (p δ M) fun s => ok (seqD M s) fun ds => Q ds (gdS s ds) M
def rgL (lo : Int) (n : Nat) : List D := (List.range n).map fun i => .int (lo + (i : Nat))
def rgC (lo c : Int) (n : Nat) : List D := (List.range n).map fun i => .int (lo + (i : Nat) * c)
abbrev I62 (i : Int) : Prop := -(2 ^ 62) ≤ i ∧ i < 2 ^ 62
def rngD : List Sv → (List D → Prop) → Prop
  | [.d (.int j)], k => I62 j ∧ k (rgL 0 j.toNat)
  | [.d (.int i), .d (.int j)], k => (I62 i ∧ I62 j) ∧ k (rgL i (j - i).toNat)
  | [.d (.int i), .d (.int j), .d (.int c)], k => (c ≠ 0 ∧ c.natAbs < 1073741824 ∧ Builtin.Range.small i j c = true) ∧ k (rgC i c (Builtin.Range.rangeSize i j c).toNat)
  | _, _ => False
def iRg (bd : Bool) (t : TA') : TI' := fun δ M Q => t δ M fun xs M1 => rngD xs fun ds => (bd = true → ds.length ≤ sizeLine) ∧ Q ds gdT M1
def enumL (ds : List D) : List D := ds.zipIdx.map fun p => .tup [.int (p.2 : Nat), p.1]
def iEn (t : TE') : TI' := fun δ M Q => t δ M fun s M1 => ok (lstD M1 s) fun ds => Q (enumL ds) (gdS s ds) M1
def zipL (as bs : List D) : List D := (as.zip bs).map fun p => .tup [p.1, p.2]
def iZp (t : TA') : TI' := fun δ M Q => t δ M fun xs M1 => match xs with
  | [a, b] => ok (lstD M1 a) fun as => ok (lstD M1 b) fun bs => Q (zipL as bs) (fun M => gdS a as M ∧ gdS b bs M) M1
  | _ => False
def tupD : Sv → Option (List D)
  | .d (.tup ds) => some ds
  | _ => none
def iZpT (t : TA') : TI' := fun δ M Q => t δ M fun xs M1 => match xs with
  | [a, b] => ok (tupD a) fun as => ok (tupD b) fun bs => Q (zipL as bs) gdT M1
  | _ => False
def iRv (t : TE') : TI' := fun δ M Q => t δ M fun s M1 => ok (lstD M1 s) fun ds => Q ds.reverse (gdS s ds) M1
section
variable {K : PySem.W.Frag} {X : Cx} {G : Gd} {e e2 a b c tg iter elt : Expr} {es : List Expr} {pos p : Pos} {ta tb t : TE'} {it : TI'}
theorem VI.weak {bd : Bool} {it' : TI'} (h : VI X G bd tg e it) (w : ∀ δ M Q, it' δ M Q → it δ M Q) : VI X G bd tg e it' :=
  ⟨fun pins s σ H R I ⟨δ, M, ι, Q0, S, q, z⟩ => h.run pins s σ H R I ⟨δ, M, ι, Q0, S, w _ _ _ q, z⟩⟩
/-- a list stays to be read -/
theorem list_stays {ι : Ix} {H : Hp} {δ : DS} {M : Mem} {σ : L2.St} {s : Sv} {v : V} {ds : List D} (S : Sr K G δ M ι σ H) (r : RS K G.N H ι s v) (e : lstD M s = some ds) :
    ∃ a, v = .ref a ∧ (∃ xs, SqL K H a xs ∧ RDs K G.N H ι ds xs) ∧ ds.length ≤ sizeLine ∧ ∀ (G2 : Gd) (δ2 : DS) (M2 : Mem) (ι2 : Ix) (σ2 : L2.St) (H2 : Hp), (∀ b a o, H a = some o → G.N b a → G2.N b a) → Sr K G2 δ2 M2 ι2 σ2 H2 → Ex ι ι2 → Kp ι H ι2 H2 → gdS s ds M2 → ∃ xs, SqL K H2 a xs ∧ RDs K G2.N H2 ι2 ds xs := by
  cases s with
  | ref n =>
    obtain ⟨a, rfl, hn, xs, q, hl, r⟩ := S.mem.at r (cellL_some (show cellL M[n]? = some ds from e)) (fun z => nomatch z)
    refine ⟨a, rfl, ⟨xs, SqL.of q, r⟩, hl, fun G2 δ2 M2 ι2 σ2 H2 hn2 S2 e2 k2 hg => ?_⟩
    have hM := cellL_some (show cellL M2[n]? = some ds from hg)
    rcases e2 n _ hn with h | h
    · obtain ⟨xs2, q2, _, r2⟩ := S2.mem.cell n _ a hM h
      exact ⟨xs2, SqL.of q2, r2⟩
    · rw [S2.mem.gone n h] at hM; cases hM
  | bor es =>
    cases e
    obtain ⟨a, xs, rfl, q, n, _, hl, r⟩ := r
    exact ⟨a, rfl, ⟨xs, SqL.of q, r⟩, hl, fun G2 δ2 M2 ι2 σ2 H2 hn2 S2 e2 k2 hg => ⟨xs, SqL.of (k2 a _ q n).1, r.mono k2 hn2⟩⟩
  | d d =>
    cases d with
    | lst es =>
      cases e
      obtain ⟨a, xs, rfl, q, n, _, hl, r⟩ := r
      exact ⟨a, rfl, ⟨xs, SqL.of q, r⟩, hl, fun G2 δ2 M2 ι2 σ2 H2 hn2 S2 e2 k2 hg => ⟨xs, SqL.of (k2 a _ q n).1, r.mono k2 hn2⟩⟩
    | scr ns =>
      cases e
      obtain ⟨a, rfl, ⟨o, q, n⟩ | q, hl⟩ := r
      · exact ⟨a, rfl, ⟨_, .inl (.inr ⟨o, q⟩), RDs.of_ints ns⟩, by simpa using hl, fun G2 δ2 M2 ι2 σ2 H2 hn2 S2 e2 k2 hg => ⟨_, .inl (.inr ⟨o, (k2 a _ q n).1⟩), RDs.of_ints ns⟩⟩
      · exact ⟨a, rfl, ⟨_, .inr q, RDs.of_ints ns⟩, by simpa using hl, fun G2 δ2 M2 ι2 σ2 H2 hn2 S2 e2 k2 hg => ⟨_, .inr q, RDs.of_ints ns⟩⟩
    | _ => cases e
theorem tup_stays {ι : Ix} {H : Hp} {v : V} {ds : List D} (r : RD K G.N H ι (.tup ds) v) :
    ∃ a, v = .ref a ∧ (∃ xs, SqT K H a xs) ∧ ds.length ≤ sizeLine ∧ ∀ (G2 : Gd) (ι2 : Ix) (H2 : Hp), (∀ b a o, H a = some o → G.N b a → G2.N b a) → Kp ι H ι2 H2 → ∃ xs, SqT K H2 a xs ∧ RDs K G2.N H2 ι2 ds xs := by
  obtain ⟨a, xs, rfl, q, hl, r⟩ := r
  refine ⟨a, rfl, ⟨xs, tup_sq q⟩, hl, fun G2 ι2 H2 hn2 k2 => ⟨xs, ?_, r.mono k2 hn2⟩⟩
  rcases q with ⟨q, n⟩ | q
  · exact SqT.of (k2 a _ q n).1
  · exact .inr q
theorem iter_l {ι : Ix} {H : Hp} {a : Addr} {ds : List D} {gd : Mem → Prop}
    (h : ∀ (G2 : Gd) (δ2 : DS) (M2 : Mem) (ι2 : Ix) (σ2 : L2.St) (H2 : Hp), (∀ b a o, H a = some o → G.N b a → G2.N b a) → Sr K G2 δ2 M2 ι2 σ2 H2 → Ex ι ι2 → Kp ι H ι2 H2 → gd M2 → ∃ xs, SqL K H2 a xs ∧ RDs K G2.N H2 ι2 ds xs) : IterD K G ι H (Itl K a) ds gd := by
  intro G2 δ2 M2 ι2 σ2 H2 hn2 S2 e2 k2 hg
  obtain ⟨xs, q, r⟩ := h G2 δ2 M2 ι2 σ2 H2 hn2 S2 e2 k2 hg
  refine ⟨⟨xs, q, by rw [r.length]; exact Nat.le_refl _⟩, fun i d hd => ?_⟩
  obtain ⟨v, hv, rv⟩ := r.get hd
  refine ⟨⟨xs, v, q, hv⟩, fun x H3 y => ?_⟩
  obtain ⟨rfl, y⟩ := y
  have : x = v := Option.some.inj ((y xs q).symm.trans hv)
  subst this
  exact ⟨.inl rfl, S2, Kp.refl _ _, rv⟩
theorem iter_t {ι : Ix} {H : Hp} {a : Addr} {ds : List D} {gd : Mem → Prop}
    (h : ∀ (G2 : Gd) (ι2 : Ix) (H2 : Hp), (∀ b a o, H a = some o → G.N b a → G2.N b a) → Kp ι H ι2 H2 → ∃ xs, SqT K H2 a xs ∧ RDs K G2.N H2 ι2 ds xs) : IterD K G ι H (Itt K a) ds gd := by
  intro G2 δ2 M2 ι2 σ2 H2 hn2 S2 e2 k2 hg
  obtain ⟨xs, q, r⟩ := h G2 ι2 H2 hn2 k2
  refine ⟨⟨xs, q, by rw [r.length]; exact Nat.le_refl _⟩, fun i d hd => ?_⟩
  obtain ⟨v, hv, rv⟩ := r.get hd
  refine ⟨⟨xs, v, q, hv⟩, fun x H3 y => ?_⟩
  obtain ⟨rfl, y⟩ := y
  have : x = v := Option.some.inj ((y xs q).symm.trans hv)
  subst this
  exact ⟨.inl rfl, S2, Kp.refl _ _, rv⟩
/-- a list -/
theorem vi_sq {bd : Bool} (h : VE X G e t) : VI X G bd tg e (iSq t) := by
  have hi := pi_list (tg := tg) h
  refine ⟨fun pins s σ H R I ⟨δ, M, ι, Q0, S, q, z⟩ => hi.run pins s σ H R I ?_⟩
  refine th1 S q fun x M1 ι1 H1 v q1 p1 k1 S1 r1 => ?_
  obtain ⟨ds, e1, q1⟩ := ok_elim q1
  obtain ⟨a, rfl, ⟨xs, hq, _⟩, hl, st⟩ := list_stays S1 r1 e1
  exact ⟨a, rfl, ⟨xs, hq⟩, z ds _ M1 ι1 H1 _ (fun _ => hl) q1 p1 k1 S1 (iter_l st)⟩
/-- a list or a tuple, known ahead -/
theorem vi_pq {bd : Bool} {pv : PV} (h : VE X G e (eP pv)) : VI X G bd tg e (iPq pv) := by
  have hi := pi_list (tg := tg) h
  have ht := pi_tup (tg := tg) h
  refine ⟨fun pins s σ H R I ⟨δ, M, ι, Q0, S, q, z⟩ => ?_⟩
  obtain ⟨x, e1, q⟩ := ok_elim q
  obtain ⟨ds, e2, q⟩ := ok_elim q
  by_cases hx : ∃ es, x = .d (.tup es)
  · obtain ⟨es, rfl⟩ := hx
    cases e2
    refine ht.run pins s σ H R I ?_
    refine th1 (Q0 := fun d M' => d = .d (.tup ds) ∧ M' = M) S (ok_of e1 ⟨rfl, rfl⟩) fun x M1 ι1 H1 v q1 p1 k1 S1 r1 => ?_
    obtain ⟨rfl, rfl⟩ := q1
    obtain ⟨a, rfl, hq, hl, st⟩ := tup_stays (K := X.K) (G := G) r1
    exact ⟨a, rfl, hq, z ds _ M1 ι1 H1 _ (fun _ => hl) q p1 k1 S1 (iter_t st)⟩
  · have e3 : lstD M x = some ds := by
      cases x with
      | d x =>
        cases x with
        | tup es => exact absurd ⟨es, rfl⟩ hx
        | lst es => exact e2
        | scr es => exact e2
        | _ => cases e2
      | ref n => exact e2
      | bor n => exact e2
    refine hi.run pins s σ H R I ?_
    refine th1 (Q0 := fun d M' => d = x ∧ M' = M) S (ok_of e1 ⟨rfl, rfl⟩) fun x M1 ι1 H1 v q1 p1 k1 S1 r1 => ?_
    obtain ⟨rfl, rfl⟩ := q1
    obtain ⟨a, rfl, ⟨xs, hq, _⟩, hl, st⟩ := list_stays S1 r1 e3
    exact ⟨a, rfl, ⟨xs, hq⟩, z ds _ M1 ι1 H1 _ (fun _ => hl) q p1 k1 S1 (iter_l st)⟩
theorem rg_get {lo : Int} {n i : Nat} {d : D} (h : (rgL lo n)[i]? = some d) : i < n ∧ d = .int (lo + (i : Nat)) := by
  unfold rgL at h
  rw [List.getElem?_map] at h
  obtain ⟨j, h1, rfl⟩ := Option.map_eq_some_iff.mp h
  obtain ⟨h2, h3⟩ := List.getElem?_eq_some_iff.mp h1
  simp at h2 h3
  subst h3
  exact ⟨h2, rfl⟩
theorem rgL_len (lo : Int) (n : Nat) : (rgL lo n).length = n := by simp [rgL]
theorem rgc_get {lo c : Int} {n i : Nat} {d : D} (h : (rgC lo c n)[i]? = some d) : i < n ∧ d = .int (lo + (i : Nat) * c) := by
  unfold rgC at h
  rw [List.getElem?_map] at h
  obtain ⟨j, h1, rfl⟩ := Option.map_eq_some_iff.mp h
  obtain ⟨h2, h3⟩ := List.getElem?_eq_some_iff.mp h1
  simp at h2 h3
  subst h3
  exact ⟨h2, rfl⟩
theorem rgC_len (lo c : Int) (n : Nat) : (rgC lo c n).length = n := by simp [rgC]
theorem iter_r {ι : Ix} {H : Hp} {lo : Int} {n : Nat} {gd : Mem → Prop} : IterD K G ι H (Itr lo n) (rgL lo n) gd := by
  intro G2 δ2 M2 ι2 σ2 H2 hn2 S2 e2 k2 hg
  refine ⟨by rw [rgL_len]; exact Nat.le_refl _, fun i d hd => ?_⟩
  obtain ⟨h1, rfl⟩ := rg_get hd
  refine ⟨h1, fun x H3 y => ?_⟩
  obtain ⟨rfl, rfl⟩ := y
  exact ⟨.inl rfl, S2, Kp.refl _ _, rfl⟩
theorem iter_rc {ι : Ix} {H : Hp} {lo c : Int} {n : Nat} {gd : Mem → Prop} : IterD K G ι H (Itc lo c n) (rgC lo c n) gd := by
  intro G2 δ2 M2 ι2 σ2 H2 hn2 S2 e2 k2 hg
  refine ⟨by rw [rgC_len]; exact Nat.le_refl _, fun i d hd => ?_⟩
  obtain ⟨h1, rfl⟩ := rgc_get hd
  refine ⟨h1, fun x H3 y => ?_⟩
  obtain ⟨rfl, rfl⟩ := y
  exact ⟨.inl rfl, S2, Kp.refl _ _, rfl⟩
theorem len2 {α : Type} {xs : List α} (h : xs.length = 2) : ∃ x y, xs = [x, y] := by
  match xs, h with
  | [x, y], _ => exact ⟨x, y, rfl⟩
theorem len3 {α : Type} {xs : List α} (h : xs.length = 3) : ∃ x y z, xs = [x, y, z] := by
  match xs, h with
  | [x, y, z], _ => exact ⟨x, y, z, rfl⟩
theorem vi_range1 {bd : Bool} {tA : TA'} (hg : Gl X "range") (hm : X.mg "range" = none) (ha : VA X G [a] 1 tA) (hs : starEach [a] X.env = [(false, eval a X.env)] := by rfl) : VI X G bd tg (.Call (.Name "range" p) [a] [] pos) (iRg bd tA) := by
  have hi := pi_range1 (tg := tg) (p := p) (pos := pos) hg hm ha hs
  refine ⟨fun pins s σ H R I ⟨δ, M, ι, Q0, S, q, z⟩ => hi.run pins s σ H R I ?_⟩
  refine thA S q fun xs M1 ι1 H1 vs hl q1 p1 k1 S1 r1 => ?_
  obtain ⟨x, rfl⟩ : ∃ x, xs = [x] := List.length_eq_one_iff.mp hl
  obtain ⟨v, rfl, rv⟩ := one_of r1
  unfold rngD at q1
  split at q1
  · rename_i j hj
    cases hj
    cases (show _ = _ from rv)
    exact ⟨_, rfl, q1.1.1, q1.1.2, z _ _ M1 ι1 H1 _ q1.2.1 q1.2.2 p1 k1 S1 iter_r⟩
  · rename_i hj; cases hj
  · rename_i hj; cases hj
  · exact q1.elim
theorem vi_range2 {bd : Bool} {tA : TA'} (hg : Gl X "range") (hm : X.mg "range" = none) (ha : VA X G [a, b] 2 tA) (hs : starEach [a, b] X.env = [(false, eval a X.env), (false, eval b X.env)] := by rfl) (hs2 : starEach [b] X.env = [(false, eval b X.env)] := by rfl) : VI X G bd tg (.Call (.Name "range" p) [a, b] [] pos) (iRg bd tA) := by
  have hi := pi_range2 (tg := tg) (p := p) (pos := pos) hg hm ha hs hs2
  refine ⟨fun pins s σ H R I ⟨δ, M, ι, Q0, S, q, z⟩ => hi.run pins s σ H R I ?_⟩
  refine thA S q fun xs M1 ι1 H1 vs hl q1 p1 k1 S1 r1 => ?_
  obtain ⟨x, y, rfl⟩ : ∃ x y, xs = [x, y] := len2 hl
  obtain ⟨v, u, rfl, rv, ru⟩ := two_of r1
  unfold rngD at q1
  split at q1
  · rename_i hj; cases hj
  · rename_i j i hj
    cases hj
    cases (show _ = _ from rv); cases (show _ = _ from ru)
    exact ⟨_, _, rfl, ⟨q1.1.1.1, q1.1.1.2, q1.1.2.1, q1.1.2.2⟩, z _ _ M1 ι1 H1 _ q1.2.1 q1.2.2 p1 k1 S1 iter_r⟩
  · rename_i hj; cases hj
  · exact q1.elim
theorem fin_pair {δ : DS} {M : Mem} {ι : Ix} {σ : L2.St} {H : Hp} {d1 d2 : D} {x y : V} {p : Addr} (S : Sr K G δ M ι σ H) (hp : H p = none) (r1 : RD K G.N H ι d1 x) (r2 : RD K G.N H ι d2 y) :
    Sr K G δ M ι σ (upd H p (.tup [x, y])) ∧ Kp ι H ι (upd H p (.tup [x, y])) ∧ RD K G.N (upd H p (.tup [x, y])) ι (.tup [d1, d2]) (.ref p) := by
  refine ⟨S.laid hp, Kp.laid hp, p, [x, y], rfl, .inl ⟨upd_same, S.mem.fresh hp⟩, by show 2 ≤ sizeLine; decide, x, [y], rfl, RD.mono (Kp.laid hp) (fun _ _ _ _ z => z) _ _ r1, y, [], rfl, RD.mono (Kp.laid hp) (fun _ _ _ _ z => z) _ _ r2, rfl⟩
theorem enum_get {ds : List D} {i : Nat} {d : D} (h : (enumL ds)[i]? = some d) : ∃ d0, ds[i]? = some d0 ∧ d = .tup [.int (i : Nat), d0] := by
  unfold enumL at h
  rw [List.getElem?_map, List.getElem?_zipIdx] at h
  cases q : ds[i]? with
  | none => rw [q] at h; cases h
  | some d0 => rw [q] at h; simp at h; exact ⟨d0, rfl, h.symm⟩
theorem enumL_len (ds : List D) : (enumL ds).length = ds.length := by simp [enumL]
theorem zip_get {as bs : List D} {i : Nat} {d : D} (h : (zipL as bs)[i]? = some d) : ∃ d1 d2, as[i]? = some d1 ∧ bs[i]? = some d2 ∧ d = .tup [d1, d2] := by
  unfold zipL at h
  rw [List.getElem?_map] at h
  obtain ⟨⟨d1, d2⟩, h1, rfl⟩ := Option.map_eq_some_iff.mp h
  rw [List.getElem?_zip_eq_some] at h1
  exact ⟨d1, d2, h1.1, h1.2, rfl⟩
theorem vi_enum {bd : Bool} {elts : List Expr} {kk : Nat} {tpos : Pos} (hg : Gl X "enumerate") (hm : X.mg "enumerate" = none) (h : VE X G e t) (hs : starEach [e] X.env = [(false, eval e X.env)] := by rfl) : VI X G bd (.Tuple elts kk tpos) (.Call (.Name "enumerate" p) [e] [] pos) (iEn t) := by
  have hi := pi_enum (tpos := tpos) (elts := elts) (kk := kk) (p := p) (pos := pos) hg hm (pa_cons h pa_nil (by rw [hs]; rfl)) hs
  refine ⟨fun pins s σ H R I ⟨δ, M, ι, Q0, S, q, z⟩ => hi.run pins s σ H R I ?_⟩
  refine th1 S q fun x M1 ι1 H1 v q1 p1 k1 S1 r1 => ?_
  obtain ⟨ds, e1, q1⟩ := ok_elim q1
  obtain ⟨a, rfl, ⟨xs, hq, _⟩, hl, st⟩ := list_stays S1 r1 e1
  refine ⟨a, xs, rfl, hq, z _ _ M1 ι1 H1 _ (fun _ => by rw [enumL_len]; exact hl) q1 p1 k1 S1 ?_⟩
  intro G2 δ2 M2 ι2 σ2 H2 hn2 S2 e2 k2 hg
  obtain ⟨ys, qy, ry⟩ := st G2 δ2 M2 ι2 σ2 H2 hn2 S2 e2 k2 hg
  have w := walk_enum (K := X.K) (a := a) (xs := ys)
  refine ⟨by rw [enumL_len, ry.length]; exact w.stops H2 qy, fun i d hd => ?_⟩
  obtain ⟨d0, h0, rfl⟩ := enum_get hd
  obtain ⟨y, hy, ryy⟩ := ry.get h0
  have hlt := (List.getElem?_eq_some_iff.mp hy).1
  refine ⟨w.goes i H2 hlt qy, fun x H3 hyl => ?_⟩
  obtain ⟨T, x1, y1, rfl, hT, rfl, h5, h6⟩ := w.yields i H2 x H3 hlt qy hyl
  cases h5
  have h6 : ys[i]? = some y1 := h6
  rw [hy] at h6; cases h6
  exact ⟨.inr ⟨T, _, hT, rfl⟩, fin_pair S2 hT rfl ryy⟩
theorem vi_zip {bd : Bool} {elts : List Expr} {kk : Nat} {tpos : Pos} {tA : TA'} (hg : Gl X "zip") (hm : X.mg "zip" = none) (ha : VA X G [e, e2] 2 tA) (hs : starEach [e, e2] X.env = (false, eval e X.env) :: starEach [e2] X.env := by rfl) (hpl : ((backTo pos (starEach [e2] X.env)).any fun x => x.1) = false := by rfl) : VI X G bd (.Tuple elts kk tpos) (.Call (.Name "zip" p) [e, e2] [] pos) (iZp tA) := by
  have hi := pi_zip (tpos := tpos) (elts := elts) (kk := kk) (p := p) (pos := pos) hg hm ha hs hpl
  refine ⟨fun pins s σ H R I ⟨δ, M, ι, Q0, S, q, z⟩ => hi.run pins s σ H R I ?_⟩
  refine thA S q fun xs M1 ι1 H1 vs hl q1 p1 k1 S1 r1 => ?_
  obtain ⟨x, y, rfl⟩ : ∃ x y, xs = [x, y] := len2 hl
  obtain ⟨v, u, rfl, r1, r2⟩ := two_of r1
  obtain ⟨as, ea, q1⟩ := ok_elim q1
  obtain ⟨bs, eb, q1⟩ := ok_elim q1
  obtain ⟨a1, rfl, ⟨xs, hq, _⟩, hl1, st⟩ := list_stays S1 r1 ea
  obtain ⟨a2, rfl, ⟨ys, hq2, _⟩, hl2, st2⟩ := list_stays S1 r2 eb
  refine ⟨a1, a2, xs, ys, rfl, hq, hq2, z _ _ M1 ι1 H1 _ (fun _ => by unfold zipL; rw [List.length_map, List.length_zip]; omega) q1 p1 k1 S1 ?_⟩
  intro G2 δ2 M2 ι2 σ2 H2 hn2 S2 e2 k2 hg
  obtain ⟨xs, qx, rx⟩ := st G2 δ2 M2 ι2 σ2 H2 hn2 S2 e2 k2 hg.1
  obtain ⟨ys, qy, ry⟩ := st2 G2 δ2 M2 ι2 σ2 H2 hn2 S2 e2 k2 hg.2
  have w := walk_zip (K := X.K) (a := a1) (b := a2) (xs := xs) (ys := ys) (n := min xs.length ys.length) rfl
  refine ⟨by have := w.stops H2 ⟨qx, qy⟩; simpa [zipL, rx.length, ry.length] using this, fun i d hd => ?_⟩
  obtain ⟨d1, d2, h1, h2, rfl⟩ := zip_get hd
  obtain ⟨x, hx, rxx⟩ := rx.get h1
  obtain ⟨y, hy, ryy⟩ := ry.get h2
  have hl1 := (List.getElem?_eq_some_iff.mp hx).1
  have hl2 := (List.getElem?_eq_some_iff.mp hy).1
  have hlt : i < min xs.length ys.length := by omega
  refine ⟨w.goes i H2 hlt ⟨qx, qy⟩, fun v H3 hyl => ?_⟩
  obtain ⟨T, x1, y1, rfl, hT, rfl, h5, h6⟩ := w.yields i H2 v H3 hlt ⟨qx, qy⟩ hyl
  have h5 : xs[i]? = some x1 := h5
  have h6 : ys[i]? = some y1 := h6
  rw [hx] at h5; cases h5
  rw [hy] at h6; cases h6
  exact ⟨.inr ⟨T, _, hT, rfl⟩, fin_pair S2 hT rxx ryy⟩
theorem vi_rev {bd : Bool} (hg : Gl X "reversed") (hm : X.mg "reversed" = none) (h : VE X G e t) (hs : starEach [e] X.env = (false, eval e X.env) :: starEach [] X.env := by rfl) : VI X G bd tg (.Call (.Name "reversed" p) [e] [] pos) (iRv t) := by
  have hi := pi_revA (tg := tg) (p := p) (pos := pos) hg hm h hs
  refine ⟨fun pins s σ H R I ⟨δ, M, ι, Q0, S, q, z⟩ => hi.run pins s σ H R I ?_⟩
  refine th1 S q fun x M1 ι1 H1 v q1 p1 k1 S1 r1 => ?_
  obtain ⟨ds, e1, q1⟩ := ok_elim q1
  obtain ⟨a, rfl, ⟨xs, hq, rx⟩, hl, st⟩ := list_stays S1 r1 e1
  refine ⟨a, xs, rfl, .inl ⟨hq, z _ _ M1 ι1 H1 _ (fun _ => by rw [List.length_reverse]; exact hl) q1 p1 k1 S1 ?_⟩⟩
  have hlen : xs.length = ds.length := rx.length.symm
  intro G2 δ2 M2 ι2 σ2 H2 hn2 S2 e2 k2 hg
  obtain ⟨ys, qy, ry⟩ := st G2 δ2 M2 ι2 σ2 H2 hn2 S2 e2 k2 hg
  have hly : ys.length = ds.length := ry.length.symm
  refine ⟨by show xs.length ≤ ds.reverse.length; rw [hlen, List.length_reverse]; exact Nat.le_refl _, fun i d hd => ?_⟩
  have hlt := (List.getElem?_eq_some_iff.mp hd).1
  rw [List.length_reverse] at hlt
  rw [List.getElem?_reverse hlt] at hd
  obtain ⟨y, hy, ryy⟩ := ry.get hd
  rw [← hlen] at hy
  refine ⟨⟨by omega, ys, y, qy, hy⟩, fun x H3 hyl => ?_⟩
  obtain ⟨rfl, hyl⟩ := hyl
  have : x = y := Option.some.inj ((hyl ys qy).symm.trans hy)
  subst this
  exact ⟨.inl rfl, S2, Kp.refl _ _, ryy⟩
end
end VL
set_option Elab.async false
set_option linter.all false
set_option maxRecDepth 100000
set_option maxHeartbeats 4000000
namespace VL
open PySem PySem.Spec L2 RT RZ

/-! ### comprehensions -/
def wipeS (δ : DS) : List Nat → DS
  | [] => δ
  | v :: vs => (wipeS δ vs).set v none
/-- a target in a comprehension -/
inductive LcG where
  | nm (i : Nat) | tp (is : List Nat)
def LcG.names : LcG → List Nat
  | .nm i => [i]
  | .tp is => is
def LcG.to : LcG → TG'
  | .nm i => gNm i
  | .tp is => gTp is
def lcL (g : TG') (tt : TT') (te : TE') (δw : DS) (gd : Mem → Prop) (Q : List D → Mem → Prop) : List D → List D → Mem → Prop
  | [], acc, M => gd M ∧ Q acc M
  | d :: ds, acc, M => gd M ∧ g d δw M fun δ2 M2 => tt δ2 M2 fun b M3 =>
      if b then te δ2 M3 fun s M4 => ok (dataS s) fun y => lcL g tt te δw gd Q ds (acc ++ [y]) M4 else lcL g tt te δw gd Q ds acc M3
def fLc (it : TI') (g : LcG) (tt : TT') (te : TE') (vs : List Nat) : TF' := fun δ M Q => it δ M fun ds gd M1 => lcL g.to tt te (wipeS δ vs) gd Q ds [] M1
def tYs : TT' := fun _ M Q => Q true M

section
variable {K : PySem.W.Frag} {X : Cx} {G : Gd} {δ : DS} {M : Mem} {ι : Ix} {σ : L2.St} {H H' : Hp}
theorem wipe_get (σ : L2.St) (j : Nat) : ∀ vs : List Nat, (wipe σ vs)[j]? = if j ∈ vs then (σ[j]?).map (fun _ => none) else σ[j]?
  | [] => by simp [wipe]
  | v :: vs => by
    unfold wipe
    have ih := wipe_get σ j vs
    by_cases h : v = j
    · subst h
      rw [if_pos List.mem_cons_self, List.getElem?_set_self']
      rw [ih]
      split <;> cases σ[v]? <;> rfl
    · rw [List.getElem?_set_ne h, ih]
      have : (j ∈ v :: vs) ↔ j ∈ vs := by simp [Ne.symm h]
      simp only [this]
theorem wipeS_get (σ : DS) (j : Nat) : ∀ vs : List Nat, (wipeS σ vs)[j]? = if j ∈ vs then (σ[j]?).map (fun _ => none) else σ[j]?
  | [] => by simp [wipeS]
  | v :: vs => by
    unfold wipeS
    have ih := wipeS_get σ j vs
    by_cases h : v = j
    · subst h
      rw [if_pos List.mem_cons_self, List.getElem?_set_self']
      rw [ih]
      split <;> cases σ[v]? <;> rfl
    · rw [List.getElem?_set_ne h, ih]
      have : (j ∈ v :: vs) ↔ j ∈ vs := by simp [Ne.symm h]
      simp only [this]
theorem wipe_set (σ : L2.St) (vs : List Nat) {i : Nat} (x : Option V) (hi : i ∈ vs) : wipe (σ.set i x) vs = wipe σ vs := by
  apply List.ext_getElem?
  intro j
  rw [wipe_get, wipe_get]
  by_cases h : i = j
  · subst h
    rw [if_pos hi, if_pos hi, List.getElem?_set_self']
    cases σ[i]? <;> rfl
  · rw [List.getElem?_set_ne h]
theorem Sr.wiped (S : Sr K G δ M ι σ H) (vs : List Nat) : Sr K G (wipeS δ vs) M ι (wipe σ vs) H := by
  refine ⟨?_, fun i d e => ?_, S.mem, S.pre, S.kp, S.new, S.bad, S.hid⟩
  · have h2 : (wipeS δ vs).length = δ.length := by
      induction vs with
      | nil => rfl
      | cons v vs ih => unfold wipeS; rw [List.length_set, ih]
    rw [wipe_length, h2]; exact S.len
  · rw [wipeS_get] at e
    split at e
    · cases q : δ[i]? with
      | none => rw [q] at e; cases e
      | some o => rw [q] at e; cases e
    · rename_i hn
      obtain ⟨v, e1, r⟩ := S.slot i d e
      exact ⟨v, by rw [wipe_get, if_neg hn]; exact e1, r⟩
/-- behind the block: the slots of the def again -/
theorem Sr.back {δ' : DS} {M' : Mem} {ι' : Ix} {σ' : L2.St} (S : Sr K G δ M ι σ H) (S' : Sr K G δ' M' ι' σ' H') (p : Ex ι ι') (k : Kp ι H ι' H') : Sr K G δ M' ι' σ H' :=
  ⟨S.len, fun i d e => by
    obtain ⟨v, e1, r⟩ := S.slot i d e
    exact ⟨v, e1, r.mono k p fun _ _ _ _ z => z⟩, S'.mem, S'.pre, S'.kp, S'.new, S'.bad, S'.hid⟩
/-- the ground while a list at p is just being made -/
def Gd.hide (G : Gd) (p : Addr) : Gd := { G with Hd := fun a => G.Hd a ∨ a = p }
mutual
theorem RD.hide {N N' : Bool → Addr → Prop} {H' : Hp} (hk : ∀ a o, H a = some o → (∀ xs, o = .lst xs → (∃ b, N b a)) → H' a = some o) (hn : ∀ b a o, H a = some o → N b a → N' b a) : ∀ (d : D) (v : V), RD K N H ι d v → RD K N' H' ι d v
  | .non, _, h => h
  | .bl _, _, h => h
  | .int _, _, h => h
  | .str _, _, h => h
  | .fn _, _, h => h
  | .ty _, _, h => h
  | .scr ns, v, h => by
    obtain ⟨a, e, ⟨o, q, n⟩ | q, l⟩ := h
    · exact ⟨a, e, .inl ⟨o, hk a _ q (fun xs z => nomatch z), n⟩, l⟩
    · exact ⟨a, e, .inr q, l⟩
  | .tup ds, v, h => by
    obtain ⟨a, xs, e, q, l, r⟩ := h
    refine ⟨a, xs, e, ?_, l, RDs.hide hk hn ds xs r⟩
    rcases q with ⟨q, n⟩ | q
    · exact .inl ⟨hk a _ q (fun xs z => nomatch z), n⟩
    · exact .inr q
  | .lst ds, v, h => by
    obtain ⟨a, xs, e, q, n, z, l, r⟩ := h
    exact ⟨a, xs, e, hk a _ q (fun _ _ => ⟨_, z⟩), n, hn _ a _ q z, l, RDs.hide hk hn ds xs r⟩
theorem RDs.hide {N N' : Bool → Addr → Prop} {H' : Hp} (hk : ∀ a o, H a = some o → (∀ xs, o = .lst xs → (∃ b, N b a)) → H' a = some o) (hn : ∀ b a o, H a = some o → N b a → N' b a) : ∀ (ds : List D) (vs : List V), RDs K N H ι ds vs → RDs K N' H' ι ds vs
  | [], _, h => h
  | d :: ds, vs, h => by
    obtain ⟨x, r, e, h1, h2⟩ := h
    exact ⟨x, r, e, RD.hide hk hn d x h1, RDs.hide hk hn ds r h2⟩
end
/-- the state seen otherwise: all things of it stay, the ground changes in what is hidden -/
theorem Sr.hideG {G' : Gd} {H' : Hp} (S : Sr K G δ M ι σ H) (g1 : G'.He = G.He) (g2 : G'.i0 = G.i0) (g3 : G'.B = G.B) (hk : ∀ a o, H a = some o → (∀ xs, o = .lst xs → (∃ b, G.N b a) ∨ some a ∈ ι) → H' a = some o) (hn : ∀ b a o, H a = some o → G.N b a → G'.N b a)
    (kp : Kp (G.i0.map some) G.He ι H') (hid : ∀ a, G'.Hd a → some a ∉ ι ∧ ∃ o, H' a = some o) : Sr K G' δ M ι σ H' := by
  have hk' : ∀ a o, H a = some o → (∀ xs, o = .lst xs → (∃ b, G.N b a)) → H' a = some o := fun a o e z => hk a o e fun xs h => .inl (z xs h)
  refine ⟨S.len, fun i d e => ?_, ⟨S.mem.len, S.mem.nod, fun n c a e1 e2 => ?_, S.mem.gone⟩, by rw [g2]; exact S.pre, by rw [g1, g2]; exact kp, by rw [g1, g2]; exact S.new, by rw [g1, g3]; exact S.bad, hid⟩
  · obtain ⟨v, e1, r⟩ := S.slot i d e
    refine ⟨v, e1, ?_⟩
    cases d with
    | d x => exact RD.hide hk' hn x v r
    | ref n => exact r
    | bor ds =>
      obtain ⟨a, xs, e2, q, n, z, l, r⟩ := r
      exact ⟨a, xs, e2, hk' a _ q (fun _ _ => ⟨_, z⟩), n, hn _ a _ q z, l, RDs.hide hk' hn ds xs r⟩
  · have h := S.mem.cell n c a e1 e2
    cases c with
    | gone => exact h
    | lst ds => obtain ⟨xs, q, l, r⟩ := h; exact ⟨xs, hk a _ q (fun _ _ => .inr (List.mem_of_getElem? e2)), l, RDs.hide hk' hn ds xs r⟩
    | dk kvs => obtain ⟨ws, q, z, r⟩ := h; exact ⟨ws, hk a _ q (fun xs z => nomatch z), z, RDs.hide hk' hn _ _ r⟩
end
end VL
set_option Elab.async false
set_option linter.all false
set_option maxRecDepth 100000
set_option maxHeartbeats 4000000
namespace VL
open PySem PySem.Spec L2 RT RZ

/-- a comprehension's target, as the layer below reads it -/
def LcG.raw (K : PySem.W.Frag) : LcG → TG
  | .nm i => gName i
  | .tp is => gTup K is.length (is.foldr (fun i r => gCons (gName i) r) gNil)
section
variable {K : PySem.W.Frag} {X : Cx} {G : Gd} {δ : DS} {M : Mem} {ι : Ix} {σ : L2.St} {H H' : Hp}
theorem raw_names {vs : List Nat} {σ0 : L2.St} : ∀ {is : List Nat} {ds : List D} {xs : List V} {δ : DS} {σ : L2.St} {Q : L2.St → Hp → Prop}, Sr K G δ M ι σ H → RDs K G.N H ι ds xs → (∀ i ∈ is, i ∈ vs) → wipe σ vs = wipe σ0 vs →
    ∀ δ', setAll is ds δ = some δ' → (∀ σ', Sr K G δ' M ι σ' H → wipe σ' vs = wipe σ0 vs → Q σ' H) → is.foldr (fun i r => gCons (gName i) r) gNil xs σ H Q
  | [], ds, xs, δ, σ, Q, S, r, hv, hw, δ', e, z => by
    cases ds with
    | nil => cases e; cases (show _ = _ from r); exact ⟨rfl, z σ S hw⟩
    | cons d ds => cases e
  | i :: is, ds, xs, δ, σ, Q, S, r, hv, hw, δ', e, z => by
    cases ds with
    | nil => cases e
    | cons d ds =>
      obtain ⟨v, vr, rfl, r1, r2⟩ := r
      refine ⟨v, vr, rfl, ?_⟩
      exact raw_names (σ := σ.set i (some v)) (S.set (d := .d d) r1) r2 (fun j hj => hv j (List.mem_cons_of_mem _ hj)) ((wipe_set σ vs (some v) (hv i List.mem_cons_self)).trans hw) δ' e z
theorem raw_of {g : LcG} {vs : List Nat} {σ0 : L2.St} {d : D} {v : V} {Q0 : DS → Mem → Prop} {Q : L2.St → Hp → Prop} (S : Sr K G δ M ι σ H) (r : RD K G.N H ι d v) (hv : ∀ i ∈ g.names, i ∈ vs) (hw : wipe σ vs = wipe σ0 vs) (h : g.to d δ M Q0)
    (z : ∀ δ' σ', Q0 δ' M → Sr K G δ' M ι σ' H → wipe σ' vs = wipe σ0 vs → Q σ' H) : g.raw K v σ H Q := by
  cases g with
  | nm i => exact z _ _ h (S.set (d := .d d) r) ((wipe_set σ vs (some v) (hv i List.mem_cons_self)).trans hw)
  | tp is =>
    simp only [LcG.to, gTp] at h
    split at h
    · rename_i ds
      obtain ⟨δ', e, h⟩ := ok_elim h
      obtain ⟨a, xs, rfl, q, _, r⟩ := r
      exact ⟨a, xs, rfl, tup_sq q, by rw [← r.length, setAll_len e], raw_names S r hv hw δ' e fun σ' S' hw' => z δ' σ' h S' hw'⟩
    · exact h.elim
theorem wipe_wipe (σ : L2.St) (vs : List Nat) : wipe (wipe σ vs) vs = wipe σ vs := by
  apply List.ext_getElem?
  intro j
  rw [wipe_get, wipe_get]
  split
  · cases σ[j]? <;> rfl
  · rfl

abbrev VTs (X : Cx) (G : Gd) (es : List Expr) (t : TT') : Prop := PTs X es (lT X.K G t)
theorem vts_nil : VTs X G [] tYs := ⟨fun pins s σ H Q I ⟨δ, M, ι, Q0, S, q, z⟩ => pts_nil.run pins s σ H Q I (z true M ι H q (Ex.refl _) (Kp.refl _ _) S)⟩
theorem vts_one {c : Expr} {t : TT'} (h : VT X G c t) : VTs X G [c] t := pts_one h

/-- a comprehension's reading, in the layer below (the ground of the elements is not known ahead: tests and elements under any ground) -/
theorem lc_low {it : TI'} {g : LcG} {tt : TT'} {te : TE'} {vs : List Nat} (hv : ∀ i ∈ g.names, i ∈ vs) {σ : L2.St} {H : Hp} {Q : VK} (h : lF X.K G (fLc it g tt te vs) σ H Q) :
    tLc (lI X.K G true it) (g.raw X.K) (fun σ H Q => ∃ G', G'.i0 = G.i0 ∧ lT X.K G' tt σ H Q) (fun σ H Q => ∃ G', G'.i0 = G.i0 ∧ lE X.K G' te σ H Q) vs σ H Q := by
  obtain ⟨δ, M, ι, Q0, S, q, z⟩ := h
  refine ⟨δ, M, ι, _, S, q, fun ds gd M1 ι1 H1 J hb q1 p1 k1 S1 hJ => fun Dd hD => ?_⟩
  have hb := hb rfl
  have hDi : some Dd ∉ ι1 := S1.mem.fresh hD
  have kst : Kp ι1 H1 ι1 (upd H1 Dd (.lst [])) := Kp.laid hD
  have S2 : Sr X.K (G.hide Dd) (wipeS δ vs) M1 ι1 (wipe σ vs) (upd H1 Dd (.lst [])) := by
    have hne : ∀ a o, H1 a = some o → a ≠ Dd := fun a o e => ne_of_none e hD
    refine (S1.wiped vs).hideG rfl rfl rfl (fun a o e _ => by rw [upd_ne (hne a o e)]; exact e) (fun b a o e n => ⟨fun hh => ?_, n.2⟩) (S1.kp.trans kst) (fun a ha => ?_)
    · rcases hh with hh | rfl
      · exact n.1 hh
      · exact hne _ o e rfl
    · rcases ha with ha | rfl
      · obtain ⟨h1, o, h2⟩ := S1.hid a ha
        exact ⟨h1, o, (kst a o h2 h1).1⟩
      · exact ⟨hDi, _, upd_same⟩
  have hne : ∀ a o, H1 a = some o → a ≠ Dd := fun a o e => ne_of_none e hD
  have hN0 : ∀ b a o, H1 a = some o → G.N b a → (G.hide Dd).N b a := by
    intro b a o e n
    refine ⟨fun hh => ?_, n.2⟩
    rcases hh with hh | hh
    · exact n.1 hh
    · exact hne a o e hh
  have hHe : ∀ a o, G.He a = some o → some a ∉ G.i0.map some → a ≠ Dd := fun a o e n => hne a o (S1.kp a o e n).1
  -- what is hidden is neither named nor data
  have off : ∀ {ιc : Ix} {Hc : Hp} {δc Mc σc} (Sc : Sr X.K (G.hide Dd) δc Mc ιc σc Hc) {accV : List V} (hDc : Hc Dd = some (.lst accV)) (a : Addr) (o : HO), Hc a = some o → (∀ xs, o = .lst xs → (∃ b, (G.hide Dd).N b a) ∨ some a ∈ ιc) → a ≠ Dd := by
    intro ιc Hc δc Mc σc Sc accV hDc a o e hx hz
    subst hz
    rw [hDc] at e
    rcases hx accV (Option.some.inj e).symm with ⟨b, n⟩ | n
    · exact n.1 (.inr rfl)
    · exact (Sc.hid a (.inr rfl)).1 n
  -- the turns
  refine ⟨fun i m Hc => m = ds.length - i ∧ i ≤ ds.length ∧ ∃ acc accV Mc ιc, Sr X.K (G.hide Dd) (wipeS δ vs) Mc ιc (wipe σ vs) Hc ∧ Ex ι1 ιc ∧ Kp ι1 H1 ιc Hc ∧ Hc Dd = some (.lst accV) ∧ RDs X.K (G.hide Dd).N Hc ιc acc accV ∧ acc.length ≤ i ∧ lcL g.to tt te (wipeS δ vs) gd Q0 (ds.drop i) acc Mc,
    ⟨ds.length, by simp, Nat.zero_le _, [], [], M1, ι1, S2, Ex.refl _, kst, upd_same, rfl, Nat.zero_le _, by simpa using q1⟩, ?_⟩
  rintro i m Hc ⟨rfl, hi', acc, accV, Mc, ιc, Sc, ec, kc, hDc, rc, lc, qc⟩
  by_cases hlt : i < ds.length
  · have hd : ds.drop i = ds[i] :: ds.drop (i + 1) := List.drop_eq_getElem_cons hlt
    rw [hd] at qc
    obtain ⟨hgd, qc⟩ := qc
    obtain ⟨_, hgo⟩ := hJ (G.hide Dd) _ Mc ιc _ Hc hN0 Sc ec kc hgd
    obtain ⟨go, hy⟩ := hgo i ds[i] (List.getElem?_eq_getElem hlt)
    refine .inr ⟨go, fun H' => ∃ acc accV Mc ιc, Sr X.K (G.hide Dd) (wipeS δ vs) Mc ιc (wipe σ vs) H' ∧ Ex ι1 ιc ∧ Kp ι1 H1 ιc H' ∧ H' Dd = some (.lst accV) ∧ RDs X.K (G.hide Dd).N H' ιc acc accV ∧ acc.length ≤ i + 1 ∧ lcL g.to tt te (wipeS δ vs) gd Q0 (ds.drop (i + 1)) acc Mc,
      fun H' h' => ⟨ds.length - (i + 1), by omega, rfl, hlt, h'⟩, fun x H3 y3 => ?_⟩
    obtain ⟨hH3, S3, k3, r3⟩ := hy x H3 y3
    have hidc := (Sc.hid Dd (.inr rfl)).1
    refine raw_of (σ0 := σ) S3 r3 hv (wipe_wipe σ vs) qc fun δ4 σ4 q4 S4 hw4 => ⟨hw4, G.hide Dd, rfl, δ4, Mc, ιc, _, S4, q4, fun b M5 ι5 H5 q5 e5 k5 S5 => ?_⟩
    have S5' := Sc.back S5 e5 (k3.trans k5)
    have hD5 := ((k3.trans k5) Dd _ hDc hidc).1
    have r5 := rc.mono (N' := (G.hide Dd).N) (k3.trans k5) (fun _ _ _ _ z => z)
    cases b with
    | false =>
      simp only [Bool.false_eq_true, if_false] at q5 ⊢
      exact ⟨acc, accV, M5, ι5, S5', ec.trans e5, kc.trans (k3.trans k5), hD5, r5, by omega, q5⟩
    | true =>
      simp only [if_true] at q5 ⊢
      refine ⟨G.hide Dd, rfl, δ4, M5, ι5, _, S5, q5, fun s M6 ι6 H6 v q6 e6 k6 S6 r6 => ?_⟩
      obtain ⟨y, ey, q6⟩ := ok_elim q6
      have hs6 : s = .d y := by
        cases s with
        | d x => cases ey; rfl
        | ref n => cases ey
        | bor n => cases ey
      subst hs6
      have hid5 := (S5.hid Dd (.inr rfl)).1
      have hD6 := (k6 Dd _ hD5 hid5).1
      have S6' := S5'.back S6 e6 k6
      have hid6 := (S6.hid Dd (.inr rfl)).1
      have r6a := r5.mono (N' := (G.hide Dd).N) k6 (fun _ _ _ _ z => z)
      have hlenV : accV.length = acc.length := rc.length.symm
      have o6 := off S6 hD6
      refine ⟨accV, hD6, by omega, acc ++ [y], accV ++ [v], M6, ι6, ?_, (ec.trans e5).trans e6, ?_, upd_same, ?_, by simp; omega, q6⟩
      · refine S6'.hideG rfl rfl rfl (fun a o e hx => by rw [upd_ne (o6 a o e hx)]; exact e) (fun _ _ _ _ z => z) ?_ (fun a ha => ?_)
        · intro a o e n
          obtain ⟨h1, h2⟩ := S6'.kp a o e n
          exact ⟨by rw [upd_ne (hHe a o e n)]; exact h1, h2⟩
        · obtain ⟨h1, o, h2⟩ := S6'.hid a ha
          refine ⟨h1, ?_⟩
          by_cases hz : a = Dd
          · subst hz; exact ⟨_, upd_same⟩
          · exact ⟨o, by rw [upd_ne hz]; exact h2⟩
      · intro a o e n
        obtain ⟨h1, h2⟩ := (kc.trans ((k3.trans k5).trans k6)) a o e n
        exact ⟨by rw [upd_ne (hne a o e)]; exact h1, h2⟩
      · refine RDs.append ?_ ⟨v, [], rfl, ?_, rfl⟩
        · exact RDs.hide (fun a o e hx => by rw [upd_ne (o6 a o e fun xs z => .inl (hx xs z))]; exact e) (fun _ _ _ _ z => z) _ _ r6a
        · exact RD.hide (fun a o e hx => by rw [upd_ne (o6 a o e fun xs z => .inl (hx xs z))]; exact e) (fun _ _ _ _ z => z) _ _ r6
  · have hd : ds.drop i = [] := List.drop_eq_nil_of_le (by omega)
    rw [hd] at qc
    obtain ⟨hgd, qc⟩ := qc
    obtain ⟨hst, _⟩ := hJ (G.hide Dd) _ Mc ιc _ Hc hN0 Sc ec kc hgd
    have e : i = ds.length := by omega
    subst e
    refine .inl ⟨hst, ?_⟩
    have oc := off Sc hDc
    generalize hH' : (fun b => if b = Dd then none else Hc b : Hp) = H'
    have hne' : ∀ a, a ≠ Dd → H' a = Hc a := fun a n => by rw [← hH']; exact if_neg n
    have hDn : H' Dd = none := by rw [← hH']; exact if_pos rfl
    have hback : upd H' Dd (.lst accV) = Hc := by
      funext b
      by_cases hz : b = Dd
      · subst hz; rw [upd_same, hDc]
      · rw [upd_ne hz, hne' b hz]
    rw [← hback]
    have kc' : Kp ι1 H1 ιc H' := fun a o e n => by
      obtain ⟨h1, h2⟩ := kc a o e n
      exact ⟨by rw [hne' a (hne a o e)]; exact h1, h2⟩
    have Sg : Sr X.K G (wipeS δ vs) Mc ιc (wipe σ vs) H' := by
      refine Sc.hideG rfl rfl rfl (fun a o e hx => by rw [hne' a (oc a o e hx)]; exact e) (fun b a o e n => ⟨fun z => n.1 (.inl z), n.2⟩) ?_ (fun a ha => ?_)
      · intro a o e n
        obtain ⟨h1, h2⟩ := Sc.kp a o e n
        exact ⟨by rw [hne' a (hHe a o e n)]; exact h1, h2⟩
      · obtain ⟨h1, o, h2⟩ := Sc.hid a (.inl ha)
        obtain ⟨_, o', h3⟩ := S1.hid a ha
        exact ⟨h1, o, by rw [hne' a (hne a o' h3)]; exact h2⟩
    refine z acc Mc ιc H' accV Dd qc (p1.trans ec) (k1.trans kc') (S1.back Sg ec kc') ?_ (by omega) hDn
    exact RDs.hide (fun a o e hx => by rw [hne' a (oc a o e fun xs z => .inl (hx xs z))]; exact e) (fun b a o e n => ⟨fun z => n.1 (.inl z), n.2⟩) _ _ rc
theorem vf_lc {elt tg iter : Expr} {ifs : List Expr} {scope : Scope} {own : List (Str × Nat)} {pos : Pos} {it : TI'} {g : LcG} {tt : TT'} {te : TE'} (hc : X.calm = true) (hN : X.N.Nodup) (hi : VI X G true tg iter it) (ok' : BlkOk X.N X.env.scope scope own)
    (hg : ∀ (s : Shared) (H : Hp) (C : Addr) (cl : List (Str × Addr)) (fp : List Addr), PG (X.blk s H scope (compEnvC scope cl C X.env) fp) tg (g.raw X.K)) (ht : ∀ (s : Shared) (H : Hp) (C : Addr) (cl : List (Str × Addr)) (fp : List Addr) (G' : Gd), G'.i0 = G.i0 → VTs (X.blk s H scope (compEnvC scope cl C X.env) fp) G' ifs tt)
    (he : ∀ (s : Shared) (H : Hp) (C : Addr) (cl : List (Str × Addr)) (fp : List Addr) (G' : Gd), G'.i0 = G.i0 → VE (X.blk s H scope (compEnvC scope cl C X.env) fp) G' elt te) (hv : ∀ i ∈ g.names, i ∈ own.map (·.2)) (hs : ∀ x, foldedSetIterable iter X.env x = pure x := by intro _; rfl) :
    VF X G (.ListComp elt [⟨tg, iter, ifs, 0⟩] scope pos) (fLc it g tt te (own.map (·.2))) := by
  have h := pe_lc (pos := pos) (te := fun σ H Q => ∃ G', G'.i0 = G.i0 ∧ lE X.K G' te σ H Q) (tt := fun σ H Q => ∃ G', G'.i0 = G.i0 ∧ lT X.K G' tt σ H Q) hc hN hi ok' hg
    (fun s H C cl fp => ⟨fun pins s' σ H' Q I ⟨G', hg', q⟩ => (ht s H C cl fp G' hg').run pins s' σ H' Q I q⟩) (fun s H C cl fp => ⟨fun pins s' σ H' Q I ⟨G', hg', q⟩ => (he s H C cl fp G' hg').run pins s' σ H' Q I q⟩) hs
  exact PE.weak h fun σ H Q q => lc_low hv q
theorem fz_low {K : PySem.W.Frag} {tf : TF'} {σ : L2.St} {H : Hp} {Q : VK} (h : lE K G (eFz tf) σ H Q) : lF K G tf σ H Q := by
  obtain ⟨δ, M, ι, Q0, S, q, z⟩ := h
  exact ⟨δ, M, ι, _, S, q, fun ds M' ι' H' xs p h1 p1 k1 S1 r1 hl hp => fin_lst S1 (fun ι2 H2 w e2 k2 S2 r3 => z _ M' ι2 H2 w h1 (p1.trans e2) (k1.trans k2) S2 r3) r1 hl hp⟩
theorem nw_low {K : PySem.W.Frag} {tf : TF'} {σ : L2.St} {H : Hp} {Q : VK} (h : lE K G (eNw tf) σ H Q) : lF K G tf σ H Q := by
  obtain ⟨δ, M, ι, Q0, S, q, z⟩ := h
  refine ⟨δ, M, ι, _, S, q, fun ds M' ι' H' xs p h1 p1 k1 S1 r1 hl hp => ?_⟩
  have S2 := S1.named (o := .lst xs) (c := .lst ds) hp ⟨xs, upd_same, hl, r1.mono (Kp.named hp) fun _ _ _ _ q => q⟩
  refine z _ _ _ _ _ h1 (p1.trans (Ex.app _ _)) (k1.trans (Kp.named hp)) S2 ⟨p, rfl, .inl ?_⟩
  rw [S1.mem.len]; simp
/-- name = [..] on one line, the name a local -/
theorem vs_setLc {i : Nat} {y : Str} {py : Pos} {elt tg iter : Expr} {ifs : List Expr} {scope : Scope} {own : List (Str × Nat)} {pos spos : Pos} {it : TI'} {g : LcG} {tt : TT'} {te : TE'} (hc : X.calm = true) (hN : X.N.Nodup) (hy : X.N[i]? = some y) (hyl : X.env.scope.names.lookup y = some .local)
    (hsw : swapsWith (.ListComp elt [⟨tg, iter, ifs, 0⟩] scope pos) (some (.Name y py)) spos.line X.env = pure true) (hi : VI X G true tg iter it) (ok' : BlkOk X.N X.env.scope scope own)
    (hg : ∀ (s : Shared) (H : Hp) (C : Addr) (cl : List (Str × Addr)) (fp : List Addr), PG (X.blk s H scope (compEnvC scope cl C X.env) fp) tg (g.raw X.K)) (ht : ∀ (s : Shared) (H : Hp) (C : Addr) (cl : List (Str × Addr)) (fp : List Addr) (G' : Gd), G'.i0 = G.i0 → VTs (X.blk s H scope (compEnvC scope cl C X.env) fp) G' ifs tt)
    (he : ∀ (s : Shared) (H : Hp) (C : Addr) (cl : List (Str × Addr)) (fp : List Addr) (G' : Gd), G'.i0 = G.i0 → VE (X.blk s H scope (compEnvC scope cl C X.env) fp) G' elt te) (hv : ∀ i ∈ g.names, i ∈ own.map (·.2)) {nw : Bool} (hs : ∀ x, foldedSetIterable iter X.env x = pure x := by intro _; rfl) :
    VS X G (.Assign [.Name y py] (.ListComp elt [⟨tg, iter, ifs, 0⟩] scope pos) spos) (sSet i ((if nw then eNw else eFz) (fLc it g tt te (own.map (·.2))))) := by
  have h := ps_setLc (te := fun σ H Q => ∃ G', G'.i0 = G.i0 ∧ lE X.K G' te σ H Q) (tt := fun σ H Q => ∃ G', G'.i0 = G.i0 ∧ lT X.K G' tt σ H Q) hc hN hy hyl hsw hi ok' hg
    (fun s H C cl fp => ⟨fun pins s' σ H' Q I ⟨G', hg', q⟩ => (ht s H C cl fp G' hg').run pins s' σ H' Q I q⟩) (fun s H C cl fp => ⟨fun pins s' σ H' Q I ⟨G', hg', q⟩ => (he s H C cl fp G' hg').run pins s' σ H' Q I q⟩) hs
  refine PS.weak h fun E σ H ⟨δ, M, ι, E0, S, q, z⟩ => ?_
  refine lc_low hv ?_
  have hh : lE X.K G ((if nw then eNw else eFz) (fLc it g tt te (own.map (·.2)))) σ H (fun x H1 => gName i x σ H1 E.nx) :=
    ⟨δ, M, ι, _, S, q, fun d M' ι' H' v q' p' k' S' r' => z.nx _ M' ι' _ H' q' p' k' (S'.set r')⟩
  cases nw with
  | true => exact nw_low hh
  | false => exact fz_low hh
end
end VL
set_option Elab.async false
set_option linter.all false
set_option maxRecDepth 100000
set_option maxHeartbeats 4000000
namespace VL
open PySem PySem.Spec L2 RT RZ

/-! ### new lists of values -/
def RdF (K : PySem.W.Frag) (r : List V → Hp → VK → Prop) (f : Mem → List Sv → Option (List D)) : Prop := ∀ (G : Gd) (δ : DS) (M : Mem) (ι : Ix) (σ : L2.St) (H : Hp) (xs : List Sv) (vs : List V) (ds : List D), Sr K G δ M ι σ H → RSs K G.N H ι xs vs → f M xs = some ds →
  ∀ Q : VK, (∀ ys p, RDs K G.N H ι ds ys → ds.length ≤ sizeLine → H p = none → Q (.ref p) (upd H p (.lst ys))) → r vs H Q
def fN (f : Mem → List Sv → Option (List D)) (t : TA') : TF' := fun δ M Q => t δ M fun xs M1 => ok (f M1 xs) fun ds => Q ds M1
def plN (f : Mem → List Sv → Option (List D)) (ps : List PV) : PL := fun δ M => (pArgs ps δ M).bind (f M)
def f2 (f : Mem → Sv → Sv → Option (List D)) (ta tb : TE') : TF' := fun δ M Q => ta δ M fun x M1 => tb δ M1 fun y M2 => ok (f M2 x y) fun ds => Q ds M2
def pl2 (f : Mem → Sv → Sv → Option (List D)) (a b : PV) : PL := fun δ M => (a δ M).bind fun x => (b δ M).bind fun y => f M x y
def RdF2 (K : PySem.W.Frag) (r : R2) (f : Mem → Sv → Sv → Option (List D)) : Prop := ∀ (G : Gd) (δ : DS) (M : Mem) (ι : Ix) (σ : L2.St) (H : Hp) (x y : Sv) (v u : V) (ds : List D), Sr K G δ M ι σ H → RS K G.N H ι x v → RS K G.N H ι y u → f M x y = some ds →
  ∀ Q : VK, (∀ ys p, RDs K G.N H ι ds ys → ds.length ≤ sizeLine → H p = none → Q (.ref p) (upd H p (.lst ys))) → r v u H Q
section
variable {K : PySem.W.Frag} {X : Cx} {G : Gd} {e a b : Expr} {es : List Expr} {pos : Pos} {ta tb t : TE'} {N : Bool → Addr → Prop} {H : Hp} {ι : Ix} {tf : TF'}
theorem vf_callB {x : Str} {id : String} {p : Pos} {n : Nat} {tA : TA'} {r : List V → Hp → VK → Prop} {f : Mem → List Sv → Option (List D)} (hc : CallR X (.builtin id) r) (hf : RdF X.K r f) (hg : Gl X x) (hm : X.mg x = none) (hv : bootBuiltins x = some (.builtin id)) (ha : VA X G (e :: es) n tA) (hn : x ≠ "__name__" := by decide) (hdb : (x == ("__debug__" : Str)) = false := by decide)
    (he : starEach (e :: es) X.env = (false, eval e X.env) :: starEach es X.env := by rfl) (hpl : (backTo pos (starEach es X.env)).any (·.1) = false := by rfl) : VF X G (.Call (.Name x p) (e :: es) [] pos) (fN f tA) :=
  PE.weak (pe_callB hc hg hm hv ha hn hdb he hpl) fun σ H Q ⟨δ, M, ι, Q0, S, q, z⟩ => thA S q fun xs M1 ι1 H1 vs hl q1 p1 k1 S1 r1 => by
    obtain ⟨ds, e, q1⟩ := ok_elim q1
    exact hf G δ M1 ι1 σ H1 xs vs ds S1 r1 e Q fun ys p ry hl hp => z ds M1 ι1 H1 ys p q1 p1 k1 S1 ry hl hp
theorem vf_callTy {x : Str} {T : String} {p : Pos} {n : Nat} {tA : TA'} {r : List V → Hp → VK → Prop} {f : Mem → List Sv → Option (List D)} (hc : CallR X (.type T) r) (hf : RdF X.K r f) (hg : Gl X x) (hm : X.mg x = none) (hv : bootBuiltins x = some (.type T)) (ha : VA X G (e :: es) n tA) (hn : x ≠ "__name__" := by decide) (hdb : (x == ("__debug__" : Str)) = false := by decide)
    (he : starEach (e :: es) X.env = (false, eval e X.env) :: starEach es X.env := by rfl) (hpl : (backTo pos (starEach es X.env)).any (·.1) = false := by rfl) : VF X G (.Call (.Name x p) (e :: es) [] pos) (fN f tA) :=
  PE.weak (pe_callTy hc hg hm hv ha hn hdb he hpl) fun σ H Q ⟨δ, M, ι, Q0, S, q, z⟩ => thA S q fun xs M1 ι1 H1 vs hl q1 p1 k1 S1 r1 => by
    obtain ⟨ds, e, q1⟩ := ok_elim q1
    exact hf G δ M1 ι1 σ H1 xs vs ds S1 r1 e Q fun ys p ry hl hp => z ds M1 ι1 H1 ys p q1 p1 k1 S1 ry hl hp
theorem vf_bin {op : Operator} {r : R2} {f : Mem → Sv → Sv → Option (List D)} (ho : OpR X (binaryOp op) r) (hf : RdF2 X.K r f) (ha : VE X G a ta) (hb : VE X G b tb) : VF X G (.BinOp a op b pos) (f2 f ta tb) :=
  PE.weak (pe_op ho ha hb) fun σ H Q ⟨δ, M, ι, Q0, S, q, z⟩ => th1 S q fun x M1 ι1 H1 v q1 p1 k1 S1 r1 => th1 S1 q1 fun y M2 ι2 H2 u q2 p2 k2 S2 r2 => by
    obtain ⟨ds, e, q2⟩ := ok_elim q2
    exact hf G δ M2 ι2 σ H2 x y v u ds S2 (r1.mono k2 p2 fun _ _ _ _ q => q) r2 e Q fun ys p ry hl hp => z ds M2 ι2 H2 ys p q2 (p1.trans p2) (k1.trans k2) S2 ry hl hp
theorem VF.pN {f : Mem → List Sv → Option (List D)} {ps : List PV} (h : VF X G e (fN f (aP ps))) : VF X G e (fP (plN f ps)) := h.weak fun δ M Q h => by
  unfold fP plN at h; rw [ok_bind] at h; exact h
theorem VF.p2 {f : Mem → Sv → Sv → Option (List D)} {p q : PV} (h : VF X G e (f2 f (eP p) (eP q))) : VF X G e (fP (pl2 f p q)) := h.weak fun δ M Q h => by
  unfold fP pl2 at h
  rw [ok_bind] at h
  obtain ⟨d, e1, h⟩ := ok_elim h
  rw [ok_bind] at h
  exact ok_of e1 h

/-! list(xs), sorted(xs), a + b, a * n -/
theorem seq_len {δ : DS} {M : Mem} {σ : L2.St} {d : Sv} {v : V} {ds : List D} (S : Sr K G δ M ι σ H) (h : RS K G.N H ι d v) (e : seqD M d = some ds) : ds.length ≤ sizeLine := by
  cases d with
  | ref n =>
    obtain ⟨a, e1, hn, xs, q, l, r⟩ := S.mem.at h (cellL_some (show cellL M[n]? = some ds from e)) (fun z => nomatch z)
    exact l
  | bor es => cases e; obtain ⟨a, xs, e1, q, n, _, l, r⟩ := h; exact l
  | d d =>
    cases d with
    | lst es => cases e; obtain ⟨a, xs, e1, q, n, z, l, r⟩ := h; exact l
    | tup es => cases e; obtain ⟨a, xs, e1, q, l, r⟩ := h; exact l
    | scr ns => cases e; obtain ⟨a, e1, q, l⟩ := h; simpa using l
    | _ => cases e
theorem lst_seq {M : Mem} {d : Sv} {ds : List D} (e : lstD M d = some ds) : seqD M d = some ds := by
  cases d with
  | ref n => exact e
  | bor n => exact e
  | d d => cases d <;> first | exact e | cases e
def listF (M : Mem) : List Sv → Option (List D)
  | [s] => seqD M s
  | _ => none
theorem rd_list : RdF K (fun xs H Q => ∃ p ys, xs = [V.ref p] ∧ (SqL K H p ys ∨ SqT K H p ys) ∧ ∀ l, H l = none → Q (.ref l) (upd H l (.lst ys))) listF := by
  intro G δ M ι σ H xs vs ds S rx e Q z
  unfold listF at e
  split at e
  · obtain ⟨v, rfl, r⟩ := one_of rx
    obtain ⟨a, ys, rfl, hq, ry⟩ := seq_of S r e
    exact ⟨a, ys, rfl, hq, fun l hl => z ys l ry (by have := seq_len S r e; exact this) hl⟩
  · cases e
def sortI (ns : List Int) : List Int := ns.mergeSort (fun a b => decide (a ≤ b))
theorem sortI_perm (ns : List Int) : (sortI ns).Perm ns := List.mergeSort_perm _ _
theorem sortI_le (ns : List Int) : (sortI ns).Pairwise (· ≤ ·) := by
  have h := List.pairwise_mergeSort (le := fun a b : Int => decide (a ≤ b)) (fun a b c h1 h2 => by simp only [decide_eq_true_eq] at *; omega) (fun a b => by simp only [Bool.or_eq_true, decide_eq_true_eq]; omega) ns
  exact h.imp fun h => by simpa using h
theorem sortI_eq {ns ms : List Int} (p : ms.Perm ns) (o : ms.Pairwise (· ≤ ·)) : ms = sortI ns :=
  List.Perm.eq_of_pairwise (le := (· ≤ ·)) (fun a b _ _ h1 h2 => by omega) o (sortI_le ns) (p.trans (sortI_perm ns).symm)
theorem sortI_len (ns : List Int) : (sortI ns).length = ns.length := (sortI_perm ns).length_eq
def sortF (M : Mem) : List Sv → Option (List D)
  | [s] => (lstD M s).bind fun ds => (intsOf ds).map fun ns => (sortI ns).map .int
  | _ => none
theorem rd_sort : RdF K (rSortedI K) sortF := by
  intro G δ M ι σ H xs vs ds S rx e Q z
  unfold sortF at e
  split at e
  · obtain ⟨v, rfl, r⟩ := one_of rx
    rename_i s
    cases q : lstD M s with
    | none => rw [q] at e; cases e
    | some es =>
      rw [q] at e
      obtain ⟨ns, q2, rfl⟩ := Option.map_eq_some_iff.mp (show (intsOf es).map _ = some ds from e)
      obtain ⟨a, ys, rfl, hq, ry⟩ := lst_of S r q
      have hl := seq_len S r (lst_seq q)
      rw [intsOf_some q2] at ry hl
      rw [ry.ints] at hq
      refine ⟨a, ns, rfl, hq, fun ns' p hp ho hn => ?_⟩
      rw [sortI_eq hp ho]
      exact z _ p (RDs.of_ints _) (by rw [List.length_map, sortI_len]; simpa using hl) hn
  · cases e
/-- the items of a list that is laid (not the script) -/
def laidD (M : Mem) : Sv → Option (List D)
  | .d (.lst ds) => some ds
  | .bor ds => some ds
  | .ref n => cellL M[n]?
  | _ => none
theorem laid_of {δ : DS} {M : Mem} {σ : L2.St} {d : Sv} {v : V} {ds : List D} (S : Sr K G δ M ι σ H) (h : RS K G.N H ι d v) (e : laidD M d = some ds) : ∃ a xs, v = .ref a ∧ H a = some (.lst xs) ∧ RDs K G.N H ι ds xs ∧ ds.length ≤ sizeLine := by
  cases d with
  | ref n =>
    obtain ⟨a, e1, hn, xs, q, l, r⟩ := S.mem.at h (cellL_some (show cellL M[n]? = some ds from e)) (fun z => nomatch z)
    exact ⟨a, xs, e1, q, r, l⟩
  | bor es => cases e; obtain ⟨a, xs, e1, q, n, _, l, r⟩ := h; exact ⟨a, xs, e1, q, r, l⟩
  | d d =>
    cases d with
    | lst es => cases e; obtain ⟨a, xs, e1, q, n, z, l, r⟩ := h; exact ⟨a, xs, e1, q, r, l⟩
    | _ => cases e
def catF (M : Mem) (x y : Sv) : Option (List D) := (laidD M x).bind fun as => (laidD M y).bind fun bs => gd (as.length + bs.length ≤ sizeLine) (as ++ bs)
theorem rd_cat : RdF2 K rCat catF := by
  intro G δ M ι σ H x y v u ds S rx ry e Q z
  unfold catF at e
  cases qa : laidD M x with
  | none => rw [qa] at e; cases e
  | some as =>
    cases qb : laidD M y with
    | none => rw [qa, qb] at e; cases e
    | some bs =>
      rw [qa, qb] at e
      obtain ⟨hc, rfl⟩ := gd_some (show gd _ _ = some ds from e)
      obtain ⟨a, xs, rfl, h1, r1, l1⟩ := laid_of S rx qa
      obtain ⟨b, ys, rfl, h2, r2, l2⟩ := laid_of S ry qb
      exact ⟨a, b, xs, ys, rfl, rfl, h1, h2, by rw [← r1.length, ← r2.length]; exact hc, fun p hp => z _ p (r1.append r2) (by rw [List.length_append]; exact hc) hp⟩
def repF (M : Mem) (x y : Sv) : Option (List D) := match y with
  | .d (.int k) => (laidD M x).bind fun as => gd (-(2 ^ 63) ≤ k ∧ k < 2 ^ 63 ∧ as.length * k.toNat ≤ sizeLine) (List.replicate k.toNat as).flatten
  | _ => none
theorem RDs.rep {ds : List D} {xs : List V} (r : RDs K N H ι ds xs) : ∀ k : Nat, RDs K N H ι (List.replicate k ds).flatten (List.replicate k xs).flatten
  | 0 => rfl
  | k + 1 => by rw [List.replicate_succ, List.replicate_succ, List.flatten_cons, List.flatten_cons]; exact r.append (RDs.rep r k)
theorem rep_len {α : Type} (ds : List α) : ∀ k : Nat, (List.replicate k ds).flatten.length = ds.length * k
  | 0 => by simp
  | k + 1 => by rw [List.replicate_succ, List.flatten_cons, List.length_append, rep_len ds k, Nat.mul_succ, Nat.add_comm]
theorem rd_rep : RdF2 K rRep repF := by
  intro G δ M ι σ H x y v u ds S rx ry e Q z
  unfold repF at e
  split at e
  · rename_i k
    cases qa : laidD M x with
    | none => rw [qa] at e; cases e
    | some as =>
      rw [qa] at e
      obtain ⟨⟨h1, h2, h3⟩, rfl⟩ := gd_some (show gd _ _ = some ds from e)
      obtain ⟨a, xs, rfl, h4, r1, l1⟩ := laid_of S rx qa
      cases (show _ = _ from ry)
      exact ⟨a, k, xs, rfl, rfl, h4, h1, h2, by rw [← r1.length]; exact h3, fun p hp => z _ p (r1.rep _) (by rw [rep_len]; exact h3) hp⟩
  · cases e
theorem vf_cat (ha : VE X G a ta) (hb : VE X G b tb) : VF X G (.BinOp a .Add b pos) (f2 catF ta tb) := vf_bin op_cat rd_cat ha hb
theorem vf_rep (ha : VE X G a ta) (hb : VE X G b tb) : VF X G (.BinOp a .Mult b pos) (f2 repF ta tb) := vf_bin op_rep rd_rep ha hb
/-! xs[::-1] -/
def f1 (f : Mem → Sv → Option (List D)) (ta : TE') : TF' := fun δ M Q => ta δ M fun x M1 => ok (f M1 x) fun ds => Q ds M1
def pl1 (f : Mem → Sv → Option (List D)) (a : PV) : PL := fun δ M => (a δ M).bind (f M)
theorem VF.p1 {f : Mem → Sv → Option (List D)} {p : PV} (h : VF X G e (f1 f (eP p))) : VF X G e (fP (pl1 f p)) := h.weak fun δ M Q h => by
  unfold fP pl1 at h; rw [ok_bind] at h; exact h
def revF (M : Mem) (x : Sv) : Option (List D) := (lstD M x).map List.reverse
theorem vf_rev {k : Nat} {p1 p2 p3 : Pos} (ha : VE X G a ta) : VF X G (.Subscript a (.Slice none none (some (.UnaryOp .USub (.Constant (.int 1) k p1) p2)) p3) pos) (f1 revF ta) :=
  PE.weak (pe_revL ha) fun σ H Q ⟨δ, M, ι, Q0, S, q, z⟩ => th1 S q fun x M1 ι1 H1 v q1 p1 k1 S1 r1 => by
    obtain ⟨ds, e, q1⟩ := ok_elim q1
    obtain ⟨es, e9, rfl⟩ := Option.map_eq_some_iff.mp e
    obtain ⟨b, xs, rfl, hq, rx⟩ := lst_of S1 r1 e9
    exact ⟨b, xs, rfl, hq, fun p hp => z _ M1 ι1 H1 _ p q1 p1 k1 S1 rx.reverse (by rw [List.length_reverse]; exact seq_len S1 r1 (lst_seq e9)) hp⟩
/-! tuple(xs) -/
def tupC (M : Mem) (x : Sv) : Option Sv := (seqD M x).map fun ds => .d (.tup ds)
theorem ve_tupleOf {p : Pos} (hg : Gl X "tuple") (hm : X.mg "tuple" = none) (ha : VE X G a ta) (na : starEach [a] X.env = (false, eval a X.env) :: starEach [] X.env := by rfl) : VE X G (.Call (.Name "tuple" p) [a] [] pos) (eo1 tupC ta) :=
  PE.weak (pe_tupleOf hg hm ha na) fun σ H Q h => by
    refine fin1 (r := fun x H Q => kTup X.K x H Q) (fun G δ M ι σ H x v d S rx e Q z => ?_) h
    obtain ⟨ds, e9, rfl⟩ := Option.map_eq_some_iff.mp e
    have hl := seq_len S rx e9
    by_cases hx : ∃ es, x = .d (.tup es)
    · obtain ⟨es, rfl⟩ := hx
      cases e9
      have rx' := rx
      obtain ⟨b, xs, rfl, q, l, r⟩ := rx
      exact .inr ⟨b, xs, rfl, tup_sq q, fin_same S z rx'⟩
    · have e3 : lstD M x = some ds := by
        cases x with
        | d x =>
          cases x with
          | tup es => exact absurd ⟨es, rfl⟩ hx
          | lst es => exact e9
          | scr es => exact e9
          | _ => cases e9
        | ref n => exact e9
        | bor n => exact e9
      obtain ⟨b, xs, rfl, hq, r⟩ := lst_of S rx e3
      exact .inl ⟨b, xs, rfl, hq, fun q hq => fin_tup S z r hl hq⟩
end

/-! ### slices -/
abbrev TO' := DS → Mem → (Option Int → Mem → Prop) → Prop
def lO (K : PySem.W.Frag) (G : Gd) (t : TO') : TO := fun σ H Q => ∃ δ M ι Q0, Sr K G δ M ι σ H ∧ t δ M Q0 ∧
  ∀ b M' ι' H', Q0 b M' → Ex ι ι' → Kp ι H ι' H' → Sr K G δ M' ι' σ H' → Q b H'
abbrev VO (X : Cx) (G : Gd) (e : Option Expr) (t : TO') : Prop := PO X e (lO X.K G t)
abbrev PO' := DS → Mem → Option (Option Int)
def oP (p : PO') : TO' := fun δ M Q => ok (p δ M) fun o => Q o M
def poNo : PO' := fun _ _ => some none
def intO : Sv → Option (Option Int)
  | .d (.int i) => some (some i)
  | _ => none
def poI (p : PV) : PO' := fun δ M => (p δ M).bind intO
def cutD (ds : List D) (lo hi : Option Int) : List D := (ds.drop (HT.sIx ds.length 0 lo)).take (HT.sIx ds.length ds.length hi - HT.sIx ds.length 0 lo)
def slD (_ : Mem) : Sv → Option Int → Option Int → Option Sv
  | .d (.tup ds), lo, hi => some (.d (.tup (cutD ds lo hi)))
  | .d (.str z), lo, hi => gd (z.length ≤ sizeLine) (.d (.str (cutS z lo hi)))
  | _, _, _ => none
def slF (M : Mem) (s : Sv) (lo hi : Option Int) : Option (List D) := (lstD M s).map fun ds => cutD ds lo hi
def poSl (a : PV) (lo hi : PO') : PV := fun δ M => (a δ M).bind fun s => (lo δ M).bind fun l => (hi δ M).bind fun h => slD M s l h
def plSl (a : PV) (lo hi : PO') : PL := fun δ M => (a δ M).bind fun s => (lo δ M).bind fun l => (hi δ M).bind fun h => slF M s l h
section
variable {K : PySem.W.Frag} {X : Cx} {G : Gd} {e a b : Expr} {es : List Expr} {pos p2 : Pos} {ta tb t : TE'} {N : Bool → Addr → Prop} {H : Hp} {ι : Ix} {lo hi : Option Expr} {pa : PV} {pl ph : PO'}
theorem vo_none : VO X G none (oP poNo) := ⟨fun pins s σ H Q I ⟨δ, M, ι, Q0, S, q, z⟩ => po_none.run pins s σ H Q I (z none M ι H q (Ex.refl _) (Kp.refl _ _) S)⟩
theorem vo_some (h : VE X G e (eP pa)) : VO X G (some e) (oP (poI pa)) := by
  refine ⟨fun pins s σ H Q I ⟨δ, M, ι, Q0, S, q, z⟩ => (po_some h).run pins s σ H Q I ?_⟩
  unfold oP poI at q
  rw [ok_bind] at q
  refine th1 (Q0 := fun s M' => M' = M ∧ ok (intO s) fun o => Q0 o M) S (by obtain ⟨d, e, q⟩ := ok_elim q; exact ok_of e ⟨rfl, q⟩) fun x M1 ι1 H1 v q1 p1 k1 S1 r1 => ?_
  obtain ⟨rfl, q1⟩ := q1
  obtain ⟨o, e, q1⟩ := ok_elim q1
  unfold intO at e
  split at e
  · cases e; cases (show _ = _ from r1); exact ⟨_, rfl, z _ M1 ι1 H1 q1 p1 k1 S1⟩
  · cases e
theorem cutD_len (ds : List D) (lo hi : Option Int) : (cutD ds lo hi).length ≤ ds.length := by
  unfold cutD; rw [List.length_take, List.length_drop]; omega
theorem RDs.cut {ds : List D} {xs : List V} (r : RDs K N H ι ds xs) (lo hi : Option Int) : RDs K N H ι (cutD ds lo hi) (cutV xs lo hi) := by
  unfold cutD cutV
  rw [← r.length]
  exact (r.drop _).take _
theorem cut_whole {xs : List V} {lo hi : Option Int} (h : HT.sIx xs.length 0 lo = 0 ∧ HT.sIx xs.length xs.length hi = xs.length) : cutV xs lo hi = xs := by
  unfold cutV; rw [h.1, h.2]; simp
theorem ve_slice (he : VE X G a (eP pa)) (hl : VO X G lo (oP pl)) (hu : VO X G hi (oP ph)) : VE X G (.Subscript a (.Slice lo hi none p2) pos) (eP (poSl pa pl ph)) := by
  refine PE.weak (pe_slice ((sl_tupA (X := X)).or sl_str) he hl hu) fun σ H Q ⟨δ, M, ι, Q0, S, q, z⟩ => ?_
  unfold eP poSl at q
  rw [ok_bind] at q
  obtain ⟨s, e1, q⟩ := ok_elim q
  rw [ok_bind] at q
  obtain ⟨l, e2, q⟩ := ok_elim q
  rw [ok_bind] at q
  obtain ⟨h, e3, q⟩ := ok_elim q
  obtain ⟨d, e4, q9⟩ := ok_elim q
  refine th1 (Q0 := fun x M' => x = s ∧ M' = M) S (ok_of e1 ⟨rfl, rfl⟩) fun x M1 ι1 H1 v q1 p1 k1 S1 r1 => ?_
  obtain ⟨rfl, rfl⟩ := q1
  refine ⟨δ, M1, ι1, fun o M' => o = l ∧ M' = M1, S1, ok_of e2 ⟨rfl, rfl⟩, fun o M2 ι2 H2 q2 p2 k2 S2 => ?_⟩
  obtain ⟨rfl, rfl⟩ := q2
  refine ⟨δ, M2, ι2, fun o M' => o = h ∧ M' = M2, S2, ok_of e3 ⟨rfl, rfl⟩, fun o' M3 ι3 H3 q3 p3 k3 S3 => ?_⟩
  obtain ⟨rfl, rfl⟩ := q3
  have r3 := r1.mono (k2.trans k3) (p2.trans p3) (fun _ _ _ _ z => z)
  have z3 : ∀ ι' H' w, Ex ι3 ι' → Kp ι3 H3 ι' H' → Sr X.K G δ M3 ι' σ H' → RS X.K G.N H' ι' d w → Q w H' := fun ι' H' w p4 k4 S4 r4 => z d M3 ι' H' w q9 (((p1.trans p2).trans p3).trans p4) (((k1.trans k2).trans k3).trans k4) S4 r4
  unfold slD at e4
  split at e4
  · cases e4
    obtain ⟨b, xs, rfl, hq, hl, r⟩ := r3
    refine .inl ⟨b, xs, rfl, tup_sq hq, fun hw => ?_, fun hw p hp => ?_⟩
    · refine fin_same S3 z3 ⟨b, xs, rfl, hq, Nat.le_trans (cutD_len _ _ _) hl, ?_⟩
      have := r.cut o o'
      rw [cut_whole hw] at this
      exact this
    · exact fin_tup S3 z3 (r.cut _ _) (Nat.le_trans (cutD_len _ _ _) hl) hp
  · obtain ⟨hc, rfl⟩ := gd_some e4
    cases (show _ = _ from r3)
    exact .inr ⟨_, rfl, hc, fin_same S3 z3 rfl⟩
  · cases e4
theorem vf_slice (he : VE X G a (eP pa)) (hl : VO X G lo (oP pl)) (hu : VO X G hi (oP ph)) : VF X G (.Subscript a (.Slice lo hi none p2) pos) (fP (plSl pa pl ph)) := by
  refine PE.weak (pe_slice sl_list he hl hu) fun σ H Q ⟨δ, M, ι, Q0, S, q, z⟩ => ?_
  unfold fP plSl at q
  rw [ok_bind] at q
  obtain ⟨s, e1, q⟩ := ok_elim q
  rw [ok_bind] at q
  obtain ⟨l, e2, q⟩ := ok_elim q
  rw [ok_bind] at q
  obtain ⟨h, e3, q⟩ := ok_elim q
  obtain ⟨d, e4, q9⟩ := ok_elim q
  obtain ⟨es, e5, rfl⟩ := Option.map_eq_some_iff.mp e4
  refine th1 (Q0 := fun x M' => x = s ∧ M' = M) S (ok_of e1 ⟨rfl, rfl⟩) fun x M1 ι1 H1 v q1 p1 k1 S1 r1 => ?_
  obtain ⟨rfl, rfl⟩ := q1
  refine ⟨δ, M1, ι1, fun o M' => o = l ∧ M' = M1, S1, ok_of e2 ⟨rfl, rfl⟩, fun o M2 ι2 H2 q2 p2 k2 S2 => ?_⟩
  obtain ⟨rfl, rfl⟩ := q2
  refine ⟨δ, M2, ι2, fun o M' => o = h ∧ M' = M2, S2, ok_of e3 ⟨rfl, rfl⟩, fun o' M3 ι3 H3 q3 p3 k3 S3 => ?_⟩
  obtain ⟨rfl, rfl⟩ := q3
  have r3 := r1.mono (k2.trans k3) (p2.trans p3) (fun _ _ _ _ z => z)
  obtain ⟨b, xs, rfl, hq, rx⟩ := lst_of S3 r3 e5
  have hl := seq_len S3 r3 (lst_seq e5)
  exact ⟨b, xs, rfl, hq, fun p hp => z _ M3 ι3 H3 _ p q9 ((p1.trans p2).trans p3) ((k1.trans k2).trans k3) S3 (rx.cut _ _) (Nat.le_trans (cutD_len _ _ _) hl) hp⟩
/-! list(range(..)) -/
end
end VL
set_option Elab.async false
set_option linter.all false
set_option maxRecDepth 100000
set_option maxHeartbeats 4000000
namespace VL
open PySem PySem.Spec L2 RT RZ

/-! ### methods of built-in types -/
def rcv (M : Mem) : Sv → Option String
  | .ref n => match M[n]? with
    | some (.lst _) => some "list"
    | some (.dk _) => some "dict"
    | _ => none
  | .d (.lst _) => some "list"
  | .bor _ => some "list"
  | .d (.str _) => some "str"
  | _ => none
abbrev Mt := Sv → List Sv → Mem → QD → Prop
def eMt (T : String) (f : Mt) (to : TE') (tA : TA') : TE' := fun δ M Q => to δ M fun o M1 => rcv M1 o = some T ∧ tA δ M1 fun xs M2 => f o xs M2 Q
def RdMt (K : PySem.W.Frag) (r : V → List V → Hp → VK → Prop) (f : Mt) : Prop := ∀ (G : Gd) (δ : DS) (M : Mem) (ι : Ix) (σ : L2.St) (H : Hp) (o : Sv) (xs : List Sv) (v : V) (vs : List V) (Q0 : QD), Sr K G δ M ι σ H → RS K G.N H ι o v → RSs K G.N H ι xs vs → f o xs M Q0 →
  ∀ Q : VK, (∀ d M' ι' H' w, Q0 d M' → Ex ι ι' → Kp ι H ι' H' → Sr K G δ M' ι' σ H' → RS K G.N H' ι' d w → Q w H') → r v vs H Q
section
variable {K : PySem.W.Frag} {X : Cx} {G : Gd} {e a b o : Expr} {es : List Expr} {pos cpos apos : Pos} {ta tb t to : TE'} {N : Bool → Addr → Prop} {H : Hp} {ι : Ix} {tA : TA'}
theorem rcv_ty {δ : DS} {M : Mem} {σ : L2.St} {s : Sv} {v : V} {T : String} (S : Sr K G δ M ι σ H) (r : RS K G.N H ι s v) (e : rcv M s = some T) : tyV K T v H := by
  cases s with
  | ref n =>
    simp only [rcv] at e
    split at e
    · rename_i ds hM
      cases e
      obtain ⟨a, rfl, hn, xs, q, _, _⟩ := S.mem.at r hM (fun z => nomatch z)
      exact .inl ⟨rfl, xs, SqL.of q⟩
    · rename_i ds hM
      cases e
      obtain ⟨a, rfl, hn, xs, q, _, _⟩ := S.mem.at r hM (fun z => nomatch z)
      exact .inr (.inr (.inl ⟨rfl, .inl ⟨xs, q⟩⟩))
    · cases e
  | bor ds => cases e; obtain ⟨a, xs, rfl, q, _⟩ := r; exact .inl ⟨rfl, xs, SqL.of q⟩
  | d d =>
    cases d with
    | lst ds => cases e; obtain ⟨a, xs, rfl, q, _⟩ := r; exact .inl ⟨rfl, xs, SqL.of q⟩
    | str z => cases e; cases (show _ = _ from r); rfl
    | _ => cases e
theorem ve_mt {n : Nat} {T id : String} {name : Str} {r : V → List V → Hp → VK → Prop} {f : Mt} (pa : PlainAttrs T) (slot : Slot T name id) (hty : typeOf (.builtin id) = pure (.type "method_descriptor")) (hm : MtR X id r) (hf : RdMt X.K r f) (ho : VE X G o to) (ha : VA X G (e :: es) n tA)
    (hbase : attributeBase o name X.env (eval o X.env) = eval o X.env := by rfl)
    (hfew : ((backTo cpos (starEach (e :: es) X.env)).all (fun x => !x.1) && (backToKw cpos (keywordEach [] X.env)).all (fun x => x.1.isSome)
      && decide ((e :: es).length + ([] : List Keyword).length + (if ([] : List Keyword).isEmpty then 0 else 1) < 30)) = true := by rfl)
    (hline : (apos.endLine == cpos.line) = true := by rfl) (hs : starEach (e :: es) X.env = (false, eval e X.env) :: starEach es X.env := by rfl) (hplain : (backTo cpos (starEach es X.env)).any (·.1) = false := by rfl) :
    VE X G (.Call (.Attribute o name apos) (e :: es) [] cpos) (eMt T f to tA) :=
  PE.weak (pe_bm pa slot hty hm ho ha hbase hfew hline hs hplain) fun σ H Q ⟨δ, M, ι, Q0, S, q, z⟩ => th1 S q fun s M1 ι1 H1 v q1 p1 k1 S1 r1 =>
    ⟨rcv_ty S1 r1 q1.1, thA S1 q1.2 fun xs M2 ι2 H2 vs hl q2 p2 k2 S2 r2 =>
      hf G δ M2 ι2 σ H2 s xs v vs Q0 S2 (r1.mono k2 p2 fun _ _ _ _ q => q) r2 q2 Q fun d M3 ι3 H3 w q3 p3 k3 S3 r3 => z d M3 ι3 H3 w q3 ((p1.trans p2).trans p3) ((k1.trans k2).trans k3) S3 r3⟩
theorem ve_mt0 {T id : String} {name : Str} {r : V → List V → Hp → VK → Prop} {f : Mt} (pa : PlainAttrs T) (slot : Slot T name id) (hty : typeOf (.builtin id) = pure (.type "method_descriptor")) (hm : MtR X id r) (hf : RdMt X.K r f) (ho : VE X G o to)
    (hbase : attributeBase o name X.env (eval o X.env) = eval o X.env := by rfl) (hline : (apos.endLine == cpos.line) = true := by rfl) :
    VE X G (.Call (.Attribute o name apos) [] [] cpos) (eMt T f to aNil) :=
  PE.weak (pe_bm0 pa slot hty hm ho hbase hline) fun σ H Q ⟨δ, M, ι, Q0, S, q, z⟩ => th1 S q fun s M1 ι1 H1 v q1 p1 k1 S1 r1 =>
    ⟨rcv_ty S1 r1 q1.1, hf G δ M1 ι1 σ H1 s [] v [] Q0 S1 r1 rfl q1.2 Q fun d M3 ι3 H3 w q3 p3 k3 S3 r3 => z d M3 ι3 H3 w q3 (p1.trans p3) (k1.trans k3) S3 r3⟩

/-! append, extend, pop, reverse, clear, insert -/
def mApp : Mt := fun o xs M Q => match o, xs with
  | .ref n, [.d x] => ok (cellL M[n]?) fun ds => ds.length < sizeLine ∧ Q (.d .non) (M.set n (.lst (ds ++ [x])))
  | _, _ => False
def mExt : Mt := fun o xs M Q => match o, xs with
  | .ref n, [s] => ok (cellL M[n]?) fun ds => ok (laidD M s) fun es => ds.length + es.length ≤ sizeLine ∧ Q (.d .non) (M.set n (.lst (ds ++ es)))
  | _, _ => False
def mPop : Mt := fun o xs M Q => match o, xs with
  | .ref n, [] => ok (cellL M[n]?) fun ds => ok ds[ds.length - 1]? fun y => Q (.d y) (M.set n (.lst ds.dropLast))
  | _, _ => False
def mPopAt : Mt := fun o xs M Q => match o, xs with
  | .ref n, [.d (.int i)] => ok (cellL M[n]?) fun ds => ok (ixN ds.length i) fun k => ok ds[k]? fun y => Q (.d y) (M.set n (.lst (ds.eraseIdx k)))
  | _, _ => False
def mRev : Mt := fun o xs M Q => match o, xs with
  | .ref n, [] => ok (cellL M[n]?) fun ds => Q (.d .non) (M.set n (.lst ds.reverse))
  | _, _ => False
def mClr : Mt := fun o xs M Q => match o, xs with
  | .ref n, [] => ok (cellL M[n]?) fun ds => Q (.d .non) (M.set n (.lst []))
  | _, _ => False
/-- the end of a method that turns a list -/
theorem fin_turn {δ : DS} {M : Mem} {σ : L2.St} {n : Nat} {a : Addr} {ds' : List D} {xs' : List V} {s : Sv} {w : V} {Q0 : QD} {Q : VK} (S : Sr K G δ M ι σ H) (hn : ι[n]? = some (some a)) (r : RDs K G.N H ι ds' xs') (hl : ds'.length ≤ sizeLine) (rs : RS K G.N H ι s w) (q : Q0 s (M.set n (.lst ds')))
    (z : ∀ d M' ι' H' w, Q0 d M' → Ex ι ι' → Kp ι H ι' H' → Sr K G δ M' ι' σ H' → RS K G.N H' ι' d w → Q w H') : Q w (upd H a (.lst xs')) := by
  have hm := List.mem_of_getElem? hn
  have k : Kp ι H ι (upd H a (.lst xs')) := Kp.turned hm
  exact z s _ ι _ w q (Ex.refl _) k (S.turned hn ⟨xs', upd_same, hl, r.mono k fun _ _ _ _ z => z⟩) (rs.mono k (Ex.refl _) fun _ _ _ _ z => z)
theorem RS.dat {x : D} {v : V} (h : RS K N H ι (.d x) v) : RD K N H ι x v := h
theorem rd_app : RdMt K rAppend mApp := by
  intro G δ M ι σ H o xs v vs Q0 S ro rx h Q z
  unfold mApp at h
  split at h
  · rename_i n x
    obtain ⟨ds, e, hl, q⟩ := ok_elim h
    obtain ⟨a, rfl, hn, ys, hH, _, r⟩ := S.mem.at ro (cellL_some e) (fun z => nomatch z)
    obtain ⟨y, rfl, ry⟩ := one_of rx
    exact ⟨a, ys, y, rfl, rfl, hH, by rw [← r.length]; exact hl, fin_turn (s := .d .non) S hn (r.append (es := [x]) ⟨y, [], rfl, ry, rfl⟩) (by simp; omega) rfl q z⟩
  · exact h.elim
theorem rd_ext : RdMt K rExtend mExt := by
  intro G δ M ι σ H o xs v vs Q0 S ro rx h Q z
  unfold mExt at h
  split at h
  · rename_i n s
    obtain ⟨ds, e, h⟩ := ok_elim h
    obtain ⟨es, e2, hl, q⟩ := ok_elim h
    obtain ⟨a, rfl, hn, ys, hH, _, r⟩ := S.mem.at ro (cellL_some e) (fun z => nomatch z)
    obtain ⟨y, rfl, ry⟩ := one_of rx
    obtain ⟨b, zs, rfl, hb, r2, _⟩ := laid_of S ry e2
    exact ⟨a, b, ys, zs, rfl, rfl, hH, hb, by rw [← r.length, ← r2.length]; exact hl, fin_turn (s := .d .non) S hn (r.append r2) (by simpa using hl) rfl q z⟩
  · exact h.elim
theorem rd_pop : RdMt K rPop mPop := by
  intro G δ M ι σ H o xs v vs Q0 S ro rx h Q z
  unfold mPop at h
  split at h
  · rename_i n
    obtain ⟨ds, e, h⟩ := ok_elim h
    obtain ⟨y, e2, q⟩ := ok_elim h
    obtain ⟨a, rfl, hn, ys, hH, hl, r⟩ := S.mem.at ro (cellL_some e) (fun z => nomatch z)
    obtain ⟨w, hw, rw'⟩ := r.get e2
    exact ⟨a, ys, w, rfl, rx, hH, by rw [← r.length]; exact hw, fin_turn (s := .d y) S hn r.dropLast (by simp; omega) rw' q z⟩
  · exact h.elim
theorem rd_popAt : RdMt K rPopAt mPopAt := by
  intro G δ M ι σ H o xs v vs Q0 S ro rx h Q z
  unfold mPopAt at h
  split at h
  · rename_i n i
    obtain ⟨ds, e, h⟩ := ok_elim h
    obtain ⟨k, e2, h⟩ := ok_elim h
    obtain ⟨y, e3, q⟩ := ok_elim h
    obtain ⟨a, rfl, hn, ys, hH, hl, r⟩ := S.mem.at ro (cellL_some e) (fun z => nomatch z)
    obtain ⟨u, rfl, ru⟩ := one_of rx
    cases (show _ = _ from ru)
    obtain ⟨w, hw, rw'⟩ := r.get e3
    obtain ⟨h1, h2, h3, h4⟩ := ixN_seq e2
    have hz := sizeLine_eq
    exact ⟨a, ys, i, k, w, rfl, rfl, hH, by omega, by omega, by rw [← r.length]; exact h1, hw, fin_turn (s := .d y) S hn (r.eraseIdx k) (Nat.le_trans (len_erase _ _) hl) rw' q z⟩
  · exact h.elim
theorem rd_reverse : RdMt K rReverse mRev := by
  intro G δ M ι σ H o xs v vs Q0 S ro rx h Q z
  unfold mRev at h
  split at h
  · rename_i n
    obtain ⟨ds, e, q⟩ := ok_elim h
    obtain ⟨a, rfl, hn, ys, hH, hl, r⟩ := S.mem.at ro (cellL_some e) (fun z => nomatch z)
    exact ⟨a, ys, rfl, rx, hH, fin_turn (s := .d .non) S hn r.reverse (by simpa using hl) rfl q z⟩
  · exact h.elim
theorem rd_clear : RdMt K rClear mClr := by
  intro G δ M ι σ H o xs v vs Q0 S ro rx h Q z
  unfold mClr at h
  split at h
  · rename_i n
    obtain ⟨ds, e, q⟩ := ok_elim h
    obtain ⟨a, rfl, hn, ys, hH, hl, r⟩ := S.mem.at ro (cellL_some e) (fun z => nomatch z)
    exact ⟨a, ys, rfl, rx, hH, fin_turn (s := .d .non) S hn (ds' := []) rfl (Nat.zero_le _) rfl q z⟩
  · exact h.elim
/-! index, count: read alone -/
def mPure (f : Mem → Sv → List Sv → Option Sv) : Mt := fun o xs M Q => ok (f M o xs) fun d => Q d M
def countD (M : Mem) (o : Sv) : List Sv → Option Sv
  | [.d x] => (lstD M o).bind fun ds => gd (okE x = true ∧ okE (.lst ds) = true) (intS ((ds.countP fun z => eqvD z x : Nat) : Int))
  | _ => none
def indexD (M : Mem) (o : Sv) : List Sv → Option Sv
  | [.d x] => (lstD M o).bind fun ds => gd (okE x = true ∧ okE (.lst ds) = true ∧ (ds.any fun z => eqvD z x) = true) (intS ((ds.findIdx fun z => eqvD z x : Nat) : Int))
  | _ => none
def rCountD (K : PySem.W.Frag) : V → List V → Hp → VK → Prop := fun x xs H Q => ∃ (a : Addr) (y : V) (d : PyData) (ds : List PyData), x = V.ref a ∧ xs = [y] ∧ Dp K H (V.ref a) (.list ds) ∧ Dp K H y d ∧
  SeqAt.shaped (.list ds) = true ∧ SeqAt.shaped d = true ∧ Q (.int ((ds.countP fun z => PyData.eqv z d : Nat) : Int)) H
theorem mt_countD (hu : X.A.units + 65 < cLine) : MtR X "list.count" (rCountD X.K) := by
  intro pins s σ H x xs v us Q I rx rxs h
  obtain ⟨a, y, d, ds, rfl, rfl, hl, hy, sl, sd, q⟩ := h
  cases rx
  cases rxs with
  | cons ry rt =>
    rename_i uy ut
    cases rt
    obtain ⟨bs, r1⟩ := Dp.reads I d y uy hy ry
    have hxs : PyData.canLayAll0 ds = true := SeqAt.canLay_of_shaped sl
    have hroom : X.A.units + 1 + min (PyData.depthAll ds) d.depth < cLine := PyProof.Rows.room_in_shaped sd hu
    cases hl with
    | lst hs ha =>
      obtain ⟨its, rv, ⟨⟨cls, dd, data, sls⟩, n, ho, hc, hdn, hdt⟩, hlen⟩ := I.list hs
      simp only at hc hdt
      subst hc hdt
      obtain ⟨as, h4⟩ := Dp.readsAll I ds _ its ha rv
      have hmap : its.map (SeqAt.readOf s.heap) = ds := SeqAt.readsAll_map ds its as hxs h4
      refine call_meets PySem.F.slot_list_count ⟨_, ho, rfl⟩ PySem.F.entry_list_count (PySem.F.args_list_count_2 _ _)
        (SeqAt.list_countAt a its.toArray n dd sls uy (fun u => PyData.eqv (SeqAt.readOf s.heap u) d)) ⟨ho, SeqAt.items_eqAt (vs := its.toArray) (show ReadsAll s.heap its.toArray.toList ds as from h4) r1 hxs (SeqAt.canLay_of_shaped sd) hroom, ?_⟩
      have hcnt : its.toArray.toList.countP (fun u => PyData.eqv (SeqAt.readOf s.heap u) d) = ds.countP fun z => PyData.eqv z d := by
        rw [← hmap, List.countP_map]; rfl
      rw [hcnt]
      exact ⟨.int _, H, I.tok _, ⟨_, rfl⟩, q⟩
theorem py_len : ∀ ds : List D, (pys ds).length = ds.length
  | [] => by simp [pys]
  | d :: ds => by simp [pys, py_len ds]
theorem pys_get : ∀ (ds : List D) (i : Nat), (pys ds)[i]? = (ds[i]?).map py
  | [], i => by simp [pys]
  | d :: ds, 0 => by simp [pys]
  | d :: ds, i + 1 => by simp [pys, pys_get ds i]
theorem noRs_get {ds : List D} {i : Nat} {d : D} (h : noRs ds = true) (e : ds[i]? = some d) : noR d = true := by
  induction ds generalizing i with
  | nil => simp at e
  | cons x xs ih =>
    simp only [noRs, Bool.and_eq_true] at h
    cases i with
    | zero => simp at e; subst e; exact h.1
    | succ i => exact ih h.2 (by simpa using e)
theorem count_py {x : D} (nx : noR x = true) : ∀ {ds : List D}, noRs ds = true → (pys ds).countP (fun z => PyData.eqv z (py x)) = ds.countP fun z => eqvD z x
  | [], _ => by simp [pys]
  | d :: ds, h => by
    simp only [noRs, Bool.and_eq_true] at h
    simp only [pys, List.countP_cons, count_py nx h.2, eqv_py d x h.1 nx]
theorem lst_dp {δ : DS} {M : Mem} {σ : L2.St} {s : Sv} {v : V} {ds : List D} (S : Sr K G δ M ι σ H) (r : RS K G.N H ι s v) (e : lstD M s = some ds) (n : noRs ds = true) : ∃ a, v = .ref a ∧ Dp K H (.ref a) (.list (pys ds)) := by
  obtain ⟨a, xs, rfl, q, r2⟩ := lst_of S r e
  exact ⟨a, rfl, .lst q (RDs.dp ds xs r2 n)⟩
theorem rd_count : RdMt K (rCountD K) (mPure countD) := by
  intro G δ M ι σ H o xs v vs Q0 S ro rx h Q z
  obtain ⟨d, e, q⟩ := ok_elim h
  unfold countD at e
  split at e
  · rename_i x
    cases qe : lstD M o with
    | none => rw [qe] at e; cases e
    | some ds =>
      rw [qe] at e
      obtain ⟨⟨h1, h2⟩, rfl⟩ := gd_some (show gd _ _ = some d from e)
      obtain ⟨nx, sx⟩ := okE_and h1
      obtain ⟨ny, sy⟩ := okE_and h2
      simp only [noR] at ny
      obtain ⟨a, rfl, hl⟩ := lst_dp S ro qe ny
      obtain ⟨y, rfl, ry⟩ := one_of rx
      refine ⟨a, y, py x, pys ds, rfl, rfl, hl, RD.dp x y ry nx, by simpa [py] using sy, sx, ?_⟩
      rw [count_py nx ny]
      exact z _ M ι H _ q (Ex.refl _) (Kp.refl _ _) S rfl
  · cases e
theorem rd_index : RdMt K (rIndexD K) (mPure indexD) := by
  intro G δ M ι σ H o xs v vs Q0 S ro rx h Q z
  obtain ⟨d, e, q⟩ := ok_elim h
  unfold indexD at e
  split at e
  · rename_i x
    cases qe : lstD M o with
    | none => rw [qe] at e; cases e
    | some ds =>
      rw [qe] at e
      obtain ⟨⟨h1, h2, h3⟩, rfl⟩ := gd_some (show gd _ _ = some d from e)
      obtain ⟨nx, sx⟩ := okE_and h1
      obtain ⟨ny, sy⟩ := okE_and h2
      simp only [noR] at ny
      obtain ⟨a, rfl, hl⟩ := lst_dp S ro qe ny
      obtain ⟨y, rfl, ry⟩ := one_of rx
      obtain ⟨w, hw, hp⟩ := List.any_eq_true.mp h3
      have hlt : (ds.findIdx fun z => eqvD z x) < ds.length := List.findIdx_lt_length_of_exists ⟨w, hw, hp⟩
      have hz : ds[ds.findIdx fun z => eqvD z x]? = some ds[ds.findIdx fun z => eqvD z x] := List.getElem?_eq_getElem hlt
      refine ⟨a, y, py x, pys ds, ds.findIdx fun z => eqvD z x, py ds[ds.findIdx fun z => eqvD z x], rfl, rfl, hl, RD.dp x y ry nx, by simpa [py] using sy, sx, by rw [pys_get, hz]; rfl, ?_, fun m z' hm hz' => ?_, ?_⟩
      · rw [eqv_py _ _ (noRs_get ny hz) nx]; exact List.findIdx_getElem (w := hlt)
      · rw [pys_get] at hz'
        obtain ⟨u, hu, rfl⟩ := Option.map_eq_some_iff.mp hz'
        rw [eqv_py _ _ (noRs_get ny hu) nx]
        have hlt2 := (List.getElem?_eq_some_iff.mp hu).1
        have := List.not_of_lt_findIdx hm
        rw [List.getElem?_eq_getElem hlt2] at hu
        cases hu
        simpa using this
      · exact z _ M ι H _ q (Ex.refl _) (Kp.refl _ _) S rfl
  · cases e
def poMt (T : String) (f : Mem → Sv → List Sv → Option Sv) (a : PV) (ps : List PV) : PV := fun δ M => (a δ M).bind fun o => (gd (rcv M o = some T) ()).bind fun _ => (pArgs ps δ M).bind fun xs => f M o xs
theorem VE.pMt {T : String} {f : Mem → Sv → List Sv → Option Sv} {pv : PV} {ps : List PV} (h : VE X G e (eMt T (mPure f) (eP pv) (aP ps))) : VE X G e (eP (poMt T f pv ps)) := h.weak fun δ M Q h => by
  unfold eP poMt at h
  rw [ok_bind] at h
  obtain ⟨d, q1, h⟩ := ok_elim h
  rw [ok_bind] at h
  obtain ⟨u, q2, h⟩ := ok_elim h
  rw [ok_bind] at h
  obtain ⟨xs, q3, h⟩ := ok_elim h
  exact ok_of q1 ⟨(gd_some q2).1, ok_of q3 h⟩
end
end VL
set_option Elab.async false
set_option linter.all false
set_option maxRecDepth 100000
set_option maxHeartbeats 4000000
namespace VL
open PySem PySem.Spec L2 RT RZ

/-! ### o[i] = e -/
def stD (o i : Sv) (d : D) (M : Mem) (Q : Mem → Prop) : Prop := match o, i with
  | .ref n, .d (.int k) => ok (cellL M[n]?) fun ds => ok (ixN ds.length k) fun j => Q (M.set n (.lst (ds.set j d)))
  | _, _ => False
def sSub (te to ti : TE') : TS' := fun E δ M => te δ M fun s M1 => ok (dataS s) fun d => to δ M1 fun o M2 => ti δ M2 fun i M3 => stD o i d M3 fun M4 => E.nx δ M4
/-- name op= e -/
def sAug (i : Nat) (f : Mem → Sv → Sv → Option Sv) (te : TE') : TS' := fun E δ M => ok (δ[i]?).join fun x => te δ M fun y M1 => ok (f M1 x y) fun z => E.nx (δ.set i (some z)) M1
def iaddD (_M : Mem) (x y : Sv) : Option Sv := match x, y with | .d (.int i), .d (.int j) => some (.d (.int (i + j))) | _, _ => none
def imulD (_M : Mem) (x y : Sv) : Option Sv := match x, y with | .d (.int i), .d (.int j) => gd ((-(2 ^ 64) < i ∧ i < 2 ^ 64) ∨ (-(2 ^ 64) < j ∧ j < 2 ^ 64)) (.d (.int (i * j))) | _, _ => none
/-- a, b = x, y -/
def sPar (i j : Nat) (tA : TA') : TS' := fun E δ M => tA δ M fun xs M1 => match xs with
  | [x, y] => E.nx ((δ.set i (some x)).set j (some y)) M1
  | _ => False
/-- the same by a tuple, any names -/
def setAllS : List Nat → List Sv → DS → Option DS
  | [], [], δ => some δ
  | i :: is, d :: ds, δ => setAllS is ds (δ.set i (some d))
  | _, _, _ => none
def sParT (is : List Nat) (tA : TA') : TS' := fun E δ M => tA δ M fun xs M1 => ok (setAllS is xs δ) fun δ' => E.nx δ' M1
/-- the turns of a while -/
def whL (k : Nat) (c : TT') (b : TS') (E : Ends') : Nat → DS → Mem → Prop
  | 0, _, _ => False
  | n + 1, δ, M => c δ M fun t M' => if t then b ⟨fun δ' M'' => whL k c b E n (gcS k δ') (M''.take k), E.rt, E.nx, fun δ' M'' => whL k c b E n (gcS k δ') (M''.take k)⟩ δ M' else E.nx δ M'
def sWh (c : TT') (b : TS') : TS' := fun E δ M => ∃ n, whL M.length c b E n δ M
section
variable {K : PySem.W.Frag} {X : Cx} {G : Gd} {e a b o i c : Expr} {es : List Expr} {body : List Stmt} {pos cpos apos p1' p2' : Pos} {ta tb t to ti te : TE'} {N : Bool → Addr → Prop} {H : Hp} {ι : Ix} {tA : TA'} {tc : TT'} {s : TS'}
theorem vs_sub (he : VE X G e te) (ho : VE X G o to) (hi : VE X G i ti) (hs : swapsWithSole [.Subscript o i p1'] e pos.line X.env = pure false := by rfl) (hw : swappedStores [.Subscript o i p1'] e X.env = pure none := by rfl)
    (h1 : (assignEach [.Subscript o i p1'] X.env).map (·.2) = [assign (.Subscript o i p1') X.env] := by rfl)
    (ha : ∀ v, assign (.Subscript o i p1') X.env v = (do
      let ov ← holding [v] (eval o X.env)
      let iv ← holding [v, ov] (eval i X.env)
      standAt p1'
      holding [v, ov, iv] (setItem ov iv v)
      release [v, ov, iv] []) := by intro _; rfl) : VS X G (.Assign [.Subscript o i p1'] e pos) (sSub te to ti) :=
  PS.weak (ps_asg he (pg_sub ho hi set_list ha) hs hw h1) fun E σ H ⟨δ, M, ι, E0, S, q, z⟩ => th1 S q fun s M1 ι1 H1 v q1 p1 k1 S1 r1 => by
    obtain ⟨d, e9, q1⟩ := ok_elim q1
    refine th1 S1 q1 fun x M2 ι2 H2 u q2 p2 k2 S2 r2 => th1 S2 q2 fun y M3 ι3 H3 w q3 p3 k3 S3 r3 => ?_
    have r1' := r1.mono (k2.trans k3) (p2.trans p3) (fun _ _ _ _ z => z)
    have r2' := r2.mono k3 p3 (fun _ _ _ _ z => z)
    unfold stD at q3
    split at q3
    · obtain ⟨ds, e1, q3⟩ := ok_elim q3
      obtain ⟨j, e2, q3⟩ := ok_elim q3
      obtain ⟨a, rfl, hn, ys, hH, hl, r⟩ := S3.mem.at r2' (cellL_some e1) (fun z => nomatch z)
      cases (show _ = _ from r3)
      cases s with
      | d x =>
        cases e9
        have hm := List.mem_of_getElem? hn
        have k : Kp ι3 H3 ι3 (upd H3 a (.lst (ys.set j v))) := Kp.turned hm
        refine ⟨a, ys, _, j, rfl, rfl, hH, by rw [← r.length]; exact e2, ?_⟩
        exact z.nx _ _ _ _ _ q3 ((p1.trans p2).trans p3) (((k1.trans k2).trans k3).trans k) (S3.turned hn ⟨_, upd_same, by simpa using hl, (RDs.set j (show RD _ _ _ _ _ _ from r1') r).mono k fun _ _ _ _ z => z⟩)
      | ref n => cases e9
      | bor n => cases e9
    · exact q3.elim
theorem vs_aug {i : Nat} {x : Str} {op : Operator} {r : R2} {f : Mem → Sv → Sv → Option Sv} (hN : X.N.Nodup) (hi : X.N[i]? = some x) (hx : Loc X.env.scope x) (he : VE X G e te) (ho : OpR X (inplaceOp op) r) (hr : Rd2 X.K r f) (hf : X.fn x = true ∨ X.env.scope.names.lookup x = some .local := by first | exact .inl rfl | exact .inr rfl | assumption) :
    VS X G (.AugAssign (.Name x p1') op e pos) (sAug i f te) := by
  have hp : PIp X op r := fun pins s σ H x y v u Q I rx ry q => ho pins s σ H x y v u Q I rx ry q
  refine PS.weak (ps_aug hN hi hx he hp hf) fun E σ H ⟨δ, M, ι, E0, S, q, z⟩ => ?_
  obtain ⟨d, e1, q⟩ := ok_elim q
  have e2 : δ[i]? = some (some d) := by
    cases q : δ[i]? with
    | none => rw [q] at e1; cases e1
    | some o =>
      rw [q] at e1
      cases o with
      | none => cases e1
      | some u => cases e1; rfl
  obtain ⟨v, e3, r1⟩ := S.slot i d e2
  refine ⟨v, e3, th1 S q fun y M1 ι1 H1 u q1 p1 k1 S1 r2 => ?_⟩
  obtain ⟨w, e4, q1⟩ := ok_elim q1
  exact hr G δ M1 ι1 σ H1 d y v u w S1 (r1.mono k1 p1 fun _ _ _ _ z => z) r2 e4 _ fun ι' H' w' p2 k2 S2 r3 => z.nx _ M1 ι' _ H' q1 (p1.trans p2) (k1.trans k2) (S2.set r3)
theorem vs_augAdd {i : Nat} {x : Str} (hN : X.N.Nodup) (hi : X.N[i]? = some x) (hx : Loc X.env.scope x) (he : VE X G e te) (hf : X.fn x = true ∨ X.env.scope.names.lookup x = some .local := by first | exact .inl rfl | exact .inr rfl | assumption) :
    VS X G (.AugAssign (.Name x p1') .Add e pos) (sAug i iaddD te) := by
  refine vs_aug hN hi hx he iop_add ?_ hf
  intro G δ M ι σ H x y v u d S rx ry e Q z
  unfold iaddD at e
  split at e
  · cases e; cases (show _ = _ from rx); cases (show _ = _ from ry)
    exact ⟨_, _, rfl, rfl, fin_same S z rfl⟩
  · cases e
theorem vs_augSub {i : Nat} {x : Str} (hN : X.N.Nodup) (hi : X.N[i]? = some x) (hx : Loc X.env.scope x) (he : VE X G e te) (hf : X.fn x = true ∨ X.env.scope.names.lookup x = some .local := by first | exact .inl rfl | exact .inr rfl | assumption) :
    VS X G (.AugAssign (.Name x p1') .Sub e pos) (sAug i subD te) := by
  refine vs_aug hN hi hx he iop_sub ?_ hf
  intro G δ M ι σ H x y v u d S rx ry e Q z
  unfold subD at e
  split at e
  · cases e; cases (show _ = _ from rx); cases (show _ = _ from ry)
    exact ⟨_, _, rfl, rfl, fin_same S z rfl⟩
  · cases e
theorem vs_augMul {i : Nat} {x : Str} (hN : X.N.Nodup) (hi : X.N[i]? = some x) (hx : Loc X.env.scope x) (he : VE X G e te) (hf : X.fn x = true ∨ X.env.scope.names.lookup x = some .local := by first | exact .inl rfl | exact .inr rfl | assumption) :
    VS X G (.AugAssign (.Name x p1') .Mult e pos) (sAug i imulD te) := by
  refine vs_aug hN hi hx he iop_mul ?_ hf
  intro G δ M ι σ H x y v u d S rx ry e Q z
  unfold imulD at e
  split at e
  · obtain ⟨hc, rfl⟩ := gd_some e; cases (show _ = _ from rx); cases (show _ = _ from ry)
    exact ⟨_, _, rfl, rfl, hc, fin_same S z rfl⟩
  · cases e
theorem vs_par {i j : Nat} {x y : Str} {px py pt pt2 : Pos} {kt k2 : Nat} (hc : X.calm = true) (hN : X.N.Nodup) (hi : X.N[i]? = some x) (hj : X.N[j]? = some y) (hij : i ≠ j)
    (hx : X.env.scope.names.lookup x = some .local) (hy : X.env.scope.names.lookup y = some .local) (ha : VA X G [a, b] 2 tA)
    (hw : swappedStores [.Tuple [.Name x px, .Name y py] kt pt] (.Tuple [a, b] k2 pt2) X.env = pure (some [x, y]))
    (hs : swapsWithSole [.Tuple [.Name x px, .Name y py] kt pt] (.Tuple [a, b] k2 pt2) pos.line X.env = pure false := by rfl) :
    VS X G (.Assign [.Tuple [.Name x px, .Name y py] kt pt] (.Tuple [a, b] k2 pt2) pos) (sPar i j tA) :=
  PS.weak (ps_par hc hN hi hj hij hx hy ha hw hs) fun E σ H ⟨δ, M, ι, E0, S, q, z⟩ => thA S q fun xs M1 ι1 H1 vs hl q1 p1 k1 S1 r1 => by
    obtain ⟨u, w, rfl⟩ : ∃ u w, xs = [u, w] := by
      match xs, hl with
      | [u, w], _ => exact ⟨u, w, rfl⟩
    obtain ⟨v1, v2, rfl, h1, h2⟩ := two_of r1
    exact ⟨v1, v2, rfl, z.nx _ M1 ι1 _ H1 q1 p1 k1 ((S1.set h1).set h2)⟩
/-- the names' targets, as the layer below reads them -/
theorem raw_all : ∀ {is : List Nat} {ds : List Sv} {xs : List V} {δ : DS} {M : Mem} {σ : L2.St} {Q : L2.St → Hp → Prop}, Sr K G δ M ι σ H → RSs K G.N H ι ds xs → ∀ δ', setAllS is ds δ = some δ' → (∀ σ', Sr K G δ' M ι σ' H → Q σ' H) →
    is.foldr (fun i r => gCons (gName i) r) gNil xs σ H Q
  | [], ds, xs, δ, M, σ, Q, S, r, δ', e, z => by
    cases ds with
    | nil => cases e; cases (show _ = _ from r); exact ⟨rfl, z σ S⟩
    | cons d ds => cases e
  | i :: is, ds, xs, δ, M, σ, Q, S, r, δ', e, z => by
    cases ds with
    | nil => cases e
    | cons d ds =>
      obtain ⟨v, vr, rfl, r1, r2⟩ := r
      exact ⟨v, vr, rfl, raw_all (S.set r1) r2 δ' e z⟩
theorem setAllS_len : ∀ {is : List Nat} {ds : List Sv} {δ δ' : DS}, setAllS is ds δ = some δ' → ds.length = is.length
  | [], [], _, _, _ => rfl
  | [], _ :: _, _, _, h => by cases h
  | _ :: _, [], _, _, h => by cases h
  | i :: is, d :: ds, δ, δ', h => by simp [setAllS_len (is := is) h]
theorem RSs.length : ∀ {ds : List Sv} {vs : List V}, RSs K N H ι ds vs → ds.length = vs.length
  | [], _, h => by cases (show _ = _ from h); rfl
  | d :: ds, _, h => by
    obtain ⟨x, r, rfl, _, h2⟩ := h
    simp [RSs.length h2]
theorem vs_parT {is : List Nat} {ts : List Expr} {n kt k2 : Nat} {pt pt2 : Pos} (hc : X.calm = true) (hg : PGs X ts (is.foldr (fun i r => gCons (gName i) r) gNil)) (ha : VA X G es n tA) (hz : n ≤ sizeLine := by decide)
    (hn : (assignEach ts X.env).length = is.length := by rfl) (hst : (assignEach ts X.env).findIdx? (·.1) = none := by rfl)
    (hs : swapsWithSole [.Tuple ts kt pt] (.Tuple es k2 pt2) pos.line X.env = pure false := by rfl) (hw : swappedStores [.Tuple ts kt pt] (.Tuple es k2 pt2) X.env = pure none := by rfl)
    (h1 : (assignEach [.Tuple ts kt pt] X.env).map (·.2) = [assign (.Tuple ts kt pt) X.env] := by rfl) :
    VS X G (.Assign [.Tuple ts kt pt] (.Tuple es k2 pt2) pos) (sParT is tA) :=
  PS.weak (ps_asg (pe_tup ha) (pg_tup hc hg hn hst) hs hw h1) fun E σ H ⟨δ, M, ι, E0, S, q, z⟩ => thA S q fun xs M1 ι1 H1 vs hl q1 p1 k1 S1 r1 => by
    obtain ⟨δ', e, q1⟩ := ok_elim q1
    refine ⟨by rw [← r1.length, hl]; exact hz, fun p hp => ?_⟩
    have k2 : Kp ι1 H1 ι1 (upd H1 p (.tup vs)) := Kp.laid hp
    refine ⟨p, vs, rfl, SqT.of upd_same, by rw [← r1.length, setAllS_len e], ?_⟩
    exact raw_all (S1.laid hp) (r1.mono k2 (Ex.refl _) fun _ _ _ _ z => z) δ' e fun σ' S' => z.nx _ M1 ι1 _ _ q1 p1 (k1.trans k2) S'
theorem pgs_names_nil : PGs X [] (([] : List Nat).foldr (fun i r => gCons (gName i) r) gNil) := pgs_nil
theorem pgs_names {i : Nat} {is : List Nat} {x : Str} {px : Pos} (hN : X.N.Nodup) (hi : X.N[i]? = some x) (hx : Loc X.env.scope x) (hr : PGs X es (is.foldr (fun i r => gCons (gName i) r) gNil)) (hf : X.fn x = true ∨ X.env.scope.names.lookup x = some .local := by first | exact .inl rfl | exact .inr rfl | assumption)
    (hs : (assignEach (.Name x px :: es) X.env).map (·.2) = assign (.Name x px) X.env :: (assignEach es X.env).map (·.2) := by rfl) : PGs X (.Name x px :: es) ((i :: is).foldr (fun i r => gCons (gName i) r) gNil) :=
  pgs_cons (pg_name (pos := px) hN hi hx hf) hr hs
theorem vs_while (hp : PassesOwn (model X.prog X.w) X.A X.env X.xe) (hc : VT X G c tc) (hb : VSs X G body s) : VS X G (.While c body [] pos) (sWh tc s) := by
  refine PS.weak (ps_while hp hc hb) fun E σ H ⟨δ, M, ι, E0, S, q, z⟩ => ?_
  obtain ⟨n0, q⟩ := q
  have hk : G.i0.length ≤ M.length := S.i0len
  have hlen : M.length = ι.length := S.mem.len
  refine ⟨fun m σ2 H2 => ∃ δ2 M2 ι2, Sr X.K G δ2 M2 ι2 σ2 H2 ∧ Ex ι ι2 ∧ Kp ι H ι2 H2 ∧ whL M.length tc s E0 m δ2 M2, ⟨n0, δ, M, ι, S, Ex.refl _, Kp.refl _ _, q⟩, ?_⟩
  rintro m σ2 H2 ⟨δ2, M2, ι2, S2, e2, k2, q2⟩
  cases m with
  | zero => exact q2.elim
  | succ m =>
    refine ⟨δ2, M2, ι2, _, S2, q2, fun t M3 ι3 H3 q3 p3 k3 S3 => ?_⟩
    cases t with
    | false => exact z.nx δ2 M3 ι3 σ2 H3 q3 (e2.trans p3) (k2.trans k3) S3
    | true =>
      simp only [if_true] at q3 ⊢
      refine ⟨fun σ5 H5 => ∃ δ2 M2 ι2, Sr X.K G δ2 M2 ι2 σ5 H5 ∧ Ex ι ι2 ∧ Kp ι H ι2 H5 ∧ whL M.length tc s E0 m δ2 M2, fun σ5 H5 h => ⟨m, Nat.lt_succ_self _, h⟩, ?_⟩
      have fin : ∀ δ5 M5 ι5 σ5 H5, Sr X.K G δ5 M5 ι5 σ5 H5 → Ex ι ι5 → Kp ι H ι5 H5 → whL M.length tc s E0 m (gcS M.length δ5) (M5.take M.length) →
          ∃ δ3 M3 ι3, Sr X.K G δ3 M3 ι3 σ5 H5 ∧ Ex ι ι3 ∧ Kp ι H ι3 H5 ∧ whL M.length tc s E0 m δ3 M3 := fun δ5 M5 ι5 σ5 H5 S5 e5 k5 q5 => by
        refine ⟨_, _, _, S5.gc M.length hk, ?_, k5.trans (Kp.take _), q5⟩
        rw [hlen]; exact ex_take e5
      refine ⟨δ2, M3, ι3, _, S3, q3, ⟨fun δ5 M5 ι5 σ5 H5 q5 e5 k5 S5 => ?_, fun d5 δ5 M5 ι5 σ5 H5 v5 q5 S5 r5 => ?_, fun δ5 M5 ι5 σ5 H5 q5 e5 k5 S5 => ?_, fun δ5 M5 ι5 σ5 H5 q5 e5 k5 S5 => ?_⟩⟩
      · exact fin δ5 M5 ι5 σ5 H5 S5 ((e2.trans p3).trans e5) ((k2.trans k3).trans k5) q5
      · exact z.rt d5 δ5 M5 ι5 σ5 H5 v5 q5 S5 r5
      · exact z.nx δ5 M5 ι5 σ5 H5 q5 ((e2.trans p3).trans e5) ((k2.trans k3).trans k5) S5
      · exact fin δ5 M5 ι5 σ5 H5 S5 ((e2.trans p3).trans e5) ((k2.trans k3).trans k5) q5
end
end VL
set_option Elab.async false
set_option linter.all false
set_option maxRecDepth 100000
set_option maxHeartbeats 400000
/-! Defs where no repr is under way: HandS's FnOk, over such surroundings alone. -/
namespace VL
open PySem PySem.Spec PyProof.Rows L2

structure RoomG (k : Nat) (A : Around) : Prop where
  rm : Room k A
  gs : A.guards = some []
theorem RoomG.mono {j k : Nat} {A : Around} (r : RoomG k A) (h : j ≤ k) : RoomG j A := ⟨r.rm.mono h, r.gs⟩
theorem RoomG.deeper {k : Nat} {A : Around} (r : RoomG (k + 1) A) (env : Env) : RoomG k (A.deeper env) := ⟨r.rm.deeper env, r.gs⟩
structure FnG (P : Program) (w : World) (K : PySem.W.Frag) (mg : Str → Option Value) (base : Heap) (CX : CXT) (k : Nat) (f : Addr) (fd : FuncData) (ps : List Str) (sp : Sp) : Prop where
  len : ∀ vs H Q E, sp vs H Q E → vs.length = ps.length
  run : ∀ (A : Around) (outer : List Env) (s : Shared) (H : Hp) (args : Args) (us : List Value) (vs : List V) (Q : VK) (E : XK), RoomG k A → Env0 P w K mg base A outer s H → BindsTo s fd args (ps.zip us) → Vals vs us → sp vs H Q E →
    codeAny (model P w) A (.call (.ref f) args) (CR CX outer P w H s Q E) s
theorem FnG.mono {P : Program} {w : World} {K : PySem.W.Frag} {mg : Str → Option Value} {base : Heap} {CX : CXT} {j k : Nat} {f : Addr} {fd : FuncData} {ps : List Str} {sp : Sp} (F : FnG P w K mg base CX j f fd ps sp) (h : j ≤ k) :
    FnG P w K mg base CX k f fd ps sp := ⟨F.len, fun A outer s H args us vs Q E hr => F.run A outer s H args us vs Q E (hr.mono h)⟩
section
variable {X : Cx} {CX : CXT} {k : Nat} {f C : Addr} {fd : FuncData} {ps : List Str} {sp : Sp} {dvs : List V} {ds : List Value} {E : XK} {x m : Str} {p pos apos : Pos} {e o : Expr} {es : List Expr} {ta : TE} {t : TA}
theorem run_g {pins : List (Addr × Obj)} {σ : L2.St} {H : Hp} {s : Shared} {Q : VK} {us : List Value} {vs : List V} (F : FnG X.prog X.w X.K X.mg X.base CX k f fd ps sp) (hr : RoomG k X.A) (hb : Binds X.K fd ps ds) (hd : Vals dvs ds) (hx : Passes CX X E)
    (I : Inv X pins σ H s) (r : Vals vs us) (h : sp (vs ++ dvs) H Q E) : wpAny (model X.prog X.w) X.A (call (.ref f) us) (EP X pins σ Q) X.xe s := by
  have r2 : Vals (vs ++ dvs) (us ++ ds) := r.append hd
  have hl : (us ++ ds).length = ps.length := by rw [← r2.length]; exact F.len _ _ _ _ h
  refine wpAny_call (codeAny_mono (F.run X.A X.stack s H ⟨us, []⟩ (us ++ ds) (vs ++ dvs) Q E hr I.env0 (hb s us I.kIn hl) r2 h) fun r s' hq => ?_)
  cases r with
  | error e => exact hx pins σ H s e s' I hq
  | ok fl =>
    cases fl with
    | ret u => exact I.after hq
    | next => exact False.elim hq
    | brk => exact False.elim hq
    | cont => exact False.elim hq
theorem pe_callg (F : FnG X.prog X.w X.K X.mg X.base CX k f fd ps sp) (hr : RoomG k X.A) (hg : Gl X x) (hm : X.mg x = some (.ref f)) (hk : PySem.W.keepIn X.K (.ref f) = true) (hb : Binds X.K fd ps ds) (hd : Vals dvs ds) (hx : Passes CX X E)
    (ha : PA X (e :: es) t) (hdb : (x == ("__debug__" : Str)) = false := by decide) (he : starEach (e :: es) X.env = (false, eval e X.env) :: starEach es X.env := by rfl) (hpl : (backTo pos (starEach es X.env)).any (·.1) = false := by rfl) :
    PE X (.Call (.Name x p) (e :: es) [] pos) (tCall sp dvs E t) :=
  ⟨fun pins s σ H Q I h => wpAny_Call_Name_kw (ld_glob I hg hm (PySem.W.callWith_K (h₀ := X.base) I.ok.mod.kin hk (thn (ha.run pos pins s σ H _ I h) fun us s1 ⟨vs, H1, I1, r, q⟩ => ⟨I1.kIn, run_g F hr hb hd hx I1 r q⟩) he hpl) hdb)⟩
theorem pe_callg0 (F : FnG X.prog X.w X.K X.mg X.base CX k f fd ps sp) (hr : RoomG k X.A) (hg : Gl X x) (hm : X.mg x = some (.ref f)) (hk : PySem.W.keepIn X.K (.ref f) = true) (hb : Binds X.K fd ps ds) (hd : Vals dvs ds) (hx : Passes CX X E)
    (hdb : (x == ("__debug__" : Str)) = false := by decide) : PE X (.Call (.Name x p) [] [] pos) (tCall sp dvs E tNil) :=
  ⟨fun pins s σ H Q I h => wpAny_Call_Name_kw (ld_glob I hg hm (PySem.W.callWith_K0 I.kIn hk (run_g (us := []) F hr hb hd hx I .nil h)) hdb)⟩
end
/-- a def by its body -/
theorem fn_g {CX : CXT} {P : Program} {w : World} {K : PySem.W.Frag} {mg : Str → Option Value} {base : Heap} {k : Nat} {f : Addr} {x qual : Str} {params : Arguments} {body : List Stmt} {scope : Scope} {dvs : List V} {kws : List (Str × V)} {fd : FuncData}
    {N ps : List Str} {sp : Sp} (F : FunD K x qual params body scope dvs kws f fd) (S : FnScope N ps scope)
    (len : ∀ vs H Q E, sp vs H Q E → vs.length = ps.length)
    (hbody : ∀ (cdv : Value) (A : Around) (outer : List Env) (s : Shared) (H : Hp) (vs : List V) (Q : VK) (E : XK), RoomG k (A.deeper (envOfC qual scope s.heap.objs.size f cdv)) → sp vs H Q E →
      ∃ t, PSs (cxOf CX P w K mg base N qual scope f cdv A outer s H E) body t ∧ t { nx := fun _ H' => Q .non H', rt := Q } (L2.start N vs) H) :
    FnG P w K mg base CX (k + 1) f fd ps sp := by
  obtain ⟨oc, od, dV, kV, doc, pm, an, cdv, ct, osl, rfl, lk, hcd, _, _⟩ := F.ex
  refine ⟨len, fun A outer s H args us vs Q E hr e0 hb r hsp => ?_⟩
  have hl := len _ _ _ _ hsp
  have KX : K.In s.heap := e0.mod.kin.keeps fun b o e => (e0.bs b o e).1
  have lim : s.heap.NoLimit := e0.mod.nolimit.keeps fun b o e => (e0.bs b o e).1
  have hkind : ∀ y ∈ ps.zip us, scope.names.lookup y.1 = some .local ∨ (scope.names.lookup y.1 = some .cell ∧ ((cellsFrom (s.heap.objs.size + 1) scope.names []).lookup y.1).isSome = true) := fun y hy => by
    have hy1 : y.1 ∈ ps := (List.of_mem_zip (show (y.1, y.2) ∈ ps.zip us from hy)).1
    exact (S.par y.1 hy1).imp id fun q => ⟨q, PySem.W.cellsFrom_some _ _ _ (.inl q)⟩
  refine codeAny_call_function hr.rm.depth (KX _ _ lk) rfl S.co S.gen rfl (PySem.W.codeRec_of KX hcd) (hb _ _ _ _ ?_)
  refine wpAny_newFunctionEnv_cells S.kind hkind fun env he s1 x => ?_
  subst he
  refine ⟨lim.keeps x.toInCall.keep, codeAny_func ?_⟩
  obtain ⟨t, ht, hq⟩ := hbody cdv A outer s H vs Q E (hr.deeper _) hsp
  have I : Inv (cxOf CX P w K mg base N qual scope f cdv A outer s H E) [] (L2.start N vs) H s1 := inv_start S hr.rm.hd e0 hl r x
  refine wpAny_mono (ht.run [] s1 (L2.start N vs) H _ I hq) (fun fl s' hs => ?_) fun e s' hs => hs
  have fin : ∀ {σ' : L2.St} {H' : Hp} {v : V} {u : Value}, Inv (cxOf CX P w K mg base N qual scope f cdv A outer s H E) [] σ' H' s' → RelV v u → Q v H' → CE outer P w H s Q u s' :=
    fun {σ' H' v u} J rv q => ⟨v, H', J.os, J.bare, J.base, J.hok, rv, q⟩
  cases fl with
  | ret u =>
    obtain ⟨v, σ', H', J, rv, q⟩ := hs
    exact fin J rv q
  | next =>
    obtain ⟨σ', H', J, q⟩ := hs
    exact fin (v := V.non) (u := Value.none) J rfl q
  | brk =>
    obtain ⟨_, _, _, q⟩ := hs
    exact False.elim q
  | cont =>
    obtain ⟨_, _, _, q⟩ := hs
    exact False.elim q
/-! ### the law's own call -/
theorem law_g {P : Program} {w : World} {K : PySem.W.Frag} {mg mb : Str → Option Value} {CX : CXT} {k : Nat} {fa a : Addr} {fd : FuncData} {x : Str} {sp : Sp} {s₁ : Shared} {vs : List Value} {ns : List Int}
    (KX : K.In s₁.heap) (hns : s₁.heap.Ns mainGlobals mg) (hb : s₁.heap.Ns builtinsNs mb) (hbb : ∀ x : Str, x ≠ "__name__" → mb x = bootBuiltins x) (hlim : s₁.heap.NoLimit) (hg : s₁.gens = #[])
    (ha : s₁.heap.get? a = some { cls := .type "list", data := .seq vs.toArray }) (hi : IntsAre vs ns) (hl : ns.length ≤ sizeLine) (hr : Room k callerA)
    (F : ∀ base : Heap, K.In base → base.Ns mainGlobals mg → FnG P w K mg base CX k fa fd [x] sp) (hbind : ∀ (s : Shared) (u : Value), BindsTo s fd ⟨[u], []⟩ [(x, u)])
    (hsp : ∀ H : Hp, Only H → SqL K H a (ns.map V.int) → sp [.ref a] H (fun v _ => v = .bl true) fun _ _ _ => False)
    (hCX : ∀ H e s', CX [] H s₁ (fun _ _ _ => False) e s' → False) :
    codeAny (model P w) callerA (.call (.ref fa) ⟨[.ref a], []⟩) (fun r s' => r = .ok (.ret (.bool true)) ∧ OldK s₁.heap s'.heap ∧ s'.os = s₁.os ∧ AllBare s'.gens) s₁ := by
  have rv := vals_ints hi
  have lenV := hi.length
  have core : ∀ H : Hp, Only H → SqL K H a (ns.map V.int) → HOk P w H s₁.heap → (∀ b, H b ≠ none → b = a) → (H a ≠ none → K.lookup a = none) →
      codeAny (model P w) callerA (.call (.ref fa) ⟨[.ref a], []⟩) (fun r s' => r = .ok (.ret (.bool true)) ∧ OldK s₁.heap s'.heap ∧ s'.os = s₁.os ∧ AllBare s'.gens) s₁ := by
    intro H hO hS hok hA hK
    have noA : ∀ {b : Addr} {o : Obj} {es : Array DictEntry} {ep : Nat}, s₁.heap.get? b = some o → o.data = .dict es ep → H b = none := fun {b o es ep} e d => by
      refine Classical.byContradiction fun z => ?_
      have e' : b = a := hA b z
      subst e'
      rw [ha] at e; cases e
      have d' : Data.seq vs.toArray _ = Data.dict es ep := d
      cases d'
    have nsK : ∀ {b : Addr} {m : Str → Option Value}, s₁.heap.Ns b m → (hidT s₁.heap H).Ns b m := fun {b m} ⟨o, es, ep, e, d, r⟩ => ⟨o, es, ep, hidT_get e (noA e d), d, r⟩
    have hKb : K.In (hidT s₁.heap H) := fun b o e => hidT_get (KX b o e) (Classical.byContradiction fun z => by
      have e' : b = a := hA b z
      subst e'
      rw [hK z] at e; cases e)
    have hM : Mod K mg (hidT s₁.heap H) := ⟨hKb, nsK hns, ⟨mb, nsK hb, hbb⟩, let ⟨mc, h1, h2⟩ := hlim; ⟨mc, nsK h1, h2⟩⟩
    have e0 : Env0 P w K mg (hidT s₁.heap H) callerA [] s₁ H := ⟨rfl, hM, fun b o e => of_hidT e, Nat.le_of_eq (hidT_size _ _), trivial, fun b hb => absurd (show b ∈ ([] : List Addr) from hb) (by simp), hok, .of_eq hg⟩
    refine codeAny_mono ((F _ hKb (nsK hns)).run callerA [] s₁ H ⟨[.ref a], []⟩ [.ref a] [.ref a] _ _ ⟨hr, rfl⟩ e0 (hbind s₁ (.ref a)) (.cons rfl .nil) (hsp H hO hS)) fun r s' h => ?_
    cases r with
    | error e => exact (hCX H e s' h).elim
    | ok fl =>
     cases fl with
     | next => exact False.elim h
     | brk => exact False.elim h
     | cont => exact False.elim h
     | ret u =>
      obtain ⟨v, H', os, bare, un, hok', r', q⟩ := h
      have q' : v = .bl true := q
      subst q'
      obtain rfl : u = Value.bool true := r'
      refine ⟨rfl, OldK.of_keep fun b o e => ?_, os, bare⟩
      cases q : H b with
      | none => exact un.keep b o e q (by intro z; exact absurd (show b ∈ ([] : List Addr) from z) (by simp)) (by simp)
      | some u =>
        rcases hO b with z | ⟨ob, xs, z⟩
        · rw [q] at z; cases z
        · obtain ⟨e1, _⟩ := hok b _ z
          obtain ⟨e2, _⟩ := hok' b _ (un.frzs b ob _ z)
          rw [e] at e1; cases e1
          exact e2
  cases hk : K.lookup a with
  | some o =>
    have e := KX a o hk
    rw [ha] at e
    cases e
    exact core (fun _ => none) (fun _ => .inl rfl) (.inr ⟨_, vs.toArray, _, hk, rfl, rfl, rfl, by rw [List.size_toArray, lenV]; exact hl, by simpa using rv⟩) (fun b u z => by have z' : (none : Option HO) = some u := z; cases z') (fun b z => absurd rfl z) fun z => absurd rfl z
  | none =>
    have at_ : ∀ b u, (if b = a then some (HO.frz { cls := .type "list", data := .seq vs.toArray } (.lst (ns.map V.int))) else none) = some u → b = a ∧ u = HO.frz { cls := .type "list", data := .seq vs.toArray } (.lst (ns.map V.int)) := fun b u z => by
      by_cases hb : b = a
      · rw [if_pos hb] at z; cases z; exact ⟨hb, rfl⟩
      · rw [if_neg hb] at z; cases z
    refine core (fun b => if b = a then some (.frz { cls := .type "list", data := .seq vs.toArray } (.lst (ns.map V.int))) else none) (fun b => ?_) (.inl (.inr ⟨{ cls := .type "list", data := .seq vs.toArray }, if_pos rfl⟩)) (fun b u z => ?_) (fun b z => ?_) fun _ => hk
    · by_cases hb : b = a
      · exact .inr ⟨_, _, if_pos hb⟩
      · exact .inl (if_neg hb)
    · obtain ⟨rfl, rfl⟩ := at_ b u z
      exact ⟨ha, by rw [List.length_map]; exact hl, vs, _, rv, ha⟩
    · exact Classical.byContradiction fun hb => z (if_neg hb)
theorem walk_g {l : PySem.W.OpenLaw} {n k : Nat} {q : Program} {loose : List Str} {XP : (Str → Option Value) → Heap → Prop} {YP : World → Heap → Prop} {d : DefRec} {CX : CXT} {x : Str}
    (hn : l.most = some n) (hn2 : n ≤ sizeLine) (hdf : d.params.defaults = []) (hr : Room k callerA)
    (F : ∀ (w : World) (mg : Str → Option Value) (fa : Addr) (h : Heap), YP w h → h.Ns mainGlobals mg → mg d.name = some (.ref fa) →
      ∃ (K : PySem.W.Frag) (fd : FuncData) (sp : Sp), K.In h ∧ (∀ (s : Shared) (u : Value), BindsTo s fd ⟨[u], []⟩ [(x, u)]) ∧
        (∀ (H : Hp) (a : Addr) (ns : List Int), ns.length ≤ n → Only H → SqL K H a (ns.map V.int) → sp [.ref a] H (fun v _ => v = .bl true) fun _ _ _ => False) ∧
        ∀ base : Heap, K.In base → base.Ns mainGlobals mg → FnG l.prog w K mg base CX k fa fd [x] sp)
    (hCX : ∀ (H : Hp) (s : Shared) (e : Value) (s' : Shared), CX [] H s (fun _ _ _ => False) e s' → False) :
    PySem.W.WalkO q loose XP YP l.row.toRowW d [] (fun f vs => PySem.call f vs) := by
  refine Att.attach_call hn hdf fun w s₀ s₁ mg mb fa o pm cd doc a vs ns G Y ho hd hcd hmg hobj hints hlen hg => ?_
  obtain ⟨K, fd, sp, KX, hb, hsp, hF⟩ := F w mg fa _ Y G.T.g hmg
  exact law_g KX G.T.g G.T.b G.T.builtins G.T.nolimit hg hobj hints (Nat.le_trans hlen hn2) hr hF hb (fun H hO hS => hsp H a ns hlen hO hS) fun H e s' => hCX H s₁ e s'
end VL
set_option Elab.async false
set_option linter.all false
set_option maxRecDepth 100000
set_option maxHeartbeats 4000000
namespace VL
open PySem PySem.Spec L2 RT RZ

/-! ### own functions: promises over data -/
/-- a result: data, or a new list -/
inductive Rv where
  | d (x : D) | new (ds : List D)
abbrev SpD := List Sv → Mem → (Rv → Mem → Prop) → Prop
def NB (B : Addr → Prop) : Bool → Addr → Prop := fun b a => ¬ False ∧ (b = true → ¬ B a)
/-- how a result lies: ι the callee's changing arguments -/
def RR (K : PySem.W.Frag) (N : Bool → Addr → Prop) (H0 H : Hp) (ι : Ix) (M : Mem) : Rv → V → Prop
  | .d x, v => RD K N H ι x v ∧ RM K N H ι M ∧ Kp ι H0 ι H
  | .new ds, v => ∃ a, v = .ref a ∧ H0 a = none ∧ RM K N H (ι ++ [some a]) (M ++ [.lst ds]) ∧ Kp ι H0 (ι ++ [some a]) H
def lP (K : PySem.W.Frag) (n : Nat) (sp : SpD) : Sp := fun vs H Q _ => ∃ (as : List Sv) (M : Mem) (i0 : List Addr) (B : Addr → Prop) (Q0 : Rv → Mem → Prop),
  as.length = n ∧ (∀ a, B a → ∃ o, H a = some o) ∧ RSs K (NB B) H (i0.map some) as vs ∧ RM K (NB B) H (i0.map some) M ∧ sp as M Q0 ∧
  ∀ r M' v H', Q0 r M' → RR K (NB B) H H' (i0.map some) M' r v → Q v H'
/-- the ends of a body: m cells were handed in -/
def resD (M : Mem) : Sv → Option Rv
  | .d x => some (.d x)
  | .ref n => (cellL M[n]?).map Rv.new
  | .bor _ => none
def okRef (m : Nat) : Sv → Prop
  | .ref n => m ≤ n
  | _ => True
def endsF (m : Nat) (Q0 : Rv → Mem → Prop) : Ends' where
  nx := fun _ M => Q0 (.d .non) (M.take m)
  rt := fun s M => okRef m s ∧ ok (resD M s) fun r => Q0 r (M.take m)
def startD (n : Nat) (as : List Sv) : DS := as.map some ++ List.replicate (n - as.length) none
section
variable {K : PySem.W.Frag} {X : Cx} {N : Bool → Addr → Prop} {H : Hp} {ι : Ix}
theorem RSs.get : ∀ {as : List Sv} {vs : List V} {i : Nat} {d : Sv}, RSs K N H ι as vs → as[i]? = some d → ∃ v, vs[i]? = some v ∧ RS K N H ι d v
  | [], _, _, _, _, e => by simp at e
  | a :: as, _, i, d, h, e => by
    obtain ⟨x, r, rfl, h1, h2⟩ := h
    cases i with
    | zero => simp at e; subst e; exact ⟨x, rfl, h1⟩
    | succ i => exact RSs.get (i := i) h2 (by simpa using e)
theorem startD_at {n : Nat} {as : List Sv} {i : Nat} {d : Sv} (h : (startD n as)[i]? = some (some d)) : as[i]? = some d := by
  unfold startD at h
  by_cases hi : i < as.length
  · rw [List.getElem?_append_left (by simpa using hi), List.getElem?_map] at h
    cases q : as[i]? with
    | none => rw [q] at h; cases h
    | some u => rw [q] at h; cases h; rfl
  · rw [List.getElem?_append_right (by simpa using hi), List.getElem?_replicate] at h
    split at h <;> cases h
/-- the ground of a callee -/
abbrev gnd (H : Hp) (i0 : List Addr) (B : Addr → Prop) : Gd := ⟨H, i0, B, fun _ => False⟩
theorem start_sr {Ns : List Str} {as : List Sv} {vs : List V} {M : Mem} {i0 : List Addr} {B : Addr → Prop} (hB : ∀ a, B a → ∃ o, H a = some o) (r : RSs K (NB B) H (i0.map some) as vs) (m : RM K (NB B) H (i0.map some) M) :
    Sr K (gnd H i0 B) (startD Ns.length as) M (i0.map some) (L2.start Ns vs) H := by
  have hl := r.length
  refine ⟨by unfold startD L2.start; simp [hl], fun i d e => ?_, m, fun n a e => ?_, Kp.refl _ _, fun a ha hn => ?_, hB, fun a ha => ha.elim⟩
  · have e1 := startD_at e
    obtain ⟨v, e2, r2⟩ := r.get e1
    refine ⟨v, ?_, r2⟩
    unfold L2.start
    rw [List.getElem?_append_left (by simpa using (List.getElem?_eq_some_iff.mp e2).1), List.getElem?_map, e2]; rfl
  · rw [List.getElem?_map, e]; rfl
  · exact absurd (by simpa using ha) hn
theorem pre_take {G : Gd} {δ : DS} {M : Mem} {σ : L2.St} (S : Sr K G δ M ι σ H) : ι.take G.i0.length = G.i0.map some := by
  apply List.ext_getElem?
  intro n
  rw [List.getElem?_take, List.getElem?_map]
  split
  · rename_i h
    rw [List.getElem?_eq_getElem h]
    exact S.pre n _ (List.getElem?_eq_getElem h)
  · rename_i h
    rw [List.getElem?_eq_none (by omega)]; rfl
/-- a body keeps the promise -/
theorem body_ok {Ns : List Str} {n : Nat} {sp : SpD} {body : List Stmt} {t : TS'} {vs : List V} {Q : VK} {E : XK}
    (m0 : Nat) (hX : X.K = K) (hb : ∀ G, G.i0.length = m0 → VSs X G body t) (hm0 : ∀ as M Q0, sp as M Q0 → M.length = m0) (hp : ∀ as M Q0, as.length = n → sp as M Q0 → t (endsF M.length Q0) (startD Ns.length as) M) (h : lP K n sp vs H Q E) :
    ∃ t', PSs X body t' ∧ t' { nx := fun _ H' => Q .non H', rt := Q } (L2.start Ns vs) H := by
  subst hX
  obtain ⟨as, M, i0, B, Q0, hn, hB, ra, rm, hs, z⟩ := h
  have hlen : M.length = i0.length := by rw [rm.len]; simp
  have fin : ∀ {δ' : DS} {M' : Mem} {ι' : Ix} {σ' : L2.St} {H' : Hp}, Sr X.K (gnd H i0 B) δ' M' ι' σ' H' → RM X.K (NB B) H' (i0.map some) (M'.take M.length) ∧ Kp (i0.map some) H (i0.map some) H' ∧ Kp ι' H' (i0.map some) H' := fun S' => by
    have e := pre_take S'
    have S2 := S'.gc i0.length (Nat.le_refl _)
    rw [show (gnd H i0 B).i0.length = i0.length from rfl] at e
    rw [e] at S2
    refine ⟨by rw [hlen]; exact S2.mem, S2.kp, ?_⟩
    rw [← show (gnd H i0 B).i0 = i0 from rfl, ← e]; exact Kp.take _
  refine ⟨_, hb (gnd H i0 B) (hlen.symm.trans (hm0 _ _ _ hs)), startD Ns.length as, M, i0.map some, endsF M.length Q0, start_sr hB ra rm, hp as M Q0 hn hs, ?_⟩
  refine ⟨fun δ' M' ι' σ' H' q e k S' => ?_, fun d δ' M' ι' σ' H' v q S' r => ?_, fun δ' M' ι' σ' H' q e k S' => q.elim, fun δ' M' ι' σ' H' q e k S' => q.elim⟩
  · obtain ⟨f1, f2, f3⟩ := fin S'
    exact z _ _ .non H' q ⟨rfl, f1, f2⟩
  · obtain ⟨f1, f2, f3⟩ := fin S'
    obtain ⟨hr, q⟩ := q
    obtain ⟨rv, e, q⟩ := ok_elim q
    cases d with
    | d x => cases e; exact z _ _ v H' q ⟨RD.mono f3 (fun _ _ _ _ z => z) x v r, f1, f2⟩
    | bor ds => cases e
    | ref k =>
      obtain ⟨ds, e1, rfl⟩ := Option.map_eq_some_iff.mp e
      obtain ⟨a, rfl, hk, xs, q1, l, rd⟩ := S'.mem.at r (cellL_some e1) (fun z => nomatch z)
      have hm : M.length ≤ k := hr
      have hno : a ∉ i0 := fun ha => by
        obtain ⟨j, hj⟩ := List.getElem?_of_mem ha
        have := S'.pre j a hj
        have e3 := S'.mem.nod _ _ _ this hk
        have := (List.getElem?_eq_some_iff.mp hj).1
        omega
      have f4 : Kp ι' H' (i0.map some ++ [some a]) H' := fun b o e n => by
        refine ⟨e, fun hb => ?_⟩
        rcases List.mem_append.mp hb with hb | hb
        · exact (f3 b o e n).2 hb
        · simp only [List.mem_singleton, Option.some.injEq] at hb; subst hb; exact n (List.mem_of_getElem? hk)
      have hsz : (M'.take M.length).length = (i0.map some).length := f1.len
      refine z _ _ _ H' q ⟨a, rfl, S'.new a (List.mem_of_getElem? hk) hno, ⟨by simp [hsz], fun n m b e1 e2 => ?_, fun n c b e1 e2 => ?_, fun n e1 => ?_⟩, fun b o e n => ?_⟩
      · rw [List.getElem?_append] at e1 e2
        split at e1 <;> split at e2
        · exact f1.nod n m b e1 e2
        · rename_i h1 h2
          have : b = a := by
            cases w : m - (i0.map some).length with
            | zero => rw [w] at e2; simpa using e2.symm
            | succ j => rw [w] at e2; simp at e2
          subst this
          exact absurd (by simpa using List.mem_of_getElem? e1) hno
        · rename_i h1 h2
          have : b = a := by
            cases w : n - (i0.map some).length with
            | zero => rw [w] at e1; simpa using e1.symm
            | succ j => rw [w] at e1; simp at e1
          subst this
          exact absurd (by simpa using List.mem_of_getElem? e2) hno
        · rename_i h1 h2
          cases w : n - (i0.map some).length with
          | zero =>
            cases w2 : m - (i0.map some).length with
            | zero => omega
            | succ j => rw [w2] at e2; simp at e2
          | succ j => rw [w] at e1; simp at e1
      · rw [List.getElem?_append] at e1 e2
        rw [hsz] at e1
        split at e1
        · rename_i h1
          rw [if_pos h1] at e2
          have e3 : M'[n]? = some c := by
            rw [List.getElem?_take] at e1
            split at e1
            · exact e1
            · cases e1
          have e4 : ι'[n]? = some (some b) := by
            rw [List.getElem?_map] at e2
            cases w : i0[n]? with
            | none => rw [w] at e2; cases e2
            | some b' => rw [w] at e2; cases e2; exact S'.pre n b w
          exact (S'.mem.cell n c b e3 e4).mono f4 (fun _ _ _ _ z => z) rfl
        · rename_i h1
          rw [if_neg h1] at e2
          cases w : n - (i0.map some).length with
          | zero =>
            rw [w] at e1 e2
            simp at e1 e2
            subst e1 e2
            exact ⟨xs, q1, l, rd.mono f4 fun _ _ _ _ z => z⟩
          | succ j => rw [w] at e1; simp at e1
      · rw [List.getElem?_append] at e1
        split at e1
        · rw [List.getElem?_map] at e1
          cases w : i0[n]? with
          | none => rw [w] at e1; cases e1
          | some b' => rw [w] at e1; cases e1
        · cases w : n - (i0.map some).length with
          | zero => rw [w] at e1; simp at e1
          | succ j => rw [w] at e1; simp at e1
      · obtain ⟨h1, h2⟩ := f2 b o e n
        refine ⟨h1, fun hb => ?_⟩
        rcases List.mem_append.mp hb with hb | hb
        · exact h2 hb
        · simp only [List.mem_singleton, Option.some.injEq] at hb; subst hb
          rw [show H b = none from S'.new b (List.mem_of_getElem? hk) hno] at e; cases e
/-! ### the caller -/
/-- how the arguments are handed over: tt, a changing list of the caller's that the callee may change; ns: the caller's numbers of these -/
def handS (M : Mem) : List Bool → List Sv → List Nat → Option (List Sv × List Nat)
  | [], [], ns => some ([], ns)
  | true :: ms, .ref n :: xs, ns => if n ∈ ns then none else (cellL M[n]?).bind fun _ => (handS M ms xs (ns ++ [n])).map fun r => (.ref ns.length :: r.1, r.2)
  | false :: ms, .ref n :: xs, ns => (cellL M[n]?).bind fun ds => (handS M ms xs ns).bind fun r => if n ∈ r.2 then none else some (.bor ds :: r.1, r.2)
  | false :: ms, x :: xs, ns => (handS M ms xs ns).map fun r => (x :: r.1, r.2)
  | _, _, _ => none
def cellsAt (M : Mem) (ns : List Nat) : Mem := ns.map fun n => M[n]?.getD .gone
/-- the callee's cells written back -/
def backS : List Nat → Mem → Mem → Mem
  | n :: ns, c :: cs, M => backS ns cs (M.set n c)
  | _, _, M => M
def callS (ms : List Bool) (sp : SpD) (M : Mem) (xs : List Sv) (Q : Rv → Mem → Prop) : Prop :=
  ok (handS M ms xs []) fun r => sp r.1 (cellsAt M r.2) fun v Mc => Q v (backS r.2 Mc M)
def rvQ (Q : QD) : Rv → Mem → Prop
  | .d x, M => Q (.d x) M
  | .new ds, M => Q (.ref M.length) (M ++ [.lst ds])
def eCall (ms : List Bool) (sp : SpD) (tA : TA') : TE' := fun δ M Q => tA δ M fun xs M1 => callS ms sp M1 xs (rvQ Q)
def adrs (ι : Ix) (ns : List Nat) : List Addr := ns.filterMap fun n => (ι[n]?).join
/-- what the callee's callers may change -/
def Bc (G : Gd) (ι : Ix) (i0 : List Addr) : Addr → Prop := fun a => G.B a ∨ G.Hd a ∨ (some a ∈ ι ∧ a ∉ i0)
mutual
theorem RD.go {N N' : Bool → Addr → Prop} {H H' : Hp} {ι ι' : Ix} (h1 : ∀ a xs, H a = some (.tup xs) → some a ∉ ι → H' a = some (.tup xs) ∧ some a ∉ ι') (h2 : ∀ a o l, H a = some (.frz o l) → some a ∉ ι → H' a = some (.frz o l) ∧ some a ∉ ι')
    (h3 : ∀ a xs, H a = some (.lst xs) → some a ∉ ι → N true a → H' a = some (.lst xs) ∧ some a ∉ ι' ∧ N' true a) : ∀ (d : D) (v : V), RD K N H ι d v → RD K N' H' ι' d v
  | .non, _, h => h
  | .bl _, _, h => h
  | .int _, _, h => h
  | .str _, _, h => h
  | .fn _, _, h => h
  | .ty _, _, h => h
  | .scr ns, v, h => by
    obtain ⟨a, e, ⟨o, q, n⟩ | q, l⟩ := h
    · exact ⟨a, e, .inl ⟨o, h2 a _ _ q n⟩, l⟩
    · exact ⟨a, e, .inr q, l⟩
  | .tup ds, v, h => by
    obtain ⟨a, xs, e, q, l, r⟩ := h
    refine ⟨a, xs, e, ?_, l, RDs.go h1 h2 h3 ds xs r⟩
    rcases q with ⟨q, n⟩ | q
    · exact .inl (h1 a _ q n)
    · exact .inr q
  | .lst ds, v, h => by
    obtain ⟨a, xs, e, q, n, z, l, r⟩ := h
    obtain ⟨q1, q2, q3⟩ := h3 a xs q n z
    exact ⟨a, xs, e, q1, q2, q3, l, RDs.go h1 h2 h3 ds xs r⟩
theorem RDs.go {N N' : Bool → Addr → Prop} {H H' : Hp} {ι ι' : Ix} (h1 : ∀ a xs, H a = some (.tup xs) → some a ∉ ι → H' a = some (.tup xs) ∧ some a ∉ ι') (h2 : ∀ a o l, H a = some (.frz o l) → some a ∉ ι → H' a = some (.frz o l) ∧ some a ∉ ι')
    (h3 : ∀ a xs, H a = some (.lst xs) → some a ∉ ι → N true a → H' a = some (.lst xs) ∧ some a ∉ ι' ∧ N' true a) : ∀ (ds : List D) (vs : List V), RDs K N H ι ds vs → RDs K N' H' ι' ds vs
  | [], _, h => h
  | d :: ds, vs, h => by
    obtain ⟨x, r, e, g1, g2⟩ := h
    exact ⟨x, r, e, RD.go h1 h2 h3 d x g1, RDs.go h1 h2 h3 ds r g2⟩
end
section
variable {G : Gd} {δ : DS} {M : Mem} {σ : L2.St} {i0 : List Addr}
theorem RD.dn {d : D} {v : V} (hi : ∀ a ∈ i0, some a ∈ ι) (h : RD K G.N H ι d v) : RD K (NB (Bc G ι i0)) H (i0.map some) d v := by
  have hn : ∀ a, some a ∉ ι → some a ∉ i0.map some := fun a hn h => hn (hi a (by simpa using h))
  exact RD.go (fun a xs q n => ⟨q, hn a n⟩) (fun a o l q n => ⟨q, hn a n⟩) (fun a xs q n z => ⟨q, hn a n, fun z => z, fun _ => by
    rintro (h | h | h)
    · exact z.2 rfl h
    · exact z.1 h
    · exact n h.1⟩) d v h
theorem RDs.dn {d : List D} {v : List V} (hi : ∀ a ∈ i0, some a ∈ ι) (h : RDs K G.N H ι d v) : RDs K (NB (Bc G ι i0)) H (i0.map some) d v := by
  have hn : ∀ a, some a ∉ ι → some a ∉ i0.map some := fun a hn h => hn (hi a (by simpa using h))
  exact RDs.go (fun a xs q n => ⟨q, hn a n⟩) (fun a o l q n => ⟨q, hn a n⟩) (fun a xs q n z => ⟨q, hn a n, fun z => z, fun _ => by
    rintro (h | h | h)
    · exact z.2 rfl h
    · exact z.1 h
    · exact n h.1⟩) d v h
/-- a cell's kind -/
theorem Sr.kind (S : Sr K G δ M ι σ H) {a : Addr} (h : some a ∈ ι) : (∃ xs, H a = some (.lst xs)) ∨ ∃ ws, H a = some (.dK ws) := by
  obtain ⟨n, hn⟩ := List.getElem?_of_mem h
  have hM : n < M.length := by rw [S.mem.len]; exact (List.getElem?_eq_some_iff.mp hn).1
  have q := S.mem.cell n M[n] a (List.getElem?_eq_getElem hM) hn
  cases e : M[n] with
  | gone => rw [e] at q; exact q.elim
  | lst ds => rw [e] at q; exact .inl ⟨_, q.choose_spec.1⟩
  | dk kvs => rw [e] at q; exact .inr ⟨_, q.choose_spec.1⟩
theorem up3 {H' : Hp} {r : Ix} (S : Sr K G δ M ι σ H) (k : Kp (i0.map some) H (i0.map some ++ r) H') :
    (∀ a xs, H' a = some (.tup xs) → some a ∉ i0.map some ++ r → H' a = some (.tup xs) ∧ some a ∉ ι ++ r) ∧ (∀ a o l, H' a = some (.frz o l) → some a ∉ i0.map some ++ r → H' a = some (.frz o l) ∧ some a ∉ ι ++ r) ∧
    (∀ a xs, H' a = some (.lst xs) → some a ∉ i0.map some ++ r → NB (Bc G ι i0) true a → H' a = some (.lst xs) ∧ some a ∉ ι ++ r ∧ G.N true a) := by
  refine ⟨fun a xs q n => ⟨q, fun h => ?_⟩, fun a o l q n => ⟨q, fun h => ?_⟩, fun a xs q n z => ⟨q, fun h => ?_, fun h => z.2 rfl (.inr (.inl h)), fun _ h => z.2 rfl (.inl h)⟩⟩
  all_goals
    have n1 : some a ∉ i0.map some := fun h => n (List.mem_append_left _ h)
    have n2 : some a ∉ r := fun h => n (List.mem_append_right _ h)
    have h : some a ∈ ι := (List.mem_append.mp h).resolve_right n2
  · rcases S.kind h with ⟨ys, e⟩ | ⟨ys, e⟩
    · rw [(k a _ e n1).1] at q; cases q
    · rw [(k a _ e n1).1] at q; cases q
  · rcases S.kind h with ⟨ys, e⟩ | ⟨ys, e⟩
    · rw [(k a _ e n1).1] at q; cases q
    · rw [(k a _ e n1).1] at q; cases q
  · exact z.2 rfl (.inr (.inr ⟨h, by simpa using n1⟩))
theorem RDs.up {H' : Hp} {r : Ix} {d : List D} {v : List V} (S : Sr K G δ M ι σ H) (k : Kp (i0.map some) H (i0.map some ++ r) H') (h : RDs K (NB (Bc G ι i0)) H' (i0.map some ++ r) d v) : RDs K G.N H' (ι ++ r) d v :=
  let ⟨h1, h2, h3⟩ := up3 S k
  RDs.go h1 h2 h3 d v h
theorem RD.up {H' : Hp} {r : Ix} {d : D} {v : V} (S : Sr K G δ M ι σ H) (k : Kp (i0.map some) H (i0.map some ++ r) H') (h : RD K (NB (Bc G ι i0)) H' (i0.map some ++ r) d v) : RD K G.N H' (ι ++ r) d v :=
  let ⟨h1, h2, h3⟩ := up3 S k
  RD.go h1 h2 h3 d v h
/-- what is handed over, as the callee sees it -/
theorem hand_of (S : Sr K G δ M ι σ H) : ∀ (ms : List Bool) (xs : List Sv) (vs : List V) (ns : List Nat) (as : List Sv) (ns' : List Nat), handS M ms xs ns = some (as, ns') → RSs K G.N H ι xs vs → ns.Nodup → (∀ n ∈ ns, ∃ ds, cellL M[n]? = some ds ∧ ∃ a, ι[n]? = some (some a)) →
    ns'.Nodup ∧ (∀ n ∈ ns', ∃ ds, cellL M[n]? = some ds ∧ ∃ a, ι[n]? = some (some a)) ∧ (∃ r, ns' = ns ++ r) ∧ (∀ i0, i0.map some = ns'.map (fun n => (ι[n]?).join) → RSs K (NB (Bc G ι i0)) H (i0.map some) as vs) ∧ as.length = xs.length
  | [], [], vs, ns, as, ns', e, r, nd, hc => by
    cases e
    exact ⟨nd, hc, ⟨[], by simp⟩, fun i0 _ => r, rfl⟩
  | true :: ms, .ref n :: xs, vs, ns, as, ns', e, r, nd, hc => by
    unfold handS at e
    split at e
    · cases e
    rename_i hn
    obtain ⟨ds, e1, e⟩ := Option.bind_eq_some_iff.mp e
    obtain ⟨⟨as1, ns1⟩, e2, e⟩ := Option.map_eq_some_iff.mp e
    cases e
    obtain ⟨v, r', rfl, r1, r2⟩ := r
    obtain ⟨a, rfl, ha, _⟩ := S.mem.at r1 (cellL_some e1) (fun z => nomatch z)
    obtain ⟨h1, h2, ⟨q, h3⟩, h4, h5⟩ := hand_of S ms xs r' (ns ++ [n]) as1 ns1 e2 r2 (by
      rw [List.nodup_append]; refine ⟨nd, by simp, fun x hx y hy => ?_⟩
      simp only [List.mem_singleton] at hy; subst hy; rintro rfl; exact hn hx) (fun m hm => by
      rcases List.mem_append.mp hm with hm | hm
      · exact hc m hm
      · simp only [List.mem_singleton] at hm; subst hm; exact ⟨ds, e1, a, ha⟩)
    refine ⟨h1, h2, ⟨n :: q, by rw [h3]; simp⟩, fun i0 hi => ⟨_, _, rfl, ⟨a, rfl, .inl ?_⟩, h4 i0 hi⟩, by simp [h5]⟩
    rw [hi, h3, List.getElem?_map, List.append_assoc, List.getElem?_append_right (Nat.le_refl _)]
    simp [ha]
  | false :: ms, .ref n :: xs, vs, ns, as, ns', e, r, nd, hc => by
    unfold handS at e
    obtain ⟨ds, e1, e⟩ := Option.bind_eq_some_iff.mp e
    obtain ⟨⟨as1, ns1⟩, e2, e⟩ := Option.bind_eq_some_iff.mp e
    split at e
    · cases e
    rename_i hn
    cases e
    obtain ⟨v, r', rfl, r1, r2⟩ := r
    obtain ⟨a, rfl, ha, ys, q1, l1, rd⟩ := S.mem.at r1 (cellL_some e1) (fun z => nomatch z)
    obtain ⟨h1, h2, h3, h4, h5⟩ := hand_of S ms xs r' ns as1 ns1 e2 r2 nd hc
    refine ⟨h1, h2, h3, fun i0 hi => ⟨_, _, rfl, ⟨a, ys, rfl, q1, ?_, ⟨fun z => z, fun z => nomatch z⟩, l1, ?_⟩, h4 i0 hi⟩, by simp [h5]⟩
    · rw [hi]
      intro hm
      obtain ⟨m, hm1, hm2⟩ := List.mem_map.mp hm
      obtain ⟨_, _, b, hb⟩ := h2 m hm1
      rw [hb] at hm2
      cases hm2
      exact hn (S.mem.nod _ _ _ hb ha ▸ hm1)
    · refine RDs.dn (fun b hb => ?_) rd
      have : some b ∈ i0.map some := by simpa using hb
      rw [hi] at this
      obtain ⟨m, hm1, hm2⟩ := List.mem_map.mp this
      obtain ⟨_, _, c, hb⟩ := h2 m hm1
      rw [hb] at hm2; cases hm2
      exact List.mem_of_getElem? hb
  | false :: ms, .d x :: xs, vs, ns, as, ns', e, r, nd, hc => by
    obtain ⟨⟨as1, ns1⟩, e2, e⟩ := Option.map_eq_some_iff.mp (show (handS M ms xs ns).map _ = _ from e)
    cases e
    obtain ⟨v, r', rfl, r1, r2⟩ := r
    obtain ⟨h1, h2, h3, h4, h5⟩ := hand_of S ms xs r' ns as1 ns1 e2 r2 nd hc
    refine ⟨h1, h2, h3, fun i0 hi => ⟨_, _, rfl, RD.dn (fun b hb => ?_) r1, h4 i0 hi⟩, by simp [h5]⟩
    have : some b ∈ i0.map some := by simpa using hb
    rw [hi] at this
    obtain ⟨m, hm1, hm2⟩ := List.mem_map.mp this
    obtain ⟨_, _, c, hb⟩ := h2 m hm1
    rw [hb] at hm2; cases hm2
    exact List.mem_of_getElem? hb
  | false :: ms, .bor ds :: xs, vs, ns, as, ns', e, r, nd, hc => by
    obtain ⟨⟨as1, ns1⟩, e2, e⟩ := Option.map_eq_some_iff.mp (show (handS M ms xs ns).map _ = _ from e)
    cases e
    obtain ⟨v, r', rfl, r1, r2⟩ := r
    obtain ⟨h1, h2, h3, h4, h5⟩ := hand_of S ms xs r' ns as1 ns1 e2 r2 nd hc
    refine ⟨h1, h2, h3, fun i0 hi => ?_, by simp [h5]⟩
    have hb : ∀ b ∈ i0, some b ∈ ι := fun b hb => by
      have : some b ∈ i0.map some := by simpa using hb
      rw [hi] at this
      obtain ⟨m, hm1, hm2⟩ := List.mem_map.mp this
      obtain ⟨_, _, c, hb⟩ := h2 m hm1
      rw [hb] at hm2; cases hm2
      exact List.mem_of_getElem? hb
    obtain ⟨a, ys, rfl, q1, n1, _, l1, rd⟩ := r1
    exact ⟨_, _, rfl, ⟨a, ys, rfl, q1, fun hm => n1 (hb a (by simpa using hm)), ⟨fun z => z, fun z => nomatch z⟩, l1, RDs.dn hb rd⟩, h4 i0 hi⟩
  | true :: ms, .d x :: xs, _, _, _, _, e, _, _, _ => by cases e
  | true :: ms, .bor x :: xs, _, _, _, _, e, _, _, _ => by cases e
  | [], _ :: _, _, _, _, _, e, _, _, _ => by cases e
  | true :: _, [], _, _, _, _, e, _, _, _ => by cases e
  | false :: _, [], _, _, _, _, e, _, _, _ => by cases e
theorem nodup_ix : ∀ {ns : List Nat} {j l m : Nat}, ns.Nodup → ns[j]? = some m → ns[l]? = some m → j = l
  | [], _, _, _, _, h, _ => by simp at h
  | n :: ns, 0, 0, _, _, _, _ => rfl
  | n :: ns, 0, l + 1, m, nd, h1, h2 => by
    simp at h1; subst h1
    exact absurd (List.mem_of_getElem? (by simpa using h2)) (List.nodup_cons.mp nd).1
  | n :: ns, j + 1, 0, m, nd, h1, h2 => by
    simp at h2; subst h2
    exact absurd (List.mem_of_getElem? (by simpa using h1)) (List.nodup_cons.mp nd).1
  | n :: ns, j + 1, l + 1, m, nd, h1, h2 => by
    exact congrArg (· + 1) (nodup_ix (List.nodup_cons.mp nd).2 (by simpa using h1) (by simpa using h2))
theorem backS_len : ∀ (ns : List Nat) (cs M : Mem), (backS ns cs M).length = M.length
  | [], cs, M => by cases cs <;> rfl
  | n :: ns, [], M => rfl
  | n :: ns, c :: cs, M => by simp [backS, backS_len ns cs]
theorem backS_ne : ∀ (ns : List Nat) (cs M : Mem) (m : Nat), m ∉ ns → (backS ns cs M)[m]? = M[m]?
  | [], cs, M, m, _ => by cases cs <;> rfl
  | n :: ns, [], M, m, _ => rfl
  | n :: ns, c :: cs, M, m, h => by
    simp only [List.mem_cons, not_or] at h
    simp only [backS]
    rw [backS_ne ns cs _ m h.2, List.getElem?_set_ne (fun z => h.1 z.symm)]
theorem backS_at : ∀ (ns : List Nat) (cs M : Mem) (j m : Nat) (c : Cell), ns.Nodup → ns[j]? = some m → cs[j]? = some c → m < M.length → (backS ns cs M)[m]? = some c
  | [], _, _, _, _, _, _, h, _, _ => by simp at h
  | _ :: _, [], _, _, _, _, _, _, h, _ => by simp at h
  | n :: ns, d :: cs, M, 0, m, c, nd, h1, h2, hl => by
    simp at h1 h2; subst h1 h2
    simp only [backS]
    rw [backS_ne ns cs _ _ (List.nodup_cons.mp nd).1, List.getElem?_set_self hl]
  | n :: ns, d :: cs, M, j + 1, m, c, nd, h1, h2, hl => by
    simp only [backS]
    exact backS_at ns cs _ j m c (List.nodup_cons.mp nd).2 (by simpa using h1) (by simpa using h2) (by simpa using hl)
theorem Sr.after {H' : Hp} {ns : List Nat} {Mc cs : Mem} {r : List Addr} (S : Sr K G δ M ι σ H) (nd : ns.Nodup) (hc : ∀ n ∈ ns, ∃ ds, cellL M[n]? = some ds ∧ ∃ a, ι[n]? = some (some a)) (hi : i0.map some = ns.map (fun n => (ι[n]?).join))
    (hl : Mc.length = i0.length) (hcs : cs.length = r.length) (hr : ∀ a ∈ r, H a = none)
    (m : RM K (NB (Bc G ι i0)) H' (i0.map some ++ r.map some) (Mc ++ cs)) (k : Kp (i0.map some) H (i0.map some ++ r.map some) H') : Sr K G δ (backS ns Mc M ++ cs) (ι ++ r.map some) σ H' := by
  have hsub : ∀ b ∈ i0, some b ∈ ι := fun b hb => by
    have : some b ∈ i0.map some := by simpa using hb
    rw [hi] at this
    obtain ⟨m, hm1, hm2⟩ := List.mem_map.mp this
    obtain ⟨_, _, c, hb⟩ := hc m hm1
    rw [hb] at hm2; cases hm2
    exact List.mem_of_getElem? hb
  have hn : ∀ a, some a ∉ ι → some a ∉ i0.map some := fun a hn h => hn (hsub a (by simpa using h))
  have hrr : ∀ a o, H a = some o → some a ∉ r.map some := fun a o e h => by
    have h : a ∈ r := by simpa using h
    rw [hr a h] at e; cases e
  have kk : Kp ι H (ι ++ r.map some) H' := fun a o e n => ⟨(k a o e (hn a n)).1, fun h => by
    rcases List.mem_append.mp h with h | h
    · exact n h
    · exact hrr a o e h⟩
  have hin : ∀ (n : Nat) (a : Addr), ι[n]? = some (some a) → n ∉ ns → some a ∉ i0.map some := fun n a h hno z => by
    rw [hi] at z
    obtain ⟨m, hm1, hm2⟩ := List.mem_map.mp z
    obtain ⟨_, _, c, hb⟩ := hc m hm1
    rw [hb] at hm2; cases hm2
    exact hno (S.mem.nod _ _ _ hb h ▸ hm1)
  have hfr : ∀ a ∈ r, some a ∉ ι := fun a ha => S.mem.fresh (hr a ha)
  have hbl : (backS ns Mc M).length = ι.length := by rw [backS_len]; exact S.mem.len
  have up : ∀ c a, RC K (NB (Bc G ι i0)) H' (i0.map some ++ r.map some) c a → RC K G.N H' (ι ++ r.map some) c a := fun c a q => by
    cases c with
    | gone => exact q.elim
    | lst ds => obtain ⟨xs, q1, l, r⟩ := q; exact ⟨xs, q1, l, RDs.up S k r⟩
    | dk kvs => obtain ⟨xs, q1, l, r⟩ := q; exact ⟨xs, q1, l, RDs.up S k r⟩
  refine ⟨S.len, fun i d e => ?_, ⟨by simp [hbl, hcs], fun n m' a e1 e2 => ?_, fun n c a e1 e2 => ?_, fun n e => ?_⟩, fun n a e => ?_, S.kp.trans kk, fun a ha h0 => ?_, S.bad, fun a ha => ?_⟩
  · obtain ⟨v, e1, r⟩ := S.slot i d e
    exact ⟨v, e1, r.mono kk (Ex.app _ _) (fun _ _ _ _ z => z)⟩
  · rw [List.getElem?_append] at e1 e2
    split at e1 <;> split at e2
    · exact S.mem.nod n m' a e1 e2
    · exact absurd (List.mem_of_getElem? e1) (hfr a (by simpa using List.mem_of_getElem? e2))
    · exact absurd (List.mem_of_getElem? e2) (hfr a (by simpa using List.mem_of_getElem? e1))
    · have := m.nod (i0.length + (n - ι.length)) (i0.length + (m' - ι.length)) a (by rw [List.getElem?_append_right (by simp)]; simpa using e1) (by rw [List.getElem?_append_right (by simp)]; simpa using e2)
      omega
  · rw [List.getElem?_append, hbl] at e1
    rw [List.getElem?_append] at e2
    split at e1
    · rename_i hlt
      rw [if_pos hlt] at e2
      by_cases hno : n ∈ ns
      · obtain ⟨j, hj⟩ := List.getElem?_of_mem hno
        have hji : (i0.map some)[j]? = some (some a) := by rw [hi, List.getElem?_map, hj]; simp [e2]
        have hjn : j < i0.length := by simpa using (List.getElem?_eq_some_iff.mp hji).1
        have hjl : j < Mc.length := by omega
        have hl : n < M.length := by rw [S.mem.len]; exact hlt
        rw [backS_at ns Mc M j n _ nd hj (List.getElem?_eq_getElem hjl) hl] at e1
        cases e1
        exact up _ _ (m.cell j _ a (by rw [List.getElem?_append_left hjl, List.getElem?_eq_getElem hjl]) (by rw [List.getElem?_append_left (by simpa using hjn)]; exact hji))
      · rw [backS_ne ns Mc M n hno] at e1
        have q := S.mem.cell n c a e1 e2
        obtain ⟨o, ho⟩ := q.has
        exact q.mono kk (fun _ _ _ _ z => z) (by rw [(k a o ho (hin n a e2 hno)).1, ho])
    · rename_i hlt
      rw [if_neg hlt] at e2
      exact up _ _ (m.cell (i0.length + (n - ι.length)) _ a (by rw [List.getElem?_append_right (by omega)]; rw [hl]; simpa using e1) (by rw [List.getElem?_append_right (by simp)]; simpa using e2))
  · rw [List.getElem?_append] at e
    split at e
    · rename_i hlt
      rw [List.getElem?_append_left (by rw [hbl]; exact hlt), backS_ne ns Mc M n fun hno => ?_]
      · exact S.mem.gone n e
      · obtain ⟨_, _, c, hb⟩ := hc n hno
        rw [hb] at e; cases e
    · have := List.mem_of_getElem? e
      simp at this
  · have e1 := S.pre n a e
    rw [List.getElem?_append_left (List.getElem?_eq_some_iff.mp e1).1]; exact e1
  · rcases List.mem_append.mp ha with z | z
    · exact S.new a z h0
    · have z : a ∈ r := by simpa using z
      cases q : G.He a with
      | none => rfl
      | some u =>
        have := (S.kp a u q (by simpa using h0)).1
        rw [hr a z] at this; cases this
  · obtain ⟨u, q⟩ := (S.hid a ha).2
    exact ⟨(kk a u q (S.hid a ha).1).2, u, (kk a u q (S.hid a ha).1).1⟩
theorem call_in {n : Nat} {sp : SpD} {ms : List Bool} {xs : List Sv} {vs : List V} {Q0 : Rv → Mem → Prop} {Q : VK} {E : XK} (S : Sr K G δ M ι σ H) (r : RSs K G.N H ι xs vs) (hn : xs.length = n) (h : callS ms sp M xs Q0)
    (z1 : ∀ x M' H' v, Q0 (.d x) M' → Kp ι H ι H' → Sr K G δ M' ι σ H' → RD K G.N H' ι x v → Q v H')
    (z2 : ∀ ds M' H' a, Q0 (.new ds) M' → Kp ι H (ι ++ [some a]) H' → Sr K G δ (M' ++ [.lst ds]) (ι ++ [some a]) σ H' → M'.length = M.length → Q (.ref a) H') : lP K n sp vs H Q E := by
  obtain ⟨⟨as, ns⟩, e, h⟩ := ok_elim h
  obtain ⟨nd, hc, h3, hr, hl⟩ := hand_of S ms xs vs [] as ns e r List.nodup_nil (fun _ z => by simp at z)
  obtain ⟨i0, hi⟩ : ∃ i0 : List Addr, i0.map some = ns.map (fun n => (ι[n]?).join) := by
    clear e h hr nd hl h3
    induction ns with
    | nil => exact ⟨[], rfl⟩
    | cons n ns ih =>
      obtain ⟨i0, hi⟩ := ih fun m hm => hc m (List.mem_cons_of_mem _ hm)
      obtain ⟨_, _, a, ha⟩ := hc n List.mem_cons_self
      exact ⟨a :: i0, by simp [hi, ha]⟩
  have hsub : ∀ b ∈ i0, some b ∈ ι := fun b hb => by
    have : some b ∈ i0.map some := by simpa using hb
    rw [hi] at this
    obtain ⟨m, hm1, hm2⟩ := List.mem_map.mp this
    obtain ⟨_, _, c, hb⟩ := hc m hm1
    rw [hb] at hm2; cases hm2
    exact List.mem_of_getElem? hb
  have hget : ∀ (j : Nat) (a : Addr), (i0.map some)[j]? = some (some a) → ∃ n, ns[j]? = some n ∧ ι[n]? = some (some a) := fun j a e => by
    rw [hi, List.getElem?_map] at e
    cases q : ns[j]? with
    | none => rw [q] at e; cases e
    | some n =>
      rw [q] at e
      obtain ⟨_, _, b, hb⟩ := hc n (List.mem_of_getElem? q)
      simp [hb] at e
      exact ⟨n, rfl, by rw [hb, e]⟩
  refine ⟨as, cellsAt M ns, i0, Bc G ι i0, _, by rw [hl, hn], fun a ha => ?_, hr i0 hi, ⟨?_, fun j l a e1 e2 => ?_, fun j c a e1 e2 => ?_, fun j e => ?_⟩, h, ?_⟩
  · rcases ha with ha | ha | ⟨ha, _⟩
    · obtain ⟨o, ho⟩ := S.bad a ha
      by_cases h0 : a ∈ G.i0
      · obtain ⟨j, hj⟩ := List.getElem?_of_mem h0
        rcases S.kind (List.mem_of_getElem? (S.pre j a hj)) with ⟨ys, e⟩ | ⟨ys, e⟩ <;> exact ⟨_, e⟩
      · exact ⟨o, (S.kp a o ho (by simpa using h0)).1⟩
    · exact (S.hid a ha).2
    · rcases S.kind ha with ⟨ys, e⟩ | ⟨ys, e⟩ <;> exact ⟨_, e⟩
  · rw [hi]; simp [cellsAt]
  · obtain ⟨n, h1, h2⟩ := hget j a e1
    obtain ⟨m, h3, h4⟩ := hget l a e2
    have e3 := S.mem.nod _ _ _ h2 h4
    subst e3
    exact nodup_ix nd h1 h3
  · obtain ⟨n, h1, h2⟩ := hget j a e2
    have hM : n < M.length := by rw [S.mem.len]; exact (List.getElem?_eq_some_iff.mp h2).1
    unfold cellsAt at e1
    rw [List.getElem?_map, h1] at e1
    simp only [Option.map_some, List.getElem?_eq_getElem hM, Option.getD_some, Option.some.injEq] at e1
    have q := S.mem.cell n _ a (List.getElem?_eq_getElem hM) h2
    rw [e1] at q
    cases c with
    | gone => exact q.elim
    | lst ds => obtain ⟨xs, q1, l, r⟩ := q; exact ⟨xs, q1, l, RDs.dn hsub r⟩
    | dk kvs => obtain ⟨xs, q1, l, r⟩ := q; exact ⟨xs, q1, l, RDs.dn hsub r⟩
  · rw [List.getElem?_map] at e
    cases q : i0[j]? with
    | none => rw [q] at e; cases e
    | some b => rw [q] at e; cases e
  · intro rv M' v H' q rr
    have hni : ∀ a, some a ∉ ι → some a ∉ i0.map some := fun a n h => n (hsub a (by simpa using h))
    cases rv with
    | d x =>
      obtain ⟨rd, rm, k⟩ := rr
      have hl : M'.length = i0.length := by rw [rm.len]; simp
      have S2 := S.after (r := []) (cs := []) nd hc hi hl rfl (fun a h => by simp at h) (by simpa using rm) (by simpa using k)
      have rd2 := RD.up (r := []) S (by simpa using k) (by simpa using rd)
      simp only [List.map_nil, List.append_nil] at S2 rd2
      exact z1 x _ H' v q (fun a o e n => ⟨(k a o e (hni a n)).1, n⟩) S2 rd2
    | new ds =>
      obtain ⟨a, rfl, ha, rm, k⟩ := rr
      have hl : M'.length = i0.length := by have := rm.len; simp at this; exact this
      have S2 := S.after (r := [a]) (cs := [.lst ds]) nd hc hi hl rfl (fun b h => by simp at h; subst h; exact ha) (by simpa using rm) (by simpa using k)
      refine z2 ds _ H' a q (fun b o e n => ⟨(k b o e (hni b n)).1, fun h => ?_⟩) (by simpa using S2) (backS_len _ _ _)
      rcases List.mem_append.mp h with h | h
      · exact n h
      · simp at h; subst h; rw [ha] at e; cases e
end
end
/-- a def that may be called by its name -/
structure Ca (P : Program) (w : World) (K : PySem.W.Frag) (mg : Str → Option Value) (base : Heap) (k : Nat) (x : Str) (n : Nat) (sp : SpD) : Prop where
  ex : ∃ (f : Addr) (fd : FuncData) (ps : List Str), FnG P w K mg base C8.CX0 k f fd ps (lP K n sp) ∧ mg x = some (.ref f) ∧ PySem.W.keepIn K (.ref f) = true ∧ Binds K fd ps []
section
variable {X : Cx} {G : Gd} {k j n : Nat} {x : Str} {sp : SpD} {p pos : Pos} {e : Expr} {es : List Expr} {tA : TA'}
theorem ve_call (ms : List Bool) (c : Ca X.prog X.w X.K X.mg X.base k x n sp) (hr : RoomG j X.A) (hk : k ≤ j) (hg : Gl X x) (ha : VA X G (e :: es) n tA)
    (hdb : (x == ("__debug__" : Str)) = false := by decide) (he : starEach (e :: es) X.env = (false, eval e X.env) :: starEach es X.env := by rfl) (hpl : (backTo pos (starEach es X.env)).any (·.1) = false := by rfl) :
    VE X G (.Call (.Name x p) (e :: es) [] pos) (eCall ms sp tA) := by
  obtain ⟨f, fd, ps, F, hm, kp, b⟩ := c.ex
  refine PE.weak (pe_callg F (hr.mono hk) hg hm kp b .nil C8.pass0 ha hdb he hpl (E := C8.E0)) fun σ H Q ⟨δ, M, ι, Q0, S, q, z⟩ => ?_
  refine thA S q fun xs M1 ι1 H1 vs hl h1 p1 k1 S1 r1 => ?_
  show lP X.K n sp (vs ++ []) H1 Q _
  rw [List.append_nil]
  refine call_in S1 r1 hl h1 (fun y M' H' v q2 k2 S2 r2 => z _ M' ι1 H' v q2 p1 (k1.trans k2) S2 r2) fun ds M' H' a q2 k2 S2 hl2 => ?_
  refine z (.ref M'.length) _ _ H' _ q2 (p1.trans (Ex.app _ _)) (k1.trans k2) S2 ⟨a, rfl, .inl ?_⟩
  rw [hl2, S1.mem.len, List.getElem?_append_right (Nat.le_refl _)]; simp
end

/-! ### a changing list that changes no more -/
theorem Sr.seal {K : PySem.W.Frag} {G : Gd} {δ : DS} {M : Mem} {ι : Ix} {σ : L2.St} {H : Hp} {n : Nat} {a : Addr} {ds : List D} (S : Sr K G δ M ι σ H) (hn : ι[n]? = some (some a)) (h0 : G.i0.length ≤ n) (hc : M[n]? = some (.lst ds)) :
    Sr K G δ (M.set n .gone) (ι.set n none) σ H ∧ Ex ι (ι.set n none) ∧ Kp ι H (ι.set n none) H ∧ RD K G.N H (ι.set n none) (.lst ds) (.ref a) := by
  have kk : Kp ι H (ι.set n none) H := fun b o e h => ⟨e, fun z => by
    rcases List.mem_or_eq_of_mem_set z with z | z
    · exact h z
    · cases z⟩
  have ee : Ex ι (ι.set n none) := fun m o e => by
    by_cases h : n = m
    · subst h
      exact .inr (List.getElem?_set_self (List.getElem?_eq_some_iff.mp e).1)
    · rw [List.getElem?_set_ne h]; exact .inl e
  have back : ∀ (m : Nat) (b : Addr), (ι.set n none)[m]? = some (some b) → n ≠ m ∧ ι[m]? = some (some b) := fun m b e => by
    by_cases h : n = m
    · subst h
      rw [List.getElem?_set_self (List.getElem?_eq_some_iff.mp hn).1] at e; cases e
    · rw [List.getElem?_set_ne h] at e; exact ⟨h, e⟩
  have hno : some a ∉ ι.set n none := fun z => by
    obtain ⟨m, hm⟩ := List.getElem?_of_mem z
    obtain ⟨h1, h2⟩ := back m a hm
    exact h1 (S.mem.nod _ _ _ hn h2)
  have hi0 : a ∉ G.i0 := fun z => by
    obtain ⟨j, hj⟩ := List.getElem?_of_mem z
    have e1 := S.mem.nod _ _ _ (S.pre j a hj) hn
    have := (List.getElem?_eq_some_iff.mp hj).1
    omega
  obtain ⟨xs, q1, l, r⟩ := S.mem.cell n _ a hc hn
  refine ⟨⟨S.len, fun i d e => ?_, ⟨by simp [S.mem.len], fun m m' b e1 e2 => S.mem.nod _ _ _ (back m b e1).2 (back m' b e2).2, fun m c b e1 e2 => ?_, fun m e => ?_⟩, fun m b e => ?_, S.kp.trans kk, fun b hb h1 => ?_, S.bad, fun b hb => ⟨fun z => ?_, (S.hid b hb).2⟩⟩, ee, kk,
    a, xs, rfl, q1, hno, ⟨fun z => (S.hid a z).1 (List.mem_of_getElem? hn), fun _ z => ?_⟩, l, r.mono kk fun _ _ _ _ z => z⟩
  · obtain ⟨v, e1, r⟩ := S.slot i d e
    exact ⟨v, e1, r.mono kk ee fun _ _ _ _ z => z⟩
  · obtain ⟨h1, h2⟩ := back m b e2
    rw [List.getElem?_set_ne h1] at e1
    exact (S.mem.cell m c b e1 h2).mono kk (fun _ _ _ _ z => z) rfl
  · by_cases h : n = m
    · subst h; exact List.getElem?_set_self (List.getElem?_eq_some_iff.mp hc).1
    · rw [List.getElem?_set_ne h] at e ⊢; exact S.mem.gone m e
  · rw [List.getElem?_set_ne (fun h => by have := (List.getElem?_eq_some_iff.mp e).1; omega)]; exact S.pre m b e
  · rcases List.mem_or_eq_of_mem_set hb with z | z
    · exact S.new b z h1
    · cases z
  · rcases List.mem_or_eq_of_mem_set z with z | z
    · exact (S.hid b hb).1 z
    · cases z
  · obtain ⟨o, ho⟩ := S.bad a z
    rw [S.new a (List.mem_of_getElem? hn) hi0] at ho; cases ho
/-- the value, its list sealed -/
def sealD (m0 : Nat) (M : Mem) : Sv → Option (Sv × Mem)
  | .ref n => if m0 ≤ n then (cellL M[n]?).map fun ds => (.d (.lst ds), M.set n .gone) else none
  | x => some (x, M)
def eSeal (m0 : Nat) (t : TE') : TE' := fun δ M Q => t δ M fun d M1 => ok (sealD m0 M1 d) fun r => Q r.1 r.2
theorem VE.seal {X : Cx} {G : Gd} {e : Expr} {t : TE'} {m0 : Nat} (hG : G.i0.length = m0) (h : VE X G e t) : VE X G e (eSeal m0 t) :=
  PE.weak h fun σ H Q ⟨δ, M, ι, Q0, S, q, z⟩ => ⟨δ, M, ι, _, S, q, fun d M' ι' H' v h1 p1 k1 S1 r1 => by
    obtain ⟨r, e, h1⟩ := ok_elim h1
    cases d with
    | d x => cases e; exact z _ _ ι' H' v h1 p1 k1 S1 r1
    | bor ds => cases e; exact z _ _ ι' H' v h1 p1 k1 S1 r1
    | ref n =>
      by_cases hn : m0 ≤ n
      · rw [show sealD m0 M' (.ref n) = (if m0 ≤ n then (cellL M'[n]?).map fun ds => (.d (.lst ds), M'.set n .gone) else none) from rfl, if_pos hn] at e
        obtain ⟨ds, e1, rfl⟩ := Option.map_eq_some_iff.mp e
        obtain ⟨a, rfl, ha, _⟩ := S1.mem.at r1 (cellL_some e1) (fun z => nomatch z)
        obtain ⟨S2, e2, k2, r2⟩ := S1.seal ha (by omega) (cellL_some e1)
        exact z _ _ _ H' _ h1 (p1.trans e2) (k1.trans k2) S2 r2
      · rw [show sealD m0 M' (.ref n) = (if m0 ≤ n then (cellL M'[n]?).map fun ds => (.d (.lst ds), M'.set n .gone) else none) from rfl, if_neg hn] at e; cases e⟩
/-- the rule for a def: from its derivation and the pure law -/
theorem ca_of {P : Program} {w : World} {K : PySem.W.Frag} {mg : Str → Option Value} {base : Heap} {x qual : Str} {params : Arguments} {body : List Stmt} {scope : Scope} {f : Addr} {fd : FuncData} {Ns ps : List Str} {k m0 : Nat} {sp : SpD} {t : TS'}
    (F : FunD K x qual params body scope [] [] f fd) (hg : mg x = some (.ref f)) (b : Binds K fd ps []) (S : FnScope Ns ps scope) (hm0 : ∀ as M Q0, sp as M Q0 → M.length = m0)
    (hb : ∀ (cdv : Value) (A : Around) (outer : List Env) (s : Shared) (H : Hp) (E : XK) (G : Gd), RoomG k (A.deeper (PyProof.Rows.envOfC qual scope s.heap.objs.size f cdv)) → G.i0.length = m0 → VSs (cxOf C8.CX0 P w K mg base Ns qual scope f cdv A outer s H E).nox G body t)
    (hp : ∀ as M Q0, as.length = ps.length → sp as M Q0 → t (endsF M.length Q0) (startD Ns.length as) M) : Ca P w K mg base (k + 1) x ps.length sp := by
  refine ⟨f, fd, ps, ?_, hg, F.kp, b⟩
  refine fn_g F S (fun vs H Q E ⟨as, M, i0, B, Q0, hn, hB, ra, h⟩ => by rw [← ra.length, hn]) fun cdv A outer s H vs Q E hr h => ?_
  obtain ⟨t', h1, h2⟩ := body_ok (X := (cxOf C8.CX0 P w K mg base Ns qual scope f cdv A outer s H E).nox) (Ns := Ns) m0 rfl (fun G hG => hb cdv A outer s H E G hr hG) hm0 hp h
  exact ⟨t', h1.nox, h2⟩
end VL
set_option Elab.async false
set_option linter.all false
set_option maxRecDepth 100000
set_option maxHeartbeats 400000
namespace VL
open PySem PySem.Spec L2 RT RZ

/-! ### chains -/
def eCh (f g : Mem → Sv → Sv → Option Sv) (ta tb tc : TE') : TE' := fun δ M Q => ta δ M fun x M1 => tb δ M1 fun y M2 => ok ((f M2 x y).bind blD) fun k => if k then tc δ M2 fun z M3 => ok (g M3 y z) fun d => Q d M3 else Q (.d (.bl false)) M2
def pCh (f g : Mem → Sv → Sv → Option Sv) (a b c : PV) : PV := fun δ M => (a δ M).bind fun x => (b δ M).bind fun y => ((f M x y).bind blD).bind fun k => if k then (c δ M).bind fun z => g M y z else some (.d (.bl false))
section
variable {K : PySem.W.Frag} {X : Cx} {G : Gd} {e a b c : Expr} {es rest : List Expr} {pos : Pos} {ta tb tc : TE'} {p q u : PV}
theorem blD_some {d : Sv} {k : Bool} (h : blD d = some k) : d = .d (.bl k) := by
  cases d with
  | d x => cases x <;> first | (cases h; rfl) | cases h
  | ref n => cases h
  | bor n => cases h
theorem fin_ch {r r' : R2} {f g : Mem → Sv → Sv → Option Sv} (hf : Rd2 K r f) (hg : Rd2 K r' g) {σ : L2.St} {H : Hp} {Q : VK} (h : lE K G (eCh f g ta tb tc) σ H Q) : tChain r r' (lE K G ta) (lE K G tb) (lE K G tc) σ H Q := by
  obtain ⟨δ, M, ι, Q0, S, h, z⟩ := h
  refine th1 S h fun x M1 ι1 H1 v h1 p1 k1 S1 r1 => ?_
  refine th1 S1 h1 fun y M2 ι2 H2 u h2 p2 k2 S2 r2 => ?_
  obtain ⟨k, e, h2⟩ := ok_elim h2
  obtain ⟨d, e1, e2⟩ := Option.bind_eq_some_iff.mp e
  have e3 := blD_some e2
  subst e3
  refine hf G δ M2 ι2 σ H2 x y v u _ S2 (r1.mono k2 p2 (fun _ _ _ _ q => q)) r2 e1 _ fun ι3 H3 w p3 k3 S3 r3 => ?_
  cases (show _ = _ from r3)
  refine ⟨k, rfl, ?_⟩
  cases k with
  | false =>
    rw [if_neg Bool.false_ne_true]
    exact z _ M2 ι3 H3 _ h2 ((p1.trans p2).trans p3) ((k1.trans k2).trans k3) S3 rfl
  | true =>
    rw [if_pos rfl] at h2 ⊢
    refine th1 S3 h2 fun w M4 ι4 H4 t h4 p4 k4 S4 r4 => ?_
    obtain ⟨d, e4, h4⟩ := ok_elim h4
    exact hg G δ M4 ι4 σ H4 y w u t d S4 (r2.mono (k3.trans k4) (p3.trans p4) (fun _ _ _ _ q => q)) r4 e4 Q fun ι5 H5 w p5 k5 S5 r5 => z d M4 ι5 H5 w h4 ((((p1.trans p2).trans p3).trans p4).trans p5) ((((k1.trans k2).trans k3).trans k4).trans k5) S5 r5
theorem ve_chain {op op' : CmpOp} {r r' : R2} {f g : Mem → Sv → Sv → Option Sv} (ho : OpR X (compareOp op) r) (ho' : OpR X (compareOp op') r') (hf : Rd2 X.K r f) (hg : Rd2 X.K r' g) (ha : VE X G a ta) (hb : VE X G b tb) (hc : VE X G c tc)
    (hm : lastMarks [op, op'] [b, c] = false := by with_unfolding_all rfl) : VE X G (.Compare a [op, op'] [b, c] pos) (eCh f g ta tb tc) :=
  PE.weak (pe_chain ho ho' ha hb hc hm) fun σ H Q h => fin_ch hf hg h
theorem vt_chain {op op' : CmpOp} {r r' : R2} {f g : Mem → Sv → Sv → Option Sv} (ho : OpR X (compareOp op) r) (ho' : OpR X (compareOp op') r') (hf : Rd2 X.K r f) (hg : Rd2 X.K r' g) (ha : VE X G a ta) (hb : VE X G b tb) (hc : VE X G c tc)
    (hm : lastMarks [op, op'] [b, c] = false := by with_unfolding_all rfl) : VT X G (.Compare a [op, op'] [b, c] pos) (tTb (eCh f g ta tb tc)) := by
  have h := pt_chain (pos := pos) ho ho' ha hb hc hm
  refine ⟨fun pins s σ H Q I ⟨δ, M, ι, Q0, S, q, z⟩ => h.run pins s σ H Q I ?_⟩
  refine fin_ch hf hg ⟨δ, M, ι, _, S, q, fun d M' ι' H' v h1 p1 k1 S1 r1 => ?_⟩
  obtain ⟨k, e, h1⟩ := ok_elim h1
  have e3 := blD_some e
  subst e3
  cases (show _ = _ from r1)
  exact ⟨k, rfl, z k M' ι' H' h1 p1 k1 S1⟩
theorem VE.pChn {f g : Mem → Sv → Sv → Option Sv} (h : VE X G e (eCh f g (eP p) (eP q) (eP u))) : VE X G e (eP (pCh f g p q u)) := h.weak fun δ M Q h => by
  unfold eP pCh at h
  rw [ok_bind] at h
  obtain ⟨x, e1, h⟩ := ok_elim h
  rw [ok_bind] at h
  obtain ⟨y, e2, h⟩ := ok_elim h
  rw [ok_bind] at h
  obtain ⟨k, e3, h⟩ := ok_elim h
  refine ok_of e1 (ok_of e2 (ok_of e3 ?_))
  cases k with
  | false => exact h
  | true =>
    rw [if_pos rfl] at h ⊢
    rw [ok_bind] at h
    exact h
/-! ### types, constants of the module -/
theorem ve_ty {x : Str} {n : String} (hg : Gl X x) (hm : X.mg x = none) (hv : bootBuiltins x = some (.type n)) (hn : x ≠ "__name__" := by decide) (hd : (x == ("__debug__" : Str)) = false := by decide) : VE X G (.Name x pos) (eP (pC (.ty n))) :=
  ve_const (pe_bltn (v := .ty n) hg hm hv rfl hn hd) fun _ _ _ _ => rfl
/-- data of the written part -/
def KV (K : PySem.W.Frag) (d : D) (u : Value) : Prop := ∃ v, RelV v u ∧ ∀ N H ι, RD K N H ι d v
theorem ve_glob {x : Str} {u : Value} {d : D} (hg : Gl X x) (hm : X.mg x = some u) (r : KV X.K d u) (hd : (x == ("__debug__" : Str)) = false := by decide) : VE X G (.Name x pos) (eP (pC d)) := by
  obtain ⟨v, r1, r2⟩ := r
  exact PE.weak (pe_glob hg hm r1 hd) fun σ H Q ⟨δ, M, ι, Q0, S, h, z⟩ => z _ M ι H v h (Ex.refl _) (Kp.refl _ _) S (r2 _ _ _)
/-! ### repr -/
def okR (d : D) : Bool := noR d && (PyData.showable (py d) && (decide ((PyData.shown (py d)).length ≤ sizeLine) && (decide (PyData.depth (py d) ≤ 150))))
def reprD (M : Mem) : List Sv → Option Sv
  | [x] => gd (okR (rsv M x) = true) (.d (.str (PyData.shown (py (rsv M x)))))
  | _ => none
mutual
theorem nod_py : ∀ d : D, PyData.hasDict (py d) = false
  | .non => rfl
  | .bl _ => rfl
  | .int _ => rfl
  | .str _ => rfl
  | .scr _ => rfl
  | .fn _ => rfl
  | .ty _ => rfl
  | .tup ds => nods_py ds
  | .lst ds => nods_py ds
theorem nods_py : ∀ d : List D, PyData.hasDictAll (pys d) = false
  | [] => rfl
  | d :: ds => by simp only [pys, PyData.hasDictAll, nod_py d, nods_py ds, Bool.or_false]
end
def rRepr (K : PySem.W.Frag) : List V → Hp → VK → Prop := fun xs H Q => ∃ v d, xs = [v] ∧ Dp K H v d ∧ PyData.showable d = true ∧ PyData.hasDict d = false ∧ (PyData.shown d).length ≤ sizeLine ∧ PyData.depth d ≤ 150 ∧ Q (.str (PyData.shown d)) H
theorem call_repr (hgs : X.A.guards = some []) (hu : X.A.units + 200 < cLine) : CallR X (.builtin "repr") (rRepr X.K) := by
  intro pins s σ H xs us Q I r h
  obtain ⟨v, d, rfl, hd, hs, hn, hz, hdp, q⟩ := h
  obtain ⟨u, rfl, rv⟩ := vals1 r
  obtain ⟨as, rd⟩ := Dp.reads I d v u hd rv
  cases hd with
  | non => cases rv; exact PySem.P.repr_of_none ⟨.str _, H, I.tok _, ⟨_, rfl⟩, q⟩
  | bl b => cases rv; exact PySem.P.repr_of_bool ⟨.str _, H, I.tok _, ⟨_, rfl⟩, q⟩
  | int i =>
    obtain ⟨t, rfl⟩ := rv
    exact PySem.P.repr_of_int (by simpa [PyData.showable] using hs) ⟨.str _, H, I.tok _, ⟨_, rfl⟩, q⟩
  | str x =>
    obtain ⟨t, rfl⟩ := rv
    exact PySem.P.repr_of_str ⟨.str _, H, I.tok _, ⟨_, rfl⟩, q⟩ (hsz := hz)
  | tup _ _ => cases rv; exact repr_of_reads' rd hs (PyData.noDict_hsm hn) hgs (by omega) (fun _ _ e => e) (fun h' u tk hk => ⟨.str _, H, I.kept hk, ⟨_, rfl⟩, q⟩) hz
  | lst _ _ => cases rv; exact repr_of_reads' rd hs (PyData.noDict_hsm hn) hgs (by omega) (fun _ _ e => e) (fun h' u tk hk => ⟨.str _, H, I.kept hk, ⟨_, rfl⟩, q⟩) hz
theorem rd_repr : RdN K (rRepr K) reprD := by
  intro G δ M ι σ H xs vs d S rx e Q z
  unfold reprD at e
  split at e
  · rename_i x
    obtain ⟨hc, rfl⟩ := gd_some e
    obtain ⟨v, rfl, r⟩ := one_of rx
    unfold okR at hc
    simp only [Bool.and_eq_true, decide_eq_true_eq] at hc
    exact ⟨v, _, rfl, rsv_dp S r hc.1, hc.2.1, nod_py _, hc.2.2.1, hc.2.2.2, fin_same S z rfl⟩
  · cases e
/-! ### (x, ..) * n -/
def tmulD (_ : Mem) : Sv → Sv → Option Sv
  | .d (.tup ds), .d (.int k) => gd (ds ≠ [] ∧ 2 ≤ k ∧ k ≤ 1000 ∧ ds.length ≤ 1000) (.d (.tup (List.replicate k.toNat ds).flatten))
  | _, _ => none
theorem rd_tmul : Rd2 K (rRepT K) tmulD := by
  intro G δ M ι σ H x y v u d S rx ry e Q z
  unfold tmulD at e
  split at e
  · rename_i ds k
    obtain ⟨⟨h1, h2, h3, h4⟩, rfl⟩ := gd_some e
    obtain ⟨a, xs, rfl, q, l, r⟩ := rx
    cases (show _ = _ from ry)
    have hl := r.length
    refine ⟨a, k, xs, rfl, rfl, tup_sq q, fun z => h1 (by rw [z] at hl; exact List.length_eq_zero_iff.mp hl), h2, h3, by omega, fun p hp => fin_tup S z (r.rep _) ?_ hp⟩
    rw [PyProof.Rows.lm_len_rep_flat, sizeLine_eq]
    have := Nat.mul_le_mul (show k.toNat ≤ 1000 by omega) h4
    omega
  · cases e
end
end VL
set_option Elab.async false
set_option linter.all false
set_option maxRecDepth 100000
set_option maxHeartbeats 400000
/-! The head: defs and the module's constants. -/
namespace VL
open PySem PySem.Spec PyProof.Rows L2

mutual
def relDB (K : PySem.W.Frag) : D → Value → Bool
  | .non, .none => true
  | .bl b, .bool c => b == c
  | .int i, .int j _ => decide (i = j)
  | .str x, .str y _ => decide (x = y)
  | .tup ds, .ref a => (match K.lookup a with
    | some ⟨.type c, _, .seq its _, _⟩ => decide (c = "tuple") && (decide (its.size ≤ sizeLine) && relDBs K ds its.toList)
    | _ => false)
  | _, _ => false
def relDBs (K : PySem.W.Frag) : List D → List Value → Bool
  | [], [] => true
  | d :: ds, u :: us => relDB K d u && relDBs K ds us
  | _, _ => false
end
mutual
theorem relDB_ok {K : PySem.W.Frag} : ∀ (d : D) (u : Value), relDB K d u = true → ∃ v, RelV v u ∧ ∀ N H ι, RD K N H ι d v
  | .non, u, h => by
    cases u <;> first | (simp [relDB] at h; done) | exact ⟨.non, rfl, fun _ _ _ => rfl⟩
  | .bl b, u, h => by
    cases u <;> first | (simp [relDB] at h; done) | skip
    simp only [relDB, beq_iff_eq] at h; subst h
    exact ⟨.bl _, rfl, fun _ _ _ => rfl⟩
  | .int i, u, h => by
    cases u <;> first | (simp [relDB] at h; done) | skip
    simp only [relDB, decide_eq_true_eq] at h; subst h
    exact ⟨.int _, ⟨_, rfl⟩, fun _ _ _ => rfl⟩
  | .str i, u, h => by
    cases u <;> first | (simp [relDB] at h; done) | skip
    simp only [relDB, decide_eq_true_eq] at h; subst h
    exact ⟨.str _, ⟨_, rfl⟩, fun _ _ _ => rfl⟩
  | .tup ds, u, h => by
    cases u with
    | ref a =>
      unfold relDB at h
      cases q : K.lookup a with
      | none => rw [q] at h; cases h
      | some o =>
        obtain ⟨oc, od, dt, osl⟩ := o
        rw [q] at h
        cases oc with
        | type c =>
          cases dt with
          | seq its n =>
            have h : (decide (c = "tuple") && (decide (its.size ≤ sizeLine) && relDBs K ds its.toList)) = true := h
            simp only [Bool.and_eq_true, decide_eq_true_eq] at h
            obtain ⟨h1, h2, h3⟩ := h
            obtain ⟨xs, r1, r2, r3⟩ := relDBs_ok ds its.toList h3
            refine ⟨.ref a, rfl, fun N H ι => ⟨a, xs, rfl, .inr ⟨_, its, n, q, congrArg Value.type h1, rfl, h2, r1⟩, by rw [r3]; simpa using h2, r2 N H ι⟩⟩
          | _ => cases h
        | _ => cases dt <;> cases h
    | _ => simp [relDB] at h
  | .lst ds, u, h => by cases u <;> simp [relDB] at h
  | .scr ds, u, h => by cases u <;> simp [relDB] at h
  | .fn a, u, h => by cases u <;> simp [relDB] at h
  | .ty a, u, h => by cases u <;> simp [relDB] at h
theorem relDBs_ok {K : PySem.W.Frag} : ∀ (ds : List D) (us : List Value), relDBs K ds us = true → ∃ vs, Vals vs us ∧ (∀ N H ι, RDs K N H ι ds vs) ∧ ds.length = us.length
  | [], [], _ => ⟨[], .nil, fun _ _ _ => rfl, rfl⟩
  | [], _ :: _, h => by simp [relDBs] at h
  | _ :: _, [], h => by simp [relDBs] at h
  | d :: ds, u :: us, h => by
    simp only [relDBs, Bool.and_eq_true] at h
    obtain ⟨v, r1, r2⟩ := relDB_ok d u h.1
    obtain ⟨vs, r3, r4, r5⟩ := relDBs_ok ds us h.2
    exact ⟨v :: vs, .cons r1 r3, fun N H ι => ⟨v, vs, rfl, r2 N H ι, r4 N H ι⟩, by simp [r5]⟩
end
def conV (K : PySem.W.Frag) (c : Str × D) : Bool := match PySem.W.nsIn K mainGlobals c.1 with
  | some (some u) => relDB K c.2 u
  | _ => false
abbrev AlV : Type := He.AlD × Bool
def obsV (fa : List He.Fa) (fn : List He.DefD) (cs : List (Str × D)) (K : PySem.W.Frag) : AlV := (He.obsD fa fn K, cs.all (conV K))
def obsVG (n : Nat) (fa : List He.Fa) (fn : List He.DefD) (cs : List (Str × D)) (g : Addr → Option Obj) : AlV := obsV fa fn cs (He.frG g (He.asD g n))
def SaysV (fa : List He.Fa) (fn : List He.DefD) (cs : List (Str × D)) (K : PySem.W.Frag) : Prop := obsV fa fn cs K = (He.valD fn, true)
def hookV (n : Nat) (fa : List He.Fa) (fn : List He.DefD) (cs : List (Str × D)) : PySem.W.Hook where
  α := AlV
  obs := fun s => obsVG n fa fn cs s.heap.get?
  val := fun _ => (He.valD fn, true)
  says := fun _ h => ∃ K : PySem.W.Frag, K.In h ∧ SaysV fa fn cs K
  of := fun _ _ e => ⟨_, He.frG_in, e⟩
  keeps := fun _ _ _ ⟨K, hK, c⟩ k => ⟨K, PySem.W.Frag.In.keeps hK k, c⟩
theorem obsVG_eq {n : Nat} {fa : List He.Fa} {fn : List He.DefD} {cs : List (Str × D)} {g : Addr → Option Obj} {s : Shared} (h : ∀ a, g a = s.heap.get? a) : obsVG n fa fn cs g = (hookV n fa fn cs).obs s := by
  have e : g = s.heap.get? := funext h
  rw [e] <;> rfl
theorem SaysV.d {fa : List He.Fa} {fn : List He.DefD} {cs : List (Str × D)} {K : PySem.W.Frag} (c : SaysV fa fn cs K) : He.SaysD fa fn K := congrArg (fun z : AlV => z.1) c
theorem SaysV.con {fa : List He.Fa} {fn : List He.DefD} {cs : List (Str × D)} {K : PySem.W.Frag} {h : Heap} {mg : Str → Option Value} (c : SaysV fa fn cs K) (X : K.In h) (G : h.Ns mainGlobals mg) (i : Nat) {x : Str} {d : D} (hi : cs[i]? = some (x, d) := by rfl) : ∃ u, mg x = some u ∧ KV K d u := by
  have c1 : cs.all (conV K) = true := congrArg (fun z : AlV => z.2) c
  have c2 := List.all_eq_true.mp c1 _ (List.mem_of_getElem? hi)
  unfold conV at c2
  split at c2
  · rename_i u e
    exact ⟨u, PySem.W.mg_of X G e, relDB_ok d u c2⟩
  · cases c2
end VL
set_option Elab.async false
set_option linter.all false
set_option maxRecDepth 100000
set_option maxHeartbeats 400000
/-! Rules as the generator prints them. -/
namespace VL
open PySem PySem.Spec L2 RT RZ

theorem bt_len : bootBuiltins "len" = some (.builtin "len") := by decide +kernel
theorem bt_abs : bootBuiltins "abs" = some (.builtin "abs") := by decide +kernel
theorem bt_min : bootBuiltins "min" = some (.builtin "min") := by decide +kernel
theorem bt_max : bootBuiltins "max" = some (.builtin "max") := by decide +kernel
theorem bt_sum : bootBuiltins "sum" = some (.builtin "sum") := by decide +kernel
theorem bt_all : bootBuiltins "all" = some (.builtin "all") := by decide +kernel
theorem bt_any : bootBuiltins "any" = some (.builtin "any") := by decide +kernel
theorem bt_isinstance : bootBuiltins "isinstance" = some (.builtin "isinstance") := by decide +kernel
theorem bt_sorted : bootBuiltins "sorted" = some (.builtin "sorted") := by decide +kernel
theorem bt_repr : bootBuiltins "repr" = some (.builtin "repr") := by decide +kernel
theorem bt_int : bootBuiltins "int" = some (.type "int") := by decide +kernel
theorem bt_bool : bootBuiltins "bool" = some (.type "bool") := by decide +kernel
theorem bt_str : bootBuiltins "str" = some (.type "str") := by decide +kernel
theorem bt_tuple : bootBuiltins "tuple" = some (.type "tuple") := by decide +kernel
theorem bt_list : bootBuiltins "list" = some (.type "list") := by decide +kernel
theorem bt_dict : bootBuiltins "dict" = some (.type "dict") := by decide +kernel
section
variable {K : PySem.W.Frag} {X : Cx} {G : Gd} {e a b c : Expr} {es rest : List Expr} {pos : Pos} {p q u : PV}
theorem VT.pCh {f g : Mem → Sv → Sv → Option Sv} (h : VT X G e (tTb (eCh f g (eP p) (eP q) (eP u)))) : VT X G e (cP (bB (VL.pCh f g p q u))) := h.weak fun δ M Q h => by
  unfold cP bB VL.pCh at h
  rw [ok_bind, ok_bind] at h
  obtain ⟨x, e1, h⟩ := ok_elim h
  rw [ok_bind] at h
  obtain ⟨y, e2, h⟩ := ok_elim h
  rw [ok_bind] at h
  obtain ⟨k, e3, h⟩ := ok_elim h
  refine ok_of e1 (ok_of e2 (ok_of e3 ?_))
  cases k with
  | false => exact h
  | true =>
    rw [if_pos rfl] at h ⊢
    rw [ok_bind] at h
    exact h
/-- name = [..] on one line: frozen, or changing -/
theorem vs_setLcF {i : Nat} {y : Str} {py : Pos} {elt tg iter : Expr} {ifs : List Expr} {scope : Scope} {own : List (Str × Nat)} {pos spos : Pos} {it : TI'} {g : LcG} {tt : TT'} {te : TE'} (hc : X.calm = true) (hN : X.N.Nodup) (hy : X.N[i]? = some y) (hyl : X.env.scope.names.lookup y = some .local)
    (hsw : swapsWith (.ListComp elt [⟨tg, iter, ifs, 0⟩] scope pos) (some (.Name y py)) spos.line X.env = pure true) (hi : VI X G true tg iter it) (ok' : BlkOk X.N X.env.scope scope own)
    (hg : ∀ (s : Shared) (H : Hp) (C : Addr) (cl : List (Str × Addr)) (fp : List Addr), PG (X.blk s H scope (compEnvC scope cl C X.env) fp) tg (g.raw X.K)) (ht : ∀ (s : Shared) (H : Hp) (C : Addr) (cl : List (Str × Addr)) (fp : List Addr) (G' : Gd), G'.i0 = G.i0 → VTs (X.blk s H scope (compEnvC scope cl C X.env) fp) G' ifs tt)
    (he : ∀ (s : Shared) (H : Hp) (C : Addr) (cl : List (Str × Addr)) (fp : List Addr) (G' : Gd), G'.i0 = G.i0 → VE (X.blk s H scope (compEnvC scope cl C X.env) fp) G' elt te) (hv : ∀ i ∈ g.names, i ∈ own.map (·.2)) (hs : ∀ x, foldedSetIterable iter X.env x = pure x := by intro _; rfl) :
    VS X G (.Assign [.Name y py] (.ListComp elt [⟨tg, iter, ifs, 0⟩] scope pos) spos) (sSet i (eFz (fLc it g tt te (own.map (·.2))))) := vs_setLc (nw := false) hc hN hy hyl hsw hi ok' hg ht he hv hs
theorem vs_setLcN {i : Nat} {y : Str} {py : Pos} {elt tg iter : Expr} {ifs : List Expr} {scope : Scope} {own : List (Str × Nat)} {pos spos : Pos} {it : TI'} {g : LcG} {tt : TT'} {te : TE'} (hc : X.calm = true) (hN : X.N.Nodup) (hy : X.N[i]? = some y) (hyl : X.env.scope.names.lookup y = some .local)
    (hsw : swapsWith (.ListComp elt [⟨tg, iter, ifs, 0⟩] scope pos) (some (.Name y py)) spos.line X.env = pure true) (hi : VI X G true tg iter it) (ok' : BlkOk X.N X.env.scope scope own)
    (hg : ∀ (s : Shared) (H : Hp) (C : Addr) (cl : List (Str × Addr)) (fp : List Addr), PG (X.blk s H scope (compEnvC scope cl C X.env) fp) tg (g.raw X.K)) (ht : ∀ (s : Shared) (H : Hp) (C : Addr) (cl : List (Str × Addr)) (fp : List Addr) (G' : Gd), G'.i0 = G.i0 → VTs (X.blk s H scope (compEnvC scope cl C X.env) fp) G' ifs tt)
    (he : ∀ (s : Shared) (H : Hp) (C : Addr) (cl : List (Str × Addr)) (fp : List Addr) (G' : Gd), G'.i0 = G.i0 → VE (X.blk s H scope (compEnvC scope cl C X.env) fp) G' elt te) (hv : ∀ i ∈ g.names, i ∈ own.map (·.2)) (hs : ∀ x, foldedSetIterable iter X.env x = pure x := by intro _; rfl) :
    VS X G (.Assign [.Name y py] (.ListComp elt [⟨tg, iter, ifs, 0⟩] scope pos) spos) (sSet i (eNw (fLc it g tt te (own.map (·.2))))) := vs_setLc (nw := true) hc hN hy hyl hsw hi ok' hg ht he hv hs
/-- str(i) -/
def strD (_ : Mem) : List Sv → Option Sv
  | [.d (.int i)] => gd (i.natAbs.log2 < 1920) (.d (.str (toString i)))
  | [.d (.str s)] => some (.d (.str s))
  | _ => none
theorem rd_str : RdN K (fun xs H Q => (∃ i, xs = [V.int i] ∧ i.natAbs.log2 < 1920 ∧ Q (.str (toString i)) H) ∨ ∃ a, xs = [V.str a] ∧ Q (.str a) H) strD := by
  intro G δ M ι σ H xs vs d S rx e Q z
  unfold strD at e
  split at e
  · obtain ⟨hc, rfl⟩ := gd_some e
    obtain ⟨v, rfl, r⟩ := one_of rx
    cases (show _ = _ from r)
    exact .inl ⟨_, rfl, hc, fin_same S z rfl⟩
  · cases e
    obtain ⟨v, rfl, r⟩ := one_of rx
    cases (show _ = _ from r)
    exact .inr ⟨_, rfl, fin_same S z rfl⟩
  · cases e
theorem call_strX : CallR X (.type "str") (fun xs H Q => (∃ i, xs = [V.int i] ∧ i.natAbs.log2 < 1920 ∧ Q (.str (toString i)) H) ∨ ∃ a, xs = [V.str a] ∧ Q (.str a) H) := call_str_int.or SkE.call_str_str
theorem call_isiX : CallR X (.builtin "isinstance") (fun xs H Q => (fun xs H Q => rIsi X.K xs H Q ∨ rIsiT X.K xs H Q) xs H Q ∨ rIsiK X.K xs H Q) := (call_isi.or call_isiT).or call_isiK
end
end VL
set_option Elab.async false
set_option linter.all false
set_option maxRecDepth 100000
set_option maxHeartbeats 1000000
/-! Plain laws: tools. -/
namespace VL
open PySem PySem.Spec L2

theorem ok_gd {α : Type} {c : Prop} [Decidable c] {x : α} {k : α → Prop} : ok (gd c x) k ↔ c ∧ k x := by
  unfold gd
  by_cases h : c
  · simp [h, ok]
  · simp [h, ok]
theorem ok_ite {α : Type} {c : Prop} [Decidable c] {a b : Option α} {k : α → Prop} : ok (if c then a else b) k ↔ if c then ok a k else ok b k := by
  by_cases h : c <;> simp [h]
section
variable {M : Mem} {Q : QD} {i j : Int} {n m : Nat} {x y z u v : D} {a b : List D} {s t : Str} {p q : Bool} {ns : List Int} {c : Cell}
theorem ix_ref : ixD M (.ref n) (.d (.int i)) = (cellL M[n]?).bind fun ds => (atI ds i).map .d := rfl
theorem ix_tup : ixD M (.d (.tup a)) (.d (.int i)) = (atI a i).map .d := rfl
theorem ix_lst : ixD M (.d (.lst a)) (.d (.int i)) = (atI a i).map .d := rfl
theorem ix_bor : ixD M (.bor a) (.d (.int i)) = (atI a i).map .d := rfl
theorem ix_scr : ixD M (.d (.scr ns)) (.d (.int i)) = (atI (ns.map D.int) i).map .d := rfl
theorem add_int : addD M (.d (.int i)) (.d (.int j)) = some (.d (.int (i + j))) := rfl
theorem add_str : addD M (.d (.str s)) (.d (.str t)) = gd (s.length + t.length ≤ sizeLine) (.d (.str (s ++ t))) := rfl
theorem add_tup : addD M (.d (.tup a)) (.d (.tup b)) = gd (a.length + b.length ≤ sizeLine) (.d (.tup (a ++ b))) := rfl
theorem sub_int : subD M (.d (.int i)) (.d (.int j)) = some (.d (.int (i - j))) := rfl
theorem mul_int : mulD M (.d (.int i)) (.d (.int j)) = gd (MulOk i j) (.d (.int (i * j))) := rfl
theorem fdiv_int : fdivD M (.d (.int i)) (.d (.int j)) = gd (0 < j ∧ j.natAbs.log2 < 9000) (.d (.int (i / j))) := rfl
theorem mod_int : modD M (.d (.int i)) (.d (.int j)) = gd (0 < j) (.d (.int (i % j))) := rfl
theorem pow_int : powD M (.d (.int i)) (.d (.int j)) = gd (CPow i j) (.d (.int (i ^ j.toNat))) := rfl
theorem neg_int : negD M (.d (.int i)) = some (.d (.int (-i))) := rfl
theorem lt_int : ltD M (.d (.int i)) (.d (.int j)) = some (.d (.bl (decide (i < j)))) := rfl
theorem le_int : leD M (.d (.int i)) (.d (.int j)) = some (.d (.bl (decide (i ≤ j)))) := rfl
theorem gt_int : gtD M (.d (.int i)) (.d (.int j)) = some (.d (.bl (decide (j < i)))) := rfl
theorem ge_int : geD M (.d (.int i)) (.d (.int j)) = some (.d (.bl (decide (j ≤ i)))) := rfl
theorem eq_int : eqD M (.d (.int i)) (.d (.int j)) = some (.d (.bl (decide (i = j)))) := rfl
theorem eq_str : eqD M (.d (.str s)) (.d (.str t)) = some (.d (.bl (decide (s = t)))) := rfl
theorem eq_bl : eqD M (.d (.bl p)) (.d (.bl q)) = some (.d (.bl (decide (p = q)))) := rfl
theorem ne_int : neD M (.d (.int i)) (.d (.int j)) = some (.d (.bl (!decide (i = j)))) := rfl
theorem ne_str : neD M (.d (.str s)) (.d (.str t)) = some (.d (.bl (!decide (s = t)))) := rfl
theorem ne_bl : neD M (.d (.bl p)) (.d (.bl q)) = some (.d (.bl (!decide (p = q)))) := rfl
theorem is_bl : isD M (.d (.bl p)) (.d (.bl q)) = some (.d (.bl (decide (p = q)))) := rfl
theorem isnt_bl : isntD M (.d (.bl p)) (.d (.bl q)) = some (.d (.bl (!decide (p = q)))) := rfl
theorem is_non {w : Sv} : isD M w (.d .non) = some (.d (.bl (nonB w))) := by cases w with | d x => cases x <;> rfl | _ => rfl
theorem isnt_non {w : Sv} : isntD M w (.d .non) = some (.d (.bl (!nonB w))) := by cases w with | d x => cases x <;> rfl | _ => rfl
theorem len_tup : lenD M [.d (.tup a)] = some (.d (.int a.length)) := rfl
theorem len_lst : lenD M [.d (.lst a)] = some (.d (.int a.length)) := rfl
theorem len_bor : lenD M [.bor a] = some (.d (.int a.length)) := rfl
theorem len_scr : lenD M [.d (.scr ns)] = some (.d (.int ns.length)) := by simp [lenD, lenOf, seqD, intS]
theorem len_ref (h : M[n]? = some (.lst a)) : lenD M [.ref n] = some (.d (.int a.length)) := by simp [lenD, lenOf, h, intS]
theorem int_bl : intD M [.d (.bl p)] = some (.d (.int (if p then 1 else 0))) := rfl
theorem int_int : intD M [.d (.int i)] = some (.d (.int i)) := rfl
theorem abs_int : absD M [.d (.int i)] = some (.d (.int (if i < 0 then -i else i))) := rfl
theorem min_int : minD M [.d (.int i), .d (.int j)] = some (.d (.int (if j < i then j else i))) := rfl
theorem max_int : maxD M [.d (.int i), .d (.int j)] = some (.d (.int (if j > i then j else i))) := rfl
theorem blD_bl : blD (.d (.bl p)) = some p := rfl
theorem cell_lst : cellL (some (.lst a)) = some a := rfl
theorem st_ref {R : Mem → Prop} : stD (.ref n) (.d (.int i)) x M R = ok (cellL M[n]?) fun ds => ok (ixN ds.length i) fun j => R (M.set n (.lst (ds.set j x))) := rfl
theorem at_nat {α : Type} {xs : List α} {k : Nat} : atI xs ((k : Nat) : Int) = xs[k]? := by
  unfold atI ixN
  rw [if_pos (by omega)]
  split
  · simp
  · rw [List.getElem?_eq_none (by omega)]; rfl
theorem at_0 {α : Type} {x : α} {xs : List α} : atI (x :: xs) 0 = some x := at_nat (k := 0)
theorem at_1 {α : Type} {x y : α} {xs : List α} : atI (x :: y :: xs) 1 = some y := at_nat (k := 1)
theorem at_2 {α : Type} {x y z : α} {xs : List α} : atI (x :: y :: z :: xs) 2 = some z := at_nat (k := 2)
theorem at_3 {α : Type} {x y z u : α} {xs : List α} : atI (x :: y :: z :: u :: xs) 3 = some u := at_nat (k := 3)
theorem at_4 {α : Type} {x y z u v : α} {xs : List α} : atI (x :: y :: z :: u :: v :: xs) 4 = some v := at_nat (k := 4)
theorem ixN_10 : ixN 1 0 = some 0 := by decide
theorem ixN_20 : ixN 2 0 = some 0 := by decide
theorem ixN_21 : ixN 2 1 = some 1 := by decide
theorem ixN_30 : ixN 3 0 = some 0 := by decide
theorem ixN_31 : ixN 3 1 = some 1 := by decide
theorem ixN_32 : ixN 3 2 = some 2 := by decide
theorem dataS_d : dataS (.d x) = some x := rfl
theorem datas_nil : datas [] = some [] := rfl
theorem datas_cons {xs : List Sv} : datas (.d x :: xs) = (datas xs).map fun ds => x :: ds := rfl
theorem truth_bl : truth M (.d (.bl p)) = some p := rfl
theorem endsF_rt {R : Rv → Mem → Prop} {k : Nat} {w : Sv} : (endsF k R).rt w M = (okRef k w ∧ ok (resD M w) fun r => R r (M.take k)) := rfl
theorem endsF_nx {R : Rv → Mem → Prop} {k : Nat} {δ : DS} : (endsF k R).nx δ M = R (.d .non) (M.take k) := rfl
theorem rv_d : resD M (.d x) = some (.d x) := rfl
theorem rv_ref : resD M (.ref n) = (cellL M[n]?).map Rv.new := rfl
theorem rvQ_d : rvQ Q (.d x) M = Q (.d x) M := rfl
theorem rvQ_new : rvQ Q (.new a) M = Q (.ref M.length) (M ++ [.lst a]) := rfl
theorem okRef_d {k : Nat} : okRef k (.d x) = True := rfl
theorem okRef_ref {k : Nat} : okRef k (.ref n) = (k ≤ n) := rfl
theorem at_pick {P : D → Prop} {R : D → Prop} {ds : List D} {i : Int} (h0 : 0 ≤ i) (h1 : i < ds.length) (h : ∀ d ∈ ds, P d) (k : ∀ d, P d → R d) : ok (atI ds i) R := by
  obtain ⟨j, rfl⟩ := Int.eq_ofNat_of_zero_le h0
  have hj : j < ds.length := by omega
  rw [at_nat, List.getElem?_eq_getElem hj]
  exact k _ (h _ (List.getElem_mem hj))
theorem handS_n {ks : List Nat} : handS M [] [] ks = some ([], ks) := rfl
theorem handS_tr {ms : List Bool} {xs : List Sv} {ks : List Nat} : handS M (true :: ms) (.ref n :: xs) ks = if n ∈ ks then none else (cellL M[n]?).bind fun _ => (handS M ms xs (ks ++ [n])).map fun r => (.ref ks.length :: r.1, r.2) := rfl
theorem handS_fr {ms : List Bool} {xs : List Sv} {ks : List Nat} : handS M (false :: ms) (.ref n :: xs) ks = (cellL M[n]?).bind fun ds => (handS M ms xs ks).bind fun r => if n ∈ r.2 then none else some (.bor ds :: r.1, r.2) := rfl
theorem handS_fd {ms : List Bool} {xs : List Sv} {ks : List Nat} : handS M (false :: ms) (.d x :: xs) ks = (handS M ms xs ks).map fun r => (.d x :: r.1, r.2) := rfl
theorem handS_fb {ms : List Bool} {xs : List Sv} {ks : List Nat} : handS M (false :: ms) (.bor a :: xs) ks = (handS M ms xs ks).map fun r => (.bor a :: r.1, r.2) := rfl
theorem cellsAt_0 : cellsAt M [] = [] := rfl
theorem cellsAt_1 (h : M[n]? = some c) : cellsAt M [n] = [c] := by simp [cellsAt, h]
theorem cellsAt_c {ks : List Nat} : cellsAt M (n :: ks) = M[n]?.getD .gone :: cellsAt M ks := rfl
theorem tup_lst : tupC M (.d (.lst a)) = some (.d (.tup a)) := rfl
theorem tup_tup : tupC M (.d (.tup a)) = some (.d (.tup a)) := rfl
theorem tup_ref : tupC M (.ref n) = (cellL M[n]?).map fun ds => .d (.tup ds) := rfl
theorem rng_1 {k : List D → Prop} : rngD [.d (.int j)] k = (I62 j ∧ k (rgL 0 j.toNat)) := rfl
theorem rng_2 {k : List D → Prop} : rngD [.d (.int i), .d (.int j)] k = ((I62 i ∧ I62 j) ∧ k (rgL i (j - i).toNat)) := rfl
theorem wipeS_c {δ : DS} {vs : List Nat} : wipeS δ (n :: vs) = (wipeS δ vs).set n none := rfl
theorem wipeS_n {δ : DS} : wipeS δ [] = δ := rfl
theorem ite_two {p q : Prop} [Decidable p] [Decidable q] {A B : Prop} (a : A) (b : ¬p → ¬q → B) : if p then A else if q then A else B := by
  by_cases h : p
  · rw [if_pos h]; exact a
  · rw [if_neg h]
    by_cases h2 : q
    · rw [if_pos h2]; exact a
    · rw [if_neg h2]; exact b h h2
theorem seq_tup : seqD M (.d (.tup a)) = some a := rfl
theorem seq_lst : seqD M (.d (.lst a)) = some a := rfl
theorem seq_bor : seqD M (.bor a) = some a := rfl
theorem lst_lst : lstD M (.d (.lst a)) = some a := rfl
theorem lst_bor : lstD M (.bor a) = some a := rfl
theorem gdS_d : gdS (.d x) a = fun _ => True := rfl
theorem gdS_b : gdS (.bor b) a = fun _ => True := rfl
theorem gcS_c {k : Nat} {o : Option Sv} {δ : DS} : gcS k (o :: δ) = gcO k o :: gcS k δ := rfl
theorem gcS_n {k : Nat} : gcS k [] = [] := rfl
theorem gcO_d {k : Nat} : gcO k (some (.d x)) = some (.d x) := rfl
theorem gcO_n {k : Nat} : gcO k none = none := rfl
theorem gcO_z : gcO 0 (some (.ref n)) = none := rfl
theorem seal_d {m0 : Nat} : sealD m0 M (.d x) = some (.d x, M) := rfl
theorem gcO_r0 {k : Nat} : gcO (k + 1) (some (.ref 0)) = some (.ref 0) := rfl
theorem gcO_r1 {k : Nat} : gcO (k + 2) (some (.ref 1)) = some (.ref 1) := rfl
theorem gcO_r {k : Nat} (h : n < k) : gcO k (some (.ref n)) = some (.ref n) := if_pos h
theorem mapp {R : QD} : mApp (.ref n) [.d x] M R = ok (cellL M[n]?) fun ds => ds.length < sizeLine ∧ R (.d .non) (M.set n (.lst (ds ++ [x]))) := rfl
theorem rcv_0 : rcv (.lst a :: M) (.ref 0) = some "list" := rfl
theorem rcv_1 : rcv (c :: .lst a :: M) (.ref 1) = some "list" := rfl
theorem rcv_l : rcv M (.d (.lst a)) = some "list" := rfl
theorem backS_0 {cs : Mem} : backS [] cs M = M := by cases cs <;> rfl
theorem backS_1 : backS [n] [c] M = M.set n c := rfl
end
/-- the tape: its third number at most b -/
structure Tp (b : Nat) (ds : List D) : Prop where
  ex : ∃ t0 t1 t2 : Int, ds = [.int t0, .int t1, .int t2] ∧ 0 ≤ t0 ∧ 0 ≤ t1 ∧ t1 < 2147483629 ∧ 0 ≤ t2 ∧ t2 ≤ b
theorem Tp.mono {b c : Nat} {ds : List D} (h : Tp b ds) (hb : b ≤ c) : Tp c ds := by
  obtain ⟨t0, t1, t2, rfl, h0, h1, h2, h3, h4⟩ := h.ex
  exact ⟨t0, t1, t2, rfl, h0, h1, h2, h3, by omega⟩
def sp_take : SpD := fun as M Q => ∃ (ds : List D) (n : Int) (b : Nat), as = [.ref 0, .d (.int n)] ∧ M = [.lst ds] ∧ Tp b ds ∧ b < 1099511627776 ∧ 1 ≤ n ∧ n ≤ 99999 ∧
  ∀ (v : Int) (ds' : List D), 0 ≤ v → v < n → Tp (b + 1) ds' → Q (.d (.int v)) [.lst ds']
def r_take (sp__law_take : SpD) : TS' :=
  (sSeq (sIf (cP (bB (po2 gtD (po2 ixD (pV 0) (pC (.int 0))) (pC (.int 0)))))
  (sSeq (sSet 4 (eP (po2 modD (po2 ixD (pV 0) (pC (.int 0))) (pV 1))))
  (sSeq (sSub (eP (po2 fdivD (po2 ixD (pV 0) (pC (.int 0))) (pV 1))) (eP (pV 0)) (eP (pC (.int 0))))
  (sRet (eP (pV 4)))))
  sNil)
  (sSeq (sSub (eP (po2 addD (po2 ixD (pV 0) (pC (.int 2))) (pC (.int 1)))) (eP (pV 0)) (eP (pC (.int 2))))
  (sSeq (sSet 2 (eP (po2 ixD (pFz (plLst [(pC (.int 2147483587)), (pC (.int 2147483579)), (pC (.int 2147483563)), (pC (.int 2147483549)), (pC (.int 2147483543)), (pC (.int 2147483497)), (pC (.int 2147483489))])) (po2 modD (po2 ixD (pV 0) (pC (.int 2))) (pC (.int 7))))))
  (sSeq (sSet 3 (eP (po2 modD (po2 mulD (po2 addD (po2 ixD (pV 0) (pC (.int 1))) (po2 mulD (pC (.int 39373)) (po2 ixD (pV 0) (pC (.int 2))))) (po2 addD (pC (.int 48271)) (po2 ixD (pV 0) (pC (.int 2))))) (pV 2))))
  (sSeq (sSub (eP (po2 modD (po2 addD (po2 mulD (pV 3) (po2 addD (po2 modD (pV 3) (pC (.int 40009))) (pC (.int 7)))) (po2 ixD (pV 0) (pC (.int 2)))) (pC (.int 2147483629)))) (eP (pV 0)) (eP (pC (.int 1))))
  (sSeq (sSet 4 (eP (po2 fdivD (po2 modD (po2 mulD (po2 ixD (pV 0) (pC (.int 1))) (po2 addD (po2 modD (po2 ixD (pV 0) (pC (.int 1))) (pC (.int 1009))) (pC (.int 3)))) (pC (.int 998244353))) (pC (.int 7)))))
  (sRet (eIf (cP (bB (po2 ltD (pV 1) (po2 powD (pC (.int 10)) (pC (.int 6)))))) (eP (po2 modD (pV 4) (pV 1))) (eo2 modD (eo2 addD (eP (po2 mulD (pV 4) (pC (.int 99991)))) (eCall [true, false] sp__law_take (aP [(pV 0), (pC (.int 99991))]))) (eP (pV 1)))))))))))
theorem pure_take {sp : SpD} (as : List Sv) (M : Mem) (Q : Rv → Mem → Prop) (h : sp_take as M Q) : r_take sp (endsF M.length Q) (startD 5 as) M := by
  obtain ⟨ds, n, b, rfl, rfl, ht, hb, h1, h2, z⟩ := h
  obtain ⟨t0, t1, t2, rfl, a0, a1, a2, a3, a4⟩ := ht.ex
  show r_take sp (endsF 1 Q) [some (.ref 0), some (.d (.int n)), none, none, none] [.lst [.int t0, .int t1, .int t2]]
  simp only [r_take, sSeq, sIf, sSet, sSub, sRet, sRetN, sNil, sDrop, sAsg, sPar, sParT, sAug, cP, bB, bTr, bNt, bAn, bOr, po1, po2, poN, pArgs, poIf, poAn, poOr, poNt, poTup, plLst, plN, pl2, pl1, pFz, pV, pC, eP, eo1, eo2, eoN, aP, aNil, aCons, eAn, eOr, eNt, eIf, eFz, eNw, fP, fN, f2, f1, tTupE, tLstF, tTr, tTb, tAn, tOrr, tNt, tYs, eSeal, eMt, poMt, mPure, eCh, pCh, ok_bind, ok_map, ok_some, ok_none, ok_gd, ok_ite, List.getElem?_cons_zero, List.getElem?_cons_succ, List.set_cons_zero, List.set_cons_succ, Option.join_some, Option.bind_some, Option.map_some, Option.bind_none, Option.map_none, ix_ref, ix_tup, ix_lst, ix_bor, ix_scr, add_int, add_str, add_tup, sub_int, mul_int, fdiv_int, mod_int, pow_int, neg_int, lt_int, le_int, gt_int, ge_int, eq_int, eq_str, eq_bl, ne_int, ne_str, ne_bl, is_bl, isnt_bl, is_non, isnt_non, len_tup, len_lst, len_ref, len_bor, len_scr, int_bl, int_int, abs_int, min_int, max_int, blD_bl, cell_lst, st_ref, at_0, at_1, at_2, at_3, at_4, ixN_10, ixN_20, ixN_21, ixN_30, ixN_31, ixN_32, dataS_d, datas_nil, datas_cons, truth_bl, notD, intS, blS, nonB, List.length_cons, List.length_nil, Nat.reduceAdd, endsF_rt, endsF_nx, rvQ_d, rvQ_new, rv_d, rv_ref, okRef_d, okRef_ref, List.not_mem_nil, List.nil_append, true_and, and_true, List.take_succ_cons, List.take_zero, Nat.zero_add, decide_eq_true_eq, Bool.false_eq_true, if_false, if_true, callS, handS_n, handS_tr, handS_fr, handS_fd, handS_fb, cellsAt_c, cellsAt_0, Option.getD_some, backS_0, backS_1, eCall, tup_lst, tup_tup, tup_ref, fLc, iRg, rng_1, rng_2, wipeS_c, wipeS_n, iPq, iSq, seq_tup, seq_lst, seq_bor, lst_lst, lst_bor, gdS_d, gdS_b, sFor, gNm, gcS_c, gcS_n, gcO_d, gcO_n, mapp, rcv_0, rcv_1, rcv_l, gcO_r0, gcO_r1, gcO_z, seal_d, eq_self, List.take_nil, List.cons_append]
  split
  · rename_i h0
    refine ⟨by omega, ⟨by omega, ?_⟩, z _ _ (Int.emod_nonneg _ (by omega)) (Int.emod_lt_of_pos _ (by omega)) ⟨t0 / n, t1, t2, rfl, Int.ediv_nonneg a0 (by omega), a1, a2, a3, by omega⟩⟩
    have hn : n.natAbs < 2 ^ 17 := by omega
    have := (Nat.log2_lt (n := n.natAbs) (k := 17) (by omega)).mpr hn
    omega
  · refine ⟨by decide, at_pick (P := fun d => ∃ p : Int, d = .int p ∧ 2147483489 ≤ p ∧ p ≤ 2147483587) (Int.emod_nonneg _ (by decide)) (by have := Int.emod_lt_of_pos (t2 + 1) (show (0:Int) < 7 by decide); simpa using this) ?_ ?_⟩
    · intro d hd
      simp only [List.mem_cons, List.not_mem_nil, or_false] at hd
      rcases hd with rfl | rfl | rfl | rfl | rfl | rfl | rfl <;> exact ⟨_, rfl, by decide, by decide⟩
    · rintro d ⟨p, rfl, p1, p2⟩
      simp only [sSeq, sIf, sSet, sSub, sRet, sRetN, sNil, sDrop, sAsg, sPar, sParT, sAug, cP, bB, bTr, bNt, bAn, bOr, po1, po2, poN, pArgs, poIf, poAn, poOr, poNt, poTup, plLst, plN, pl2, pl1, pFz, pV, pC, eP, eo1, eo2, eoN, aP, aNil, aCons, eAn, eOr, eNt, eIf, eFz, eNw, fP, fN, f2, f1, tTupE, tLstF, tTr, tTb, tAn, tOrr, tNt, tYs, eSeal, eMt, poMt, mPure, eCh, pCh, ok_bind, ok_map, ok_some, ok_none, ok_gd, ok_ite, List.getElem?_cons_zero, List.getElem?_cons_succ, List.set_cons_zero, List.set_cons_succ, Option.join_some, Option.bind_some, Option.map_some, Option.bind_none, Option.map_none, ix_ref, ix_tup, ix_lst, ix_bor, ix_scr, add_int, add_str, add_tup, sub_int, mul_int, fdiv_int, mod_int, pow_int, neg_int, lt_int, le_int, gt_int, ge_int, eq_int, eq_str, eq_bl, ne_int, ne_str, ne_bl, is_bl, isnt_bl, is_non, isnt_non, len_tup, len_lst, len_ref, len_bor, len_scr, int_bl, int_int, abs_int, min_int, max_int, blD_bl, cell_lst, st_ref, at_0, at_1, at_2, at_3, at_4, ixN_10, ixN_20, ixN_21, ixN_30, ixN_31, ixN_32, dataS_d, datas_nil, datas_cons, truth_bl, notD, intS, blS, nonB, List.length_cons, List.length_nil, Nat.reduceAdd, endsF_rt, endsF_nx, rvQ_d, rvQ_new, rv_d, rv_ref, okRef_d, okRef_ref, List.not_mem_nil, List.nil_append, true_and, and_true, List.take_succ_cons, List.take_zero, Nat.zero_add, decide_eq_true_eq, Bool.false_eq_true, if_false, if_true, callS, handS_n, handS_tr, handS_fr, handS_fd, handS_fb, cellsAt_c, cellsAt_0, Option.getD_some, backS_0, backS_1, eCall, tup_lst, tup_tup, tup_ref, fLc, iRg, rng_1, rng_2, wipeS_c, wipeS_n, iPq, iSq, seq_tup, seq_lst, seq_bor, lst_lst, lst_bor, gdS_d, gdS_b, sFor, gNm, gcS_c, gcS_n, gcO_d, gcO_n, mapp, rcv_0, rcv_1, rcv_l, gcO_r0, gcO_r1, gcO_z, seal_d, eq_self, List.take_nil, List.cons_append]
      generalize hz : (t1 + 39373 * (t2 + 1)) * (48271 + (t2 + 1)) = zz
      have e1 := Int.emod_nonneg zz (show p ≠ 0 by omega)
      have e2 := Int.emod_lt_of_pos zz (show 0 < p by omega)
      generalize zz % p = q at e1 e2
      have e3 := Int.emod_nonneg q (show (40009:Int) ≠ 0 by decide)
      have e4 := Int.emod_lt_of_pos q (show (0:Int) < 40009 by decide)
      generalize q % 40009 = r at e3 e4
      generalize q * (r + 7) + (t2 + 1) = y
      have e5 := Int.emod_nonneg y (show (2147483629:Int) ≠ 0 by decide)
      have e6 := Int.emod_lt_of_pos y (show (0:Int) < 2147483629 by decide)
      generalize y % 2147483629 = x at e5 e6
      have e7 := Int.emod_nonneg x (show (1009:Int) ≠ 0 by decide)
      have e8 := Int.emod_lt_of_pos x (show (0:Int) < 1009 by decide)
      generalize x % 1009 = v at e7 e8
      have e9 : n < 10 ^ Int.toNat 6 := by have : (10:Int) ^ Int.toNat 6 = 1000000 := by decide
                                           omega
      rw [if_pos e9]
      refine ⟨.inl ⟨by decide, by decide⟩, .inr (.inl ⟨by omega, by omega⟩), by omega, by decide, .inl ⟨by omega, by omega⟩, by decide, by decide, .inl ⟨by omega, by omega⟩, by decide, ⟨by decide, by decide⟩, by unfold CPow; decide, by omega, ?_⟩
      exact z _ _ (Int.emod_nonneg _ (by omega)) (Int.emod_lt_of_pos _ (by omega)) ⟨t0, x, t2 + 1, rfl, a0, e5, e6, by omega, by omega⟩
end VL
set_option Elab.async false
set_option linter.all false
set_option maxRecDepth 100000
set_option maxHeartbeats 1000000
/-! Plain laws: loops; the tape, claims. -/
namespace VL
open PySem PySem.Spec L2

theorem for_inv {k : Nat} {g : TG'} {b : TS'} {E : Ends'} {gd : Mem → Prop} (I : List D → DS → Mem → Prop) (fin : ∀ δ M, I [] δ M → gd M ∧ E.nx δ M)
    (step : ∀ d rest δ M (nx : DS → Mem → Prop), I (d :: rest) δ M → (∀ δ' M', I rest (gcS k δ') (M'.take k) → nx δ' M') → gd M ∧ g d δ M fun δ1 M1 => b ⟨nx, E.rt, E.nx, nx⟩ δ1 M1) : ∀ ds δ M, I ds δ M → forL k g b E gd ds δ M
  | [], δ, M, h => fin δ M h
  | d :: ds, δ, M, h => step d ds δ M _ h fun δ' M' h' => for_inv I fin step ds _ _ h'
theorem lc_inv {i : Nat} {te : TE'} {δw : DS} {gd : Mem → Prop} {Q : List D → Mem → Prop} (I : List D → List D → Mem → Prop) (fin : ∀ acc M, I [] acc M → gd M ∧ Q acc M)
    (step : ∀ d rest acc M (R : QD), I (d :: rest) acc M → (∀ y M', I rest (acc ++ [y]) M' → R (.d y) M') → gd M ∧ te (δw.set i (some (.d d))) M R) : ∀ ds acc M, I ds acc M → lcL (LcG.nm i).to tYs te δw gd Q ds acc M
  | [], acc, M, h => fin acc M h
  | d :: ds, acc, M, h => by
    have hs := step d ds acc M (fun s M4 => ok (dataS s) fun y => lcL (LcG.nm i).to tYs te δw gd Q ds (acc ++ [y]) M4) h fun y M' h' => lc_inv I fin step ds _ _ h'
    exact ⟨hs.1, hs.2⟩
/-- each item's value hangs on the item alone, nothing changes -/
theorem lc_map {i : Nat} {te : TE'} {δw : DS} {gd : Mem → Prop} {Q : List D → Mem → Prop} {f : D → D} {M : Mem} {ds : List D} (hg : gd M) (h : ∀ d ∈ ds, ∀ R : QD, R (.d (f d)) M → te (δw.set i (some (.d d))) M R) (q : Q (ds.map f) M) :
    lcL (LcG.nm i).to tYs te δw gd Q ds [] M := by
  have : ∀ (l acc : List D), (∀ d ∈ l, d ∈ ds) → Q (acc ++ l.map f) M → lcL (LcG.nm i).to tYs te δw gd Q l acc M := by
    intro l
    induction l with
    | nil => intro acc _ q; exact ⟨hg, by simpa using q⟩
    | cons d l ih =>
      intro acc hl q
      refine ⟨hg, h d (hl d List.mem_cons_self) _ ?_⟩
      exact ih (acc ++ [f d]) (fun x hx => hl x (List.mem_cons_of_mem _ hx)) (by simpa using q)
  exact this ds [] (fun _ h => h) (by simpa using q)

/-! ### what a def calls by itself -/
def spB (sp : Nat → SpD) (d : Nat) : SpD := fun as M Q => ∃ e, e < d ∧ sp e as M Q
theorem ca_bot {P : Program} {w : World} {K : PySem.W.Frag} {mg : Str → Option Value} {base : Heap} {x qual : Str} {params : Arguments} {body : List Stmt} {scope : Scope} {f : Addr} {fd : FuncData} {ps : List Str} {k : Nat} {sp : Nat → SpD}
    (F : FunD K x qual params body scope [] [] f fd) (hg : mg x = some (.ref f)) (b : Binds K fd ps []) (n : Nat) : Ca P w K mg base k x n (spB sp 0) :=
  ⟨f, fd, ps, ⟨fun vs H Q E ⟨_, _, _, _, _, _, _, _, _, ⟨e, he, _⟩, _⟩ => by omega, fun A outer s H args us vs Q E _ _ _ _ ⟨_, _, _, _, _, _, _, _, _, ⟨e, he, _⟩, _⟩ => by omega⟩, hg, F.kp, b⟩

/-! ### the tape made -/
def sp_cell : SpD := fun as M Q => ∃ (ns : List Int) (k : Int), as = [.d (.scr ns), .d (.int k)] ∧ M = [] ∧ 0 ≤ k ∧ ∀ c : Int, Q (.d (.int c)) []
def r_cell : TS' :=
  (sRet (eP (poIf (bB (po2 ltD (pV 1) (poN lenD [(pV 0)]))) (po2 ixD (pV 0) (pV 1)) (pC (.int 0)))))
theorem pure_cell (as : List Sv) (M : Mem) (Q : Rv → Mem → Prop) (h : sp_cell as M Q) : r_cell (endsF M.length Q) (startD 2 as) M := by
  obtain ⟨ns, k, rfl, rfl, hk, z⟩ := h
  obtain ⟨k, rfl⟩ := Int.eq_ofNat_of_zero_le hk
  show r_cell (endsF 0 Q) [some (.d (.scr ns)), some (.d (.int k))] []
  simp only [r_cell, sSeq, sIf, sSet, sSub, sRet, sRetN, sNil, sDrop, sAsg, sPar, sParT, sAug, cP, bB, bTr, bNt, bAn, bOr, po1, po2, poN, pArgs, poIf, poAn, poOr, poNt, poTup, plLst, plN, pl2, pl1, pFz, pV, pC, eP, eo1, eo2, eoN, aP, aNil, aCons, eAn, eOr, eNt, eIf, eFz, eNw, fP, fN, f2, f1, tTupE, tLstF, tTr, tTb, tAn, tOrr, tNt, tYs, eSeal, eMt, poMt, mPure, eCh, pCh, ok_bind, ok_map, ok_some, ok_none, ok_gd, ok_ite, List.getElem?_cons_zero, List.getElem?_cons_succ, List.set_cons_zero, List.set_cons_succ, Option.join_some, Option.bind_some, Option.map_some, Option.bind_none, Option.map_none, ix_ref, ix_tup, ix_lst, ix_bor, ix_scr, add_int, add_str, add_tup, sub_int, mul_int, fdiv_int, mod_int, pow_int, neg_int, lt_int, le_int, gt_int, ge_int, eq_int, eq_str, eq_bl, ne_int, ne_str, ne_bl, is_bl, isnt_bl, is_non, isnt_non, len_tup, len_lst, len_ref, len_bor, len_scr, int_bl, int_int, abs_int, min_int, max_int, blD_bl, cell_lst, st_ref, at_0, at_1, at_2, at_3, at_4, ixN_10, ixN_20, ixN_21, ixN_30, ixN_31, ixN_32, dataS_d, datas_nil, datas_cons, truth_bl, notD, intS, blS, nonB, List.length_cons, List.length_nil, Nat.reduceAdd, endsF_rt, endsF_nx, rvQ_d, rvQ_new, rv_d, rv_ref, okRef_d, okRef_ref, List.not_mem_nil, List.nil_append, true_and, and_true, List.take_succ_cons, List.take_zero, Nat.zero_add, decide_eq_true_eq, Bool.false_eq_true, if_false, if_true, callS, handS_n, handS_tr, handS_fr, handS_fd, handS_fb, cellsAt_c, cellsAt_0, Option.getD_some, backS_0, backS_1, eCall, tup_lst, tup_tup, tup_ref, fLc, iRg, rng_1, rng_2, wipeS_c, wipeS_n, iPq, iSq, seq_tup, seq_lst, seq_bor, lst_lst, lst_bor, gdS_d, gdS_b, sFor, gNm, gcS_c, gcS_n, gcO_d, gcO_n, mapp, rcv_0, rcv_1, rcv_l, gcO_r0, gcO_r1, gcO_z, seal_d, eq_self, List.take_nil, List.cons_append]
  by_cases h : (k : Int) < ns.length
  · rw [if_pos h]
    have h' : k < ns.length := by omega
    rw [at_nat, List.getElem?_map, List.getElem?_eq_getElem h']
    simp only [sSeq, sIf, sSet, sSub, sRet, sRetN, sNil, sDrop, sAsg, sPar, sParT, sAug, cP, bB, bTr, bNt, bAn, bOr, po1, po2, poN, pArgs, poIf, poAn, poOr, poNt, poTup, plLst, plN, pl2, pl1, pFz, pV, pC, eP, eo1, eo2, eoN, aP, aNil, aCons, eAn, eOr, eNt, eIf, eFz, eNw, fP, fN, f2, f1, tTupE, tLstF, tTr, tTb, tAn, tOrr, tNt, tYs, eSeal, eMt, poMt, mPure, eCh, pCh, ok_bind, ok_map, ok_some, ok_none, ok_gd, ok_ite, List.getElem?_cons_zero, List.getElem?_cons_succ, List.set_cons_zero, List.set_cons_succ, Option.join_some, Option.bind_some, Option.map_some, Option.bind_none, Option.map_none, ix_ref, ix_tup, ix_lst, ix_bor, ix_scr, add_int, add_str, add_tup, sub_int, mul_int, fdiv_int, mod_int, pow_int, neg_int, lt_int, le_int, gt_int, ge_int, eq_int, eq_str, eq_bl, ne_int, ne_str, ne_bl, is_bl, isnt_bl, is_non, isnt_non, len_tup, len_lst, len_ref, len_bor, len_scr, int_bl, int_int, abs_int, min_int, max_int, blD_bl, cell_lst, st_ref, at_0, at_1, at_2, at_3, at_4, ixN_10, ixN_20, ixN_21, ixN_30, ixN_31, ixN_32, dataS_d, datas_nil, datas_cons, truth_bl, notD, intS, blS, nonB, List.length_cons, List.length_nil, Nat.reduceAdd, endsF_rt, endsF_nx, rvQ_d, rvQ_new, rv_d, rv_ref, okRef_d, okRef_ref, List.not_mem_nil, List.nil_append, true_and, and_true, List.take_succ_cons, List.take_zero, Nat.zero_add, decide_eq_true_eq, Bool.false_eq_true, if_false, if_true, callS, handS_n, handS_tr, handS_fr, handS_fd, handS_fb, cellsAt_c, cellsAt_0, Option.getD_some, backS_0, backS_1, eCall, tup_lst, tup_tup, tup_ref, fLc, iRg, rng_1, rng_2, wipeS_c, wipeS_n, iPq, iSq, seq_tup, seq_lst, seq_bor, lst_lst, lst_bor, gdS_d, gdS_b, sFor, gNm, gcS_c, gcS_n, gcO_d, gcO_n, mapp, rcv_0, rcv_1, rcv_l, gcO_r0, gcO_r1, gcO_z, seal_d, eq_self, List.take_nil, List.cons_append]
    exact z _
  · rw [if_neg h]
    exact z _
def sp_tape : SpD := fun as M Q => ∃ (ns : List Int) (k : Int), as = [.d (.scr ns), .d (.int k)] ∧ M = [] ∧ 0 ≤ k ∧ k ≤ 1000 ∧ ∀ ds, Tp 0 ds → Q (.new ds) []
def r_tape (sp__law_cell_at : SpD) : TS' :=
  (sSeq (sSet 2 (eCall [false, false] sp__law_cell_at (aP [(pV 0), (pV 1)])))
  (sRet (eNw (fP (plLst [(po2 mulD (poN absD [(pV 2)]) (poN intD [(po2 geD (poN absD [(pV 2)]) (po2 powD (pC (.int 10)) (pC (.int 18))))])), (po2 modD (po2 mulD (po2 addD (po2 addD (po2 modD (pV 2) (pC (.int 2147483647))) (po2 mulD (po2 mulD (pC (.int 7753)) (pV 1)) (pV 1))) (pC (.int 41))) (pC (.int 48271))) (pC (.int 2147483629))), (pC (.int 0))])))))
theorem pure_tape (as : List Sv) (M : Mem) (Q : Rv → Mem → Prop) (h : sp_tape as M Q) : r_tape sp_cell (endsF M.length Q) (startD 3 as) M := by
  obtain ⟨ns, k, rfl, rfl, hk, hk2, z⟩ := h
  show r_tape sp_cell (endsF 0 Q) [some (.d (.scr ns)), some (.d (.int k)), none] []
  simp only [r_tape, sSeq, sIf, sSet, sSub, sRet, sRetN, sNil, sDrop, sAsg, sPar, sParT, sAug, cP, bB, bTr, bNt, bAn, bOr, po1, po2, poN, pArgs, poIf, poAn, poOr, poNt, poTup, plLst, plN, pl2, pl1, pFz, pV, pC, eP, eo1, eo2, eoN, aP, aNil, aCons, eAn, eOr, eNt, eIf, eFz, eNw, fP, fN, f2, f1, tTupE, tLstF, tTr, tTb, tAn, tOrr, tNt, tYs, eSeal, eMt, poMt, mPure, eCh, pCh, ok_bind, ok_map, ok_some, ok_none, ok_gd, ok_ite, List.getElem?_cons_zero, List.getElem?_cons_succ, List.set_cons_zero, List.set_cons_succ, Option.join_some, Option.bind_some, Option.map_some, Option.bind_none, Option.map_none, ix_ref, ix_tup, ix_lst, ix_bor, ix_scr, add_int, add_str, add_tup, sub_int, mul_int, fdiv_int, mod_int, pow_int, neg_int, lt_int, le_int, gt_int, ge_int, eq_int, eq_str, eq_bl, ne_int, ne_str, ne_bl, is_bl, isnt_bl, is_non, isnt_non, len_tup, len_lst, len_ref, len_bor, len_scr, int_bl, int_int, abs_int, min_int, max_int, blD_bl, cell_lst, st_ref, at_0, at_1, at_2, at_3, at_4, ixN_10, ixN_20, ixN_21, ixN_30, ixN_31, ixN_32, dataS_d, datas_nil, datas_cons, truth_bl, notD, intS, blS, nonB, List.length_cons, List.length_nil, Nat.reduceAdd, endsF_rt, endsF_nx, rvQ_d, rvQ_new, rv_d, rv_ref, okRef_d, okRef_ref, List.not_mem_nil, List.nil_append, true_and, and_true, List.take_succ_cons, List.take_zero, Nat.zero_add, decide_eq_true_eq, Bool.false_eq_true, if_false, if_true, callS, handS_n, handS_tr, handS_fr, handS_fd, handS_fb, cellsAt_c, cellsAt_0, Option.getD_some, backS_0, backS_1, eCall, tup_lst, tup_tup, tup_ref, fLc, iRg, rng_1, rng_2, wipeS_c, wipeS_n, iPq, iSq, seq_tup, seq_lst, seq_bor, lst_lst, lst_bor, gdS_d, gdS_b, sFor, gNm, gcS_c, gcS_n, gcO_d, gcO_n, mapp, rcv_0, rcv_1, rcv_l, gcO_r0, gcO_r1, gcO_z, seal_d, eq_self, List.take_nil, List.cons_append]
  refine ⟨ns, k, rfl, rfl, hk, fun c => ?_⟩
  simp only [sSeq, sIf, sSet, sSub, sRet, sRetN, sNil, sDrop, sAsg, sPar, sParT, sAug, cP, bB, bTr, bNt, bAn, bOr, po1, po2, poN, pArgs, poIf, poAn, poOr, poNt, poTup, plLst, plN, pl2, pl1, pFz, pV, pC, eP, eo1, eo2, eoN, aP, aNil, aCons, eAn, eOr, eNt, eIf, eFz, eNw, fP, fN, f2, f1, tTupE, tLstF, tTr, tTb, tAn, tOrr, tNt, tYs, eSeal, eMt, poMt, mPure, eCh, pCh, ok_bind, ok_map, ok_some, ok_none, ok_gd, ok_ite, List.getElem?_cons_zero, List.getElem?_cons_succ, List.set_cons_zero, List.set_cons_succ, Option.join_some, Option.bind_some, Option.map_some, Option.bind_none, Option.map_none, ix_ref, ix_tup, ix_lst, ix_bor, ix_scr, add_int, add_str, add_tup, sub_int, mul_int, fdiv_int, mod_int, pow_int, neg_int, lt_int, le_int, gt_int, ge_int, eq_int, eq_str, eq_bl, ne_int, ne_str, ne_bl, is_bl, isnt_bl, is_non, isnt_non, len_tup, len_lst, len_ref, len_bor, len_scr, int_bl, int_int, abs_int, min_int, max_int, blD_bl, cell_lst, st_ref, at_0, at_1, at_2, at_3, at_4, ixN_10, ixN_20, ixN_21, ixN_30, ixN_31, ixN_32, dataS_d, datas_nil, datas_cons, truth_bl, notD, intS, blS, nonB, List.length_cons, List.length_nil, Nat.reduceAdd, endsF_rt, endsF_nx, rvQ_d, rvQ_new, rv_d, rv_ref, okRef_d, okRef_ref, List.not_mem_nil, List.nil_append, true_and, and_true, List.take_succ_cons, List.take_zero, Nat.zero_add, decide_eq_true_eq, Bool.false_eq_true, if_false, if_true, callS, handS_n, handS_tr, handS_fr, handS_fd, handS_fb, cellsAt_c, cellsAt_0, Option.getD_some, backS_0, backS_1, eCall, tup_lst, tup_tup, tup_ref, fLc, iRg, rng_1, rng_2, wipeS_c, wipeS_n, iPq, iSq, seq_tup, seq_lst, seq_bor, lst_lst, lst_bor, gdS_d, gdS_b, sFor, gNm, gcS_c, gcS_n, gcO_d, gcO_n, mapp, rcv_0, rcv_1, rcv_l, gcO_r0, gcO_r1, gcO_z, seal_d, eq_self, List.take_nil, List.cons_append]
  have h0 : 0 ≤ (if c < 0 then -c else c) := by split <;> omega
  generalize (if c < 0 then -c else c) = ac at h0
  have e1 : (if 10 ^ Int.toNat 18 ≤ ac then (1 : Int) else 0) = 0 ∨ (if 10 ^ Int.toNat 18 ≤ ac then (1 : Int) else 0) = 1 := by split <;> simp
  generalize (if 10 ^ Int.toNat 18 ≤ ac then (1 : Int) else 0) = t at e1
  have h1 : 0 ≤ ac * t := by rcases e1 with rfl | rfl <;> omega
  have h2 : 0 ≤ 7753 * k * k ∧ 7753 * k * k ≤ 7753 * 1000 * 1000 := by
    refine ⟨Int.mul_nonneg (by omega) hk, Int.mul_le_mul (by omega) hk2 hk (by omega)⟩
  generalize 7753 * k * k = u at h2
  have e3 := Int.emod_nonneg ((c % 2147483647 + u + 41) * 48271) (show (2147483629 : Int) ≠ 0 by decide)
  have e4 := Int.emod_lt_of_pos ((c % 2147483647 + u + 41) * 48271) (show (0 : Int) < 2147483629 by decide)
  refine ⟨by unfold CPow; decide, .inr (.inl ⟨by omega, by omega⟩), by decide, .inl ⟨by decide, by decide⟩, .inr (.inl ⟨by omega, by omega⟩), .inr (.inl ⟨by decide, by decide⟩), by decide, by decide, z _ ⟨_, _, _, rfl, h1, e3, e4, by decide, by decide⟩⟩

/-! ### claims -/
inductive Cm where
  | yes | no | name (k : Nat) | neg (c : Cm) | same (a b : Cm) | all (cs : List Cm) | any (cs : List Cm) | least (m : Nat) (cs : List Cm)
mutual
def cD : Cm → D
  | .yes => .tup [.str "yes"]
  | .no => .tup [.str "no"]
  | .name k => .tup [.str "name", .int k]
  | .neg c => .tup [.str "not", cD c]
  | .same a b => .tup [.str "same", cD a, cD b]
  | .all cs => .tup [.str "and", .tup (cDs cs)]
  | .any cs => .tup [.str "or", .tup (cDs cs)]
  | .least m cs => .tup [.str "least", .int m, .tup (cDs cs)]
def cDs : List Cm → List D
  | [] => []
  | c :: cs => cD c :: cDs cs
end
mutual
/-- claims of names less than n, at most d deep -/
def Cm.ok (n : Nat) : Nat → Cm → Prop
  | _, .yes => True
  | _, .no => True
  | _, .name k => k < n
  | d + 1, .neg c => Cm.ok n d c
  | d + 1, .same a b => Cm.ok n d a ∧ Cm.ok n d b
  | d + 1, .all cs => Cm.oks n d cs
  | d + 1, .any cs => Cm.oks n d cs
  | d + 1, .least m cs => m ≤ cs.length + 1 ∧ Cm.oks n d cs
  | 0, _ => False
def Cm.oks (n : Nat) : Nat → List Cm → Prop
  | _, [] => True
  | d, c :: cs => Cm.ok n d c ∧ Cm.oks n d cs
end
mutual
def Cm.sz : Cm → Nat
  | .yes => 1
  | .no => 1
  | .name _ => 1
  | .neg c => c.sz + 1
  | .same a b => a.sz + b.sz + 1
  | .all cs => Cm.szs cs + 1
  | .any cs => Cm.szs cs + 1
  | .least _ cs => Cm.szs cs + 1
def Cm.szs : List Cm → Nat
  | [] => 0
  | c :: cs => c.sz + Cm.szs cs
end
theorem cDs_len : ∀ cs : List Cm, (cDs cs).length = cs.length
  | [] => rfl
  | c :: cs => by simp [cDs, cDs_len cs]
theorem cDs_app : ∀ (a b : List Cm), cDs (a ++ b) = cDs a ++ cDs b
  | [], b => rfl
  | c :: cs, b => by simp [cDs, cDs_app cs b]
theorem szs_app : ∀ (a b : List Cm), Cm.szs (a ++ b) = Cm.szs a + Cm.szs b
  | [], b => by simp [Cm.szs]
  | c :: cs, b => by simp [Cm.szs, szs_app cs b]; omega
theorem oks_app {n d : Nat} : ∀ (a b : List Cm), Cm.oks n d (a ++ b) ↔ Cm.oks n d a ∧ Cm.oks n d b
  | [], b => by simp [Cm.oks]
  | c :: cs, b => by simp [Cm.oks, oks_app cs b, and_assoc]
end VL
set_option Elab.async false
set_option linter.all false
set_option maxRecDepth 100000
set_option maxHeartbeats 1000000
/-! Plain laws: drawn claims. -/
namespace VL
open PySem PySem.Spec L2

def cS : Nat → Nat
  | 0 => 1
  | d + 1 => 1 + 4 * cS d
def cC : Nat → Nat
  | 0 => 3
  | d + 1 => 3 + 4 * cC d
theorem cC_pos : ∀ d, 3 ≤ cC d
  | 0 => by decide
  | d + 1 => by simp only [cC]; omega
theorem cS_pos : ∀ d, 1 ≤ cS d
  | 0 => by decide
  | d + 1 => by simp only [cS]; omega
def sp_claim (d : Nat) : SpD := fun as M Q => ∃ (ds : List D) (n b : Nat), as = [.ref 0, .d (.int n), .d (.int d)] ∧ M = [.lst ds] ∧ Tp b ds ∧ b + cC d < 1099511627776 ∧ n ≤ 99990 ∧
  ∀ (c : Cm) (ds' : List D), c.ok n d → c.sz ≤ cS d → Tp (b + cC d) ds' → Q (.d (cD c)) [.lst ds']
def r_claim (sp__law_take : SpD) (sp__law_claim : SpD) : TS' :=
  (sSeq (sSet 3 (eCall [true, false] sp__law_take (aP [(pV 0), (pC (.int 12))])))
  (sSeq (sIf (cP (bOr (bB (po2 eqD (pV 2) (pC (.int 0)))) (bB (po2 ltD (pV 3) (pC (.int 3))))))
  (sSeq (sSet 5 (eCall [true, false] sp__law_take (aP [(pV 0), (poN maxD [(pC (.int 1)), (pV 1)])])))
  (sRet (eIf (cP (bAn (bB (po2 gtD (pV 1) (pC (.int 0)))) (bB (po2 neD (pV 3) (pC (.int 3)))))) (eP (poTup [(pC (.str "name")), (pV 5)])) (eo2 ixD (eP (pFz (plLst [(poTup [(pC (.str "yes"))]), (poTup [(pC (.str "no"))])]))) (eCall [true, false] sp__law_take (aP [(pV 0), (pC (.int 2))]))))))
  sNil)
  (sSeq (sIf (cP (bB (po2 eqD (pV 3) (pC (.int 3)))))
  (sRet (eo2 ixD (eP (pFz (plLst [(poTup [(pC (.str "yes"))]), (poTup [(pC (.str "no"))]), (poTup [(pC (.str "and")), (poTup [])]), (poTup [(pC (.str "or")), (poTup [])]), (poTup [(pC (.str "least")), (pC (.int 0)), (poTup [])])]))) (eCall [true, false] sp__law_take (aP [(pV 0), (pC (.int 5))]))))
  sNil)
  (sSeq (sIf (cP (bB (po2 eqD (pV 3) (pC (.int 4)))))
  (sRet (tTupE (aCons (eP (pC (.str "not"))) (aCons (eCall [true, false, false] sp__law_claim (aP [(pV 0), (pV 1), (po2 subD (pV 2) (pC (.int 1)))])) (aP [])))))
  sNil)
  (sSeq (sIf (cP (bB (po2 eqD (pV 3) (pC (.int 5)))))
  (sSeq (sSet 6 (eCall [true, false, false] sp__law_claim (aP [(pV 0), (pV 1), (po2 subD (pV 2) (pC (.int 1)))])))
  (sRet (tTupE (aCons (eP (pC (.str "same"))) (aCons (eP (pV 6)) (aCons (eCall [true, false, false] sp__law_claim (aP [(pV 0), (pV 1), (po2 subD (pV 2) (pC (.int 1)))])) (aP [])))))))
  sNil)
  (sSeq (sSet 4 (eo1 tupC (eFz (fLc (iRg true (aCons (eo2 addD (eP (pC (.int 1))) (eCall [true, false] sp__law_take (aP [(pV 0), (pC (.int 4))]))) (aP []))) (.nm 7) tYs (eCall [true, false, false] sp__law_claim (aP [(pV 0), (pV 1), (po2 subD (pV 2) (pC (.int 1)))])) [7]))))
  (sSeq (sIf (cP (bB (po2 gtD (pV 3) (pC (.int 9)))))
  (sRet (tTupE (aCons (eP (pC (.str "least"))) (aCons (eCall [true, false] sp__law_take (aP [(pV 0), (po2 addD (poN lenD [(pV 4)]) (pC (.int 2)))])) (aP [(pV 4)])))))
  sNil)
  (sRet (eP (poTup [(po2 ixD (pFz (plLst [(pC (.str "and")), (pC (.str "or"))])) (po2 modD (pV 3) (pC (.int 2)))), (pV 4)]))))))))))
theorem pure_claim {d : Nat} (as : List Sv) (M : Mem) (Q : Rv → Mem → Prop) (h : spB sp_claim (d + 1) as M Q) : r_claim sp_take (spB sp_claim d) (endsF M.length Q) (startD 8 as) M := by
  obtain ⟨e, he, ds, n, b, rfl, rfl, ht, hb, hn, z⟩ := h
  have hc := cC_pos e
  show r_claim sp_take (spB sp_claim d) (endsF 1 Q) [some (.ref 0), some (.d (.int n)), some (.d (.int e)), none, none, none, none, none] [.lst ds]
  simp only [r_claim, sSeq, sIf, sSet, sSub, sRet, sRetN, sNil, sDrop, sAsg, sPar, sParT, sAug, cP, bB, bTr, bNt, bAn, bOr, po1, po2, poN, pArgs, poIf, poAn, poOr, poNt, poTup, plLst, plN, pl2, pl1, pFz, pV, pC, eP, eo1, eo2, eoN, aP, aNil, aCons, eAn, eOr, eNt, eIf, eFz, eNw, fP, fN, f2, f1, tTupE, tLstF, tTr, tTb, tAn, tOrr, tNt, tYs, eSeal, eMt, poMt, mPure, eCh, pCh, ok_bind, ok_map, ok_some, ok_none, ok_gd, ok_ite, List.getElem?_cons_zero, List.getElem?_cons_succ, List.set_cons_zero, List.set_cons_succ, Option.join_some, Option.bind_some, Option.map_some, Option.bind_none, Option.map_none, ix_ref, ix_tup, ix_lst, ix_bor, ix_scr, add_int, add_str, add_tup, sub_int, mul_int, fdiv_int, mod_int, pow_int, neg_int, lt_int, le_int, gt_int, ge_int, eq_int, eq_str, eq_bl, ne_int, ne_str, ne_bl, is_bl, isnt_bl, is_non, isnt_non, len_tup, len_lst, len_ref, len_bor, len_scr, int_bl, int_int, abs_int, min_int, max_int, blD_bl, cell_lst, st_ref, at_0, at_1, at_2, at_3, at_4, ixN_10, ixN_20, ixN_21, ixN_30, ixN_31, ixN_32, dataS_d, datas_nil, datas_cons, truth_bl, notD, intS, blS, nonB, List.length_cons, List.length_nil, Nat.reduceAdd, endsF_rt, endsF_nx, rvQ_d, rvQ_new, rv_d, rv_ref, okRef_d, okRef_ref, List.not_mem_nil, List.nil_append, true_and, and_true, List.take_succ_cons, List.take_zero, Nat.zero_add, decide_eq_true_eq, Bool.false_eq_true, if_false, if_true, callS, handS_n, handS_tr, handS_fr, handS_fd, handS_fb, cellsAt_c, cellsAt_0, Option.getD_some, backS_0, backS_1, eCall, tup_lst, tup_tup, tup_ref, fLc, iRg, rng_1, rng_2, wipeS_c, wipeS_n, iPq, iSq, seq_tup, seq_lst, seq_bor, lst_lst, lst_bor, gdS_d, gdS_b, sFor, gNm, gcS_c, gcS_n, gcO_d, gcO_n, mapp, rcv_0, rcv_1, rcv_l, gcO_r0, gcO_r1, gcO_z, seal_d, eq_self, List.take_nil, List.cons_append]
  refine ⟨ds, 12, b, rfl, rfl, ht, by omega, by omega, by omega, fun w ds1 w0 w1 t1 => ?_⟩
  simp only [sSeq, sIf, sSet, sSub, sRet, sRetN, sNil, sDrop, sAsg, sPar, sParT, sAug, cP, bB, bTr, bNt, bAn, bOr, po1, po2, poN, pArgs, poIf, poAn, poOr, poNt, poTup, plLst, plN, pl2, pl1, pFz, pV, pC, eP, eo1, eo2, eoN, aP, aNil, aCons, eAn, eOr, eNt, eIf, eFz, eNw, fP, fN, f2, f1, tTupE, tLstF, tTr, tTb, tAn, tOrr, tNt, tYs, eSeal, eMt, poMt, mPure, eCh, pCh, ok_bind, ok_map, ok_some, ok_none, ok_gd, ok_ite, List.getElem?_cons_zero, List.getElem?_cons_succ, List.set_cons_zero, List.set_cons_succ, Option.join_some, Option.bind_some, Option.map_some, Option.bind_none, Option.map_none, ix_ref, ix_tup, ix_lst, ix_bor, ix_scr, add_int, add_str, add_tup, sub_int, mul_int, fdiv_int, mod_int, pow_int, neg_int, lt_int, le_int, gt_int, ge_int, eq_int, eq_str, eq_bl, ne_int, ne_str, ne_bl, is_bl, isnt_bl, is_non, isnt_non, len_tup, len_lst, len_ref, len_bor, len_scr, int_bl, int_int, abs_int, min_int, max_int, blD_bl, cell_lst, st_ref, at_0, at_1, at_2, at_3, at_4, ixN_10, ixN_20, ixN_21, ixN_30, ixN_31, ixN_32, dataS_d, datas_nil, datas_cons, truth_bl, notD, intS, blS, nonB, List.length_cons, List.length_nil, Nat.reduceAdd, endsF_rt, endsF_nx, rvQ_d, rvQ_new, rv_d, rv_ref, okRef_d, okRef_ref, List.not_mem_nil, List.nil_append, true_and, and_true, List.take_succ_cons, List.take_zero, Nat.zero_add, decide_eq_true_eq, Bool.false_eq_true, if_false, if_true, callS, handS_n, handS_tr, handS_fr, handS_fd, handS_fb, cellsAt_c, cellsAt_0, Option.getD_some, backS_0, backS_1, eCall, tup_lst, tup_tup, tup_ref, fLc, iRg, rng_1, rng_2, wipeS_c, wipeS_n, iPq, iSq, seq_tup, seq_lst, seq_bor, lst_lst, lst_bor, gdS_d, gdS_b, sFor, gNm, gcS_c, gcS_n, gcO_d, gcO_n, mapp, rcv_0, rcv_1, rcv_l, gcO_r0, gcO_r1, gcO_z, seal_d, eq_self, List.take_nil, List.cons_append]
  refine ite_two ?_ fun he0 hw3 => ?_
  · refine ⟨ds1, _, b + 1, rfl, rfl, t1, by omega, by split <;> omega, by split <;> omega, fun k ds2 k0 k1 t2 => ?_⟩
    simp only [sSeq, sIf, sSet, sSub, sRet, sRetN, sNil, sDrop, sAsg, sPar, sParT, sAug, cP, bB, bTr, bNt, bAn, bOr, po1, po2, poN, pArgs, poIf, poAn, poOr, poNt, poTup, plLst, plN, pl2, pl1, pFz, pV, pC, eP, eo1, eo2, eoN, aP, aNil, aCons, eAn, eOr, eNt, eIf, eFz, eNw, fP, fN, f2, f1, tTupE, tLstF, tTr, tTb, tAn, tOrr, tNt, tYs, eSeal, eMt, poMt, mPure, eCh, pCh, ok_bind, ok_map, ok_some, ok_none, ok_gd, ok_ite, List.getElem?_cons_zero, List.getElem?_cons_succ, List.set_cons_zero, List.set_cons_succ, Option.join_some, Option.bind_some, Option.map_some, Option.bind_none, Option.map_none, ix_ref, ix_tup, ix_lst, ix_bor, ix_scr, add_int, add_str, add_tup, sub_int, mul_int, fdiv_int, mod_int, pow_int, neg_int, lt_int, le_int, gt_int, ge_int, eq_int, eq_str, eq_bl, ne_int, ne_str, ne_bl, is_bl, isnt_bl, is_non, isnt_non, len_tup, len_lst, len_ref, len_bor, len_scr, int_bl, int_int, abs_int, min_int, max_int, blD_bl, cell_lst, st_ref, at_0, at_1, at_2, at_3, at_4, ixN_10, ixN_20, ixN_21, ixN_30, ixN_31, ixN_32, dataS_d, datas_nil, datas_cons, truth_bl, notD, intS, blS, nonB, List.length_cons, List.length_nil, Nat.reduceAdd, endsF_rt, endsF_nx, rvQ_d, rvQ_new, rv_d, rv_ref, okRef_d, okRef_ref, List.not_mem_nil, List.nil_append, true_and, and_true, List.take_succ_cons, List.take_zero, Nat.zero_add, decide_eq_true_eq, Bool.false_eq_true, if_false, if_true, callS, handS_n, handS_tr, handS_fr, handS_fd, handS_fb, cellsAt_c, cellsAt_0, Option.getD_some, backS_0, backS_1, eCall, tup_lst, tup_tup, tup_ref, fLc, iRg, rng_1, rng_2, wipeS_c, wipeS_n, iPq, iSq, seq_tup, seq_lst, seq_bor, lst_lst, lst_bor, gdS_d, gdS_b, sFor, gNm, gcS_c, gcS_n, gcO_d, gcO_n, mapp, rcv_0, rcv_1, rcv_l, gcO_r0, gcO_r1, gcO_z, seal_d, eq_self, List.take_nil, List.cons_append]
    have two : ∀ (R : Rv → Mem → Prop), (∀ u ds3, 0 ≤ u → u < 2 → Tp (b + 3) ds3 → R (.d (.int u)) [.lst ds3]) → sp_take [.ref 0, .d (.int 2)] [.lst ds2] R := fun R hR =>
      ⟨ds2, 2, b + 2, rfl, rfl, t2, by omega, by decide, by decide, hR⟩
    have leaf : ∀ u ds3, 0 ≤ u → u < 2 → Tp (b + 3) ds3 → ok (atI [D.tup [D.str "yes"], D.tup [D.str "no"]] u) fun d => Q (Rv.d d) [Cell.lst ds3] := fun u ds3 u0 u1 t3 => by
      have hu : u = 0 ∨ u = 1 := by omega
      have hp := cS_pos e
      rcases hu with rfl | rfl
      · simp only [sSeq, sIf, sSet, sSub, sRet, sRetN, sNil, sDrop, sAsg, sPar, sParT, sAug, cP, bB, bTr, bNt, bAn, bOr, po1, po2, poN, pArgs, poIf, poAn, poOr, poNt, poTup, plLst, plN, pl2, pl1, pFz, pV, pC, eP, eo1, eo2, eoN, aP, aNil, aCons, eAn, eOr, eNt, eIf, eFz, eNw, fP, fN, f2, f1, tTupE, tLstF, tTr, tTb, tAn, tOrr, tNt, tYs, eSeal, eMt, poMt, mPure, eCh, pCh, ok_bind, ok_map, ok_some, ok_none, ok_gd, ok_ite, List.getElem?_cons_zero, List.getElem?_cons_succ, List.set_cons_zero, List.set_cons_succ, Option.join_some, Option.bind_some, Option.map_some, Option.bind_none, Option.map_none, ix_ref, ix_tup, ix_lst, ix_bor, ix_scr, add_int, add_str, add_tup, sub_int, mul_int, fdiv_int, mod_int, pow_int, neg_int, lt_int, le_int, gt_int, ge_int, eq_int, eq_str, eq_bl, ne_int, ne_str, ne_bl, is_bl, isnt_bl, is_non, isnt_non, len_tup, len_lst, len_ref, len_bor, len_scr, int_bl, int_int, abs_int, min_int, max_int, blD_bl, cell_lst, st_ref, at_0, at_1, at_2, at_3, at_4, ixN_10, ixN_20, ixN_21, ixN_30, ixN_31, ixN_32, dataS_d, datas_nil, datas_cons, truth_bl, notD, intS, blS, nonB, List.length_cons, List.length_nil, Nat.reduceAdd, endsF_rt, endsF_nx, rvQ_d, rvQ_new, rv_d, rv_ref, okRef_d, okRef_ref, List.not_mem_nil, List.nil_append, true_and, and_true, List.take_succ_cons, List.take_zero, Nat.zero_add, decide_eq_true_eq, Bool.false_eq_true, if_false, if_true, callS, handS_n, handS_tr, handS_fr, handS_fd, handS_fb, cellsAt_c, cellsAt_0, Option.getD_some, backS_0, backS_1, eCall, tup_lst, tup_tup, tup_ref, fLc, iRg, rng_1, rng_2, wipeS_c, wipeS_n, iPq, iSq, seq_tup, seq_lst, seq_bor, lst_lst, lst_bor, gdS_d, gdS_b, sFor, gNm, gcS_c, gcS_n, gcO_d, gcO_n, mapp, rcv_0, rcv_1, rcv_l, gcO_r0, gcO_r1, gcO_z, seal_d, eq_self, List.take_nil, List.cons_append]; exact z .yes ds3 (by cases e <;> trivial) hp (t3.mono (by omega))
      · simp only [sSeq, sIf, sSet, sSub, sRet, sRetN, sNil, sDrop, sAsg, sPar, sParT, sAug, cP, bB, bTr, bNt, bAn, bOr, po1, po2, poN, pArgs, poIf, poAn, poOr, poNt, poTup, plLst, plN, pl2, pl1, pFz, pV, pC, eP, eo1, eo2, eoN, aP, aNil, aCons, eAn, eOr, eNt, eIf, eFz, eNw, fP, fN, f2, f1, tTupE, tLstF, tTr, tTb, tAn, tOrr, tNt, tYs, eSeal, eMt, poMt, mPure, eCh, pCh, ok_bind, ok_map, ok_some, ok_none, ok_gd, ok_ite, List.getElem?_cons_zero, List.getElem?_cons_succ, List.set_cons_zero, List.set_cons_succ, Option.join_some, Option.bind_some, Option.map_some, Option.bind_none, Option.map_none, ix_ref, ix_tup, ix_lst, ix_bor, ix_scr, add_int, add_str, add_tup, sub_int, mul_int, fdiv_int, mod_int, pow_int, neg_int, lt_int, le_int, gt_int, ge_int, eq_int, eq_str, eq_bl, ne_int, ne_str, ne_bl, is_bl, isnt_bl, is_non, isnt_non, len_tup, len_lst, len_ref, len_bor, len_scr, int_bl, int_int, abs_int, min_int, max_int, blD_bl, cell_lst, st_ref, at_0, at_1, at_2, at_3, at_4, ixN_10, ixN_20, ixN_21, ixN_30, ixN_31, ixN_32, dataS_d, datas_nil, datas_cons, truth_bl, notD, intS, blS, nonB, List.length_cons, List.length_nil, Nat.reduceAdd, endsF_rt, endsF_nx, rvQ_d, rvQ_new, rv_d, rv_ref, okRef_d, okRef_ref, List.not_mem_nil, List.nil_append, true_and, and_true, List.take_succ_cons, List.take_zero, Nat.zero_add, decide_eq_true_eq, Bool.false_eq_true, if_false, if_true, callS, handS_n, handS_tr, handS_fr, handS_fd, handS_fb, cellsAt_c, cellsAt_0, Option.getD_some, backS_0, backS_1, eCall, tup_lst, tup_tup, tup_ref, fLc, iRg, rng_1, rng_2, wipeS_c, wipeS_n, iPq, iSq, seq_tup, seq_lst, seq_bor, lst_lst, lst_bor, gdS_d, gdS_b, sFor, gNm, gcS_c, gcS_n, gcO_d, gcO_n, mapp, rcv_0, rcv_1, rcv_l, gcO_r0, gcO_r1, gcO_z, seal_d, eq_self, List.take_nil, List.cons_append]; exact z .no ds3 (by cases e <;> trivial) hp (t3.mono (by omega))
    split
    · rename_i hn0
      split
      · obtain ⟨k, rfl⟩ := Int.eq_ofNat_of_zero_le k0
        refine z (.name k) ds2 ?_ (cS_pos e) (t2.mono (by omega))
        have : k < n := by
          split at k1 <;> omega
        cases e <;> exact this
      · exact two _ fun u ds3 u0 u1 t3 => by simp only [sSeq, sIf, sSet, sSub, sRet, sRetN, sNil, sDrop, sAsg, sPar, sParT, sAug, cP, bB, bTr, bNt, bAn, bOr, po1, po2, poN, pArgs, poIf, poAn, poOr, poNt, poTup, plLst, plN, pl2, pl1, pFz, pV, pC, eP, eo1, eo2, eoN, aP, aNil, aCons, eAn, eOr, eNt, eIf, eFz, eNw, fP, fN, f2, f1, tTupE, tLstF, tTr, tTb, tAn, tOrr, tNt, tYs, eSeal, eMt, poMt, mPure, eCh, pCh, ok_bind, ok_map, ok_some, ok_none, ok_gd, ok_ite, List.getElem?_cons_zero, List.getElem?_cons_succ, List.set_cons_zero, List.set_cons_succ, Option.join_some, Option.bind_some, Option.map_some, Option.bind_none, Option.map_none, ix_ref, ix_tup, ix_lst, ix_bor, ix_scr, add_int, add_str, add_tup, sub_int, mul_int, fdiv_int, mod_int, pow_int, neg_int, lt_int, le_int, gt_int, ge_int, eq_int, eq_str, eq_bl, ne_int, ne_str, ne_bl, is_bl, isnt_bl, is_non, isnt_non, len_tup, len_lst, len_ref, len_bor, len_scr, int_bl, int_int, abs_int, min_int, max_int, blD_bl, cell_lst, st_ref, at_0, at_1, at_2, at_3, at_4, ixN_10, ixN_20, ixN_21, ixN_30, ixN_31, ixN_32, dataS_d, datas_nil, datas_cons, truth_bl, notD, intS, blS, nonB, List.length_cons, List.length_nil, Nat.reduceAdd, endsF_rt, endsF_nx, rvQ_d, rvQ_new, rv_d, rv_ref, okRef_d, okRef_ref, List.not_mem_nil, List.nil_append, true_and, and_true, List.take_succ_cons, List.take_zero, Nat.zero_add, decide_eq_true_eq, Bool.false_eq_true, if_false, if_true, callS, handS_n, handS_tr, handS_fr, handS_fd, handS_fb, cellsAt_c, cellsAt_0, Option.getD_some, backS_0, backS_1, eCall, tup_lst, tup_tup, tup_ref, fLc, iRg, rng_1, rng_2, wipeS_c, wipeS_n, iPq, iSq, seq_tup, seq_lst, seq_bor, lst_lst, lst_bor, gdS_d, gdS_b, sFor, gNm, gcS_c, gcS_n, gcO_d, gcO_n, mapp, rcv_0, rcv_1, rcv_l, gcO_r0, gcO_r1, gcO_z, seal_d, eq_self, List.take_nil, List.cons_append]; exact leaf u ds3 u0 u1 t3
    · exact two _ fun u ds3 u0 u1 t3 => by simp only [sSeq, sIf, sSet, sSub, sRet, sRetN, sNil, sDrop, sAsg, sPar, sParT, sAug, cP, bB, bTr, bNt, bAn, bOr, po1, po2, poN, pArgs, poIf, poAn, poOr, poNt, poTup, plLst, plN, pl2, pl1, pFz, pV, pC, eP, eo1, eo2, eoN, aP, aNil, aCons, eAn, eOr, eNt, eIf, eFz, eNw, fP, fN, f2, f1, tTupE, tLstF, tTr, tTb, tAn, tOrr, tNt, tYs, eSeal, eMt, poMt, mPure, eCh, pCh, ok_bind, ok_map, ok_some, ok_none, ok_gd, ok_ite, List.getElem?_cons_zero, List.getElem?_cons_succ, List.set_cons_zero, List.set_cons_succ, Option.join_some, Option.bind_some, Option.map_some, Option.bind_none, Option.map_none, ix_ref, ix_tup, ix_lst, ix_bor, ix_scr, add_int, add_str, add_tup, sub_int, mul_int, fdiv_int, mod_int, pow_int, neg_int, lt_int, le_int, gt_int, ge_int, eq_int, eq_str, eq_bl, ne_int, ne_str, ne_bl, is_bl, isnt_bl, is_non, isnt_non, len_tup, len_lst, len_ref, len_bor, len_scr, int_bl, int_int, abs_int, min_int, max_int, blD_bl, cell_lst, st_ref, at_0, at_1, at_2, at_3, at_4, ixN_10, ixN_20, ixN_21, ixN_30, ixN_31, ixN_32, dataS_d, datas_nil, datas_cons, truth_bl, notD, intS, blS, nonB, List.length_cons, List.length_nil, Nat.reduceAdd, endsF_rt, endsF_nx, rvQ_d, rvQ_new, rv_d, rv_ref, okRef_d, okRef_ref, List.not_mem_nil, List.nil_append, true_and, and_true, List.take_succ_cons, List.take_zero, Nat.zero_add, decide_eq_true_eq, Bool.false_eq_true, if_false, if_true, callS, handS_n, handS_tr, handS_fr, handS_fd, handS_fb, cellsAt_c, cellsAt_0, Option.getD_some, backS_0, backS_1, eCall, tup_lst, tup_tup, tup_ref, fLc, iRg, rng_1, rng_2, wipeS_c, wipeS_n, iPq, iSq, seq_tup, seq_lst, seq_bor, lst_lst, lst_bor, gdS_d, gdS_b, sFor, gNm, gcS_c, gcS_n, gcO_d, gcO_n, mapp, rcv_0, rcv_1, rcv_l, gcO_r0, gcO_r1, gcO_z, seal_d, eq_self, List.take_nil, List.cons_append]; exact leaf u ds3 u0 u1 t3
  · obtain ⟨e, rfl⟩ : ∃ e', e = e' + 1 := ⟨e - 1, by omega⟩
    have hp := cS_pos e
    have e1 : ((e + 1 : Nat) : Int) - 1 = (e : Int) := by omega
    simp only [cC, cS] at hb hc z ⊢
    rw [e1]
    have rec_ : ∀ (c0 : Nat) (ds2 : List D) (R : Rv → Mem → Prop), Tp c0 ds2 → c0 + cC e < 1099511627776 → (∀ (c : Cm) ds3, c.ok n e → c.sz ≤ cS e → Tp (c0 + cC e) ds3 → R (.d (cD c)) [.lst ds3]) →
        spB sp_claim d [.ref 0, .d (.int n), .d (.int e)] [.lst ds2] R := fun c0 ds2 R t h1 h2 => ⟨e, by omega, ds2, n, c0, rfl, rfl, t, h1, hn, h2⟩
    have h3 := cC_pos e
    split
    · refine ⟨ds1, 5, b + 1, rfl, rfl, t1, by omega, by decide, by decide, fun u ds3 u0 u1 t3 => ?_⟩
      simp only [sSeq, sIf, sSet, sSub, sRet, sRetN, sNil, sDrop, sAsg, sPar, sParT, sAug, cP, bB, bTr, bNt, bAn, bOr, po1, po2, poN, pArgs, poIf, poAn, poOr, poNt, poTup, plLst, plN, pl2, pl1, pFz, pV, pC, eP, eo1, eo2, eoN, aP, aNil, aCons, eAn, eOr, eNt, eIf, eFz, eNw, fP, fN, f2, f1, tTupE, tLstF, tTr, tTb, tAn, tOrr, tNt, tYs, eSeal, eMt, poMt, mPure, eCh, pCh, ok_bind, ok_map, ok_some, ok_none, ok_gd, ok_ite, List.getElem?_cons_zero, List.getElem?_cons_succ, List.set_cons_zero, List.set_cons_succ, Option.join_some, Option.bind_some, Option.map_some, Option.bind_none, Option.map_none, ix_ref, ix_tup, ix_lst, ix_bor, ix_scr, add_int, add_str, add_tup, sub_int, mul_int, fdiv_int, mod_int, pow_int, neg_int, lt_int, le_int, gt_int, ge_int, eq_int, eq_str, eq_bl, ne_int, ne_str, ne_bl, is_bl, isnt_bl, is_non, isnt_non, len_tup, len_lst, len_ref, len_bor, len_scr, int_bl, int_int, abs_int, min_int, max_int, blD_bl, cell_lst, st_ref, at_0, at_1, at_2, at_3, at_4, ixN_10, ixN_20, ixN_21, ixN_30, ixN_31, ixN_32, dataS_d, datas_nil, datas_cons, truth_bl, notD, intS, blS, nonB, List.length_cons, List.length_nil, Nat.reduceAdd, endsF_rt, endsF_nx, rvQ_d, rvQ_new, rv_d, rv_ref, okRef_d, okRef_ref, List.not_mem_nil, List.nil_append, true_and, and_true, List.take_succ_cons, List.take_zero, Nat.zero_add, decide_eq_true_eq, Bool.false_eq_true, if_false, if_true, callS, handS_n, handS_tr, handS_fr, handS_fd, handS_fb, cellsAt_c, cellsAt_0, Option.getD_some, backS_0, backS_1, eCall, tup_lst, tup_tup, tup_ref, fLc, iRg, rng_1, rng_2, wipeS_c, wipeS_n, iPq, iSq, seq_tup, seq_lst, seq_bor, lst_lst, lst_bor, gdS_d, gdS_b, sFor, gNm, gcS_c, gcS_n, gcO_d, gcO_n, mapp, rcv_0, rcv_1, rcv_l, gcO_r0, gcO_r1, gcO_z, seal_d, eq_self, List.take_nil, List.cons_append]
      have hu : u = 0 ∨ u = 1 ∨ u = 2 ∨ u = 3 ∨ u = 4 := by omega
      have t4 := t3.mono (c := b + (3 + 4 * cC e)) (by omega)
      rcases hu with rfl | rfl | rfl | rfl | rfl <;> simp only [sSeq, sIf, sSet, sSub, sRet, sRetN, sNil, sDrop, sAsg, sPar, sParT, sAug, cP, bB, bTr, bNt, bAn, bOr, po1, po2, poN, pArgs, poIf, poAn, poOr, poNt, poTup, plLst, plN, pl2, pl1, pFz, pV, pC, eP, eo1, eo2, eoN, aP, aNil, aCons, eAn, eOr, eNt, eIf, eFz, eNw, fP, fN, f2, f1, tTupE, tLstF, tTr, tTb, tAn, tOrr, tNt, tYs, eSeal, eMt, poMt, mPure, eCh, pCh, ok_bind, ok_map, ok_some, ok_none, ok_gd, ok_ite, List.getElem?_cons_zero, List.getElem?_cons_succ, List.set_cons_zero, List.set_cons_succ, Option.join_some, Option.bind_some, Option.map_some, Option.bind_none, Option.map_none, ix_ref, ix_tup, ix_lst, ix_bor, ix_scr, add_int, add_str, add_tup, sub_int, mul_int, fdiv_int, mod_int, pow_int, neg_int, lt_int, le_int, gt_int, ge_int, eq_int, eq_str, eq_bl, ne_int, ne_str, ne_bl, is_bl, isnt_bl, is_non, isnt_non, len_tup, len_lst, len_ref, len_bor, len_scr, int_bl, int_int, abs_int, min_int, max_int, blD_bl, cell_lst, st_ref, at_0, at_1, at_2, at_3, at_4, ixN_10, ixN_20, ixN_21, ixN_30, ixN_31, ixN_32, dataS_d, datas_nil, datas_cons, truth_bl, notD, intS, blS, nonB, List.length_cons, List.length_nil, Nat.reduceAdd, endsF_rt, endsF_nx, rvQ_d, rvQ_new, rv_d, rv_ref, okRef_d, okRef_ref, List.not_mem_nil, List.nil_append, true_and, and_true, List.take_succ_cons, List.take_zero, Nat.zero_add, decide_eq_true_eq, Bool.false_eq_true, if_false, if_true, callS, handS_n, handS_tr, handS_fr, handS_fd, handS_fb, cellsAt_c, cellsAt_0, Option.getD_some, backS_0, backS_1, eCall, tup_lst, tup_tup, tup_ref, fLc, iRg, rng_1, rng_2, wipeS_c, wipeS_n, iPq, iSq, seq_tup, seq_lst, seq_bor, lst_lst, lst_bor, gdS_d, gdS_b, sFor, gNm, gcS_c, gcS_n, gcO_d, gcO_n, mapp, rcv_0, rcv_1, rcv_l, gcO_r0, gcO_r1, gcO_z, seal_d, eq_self, List.take_nil, List.cons_append]
      · exact z .yes ds3 trivial (by simp only [Cm.sz]; omega) t4
      · exact z .no ds3 trivial (by simp only [Cm.sz]; omega) t4
      · exact z (.all []) ds3 trivial (by simp only [Cm.sz, Cm.szs]; omega) t4
      · exact z (.any []) ds3 trivial (by simp only [Cm.sz, Cm.szs]; omega) t4
      · exact z (.least 0 []) ds3 ⟨by decide, trivial⟩ (by simp only [Cm.sz, Cm.szs]; omega) t4
    split
    · refine rec_ (b + 1) ds1 _ t1 (by omega) fun c ds3 h1 h2 t3 => ?_
      simp only [sSeq, sIf, sSet, sSub, sRet, sRetN, sNil, sDrop, sAsg, sPar, sParT, sAug, cP, bB, bTr, bNt, bAn, bOr, po1, po2, poN, pArgs, poIf, poAn, poOr, poNt, poTup, plLst, plN, pl2, pl1, pFz, pV, pC, eP, eo1, eo2, eoN, aP, aNil, aCons, eAn, eOr, eNt, eIf, eFz, eNw, fP, fN, f2, f1, tTupE, tLstF, tTr, tTb, tAn, tOrr, tNt, tYs, eSeal, eMt, poMt, mPure, eCh, pCh, ok_bind, ok_map, ok_some, ok_none, ok_gd, ok_ite, List.getElem?_cons_zero, List.getElem?_cons_succ, List.set_cons_zero, List.set_cons_succ, Option.join_some, Option.bind_some, Option.map_some, Option.bind_none, Option.map_none, ix_ref, ix_tup, ix_lst, ix_bor, ix_scr, add_int, add_str, add_tup, sub_int, mul_int, fdiv_int, mod_int, pow_int, neg_int, lt_int, le_int, gt_int, ge_int, eq_int, eq_str, eq_bl, ne_int, ne_str, ne_bl, is_bl, isnt_bl, is_non, isnt_non, len_tup, len_lst, len_ref, len_bor, len_scr, int_bl, int_int, abs_int, min_int, max_int, blD_bl, cell_lst, st_ref, at_0, at_1, at_2, at_3, at_4, ixN_10, ixN_20, ixN_21, ixN_30, ixN_31, ixN_32, dataS_d, datas_nil, datas_cons, truth_bl, notD, intS, blS, nonB, List.length_cons, List.length_nil, Nat.reduceAdd, endsF_rt, endsF_nx, rvQ_d, rvQ_new, rv_d, rv_ref, okRef_d, okRef_ref, List.not_mem_nil, List.nil_append, true_and, and_true, List.take_succ_cons, List.take_zero, Nat.zero_add, decide_eq_true_eq, Bool.false_eq_true, if_false, if_true, callS, handS_n, handS_tr, handS_fr, handS_fd, handS_fb, cellsAt_c, cellsAt_0, Option.getD_some, backS_0, backS_1, eCall, tup_lst, tup_tup, tup_ref, fLc, iRg, rng_1, rng_2, wipeS_c, wipeS_n, iPq, iSq, seq_tup, seq_lst, seq_bor, lst_lst, lst_bor, gdS_d, gdS_b, sFor, gNm, gcS_c, gcS_n, gcO_d, gcO_n, mapp, rcv_0, rcv_1, rcv_l, gcO_r0, gcO_r1, gcO_z, seal_d, eq_self, List.take_nil, List.cons_append]
      exact z (.neg c) ds3 h1 (by simp only [Cm.sz]; omega) (t3.mono (by omega))
    split
    · refine rec_ (b + 1) ds1 _ t1 (by omega) fun c ds3 h1 h2 t3 => ?_
      simp only [sSeq, sIf, sSet, sSub, sRet, sRetN, sNil, sDrop, sAsg, sPar, sParT, sAug, cP, bB, bTr, bNt, bAn, bOr, po1, po2, poN, pArgs, poIf, poAn, poOr, poNt, poTup, plLst, plN, pl2, pl1, pFz, pV, pC, eP, eo1, eo2, eoN, aP, aNil, aCons, eAn, eOr, eNt, eIf, eFz, eNw, fP, fN, f2, f1, tTupE, tLstF, tTr, tTb, tAn, tOrr, tNt, tYs, eSeal, eMt, poMt, mPure, eCh, pCh, ok_bind, ok_map, ok_some, ok_none, ok_gd, ok_ite, List.getElem?_cons_zero, List.getElem?_cons_succ, List.set_cons_zero, List.set_cons_succ, Option.join_some, Option.bind_some, Option.map_some, Option.bind_none, Option.map_none, ix_ref, ix_tup, ix_lst, ix_bor, ix_scr, add_int, add_str, add_tup, sub_int, mul_int, fdiv_int, mod_int, pow_int, neg_int, lt_int, le_int, gt_int, ge_int, eq_int, eq_str, eq_bl, ne_int, ne_str, ne_bl, is_bl, isnt_bl, is_non, isnt_non, len_tup, len_lst, len_ref, len_bor, len_scr, int_bl, int_int, abs_int, min_int, max_int, blD_bl, cell_lst, st_ref, at_0, at_1, at_2, at_3, at_4, ixN_10, ixN_20, ixN_21, ixN_30, ixN_31, ixN_32, dataS_d, datas_nil, datas_cons, truth_bl, notD, intS, blS, nonB, List.length_cons, List.length_nil, Nat.reduceAdd, endsF_rt, endsF_nx, rvQ_d, rvQ_new, rv_d, rv_ref, okRef_d, okRef_ref, List.not_mem_nil, List.nil_append, true_and, and_true, List.take_succ_cons, List.take_zero, Nat.zero_add, decide_eq_true_eq, Bool.false_eq_true, if_false, if_true, callS, handS_n, handS_tr, handS_fr, handS_fd, handS_fb, cellsAt_c, cellsAt_0, Option.getD_some, backS_0, backS_1, eCall, tup_lst, tup_tup, tup_ref, fLc, iRg, rng_1, rng_2, wipeS_c, wipeS_n, iPq, iSq, seq_tup, seq_lst, seq_bor, lst_lst, lst_bor, gdS_d, gdS_b, sFor, gNm, gcS_c, gcS_n, gcO_d, gcO_n, mapp, rcv_0, rcv_1, rcv_l, gcO_r0, gcO_r1, gcO_z, seal_d, eq_self, List.take_nil, List.cons_append]
      refine rec_ _ ds3 _ t3 (by omega) fun c' ds4 h1' h2' t4 => ?_
      simp only [sSeq, sIf, sSet, sSub, sRet, sRetN, sNil, sDrop, sAsg, sPar, sParT, sAug, cP, bB, bTr, bNt, bAn, bOr, po1, po2, poN, pArgs, poIf, poAn, poOr, poNt, poTup, plLst, plN, pl2, pl1, pFz, pV, pC, eP, eo1, eo2, eoN, aP, aNil, aCons, eAn, eOr, eNt, eIf, eFz, eNw, fP, fN, f2, f1, tTupE, tLstF, tTr, tTb, tAn, tOrr, tNt, tYs, eSeal, eMt, poMt, mPure, eCh, pCh, ok_bind, ok_map, ok_some, ok_none, ok_gd, ok_ite, List.getElem?_cons_zero, List.getElem?_cons_succ, List.set_cons_zero, List.set_cons_succ, Option.join_some, Option.bind_some, Option.map_some, Option.bind_none, Option.map_none, ix_ref, ix_tup, ix_lst, ix_bor, ix_scr, add_int, add_str, add_tup, sub_int, mul_int, fdiv_int, mod_int, pow_int, neg_int, lt_int, le_int, gt_int, ge_int, eq_int, eq_str, eq_bl, ne_int, ne_str, ne_bl, is_bl, isnt_bl, is_non, isnt_non, len_tup, len_lst, len_ref, len_bor, len_scr, int_bl, int_int, abs_int, min_int, max_int, blD_bl, cell_lst, st_ref, at_0, at_1, at_2, at_3, at_4, ixN_10, ixN_20, ixN_21, ixN_30, ixN_31, ixN_32, dataS_d, datas_nil, datas_cons, truth_bl, notD, intS, blS, nonB, List.length_cons, List.length_nil, Nat.reduceAdd, endsF_rt, endsF_nx, rvQ_d, rvQ_new, rv_d, rv_ref, okRef_d, okRef_ref, List.not_mem_nil, List.nil_append, true_and, and_true, List.take_succ_cons, List.take_zero, Nat.zero_add, decide_eq_true_eq, Bool.false_eq_true, if_false, if_true, callS, handS_n, handS_tr, handS_fr, handS_fd, handS_fb, cellsAt_c, cellsAt_0, Option.getD_some, backS_0, backS_1, eCall, tup_lst, tup_tup, tup_ref, fLc, iRg, rng_1, rng_2, wipeS_c, wipeS_n, iPq, iSq, seq_tup, seq_lst, seq_bor, lst_lst, lst_bor, gdS_d, gdS_b, sFor, gNm, gcS_c, gcS_n, gcO_d, gcO_n, mapp, rcv_0, rcv_1, rcv_l, gcO_r0, gcO_r1, gcO_z, seal_d, eq_self, List.take_nil, List.cons_append]
      exact z (.same c c') ds4 ⟨h1, h1'⟩ (by simp only [Cm.sz]; omega) (t4.mono (by omega))
    · refine ⟨ds1, 4, b + 1, rfl, rfl, t1, by omega, by decide, by decide, fun u ds2 u0 u1 t2 => ?_⟩
      obtain ⟨u, rfl⟩ := Int.eq_ofNat_of_zero_le u0
      have e2 : ((1 : Int) + (u : Int)).toNat = u + 1 := by omega
      simp only [sSeq, sIf, sSet, sSub, sRet, sRetN, sNil, sDrop, sAsg, sPar, sParT, sAug, cP, bB, bTr, bNt, bAn, bOr, po1, po2, poN, pArgs, poIf, poAn, poOr, poNt, poTup, plLst, plN, pl2, pl1, pFz, pV, pC, eP, eo1, eo2, eoN, aP, aNil, aCons, eAn, eOr, eNt, eIf, eFz, eNw, fP, fN, f2, f1, tTupE, tLstF, tTr, tTb, tAn, tOrr, tNt, tYs, eSeal, eMt, poMt, mPure, eCh, pCh, ok_bind, ok_map, ok_some, ok_none, ok_gd, ok_ite, List.getElem?_cons_zero, List.getElem?_cons_succ, List.set_cons_zero, List.set_cons_succ, Option.join_some, Option.bind_some, Option.map_some, Option.bind_none, Option.map_none, ix_ref, ix_tup, ix_lst, ix_bor, ix_scr, add_int, add_str, add_tup, sub_int, mul_int, fdiv_int, mod_int, pow_int, neg_int, lt_int, le_int, gt_int, ge_int, eq_int, eq_str, eq_bl, ne_int, ne_str, ne_bl, is_bl, isnt_bl, is_non, isnt_non, len_tup, len_lst, len_ref, len_bor, len_scr, int_bl, int_int, abs_int, min_int, max_int, blD_bl, cell_lst, st_ref, at_0, at_1, at_2, at_3, at_4, ixN_10, ixN_20, ixN_21, ixN_30, ixN_31, ixN_32, dataS_d, datas_nil, datas_cons, truth_bl, notD, intS, blS, nonB, List.length_cons, List.length_nil, Nat.reduceAdd, endsF_rt, endsF_nx, rvQ_d, rvQ_new, rv_d, rv_ref, okRef_d, okRef_ref, List.not_mem_nil, List.nil_append, true_and, and_true, List.take_succ_cons, List.take_zero, Nat.zero_add, decide_eq_true_eq, Bool.false_eq_true, if_false, if_true, callS, handS_n, handS_tr, handS_fr, handS_fd, handS_fb, cellsAt_c, cellsAt_0, Option.getD_some, backS_0, backS_1, eCall, tup_lst, tup_tup, tup_ref, fLc, iRg, rng_1, rng_2, wipeS_c, wipeS_n, iPq, iSq, seq_tup, seq_lst, seq_bor, lst_lst, lst_bor, gdS_d, gdS_b, sFor, gNm, gcS_c, gcS_n, gcO_d, gcO_n, mapp, rcv_0, rcv_1, rcv_l, gcO_r0, gcO_r1, gcO_z, seal_d, eq_self, List.take_nil, List.cons_append, e2, rgL_len]
      refine ⟨⟨by omega, by omega⟩, fun _ => by rw [sizeLine_eq]; omega, ?_⟩
      refine lc_inv (fun rest acc M => ∃ cs ds3, acc = cDs cs ∧ M = [.lst ds3] ∧ Cm.oks n e cs ∧ Cm.szs cs ≤ cs.length * cS e ∧ cs.length + rest.length = u + 1 ∧ Tp (b + 2 + cs.length * cC e) ds3) ?_ ?_ _ _ _ ⟨[], ds2, rfl, rfl, trivial, by simp [Cm.szs], by simp [rgL_len], by simpa using t2⟩
      · rintro acc M ⟨cs, ds3, rfl, rfl, o3, s3, l3, t3⟩
        simp only [List.length_nil, Nat.add_zero] at l3
        have m1 : cs.length * cS e ≤ 4 * cS e := Nat.mul_le_mul_right _ (by omega)
        have m2 : cs.length * cC e ≤ 4 * cC e := Nat.mul_le_mul_right _ (by omega)
        refine ⟨trivial, ?_⟩
        simp only [sSeq, sIf, sSet, sSub, sRet, sRetN, sNil, sDrop, sAsg, sPar, sParT, sAug, cP, bB, bTr, bNt, bAn, bOr, po1, po2, poN, pArgs, poIf, poAn, poOr, poNt, poTup, plLst, plN, pl2, pl1, pFz, pV, pC, eP, eo1, eo2, eoN, aP, aNil, aCons, eAn, eOr, eNt, eIf, eFz, eNw, fP, fN, f2, f1, tTupE, tLstF, tTr, tTb, tAn, tOrr, tNt, tYs, eSeal, eMt, poMt, mPure, eCh, pCh, ok_bind, ok_map, ok_some, ok_none, ok_gd, ok_ite, List.getElem?_cons_zero, List.getElem?_cons_succ, List.set_cons_zero, List.set_cons_succ, Option.join_some, Option.bind_some, Option.map_some, Option.bind_none, Option.map_none, ix_ref, ix_tup, ix_lst, ix_bor, ix_scr, add_int, add_str, add_tup, sub_int, mul_int, fdiv_int, mod_int, pow_int, neg_int, lt_int, le_int, gt_int, ge_int, eq_int, eq_str, eq_bl, ne_int, ne_str, ne_bl, is_bl, isnt_bl, is_non, isnt_non, len_tup, len_lst, len_ref, len_bor, len_scr, int_bl, int_int, abs_int, min_int, max_int, blD_bl, cell_lst, st_ref, at_0, at_1, at_2, at_3, at_4, ixN_10, ixN_20, ixN_21, ixN_30, ixN_31, ixN_32, dataS_d, datas_nil, datas_cons, truth_bl, notD, intS, blS, nonB, List.length_cons, List.length_nil, Nat.reduceAdd, endsF_rt, endsF_nx, rvQ_d, rvQ_new, rv_d, rv_ref, okRef_d, okRef_ref, List.not_mem_nil, List.nil_append, true_and, and_true, List.take_succ_cons, List.take_zero, Nat.zero_add, decide_eq_true_eq, Bool.false_eq_true, if_false, if_true, callS, handS_n, handS_tr, handS_fr, handS_fd, handS_fb, cellsAt_c, cellsAt_0, Option.getD_some, backS_0, backS_1, eCall, tup_lst, tup_tup, tup_ref, fLc, iRg, rng_1, rng_2, wipeS_c, wipeS_n, iPq, iSq, seq_tup, seq_lst, seq_bor, lst_lst, lst_bor, gdS_d, gdS_b, sFor, gNm, gcS_c, gcS_n, gcO_d, gcO_n, mapp, rcv_0, rcv_1, rcv_l, gcO_r0, gcO_r1, gcO_z, seal_d, eq_self, List.take_nil, List.cons_append]
        split
        · refine ⟨ds3, _, b + 2 + cs.length * cC e, rfl, rfl, t3, by omega, by rw [cDs_len]; omega, by rw [cDs_len]; omega, fun v ds4 v0 v1 t4 => ?_⟩
          obtain ⟨v, rfl⟩ := Int.eq_ofNat_of_zero_le v0
          simp only [sSeq, sIf, sSet, sSub, sRet, sRetN, sNil, sDrop, sAsg, sPar, sParT, sAug, cP, bB, bTr, bNt, bAn, bOr, po1, po2, poN, pArgs, poIf, poAn, poOr, poNt, poTup, plLst, plN, pl2, pl1, pFz, pV, pC, eP, eo1, eo2, eoN, aP, aNil, aCons, eAn, eOr, eNt, eIf, eFz, eNw, fP, fN, f2, f1, tTupE, tLstF, tTr, tTb, tAn, tOrr, tNt, tYs, eSeal, eMt, poMt, mPure, eCh, pCh, ok_bind, ok_map, ok_some, ok_none, ok_gd, ok_ite, List.getElem?_cons_zero, List.getElem?_cons_succ, List.set_cons_zero, List.set_cons_succ, Option.join_some, Option.bind_some, Option.map_some, Option.bind_none, Option.map_none, ix_ref, ix_tup, ix_lst, ix_bor, ix_scr, add_int, add_str, add_tup, sub_int, mul_int, fdiv_int, mod_int, pow_int, neg_int, lt_int, le_int, gt_int, ge_int, eq_int, eq_str, eq_bl, ne_int, ne_str, ne_bl, is_bl, isnt_bl, is_non, isnt_non, len_tup, len_lst, len_ref, len_bor, len_scr, int_bl, int_int, abs_int, min_int, max_int, blD_bl, cell_lst, st_ref, at_0, at_1, at_2, at_3, at_4, ixN_10, ixN_20, ixN_21, ixN_30, ixN_31, ixN_32, dataS_d, datas_nil, datas_cons, truth_bl, notD, intS, blS, nonB, List.length_cons, List.length_nil, Nat.reduceAdd, endsF_rt, endsF_nx, rvQ_d, rvQ_new, rv_d, rv_ref, okRef_d, okRef_ref, List.not_mem_nil, List.nil_append, true_and, and_true, List.take_succ_cons, List.take_zero, Nat.zero_add, decide_eq_true_eq, Bool.false_eq_true, if_false, if_true, callS, handS_n, handS_tr, handS_fr, handS_fd, handS_fb, cellsAt_c, cellsAt_0, Option.getD_some, backS_0, backS_1, eCall, tup_lst, tup_tup, tup_ref, fLc, iRg, rng_1, rng_2, wipeS_c, wipeS_n, iPq, iSq, seq_tup, seq_lst, seq_bor, lst_lst, lst_bor, gdS_d, gdS_b, sFor, gNm, gcS_c, gcS_n, gcO_d, gcO_n, mapp, rcv_0, rcv_1, rcv_l, gcO_r0, gcO_r1, gcO_z, seal_d, eq_self, List.take_nil, List.cons_append]
          rw [cDs_len] at v1
          exact z (.least v cs) ds4 ⟨by omega, o3⟩ (by simp only [Cm.sz]; omega) (t4.mono (by omega))
        · refine ⟨by decide, ?_⟩
          have hw : w % 2 = 0 ∨ w % 2 = 1 := by omega
          rcases hw with hw | hw <;> rw [hw] <;> simp only [sSeq, sIf, sSet, sSub, sRet, sRetN, sNil, sDrop, sAsg, sPar, sParT, sAug, cP, bB, bTr, bNt, bAn, bOr, po1, po2, poN, pArgs, poIf, poAn, poOr, poNt, poTup, plLst, plN, pl2, pl1, pFz, pV, pC, eP, eo1, eo2, eoN, aP, aNil, aCons, eAn, eOr, eNt, eIf, eFz, eNw, fP, fN, f2, f1, tTupE, tLstF, tTr, tTb, tAn, tOrr, tNt, tYs, eSeal, eMt, poMt, mPure, eCh, pCh, ok_bind, ok_map, ok_some, ok_none, ok_gd, ok_ite, List.getElem?_cons_zero, List.getElem?_cons_succ, List.set_cons_zero, List.set_cons_succ, Option.join_some, Option.bind_some, Option.map_some, Option.bind_none, Option.map_none, ix_ref, ix_tup, ix_lst, ix_bor, ix_scr, add_int, add_str, add_tup, sub_int, mul_int, fdiv_int, mod_int, pow_int, neg_int, lt_int, le_int, gt_int, ge_int, eq_int, eq_str, eq_bl, ne_int, ne_str, ne_bl, is_bl, isnt_bl, is_non, isnt_non, len_tup, len_lst, len_ref, len_bor, len_scr, int_bl, int_int, abs_int, min_int, max_int, blD_bl, cell_lst, st_ref, at_0, at_1, at_2, at_3, at_4, ixN_10, ixN_20, ixN_21, ixN_30, ixN_31, ixN_32, dataS_d, datas_nil, datas_cons, truth_bl, notD, intS, blS, nonB, List.length_cons, List.length_nil, Nat.reduceAdd, endsF_rt, endsF_nx, rvQ_d, rvQ_new, rv_d, rv_ref, okRef_d, okRef_ref, List.not_mem_nil, List.nil_append, true_and, and_true, List.take_succ_cons, List.take_zero, Nat.zero_add, decide_eq_true_eq, Bool.false_eq_true, if_false, if_true, callS, handS_n, handS_tr, handS_fr, handS_fd, handS_fb, cellsAt_c, cellsAt_0, Option.getD_some, backS_0, backS_1, eCall, tup_lst, tup_tup, tup_ref, fLc, iRg, rng_1, rng_2, wipeS_c, wipeS_n, iPq, iSq, seq_tup, seq_lst, seq_bor, lst_lst, lst_bor, gdS_d, gdS_b, sFor, gNm, gcS_c, gcS_n, gcO_d, gcO_n, mapp, rcv_0, rcv_1, rcv_l, gcO_r0, gcO_r1, gcO_z, seal_d, eq_self, List.take_nil, List.cons_append]
          · exact z (.all cs) ds3 o3 (by simp only [Cm.sz]; omega) (t3.mono (by omega))
          · exact z (.any cs) ds3 o3 (by simp only [Cm.sz]; omega) (t3.mono (by omega))
      · rintro x rest acc M R ⟨cs, ds3, rfl, rfl, o3, s3, l3, t3⟩ k
        simp only [List.length_cons] at l3
        refine ⟨trivial, ?_⟩
        have m2 : cs.length * cC e ≤ 3 * cC e := Nat.mul_le_mul_right _ (by omega)
        simp only [sSeq, sIf, sSet, sSub, sRet, sRetN, sNil, sDrop, sAsg, sPar, sParT, sAug, cP, bB, bTr, bNt, bAn, bOr, po1, po2, poN, pArgs, poIf, poAn, poOr, poNt, poTup, plLst, plN, pl2, pl1, pFz, pV, pC, eP, eo1, eo2, eoN, aP, aNil, aCons, eAn, eOr, eNt, eIf, eFz, eNw, fP, fN, f2, f1, tTupE, tLstF, tTr, tTb, tAn, tOrr, tNt, tYs, eSeal, eMt, poMt, mPure, eCh, pCh, ok_bind, ok_map, ok_some, ok_none, ok_gd, ok_ite, List.getElem?_cons_zero, List.getElem?_cons_succ, List.set_cons_zero, List.set_cons_succ, Option.join_some, Option.bind_some, Option.map_some, Option.bind_none, Option.map_none, ix_ref, ix_tup, ix_lst, ix_bor, ix_scr, add_int, add_str, add_tup, sub_int, mul_int, fdiv_int, mod_int, pow_int, neg_int, lt_int, le_int, gt_int, ge_int, eq_int, eq_str, eq_bl, ne_int, ne_str, ne_bl, is_bl, isnt_bl, is_non, isnt_non, len_tup, len_lst, len_ref, len_bor, len_scr, int_bl, int_int, abs_int, min_int, max_int, blD_bl, cell_lst, st_ref, at_0, at_1, at_2, at_3, at_4, ixN_10, ixN_20, ixN_21, ixN_30, ixN_31, ixN_32, dataS_d, datas_nil, datas_cons, truth_bl, notD, intS, blS, nonB, List.length_cons, List.length_nil, Nat.reduceAdd, endsF_rt, endsF_nx, rvQ_d, rvQ_new, rv_d, rv_ref, okRef_d, okRef_ref, List.not_mem_nil, List.nil_append, true_and, and_true, List.take_succ_cons, List.take_zero, Nat.zero_add, decide_eq_true_eq, Bool.false_eq_true, if_false, if_true, callS, handS_n, handS_tr, handS_fr, handS_fd, handS_fb, cellsAt_c, cellsAt_0, Option.getD_some, backS_0, backS_1, eCall, tup_lst, tup_tup, tup_ref, fLc, iRg, rng_1, rng_2, wipeS_c, wipeS_n, iPq, iSq, seq_tup, seq_lst, seq_bor, lst_lst, lst_bor, gdS_d, gdS_b, sFor, gNm, gcS_c, gcS_n, gcO_d, gcO_n, mapp, rcv_0, rcv_1, rcv_l, gcO_r0, gcO_r1, gcO_z, seal_d, eq_self, List.take_nil, List.cons_append, e1]
        refine rec_ _ ds3 _ t3 (by omega) fun c ds4 h1 h2 t4 => ?_
        simp only [sSeq, sIf, sSet, sSub, sRet, sRetN, sNil, sDrop, sAsg, sPar, sParT, sAug, cP, bB, bTr, bNt, bAn, bOr, po1, po2, poN, pArgs, poIf, poAn, poOr, poNt, poTup, plLst, plN, pl2, pl1, pFz, pV, pC, eP, eo1, eo2, eoN, aP, aNil, aCons, eAn, eOr, eNt, eIf, eFz, eNw, fP, fN, f2, f1, tTupE, tLstF, tTr, tTb, tAn, tOrr, tNt, tYs, eSeal, eMt, poMt, mPure, eCh, pCh, ok_bind, ok_map, ok_some, ok_none, ok_gd, ok_ite, List.getElem?_cons_zero, List.getElem?_cons_succ, List.set_cons_zero, List.set_cons_succ, Option.join_some, Option.bind_some, Option.map_some, Option.bind_none, Option.map_none, ix_ref, ix_tup, ix_lst, ix_bor, ix_scr, add_int, add_str, add_tup, sub_int, mul_int, fdiv_int, mod_int, pow_int, neg_int, lt_int, le_int, gt_int, ge_int, eq_int, eq_str, eq_bl, ne_int, ne_str, ne_bl, is_bl, isnt_bl, is_non, isnt_non, len_tup, len_lst, len_ref, len_bor, len_scr, int_bl, int_int, abs_int, min_int, max_int, blD_bl, cell_lst, st_ref, at_0, at_1, at_2, at_3, at_4, ixN_10, ixN_20, ixN_21, ixN_30, ixN_31, ixN_32, dataS_d, datas_nil, datas_cons, truth_bl, notD, intS, blS, nonB, List.length_cons, List.length_nil, Nat.reduceAdd, endsF_rt, endsF_nx, rvQ_d, rvQ_new, rv_d, rv_ref, okRef_d, okRef_ref, List.not_mem_nil, List.nil_append, true_and, and_true, List.take_succ_cons, List.take_zero, Nat.zero_add, decide_eq_true_eq, Bool.false_eq_true, if_false, if_true, callS, handS_n, handS_tr, handS_fr, handS_fd, handS_fb, cellsAt_c, cellsAt_0, Option.getD_some, backS_0, backS_1, eCall, tup_lst, tup_tup, tup_ref, fLc, iRg, rng_1, rng_2, wipeS_c, wipeS_n, iPq, iSq, seq_tup, seq_lst, seq_bor, lst_lst, lst_bor, gdS_d, gdS_b, sFor, gNm, gcS_c, gcS_n, gcO_d, gcO_n, mapp, rcv_0, rcv_1, rcv_l, gcO_r0, gcO_r1, gcO_z, seal_d, eq_self, List.take_nil, List.cons_append]
        refine k (cD c) _ ⟨cs ++ [c], ds4, by rw [cDs_app]; rfl, rfl, (oks_app _ _).mpr ⟨o3, h1, trivial⟩, ?_, by simp; omega, ?_⟩
        · rw [szs_app, List.length_append, List.length_singleton, Nat.add_mul]; simp only [Cm.szs]; omega
        · rw [List.length_append, List.length_singleton, Nat.add_mul]; exact t4.mono (by omega)
end VL
set_option Elab.async false
set_option linter.all false
set_option maxRecDepth 100000
set_option maxHeartbeats 1000000
/-! Plain laws: drawn claims, and claims put together. -/
namespace VL
open PySem PySem.Spec L2

mutual
theorem Cm.ok_up {n : Nat} : ∀ (d : Nat) (c : Cm), c.ok n d → c.ok n (d + 1)
  | d, .yes, _ => by cases d <;> trivial
  | d, .no, _ => by cases d <;> trivial
  | d, .name k, h => by cases d <;> exact h
  | 0, .neg c, h => h.elim
  | 0, .same _ _, h => h.elim
  | 0, .all _, h => h.elim
  | 0, .any _, h => h.elim
  | 0, .least _ _, h => h.elim
  | d + 1, .neg c, h => Cm.ok_up d c h
  | d + 1, .same a b, h => ⟨Cm.ok_up d a h.1, Cm.ok_up d b h.2⟩
  | d + 1, .all cs, h => Cm.oks_up d cs h
  | d + 1, .any cs, h => Cm.oks_up d cs h
  | d + 1, .least m cs, h => ⟨h.1, Cm.oks_up d cs h.2⟩
theorem Cm.oks_up {n : Nat} : ∀ (d : Nat) (cs : List Cm), Cm.oks n d cs → Cm.oks n (d + 1) cs
  | _, [], _ => trivial
  | d, c :: cs, h => ⟨Cm.ok_up d c h.1, Cm.oks_up d cs h.2⟩
end
def sp_any : SpD := fun as M Q => ∃ (ds : List D) (n b : Nat), as = [.ref 0, .d (.int n)] ∧ M = [.lst ds] ∧ Tp b ds ∧ b + 300 < 1099511627776 ∧ n ≤ 99990 ∧
  ∀ (c : Cm) (ds' : List D), c.ok n 3 → c.sz ≤ 100 → Tp (b + 300) ds' → Q (.d (cD c)) [.lst ds']
def r_any (sp__law_take : SpD) (sp__law_claim : SpD) : TS' :=
  (sSeq (sIf (tOrr (cP (bB (po2 ltD (pV 1) (pC (.int 2))))) (tTb (eo2 gtD (eCall [true, false] sp__law_take (aP [(pV 0), (pC (.int 4))])) (eP (pC (.int 0))))))
  (sRet (eCall [true, false, false] sp__law_claim (aP [(pV 0), (pV 1), (pC (.int 3))])))
  sNil)
  (sSeq (sSet 2 (eNw (fP (plLst []))))
  (sSeq (sFor (iRg false (aCons (eo2 addD (eP (pC (.int 2))) (eCall [true, false] sp__law_take (aP [(pV 0), (pC (.int 4))]))) (aP []))) (gNm 3)
  (sSeq (sSet 4 (eFz (fLc (iRg true (aCons (eo2 addD (eP (pC (.int 2))) (eCall [true, false] sp__law_take (aP [(pV 0), (pC (.int 2))]))) (aP []))) (.nm 6) tYs (tTupE (aCons (eP (pC (.str "name"))) (aCons (eCall [true, false] sp__law_take (aP [(pV 0), (pV 1)])) (aP [])))) [6])))
  (sSeq (sSet 4 (eo1 tupC (eFz (fLc (iPq (pV 4)) (.nm 7) tYs (eIf (tTb (eo2 eqD (eCall [true, false] sp__law_take (aP [(pV 0), (pC (.int 3))])) (eP (pC (.int 0))))) (eP (poTup [(pC (.str "not")), (pV 7)])) (eP (pV 7))) [7]))))
  (sSeq (sSet 5 (eP (pFz (plLst [(poTup [(pC (.str "or")), (pV 4)]), (poTup [(pC (.str "and")), (pV 4)]), (poTup [(pC (.str "same")), (po2 ixD (pV 4) (pC (.int 0))), (po2 ixD (pV 4) (pC (.int 1)))]), (poTup [(pC (.str "least")), (pC (.int 2)), (pV 4)])]))))
  (sDrop (eMt "list" mApp (eP (pV 2)) (aCons (eo2 ixD (eP (pV 5)) (eCall [true, false] sp__law_take (aP [(pV 0), (pC (.int 4))]))) (aP []))))))))
  (sRet (tTupE (aCons (eo2 ixD (eP (pFz (plLst [(pC (.str "and")), (pC (.str "and")), (pC (.str "or"))]))) (eCall [true, false] sp__law_take (aP [(pV 0), (pC (.int 3))]))) (aP [(po1 tupC (pV 2))])))))))
theorem take_ok {R : Rv → Mem → Prop} {n : Int} {b : Nat} {ds : List D} (t : Tp b ds) (hb : b < 1099511627776) (h1 : 1 ≤ n) (h2 : n ≤ 99999) (h : ∀ (v : Int) (ds' : List D), 0 ≤ v → v < n → Tp (b + 1) ds' → R (.d (.int v)) [.lst ds']) : sp_take [.ref 0, .d (.int n)] [.lst ds] R :=
  ⟨ds, n, b, rfl, rfl, t, hb, h1, h2, h⟩
theorem pure_any (as : List Sv) (M : Mem) (Q : Rv → Mem → Prop) (h : sp_any as M Q) : r_any sp_take (sp_claim 3) (endsF M.length Q) (startD 8 as) M := by
  obtain ⟨ds, n, b, rfl, rfl, ht, hb, hn, z⟩ := h
  show r_any sp_take (sp_claim 3) (endsF 1 Q) [some (.ref 0), some (.d (.int n)), none, none, none, none, none, none] [.lst ds]
  have big : ∀ (c0 : Nat) (ds2 : List D) (R : Rv → Mem → Prop), Tp c0 ds2 → c0 ≤ b + 1 → (∀ (c : Cm) ds3, c.ok n 3 → c.sz ≤ 100 → Tp (b + 300) ds3 → R (.d (cD c)) [.lst ds3]) → sp_claim 3 [.ref 0, .d (.int n), .d (.int 3)] [.lst ds2] R := fun c0 ds2 R t hc hR =>
    ⟨ds2, n, c0, rfl, rfl, t, by simp only [cC]; omega, hn, fun c ds3 h1 h2 t3 => hR c ds3 h1 (by simp only [cS] at h2; omega) (t3.mono (by simp only [cC]; omega))⟩
  simp only [r_any, sSeq, sIf, sSet, sSub, sRet, sRetN, sNil, sDrop, sAsg, sPar, sParT, sAug, cP, bB, bTr, bNt, bAn, bOr, po1, po2, poN, pArgs, poIf, poAn, poOr, poNt, poTup, plLst, plN, pl2, pl1, pFz, pV, pC, eP, eo1, eo2, eoN, aP, aNil, aCons, eAn, eOr, eNt, eIf, eFz, eNw, fP, fN, f2, f1, tTupE, tLstF, tTr, tTb, tAn, tOrr, tNt, tYs, eSeal, eMt, poMt, mPure, eCh, pCh, ok_bind, ok_map, ok_some, ok_none, ok_gd, ok_ite, List.getElem?_cons_zero, List.getElem?_cons_succ, List.set_cons_zero, List.set_cons_succ, Option.join_some, Option.bind_some, Option.map_some, Option.bind_none, Option.map_none, ix_ref, ix_tup, ix_lst, ix_bor, ix_scr, add_int, add_str, add_tup, sub_int, mul_int, fdiv_int, mod_int, pow_int, neg_int, lt_int, le_int, gt_int, ge_int, eq_int, eq_str, eq_bl, ne_int, ne_str, ne_bl, is_bl, isnt_bl, is_non, isnt_non, len_tup, len_lst, len_ref, len_bor, len_scr, int_bl, int_int, abs_int, min_int, max_int, blD_bl, cell_lst, st_ref, at_0, at_1, at_2, at_3, at_4, ixN_10, ixN_20, ixN_21, ixN_30, ixN_31, ixN_32, dataS_d, datas_nil, datas_cons, truth_bl, notD, intS, blS, nonB, List.length_cons, List.length_nil, Nat.reduceAdd, endsF_rt, endsF_nx, rvQ_d, rvQ_new, rv_d, rv_ref, okRef_d, okRef_ref, List.not_mem_nil, List.nil_append, true_and, and_true, List.take_succ_cons, List.take_zero, Nat.zero_add, decide_eq_true_eq, Bool.false_eq_true, if_false, if_true, callS, handS_n, handS_tr, handS_fr, handS_fd, handS_fb, cellsAt_c, cellsAt_0, Option.getD_some, backS_0, backS_1, eCall, tup_lst, tup_tup, tup_ref, fLc, iRg, rng_1, rng_2, wipeS_c, wipeS_n, iPq, iSq, seq_tup, seq_lst, seq_bor, lst_lst, lst_bor, gdS_d, gdS_b, sFor, gNm, gcS_c, gcS_n, gcO_d, gcO_n, mapp, rcv_0, rcv_1, rcv_l, gcO_r0, gcO_r1, gcO_z, seal_d, eq_self, List.take_nil, List.cons_append]
  split
  · refine big b ds _ ht (by omega) fun c ds3 h1 h2 t3 => ?_
    simp only [sSeq, sIf, sSet, sSub, sRet, sRetN, sNil, sDrop, sAsg, sPar, sParT, sAug, cP, bB, bTr, bNt, bAn, bOr, po1, po2, poN, pArgs, poIf, poAn, poOr, poNt, poTup, plLst, plN, pl2, pl1, pFz, pV, pC, eP, eo1, eo2, eoN, aP, aNil, aCons, eAn, eOr, eNt, eIf, eFz, eNw, fP, fN, f2, f1, tTupE, tLstF, tTr, tTb, tAn, tOrr, tNt, tYs, eSeal, eMt, poMt, mPure, eCh, pCh, ok_bind, ok_map, ok_some, ok_none, ok_gd, ok_ite, List.getElem?_cons_zero, List.getElem?_cons_succ, List.set_cons_zero, List.set_cons_succ, Option.join_some, Option.bind_some, Option.map_some, Option.bind_none, Option.map_none, ix_ref, ix_tup, ix_lst, ix_bor, ix_scr, add_int, add_str, add_tup, sub_int, mul_int, fdiv_int, mod_int, pow_int, neg_int, lt_int, le_int, gt_int, ge_int, eq_int, eq_str, eq_bl, ne_int, ne_str, ne_bl, is_bl, isnt_bl, is_non, isnt_non, len_tup, len_lst, len_ref, len_bor, len_scr, int_bl, int_int, abs_int, min_int, max_int, blD_bl, cell_lst, st_ref, at_0, at_1, at_2, at_3, at_4, ixN_10, ixN_20, ixN_21, ixN_30, ixN_31, ixN_32, dataS_d, datas_nil, datas_cons, truth_bl, notD, intS, blS, nonB, List.length_cons, List.length_nil, Nat.reduceAdd, endsF_rt, endsF_nx, rvQ_d, rvQ_new, rv_d, rv_ref, okRef_d, okRef_ref, List.not_mem_nil, List.nil_append, true_and, and_true, List.take_succ_cons, List.take_zero, Nat.zero_add, decide_eq_true_eq, Bool.false_eq_true, if_false, if_true, callS, handS_n, handS_tr, handS_fr, handS_fd, handS_fb, cellsAt_c, cellsAt_0, Option.getD_some, backS_0, backS_1, eCall, tup_lst, tup_tup, tup_ref, fLc, iRg, rng_1, rng_2, wipeS_c, wipeS_n, iPq, iSq, seq_tup, seq_lst, seq_bor, lst_lst, lst_bor, gdS_d, gdS_b, sFor, gNm, gcS_c, gcS_n, gcO_d, gcO_n, mapp, rcv_0, rcv_1, rcv_l, gcO_r0, gcO_r1, gcO_z, seal_d, eq_self, List.take_nil, List.cons_append]
    exact z c ds3 h1 h2 t3
  rename_i hn2
  refine take_ok ht (by omega) (by decide) (by decide) fun v ds1 v0 v1 t1 => ?_
  simp only [sSeq, sIf, sSet, sSub, sRet, sRetN, sNil, sDrop, sAsg, sPar, sParT, sAug, cP, bB, bTr, bNt, bAn, bOr, po1, po2, poN, pArgs, poIf, poAn, poOr, poNt, poTup, plLst, plN, pl2, pl1, pFz, pV, pC, eP, eo1, eo2, eoN, aP, aNil, aCons, eAn, eOr, eNt, eIf, eFz, eNw, fP, fN, f2, f1, tTupE, tLstF, tTr, tTb, tAn, tOrr, tNt, tYs, eSeal, eMt, poMt, mPure, eCh, pCh, ok_bind, ok_map, ok_some, ok_none, ok_gd, ok_ite, List.getElem?_cons_zero, List.getElem?_cons_succ, List.set_cons_zero, List.set_cons_succ, Option.join_some, Option.bind_some, Option.map_some, Option.bind_none, Option.map_none, ix_ref, ix_tup, ix_lst, ix_bor, ix_scr, add_int, add_str, add_tup, sub_int, mul_int, fdiv_int, mod_int, pow_int, neg_int, lt_int, le_int, gt_int, ge_int, eq_int, eq_str, eq_bl, ne_int, ne_str, ne_bl, is_bl, isnt_bl, is_non, isnt_non, len_tup, len_lst, len_ref, len_bor, len_scr, int_bl, int_int, abs_int, min_int, max_int, blD_bl, cell_lst, st_ref, at_0, at_1, at_2, at_3, at_4, ixN_10, ixN_20, ixN_21, ixN_30, ixN_31, ixN_32, dataS_d, datas_nil, datas_cons, truth_bl, notD, intS, blS, nonB, List.length_cons, List.length_nil, Nat.reduceAdd, endsF_rt, endsF_nx, rvQ_d, rvQ_new, rv_d, rv_ref, okRef_d, okRef_ref, List.not_mem_nil, List.nil_append, true_and, and_true, List.take_succ_cons, List.take_zero, Nat.zero_add, decide_eq_true_eq, Bool.false_eq_true, if_false, if_true, callS, handS_n, handS_tr, handS_fr, handS_fd, handS_fb, cellsAt_c, cellsAt_0, Option.getD_some, backS_0, backS_1, eCall, tup_lst, tup_tup, tup_ref, fLc, iRg, rng_1, rng_2, wipeS_c, wipeS_n, iPq, iSq, seq_tup, seq_lst, seq_bor, lst_lst, lst_bor, gdS_d, gdS_b, sFor, gNm, gcS_c, gcS_n, gcO_d, gcO_n, mapp, rcv_0, rcv_1, rcv_l, gcO_r0, gcO_r1, gcO_z, seal_d, eq_self, List.take_nil, List.cons_append]
  split
  · refine big (b + 1) ds1 _ t1 (by omega) fun c ds3 h1 h2 t3 => ?_
    simp only [sSeq, sIf, sSet, sSub, sRet, sRetN, sNil, sDrop, sAsg, sPar, sParT, sAug, cP, bB, bTr, bNt, bAn, bOr, po1, po2, poN, pArgs, poIf, poAn, poOr, poNt, poTup, plLst, plN, pl2, pl1, pFz, pV, pC, eP, eo1, eo2, eoN, aP, aNil, aCons, eAn, eOr, eNt, eIf, eFz, eNw, fP, fN, f2, f1, tTupE, tLstF, tTr, tTb, tAn, tOrr, tNt, tYs, eSeal, eMt, poMt, mPure, eCh, pCh, ok_bind, ok_map, ok_some, ok_none, ok_gd, ok_ite, List.getElem?_cons_zero, List.getElem?_cons_succ, List.set_cons_zero, List.set_cons_succ, Option.join_some, Option.bind_some, Option.map_some, Option.bind_none, Option.map_none, ix_ref, ix_tup, ix_lst, ix_bor, ix_scr, add_int, add_str, add_tup, sub_int, mul_int, fdiv_int, mod_int, pow_int, neg_int, lt_int, le_int, gt_int, ge_int, eq_int, eq_str, eq_bl, ne_int, ne_str, ne_bl, is_bl, isnt_bl, is_non, isnt_non, len_tup, len_lst, len_ref, len_bor, len_scr, int_bl, int_int, abs_int, min_int, max_int, blD_bl, cell_lst, st_ref, at_0, at_1, at_2, at_3, at_4, ixN_10, ixN_20, ixN_21, ixN_30, ixN_31, ixN_32, dataS_d, datas_nil, datas_cons, truth_bl, notD, intS, blS, nonB, List.length_cons, List.length_nil, Nat.reduceAdd, endsF_rt, endsF_nx, rvQ_d, rvQ_new, rv_d, rv_ref, okRef_d, okRef_ref, List.not_mem_nil, List.nil_append, true_and, and_true, List.take_succ_cons, List.take_zero, Nat.zero_add, decide_eq_true_eq, Bool.false_eq_true, if_false, if_true, callS, handS_n, handS_tr, handS_fr, handS_fd, handS_fb, cellsAt_c, cellsAt_0, Option.getD_some, backS_0, backS_1, eCall, tup_lst, tup_tup, tup_ref, fLc, iRg, rng_1, rng_2, wipeS_c, wipeS_n, iPq, iSq, seq_tup, seq_lst, seq_bor, lst_lst, lst_bor, gdS_d, gdS_b, sFor, gNm, gcS_c, gcS_n, gcO_d, gcO_n, mapp, rcv_0, rcv_1, rcv_l, gcO_r0, gcO_r1, gcO_z, seal_d, eq_self, List.take_nil, List.cons_append]
    exact z c ds3 h1 h2 t3
  refine take_ok t1 (by omega) (by decide) (by decide) fun v2 ds2 v20 v21 t2 => ?_
  simp only [sSeq, sIf, sSet, sSub, sRet, sRetN, sNil, sDrop, sAsg, sPar, sParT, sAug, cP, bB, bTr, bNt, bAn, bOr, po1, po2, poN, pArgs, poIf, poAn, poOr, poNt, poTup, plLst, plN, pl2, pl1, pFz, pV, pC, eP, eo1, eo2, eoN, aP, aNil, aCons, eAn, eOr, eNt, eIf, eFz, eNw, fP, fN, f2, f1, tTupE, tLstF, tTr, tTb, tAn, tOrr, tNt, tYs, eSeal, eMt, poMt, mPure, eCh, pCh, ok_bind, ok_map, ok_some, ok_none, ok_gd, ok_ite, List.getElem?_cons_zero, List.getElem?_cons_succ, List.set_cons_zero, List.set_cons_succ, Option.join_some, Option.bind_some, Option.map_some, Option.bind_none, Option.map_none, ix_ref, ix_tup, ix_lst, ix_bor, ix_scr, add_int, add_str, add_tup, sub_int, mul_int, fdiv_int, mod_int, pow_int, neg_int, lt_int, le_int, gt_int, ge_int, eq_int, eq_str, eq_bl, ne_int, ne_str, ne_bl, is_bl, isnt_bl, is_non, isnt_non, len_tup, len_lst, len_ref, len_bor, len_scr, int_bl, int_int, abs_int, min_int, max_int, blD_bl, cell_lst, st_ref, at_0, at_1, at_2, at_3, at_4, ixN_10, ixN_20, ixN_21, ixN_30, ixN_31, ixN_32, dataS_d, datas_nil, datas_cons, truth_bl, notD, intS, blS, nonB, List.length_cons, List.length_nil, Nat.reduceAdd, endsF_rt, endsF_nx, rvQ_d, rvQ_new, rv_d, rv_ref, okRef_d, okRef_ref, List.not_mem_nil, List.nil_append, true_and, and_true, List.take_succ_cons, List.take_zero, Nat.zero_add, decide_eq_true_eq, Bool.false_eq_true, if_false, if_true, callS, handS_n, handS_tr, handS_fr, handS_fd, handS_fb, cellsAt_c, cellsAt_0, Option.getD_some, backS_0, backS_1, eCall, tup_lst, tup_tup, tup_ref, fLc, iRg, rng_1, rng_2, wipeS_c, wipeS_n, iPq, iSq, seq_tup, seq_lst, seq_bor, lst_lst, lst_bor, gdS_d, gdS_b, sFor, gNm, gcS_c, gcS_n, gcO_d, gcO_n, mapp, rcv_0, rcv_1, rcv_l, gcO_r0, gcO_r1, gcO_z, seal_d, eq_self, List.take_nil, List.cons_append]
  refine ⟨⟨by omega, by omega⟩, fun h => h.elim, ?_⟩
  have hm : (2 + v2).toNat ≤ 5 := by omega
  generalize (2 + v2).toNat = m at hm
  refine for_inv (fun rest δ M => ∃ cs ds3 o3 o4 o5, δ = [some (.ref 0), some (.d (.int n)), some (.ref 1), o3, o4, o5, none, none] ∧ M = [.lst ds3, .lst (cDs cs)] ∧ Cm.oks n 2 cs ∧ Cm.szs cs ≤ 7 * cs.length ∧ cs.length + rest.length = m ∧ Tp (b + 2 + 8 * cs.length) ds3) ?_ ?_ _ _ _
    ⟨[], ds2, none, none, none, rfl, rfl, trivial, by simp [Cm.szs], by simp [rgL_len], by simpa using t2⟩
  · rintro δ M ⟨cs, ds3, o3, o4, o5, rfl, rfl, q1, q2, q3, t3⟩
    simp only [List.length_nil, Nat.add_zero] at q3
    refine ⟨trivial, ?_⟩
    simp only [sSeq, sIf, sSet, sSub, sRet, sRetN, sNil, sDrop, sAsg, sPar, sParT, sAug, cP, bB, bTr, bNt, bAn, bOr, po1, po2, poN, pArgs, poIf, poAn, poOr, poNt, poTup, plLst, plN, pl2, pl1, pFz, pV, pC, eP, eo1, eo2, eoN, aP, aNil, aCons, eAn, eOr, eNt, eIf, eFz, eNw, fP, fN, f2, f1, tTupE, tLstF, tTr, tTb, tAn, tOrr, tNt, tYs, eSeal, eMt, poMt, mPure, eCh, pCh, ok_bind, ok_map, ok_some, ok_none, ok_gd, ok_ite, List.getElem?_cons_zero, List.getElem?_cons_succ, List.set_cons_zero, List.set_cons_succ, Option.join_some, Option.bind_some, Option.map_some, Option.bind_none, Option.map_none, ix_ref, ix_tup, ix_lst, ix_bor, ix_scr, add_int, add_str, add_tup, sub_int, mul_int, fdiv_int, mod_int, pow_int, neg_int, lt_int, le_int, gt_int, ge_int, eq_int, eq_str, eq_bl, ne_int, ne_str, ne_bl, is_bl, isnt_bl, is_non, isnt_non, len_tup, len_lst, len_ref, len_bor, len_scr, int_bl, int_int, abs_int, min_int, max_int, blD_bl, cell_lst, st_ref, at_0, at_1, at_2, at_3, at_4, ixN_10, ixN_20, ixN_21, ixN_30, ixN_31, ixN_32, dataS_d, datas_nil, datas_cons, truth_bl, notD, intS, blS, nonB, List.length_cons, List.length_nil, Nat.reduceAdd, endsF_rt, endsF_nx, rvQ_d, rvQ_new, rv_d, rv_ref, okRef_d, okRef_ref, List.not_mem_nil, List.nil_append, true_and, and_true, List.take_succ_cons, List.take_zero, Nat.zero_add, decide_eq_true_eq, Bool.false_eq_true, if_false, if_true, callS, handS_n, handS_tr, handS_fr, handS_fd, handS_fb, cellsAt_c, cellsAt_0, Option.getD_some, backS_0, backS_1, eCall, tup_lst, tup_tup, tup_ref, fLc, iRg, rng_1, rng_2, wipeS_c, wipeS_n, iPq, iSq, seq_tup, seq_lst, seq_bor, lst_lst, lst_bor, gdS_d, gdS_b, sFor, gNm, gcS_c, gcS_n, gcO_d, gcO_n, mapp, rcv_0, rcv_1, rcv_l, gcO_r0, gcO_r1, gcO_z, seal_d, eq_self, List.take_nil, List.cons_append]
    refine take_ok t3 (by omega) (by decide) (by decide) fun v ds4 v0 v1 t4 => ?_
    simp only [sSeq, sIf, sSet, sSub, sRet, sRetN, sNil, sDrop, sAsg, sPar, sParT, sAug, cP, bB, bTr, bNt, bAn, bOr, po1, po2, poN, pArgs, poIf, poAn, poOr, poNt, poTup, plLst, plN, pl2, pl1, pFz, pV, pC, eP, eo1, eo2, eoN, aP, aNil, aCons, eAn, eOr, eNt, eIf, eFz, eNw, fP, fN, f2, f1, tTupE, tLstF, tTr, tTb, tAn, tOrr, tNt, tYs, eSeal, eMt, poMt, mPure, eCh, pCh, ok_bind, ok_map, ok_some, ok_none, ok_gd, ok_ite, List.getElem?_cons_zero, List.getElem?_cons_succ, List.set_cons_zero, List.set_cons_succ, Option.join_some, Option.bind_some, Option.map_some, Option.bind_none, Option.map_none, ix_ref, ix_tup, ix_lst, ix_bor, ix_scr, add_int, add_str, add_tup, sub_int, mul_int, fdiv_int, mod_int, pow_int, neg_int, lt_int, le_int, gt_int, ge_int, eq_int, eq_str, eq_bl, ne_int, ne_str, ne_bl, is_bl, isnt_bl, is_non, isnt_non, len_tup, len_lst, len_ref, len_bor, len_scr, int_bl, int_int, abs_int, min_int, max_int, blD_bl, cell_lst, st_ref, at_0, at_1, at_2, at_3, at_4, ixN_10, ixN_20, ixN_21, ixN_30, ixN_31, ixN_32, dataS_d, datas_nil, datas_cons, truth_bl, notD, intS, blS, nonB, List.length_cons, List.length_nil, Nat.reduceAdd, endsF_rt, endsF_nx, rvQ_d, rvQ_new, rv_d, rv_ref, okRef_d, okRef_ref, List.not_mem_nil, List.nil_append, true_and, and_true, List.take_succ_cons, List.take_zero, Nat.zero_add, decide_eq_true_eq, Bool.false_eq_true, if_false, if_true, callS, handS_n, handS_tr, handS_fr, handS_fd, handS_fb, cellsAt_c, cellsAt_0, Option.getD_some, backS_0, backS_1, eCall, tup_lst, tup_tup, tup_ref, fLc, iRg, rng_1, rng_2, wipeS_c, wipeS_n, iPq, iSq, seq_tup, seq_lst, seq_bor, lst_lst, lst_bor, gdS_d, gdS_b, sFor, gNm, gcS_c, gcS_n, gcO_d, gcO_n, mapp, rcv_0, rcv_1, rcv_l, gcO_r0, gcO_r1, gcO_z, seal_d, eq_self, List.take_nil, List.cons_append]
    have t5 := t4.mono (c := b + 300) (by omega)
    have hv : v = 0 ∨ v = 1 ∨ v = 2 := by omega
    rcases hv with rfl | rfl | rfl <;> simp only [sSeq, sIf, sSet, sSub, sRet, sRetN, sNil, sDrop, sAsg, sPar, sParT, sAug, cP, bB, bTr, bNt, bAn, bOr, po1, po2, poN, pArgs, poIf, poAn, poOr, poNt, poTup, plLst, plN, pl2, pl1, pFz, pV, pC, eP, eo1, eo2, eoN, aP, aNil, aCons, eAn, eOr, eNt, eIf, eFz, eNw, fP, fN, f2, f1, tTupE, tLstF, tTr, tTb, tAn, tOrr, tNt, tYs, eSeal, eMt, poMt, mPure, eCh, pCh, ok_bind, ok_map, ok_some, ok_none, ok_gd, ok_ite, List.getElem?_cons_zero, List.getElem?_cons_succ, List.set_cons_zero, List.set_cons_succ, Option.join_some, Option.bind_some, Option.map_some, Option.bind_none, Option.map_none, ix_ref, ix_tup, ix_lst, ix_bor, ix_scr, add_int, add_str, add_tup, sub_int, mul_int, fdiv_int, mod_int, pow_int, neg_int, lt_int, le_int, gt_int, ge_int, eq_int, eq_str, eq_bl, ne_int, ne_str, ne_bl, is_bl, isnt_bl, is_non, isnt_non, len_tup, len_lst, len_ref, len_bor, len_scr, int_bl, int_int, abs_int, min_int, max_int, blD_bl, cell_lst, st_ref, at_0, at_1, at_2, at_3, at_4, ixN_10, ixN_20, ixN_21, ixN_30, ixN_31, ixN_32, dataS_d, datas_nil, datas_cons, truth_bl, notD, intS, blS, nonB, List.length_cons, List.length_nil, Nat.reduceAdd, endsF_rt, endsF_nx, rvQ_d, rvQ_new, rv_d, rv_ref, okRef_d, okRef_ref, List.not_mem_nil, List.nil_append, true_and, and_true, List.take_succ_cons, List.take_zero, Nat.zero_add, decide_eq_true_eq, Bool.false_eq_true, if_false, if_true, callS, handS_n, handS_tr, handS_fr, handS_fd, handS_fb, cellsAt_c, cellsAt_0, Option.getD_some, backS_0, backS_1, eCall, tup_lst, tup_tup, tup_ref, fLc, iRg, rng_1, rng_2, wipeS_c, wipeS_n, iPq, iSq, seq_tup, seq_lst, seq_bor, lst_lst, lst_bor, gdS_d, gdS_b, sFor, gNm, gcS_c, gcS_n, gcO_d, gcO_n, mapp, rcv_0, rcv_1, rcv_l, gcO_r0, gcO_r1, gcO_z, seal_d, eq_self, List.take_nil, List.cons_append]
    · exact z (.all cs) ds4 q1 (by simp only [Cm.sz]; omega) t5
    · exact z (.all cs) ds4 q1 (by simp only [Cm.sz]; omega) t5
    · exact z (.any cs) ds4 q1 (by simp only [Cm.sz]; omega) t5
  · rintro x rest δ M nx ⟨cs, ds3, o3, o4, o5, rfl, rfl, q1, q2, q3, t3⟩ k
    simp only [List.length_cons] at q3
    refine ⟨trivial, ?_⟩
    simp only [sSeq, sIf, sSet, sSub, sRet, sRetN, sNil, sDrop, sAsg, sPar, sParT, sAug, cP, bB, bTr, bNt, bAn, bOr, po1, po2, poN, pArgs, poIf, poAn, poOr, poNt, poTup, plLst, plN, pl2, pl1, pFz, pV, pC, eP, eo1, eo2, eoN, aP, aNil, aCons, eAn, eOr, eNt, eIf, eFz, eNw, fP, fN, f2, f1, tTupE, tLstF, tTr, tTb, tAn, tOrr, tNt, tYs, eSeal, eMt, poMt, mPure, eCh, pCh, ok_bind, ok_map, ok_some, ok_none, ok_gd, ok_ite, List.getElem?_cons_zero, List.getElem?_cons_succ, List.set_cons_zero, List.set_cons_succ, Option.join_some, Option.bind_some, Option.map_some, Option.bind_none, Option.map_none, ix_ref, ix_tup, ix_lst, ix_bor, ix_scr, add_int, add_str, add_tup, sub_int, mul_int, fdiv_int, mod_int, pow_int, neg_int, lt_int, le_int, gt_int, ge_int, eq_int, eq_str, eq_bl, ne_int, ne_str, ne_bl, is_bl, isnt_bl, is_non, isnt_non, len_tup, len_lst, len_ref, len_bor, len_scr, int_bl, int_int, abs_int, min_int, max_int, blD_bl, cell_lst, st_ref, at_0, at_1, at_2, at_3, at_4, ixN_10, ixN_20, ixN_21, ixN_30, ixN_31, ixN_32, dataS_d, datas_nil, datas_cons, truth_bl, notD, intS, blS, nonB, List.length_cons, List.length_nil, Nat.reduceAdd, endsF_rt, endsF_nx, rvQ_d, rvQ_new, rv_d, rv_ref, okRef_d, okRef_ref, List.not_mem_nil, List.nil_append, true_and, and_true, List.take_succ_cons, List.take_zero, Nat.zero_add, decide_eq_true_eq, Bool.false_eq_true, if_false, if_true, callS, handS_n, handS_tr, handS_fr, handS_fd, handS_fb, cellsAt_c, cellsAt_0, Option.getD_some, backS_0, backS_1, eCall, tup_lst, tup_tup, tup_ref, fLc, iRg, rng_1, rng_2, wipeS_c, wipeS_n, iPq, iSq, seq_tup, seq_lst, seq_bor, lst_lst, lst_bor, gdS_d, gdS_b, sFor, gNm, gcS_c, gcS_n, gcO_d, gcO_n, mapp, rcv_0, rcv_1, rcv_l, gcO_r0, gcO_r1, gcO_z, seal_d, eq_self, List.take_nil, List.cons_append]
    refine take_ok t3 (by omega) (by decide) (by decide) fun u ds4 u0 u1 t4 => ?_
    obtain ⟨u, rfl⟩ := Int.eq_ofNat_of_zero_le u0
    have e2 : ((2 : Int) + (u : Int)).toNat = u + 2 := by omega
    simp only [sSeq, sIf, sSet, sSub, sRet, sRetN, sNil, sDrop, sAsg, sPar, sParT, sAug, cP, bB, bTr, bNt, bAn, bOr, po1, po2, poN, pArgs, poIf, poAn, poOr, poNt, poTup, plLst, plN, pl2, pl1, pFz, pV, pC, eP, eo1, eo2, eoN, aP, aNil, aCons, eAn, eOr, eNt, eIf, eFz, eNw, fP, fN, f2, f1, tTupE, tLstF, tTr, tTb, tAn, tOrr, tNt, tYs, eSeal, eMt, poMt, mPure, eCh, pCh, ok_bind, ok_map, ok_some, ok_none, ok_gd, ok_ite, List.getElem?_cons_zero, List.getElem?_cons_succ, List.set_cons_zero, List.set_cons_succ, Option.join_some, Option.bind_some, Option.map_some, Option.bind_none, Option.map_none, ix_ref, ix_tup, ix_lst, ix_bor, ix_scr, add_int, add_str, add_tup, sub_int, mul_int, fdiv_int, mod_int, pow_int, neg_int, lt_int, le_int, gt_int, ge_int, eq_int, eq_str, eq_bl, ne_int, ne_str, ne_bl, is_bl, isnt_bl, is_non, isnt_non, len_tup, len_lst, len_ref, len_bor, len_scr, int_bl, int_int, abs_int, min_int, max_int, blD_bl, cell_lst, st_ref, at_0, at_1, at_2, at_3, at_4, ixN_10, ixN_20, ixN_21, ixN_30, ixN_31, ixN_32, dataS_d, datas_nil, datas_cons, truth_bl, notD, intS, blS, nonB, List.length_cons, List.length_nil, Nat.reduceAdd, endsF_rt, endsF_nx, rvQ_d, rvQ_new, rv_d, rv_ref, okRef_d, okRef_ref, List.not_mem_nil, List.nil_append, true_and, and_true, List.take_succ_cons, List.take_zero, Nat.zero_add, decide_eq_true_eq, Bool.false_eq_true, if_false, if_true, callS, handS_n, handS_tr, handS_fr, handS_fd, handS_fb, cellsAt_c, cellsAt_0, Option.getD_some, backS_0, backS_1, eCall, tup_lst, tup_tup, tup_ref, fLc, iRg, rng_1, rng_2, wipeS_c, wipeS_n, iPq, iSq, seq_tup, seq_lst, seq_bor, lst_lst, lst_bor, gdS_d, gdS_b, sFor, gNm, gcS_c, gcS_n, gcO_d, gcO_n, mapp, rcv_0, rcv_1, rcv_l, gcO_r0, gcO_r1, gcO_z, seal_d, eq_self, List.take_nil, List.cons_append, e2, rgL_len]
    refine ⟨⟨by omega, by omega⟩, fun _ => by rw [sizeLine_eq]; omega, ?_⟩
    refine lc_inv (fun rest acc M => ∃ cs' ds5, acc = cDs cs' ∧ M = [.lst ds5, .lst (cDs cs)] ∧ Cm.oks n 0 cs' ∧ Cm.szs cs' = cs'.length ∧ cs'.length + rest.length = u + 2 ∧ Tp (b + 2 + 8 * cs.length + 1 + cs'.length) ds5) ?_ ?_ _ _ _
      ⟨[], ds4, rfl, rfl, trivial, rfl, by simp [rgL_len], by simpa using t4⟩
    · rintro acc M ⟨cs', ds5, rfl, rfl, w1, w2, w3, t5⟩
      simp only [List.length_nil, Nat.add_zero] at w3
      refine ⟨trivial, ?_⟩
      refine lc_inv (fun rest acc M => ∃ r cs2 ds6, rest = cDs r ∧ Cm.oks n 0 r ∧ Cm.szs r = r.length ∧ acc = cDs cs2 ∧ M = [.lst ds6, .lst (cDs cs)] ∧ Cm.oks n 1 cs2 ∧ Cm.szs cs2 ≤ 2 * cs2.length ∧ cs2.length + r.length = u + 2 ∧ Tp (b + 2 + 8 * cs.length + 1 + (u + 2) + cs2.length) ds6) ?_ ?_ _ _ _
        ⟨cs', [], ds5, rfl, w1, w2, rfl, rfl, trivial, by simp [Cm.szs], by simpa using w3, t5.mono (by omega)⟩
      · rintro acc M ⟨r, cs2, ds6, hr, y1, y2, rfl, rfl, y3, y4, y5, t6⟩
        obtain rfl : r = [] := by
          cases r with
          | nil => rfl
          | cons c r => cases hr
        simp only [List.length_nil, Nat.add_zero] at y5
        refine ⟨trivial, ?_⟩
        obtain ⟨c1, c2, r, rfl⟩ : ∃ c1 c2 r, cs2 = c1 :: c2 :: r := by
          match cs2, y5 with
          | c1 :: c2 :: r, _ => exact ⟨c1, c2, r, rfl⟩
        simp only [sSeq, sIf, sSet, sSub, sRet, sRetN, sNil, sDrop, sAsg, sPar, sParT, sAug, cP, bB, bTr, bNt, bAn, bOr, po1, po2, poN, pArgs, poIf, poAn, poOr, poNt, poTup, plLst, plN, pl2, pl1, pFz, pV, pC, eP, eo1, eo2, eoN, aP, aNil, aCons, eAn, eOr, eNt, eIf, eFz, eNw, fP, fN, f2, f1, tTupE, tLstF, tTr, tTb, tAn, tOrr, tNt, tYs, eSeal, eMt, poMt, mPure, eCh, pCh, ok_bind, ok_map, ok_some, ok_none, ok_gd, ok_ite, List.getElem?_cons_zero, List.getElem?_cons_succ, List.set_cons_zero, List.set_cons_succ, Option.join_some, Option.bind_some, Option.map_some, Option.bind_none, Option.map_none, ix_ref, ix_tup, ix_lst, ix_bor, ix_scr, add_int, add_str, add_tup, sub_int, mul_int, fdiv_int, mod_int, pow_int, neg_int, lt_int, le_int, gt_int, ge_int, eq_int, eq_str, eq_bl, ne_int, ne_str, ne_bl, is_bl, isnt_bl, is_non, isnt_non, len_tup, len_lst, len_ref, len_bor, len_scr, int_bl, int_int, abs_int, min_int, max_int, blD_bl, cell_lst, st_ref, at_0, at_1, at_2, at_3, at_4, ixN_10, ixN_20, ixN_21, ixN_30, ixN_31, ixN_32, dataS_d, datas_nil, datas_cons, truth_bl, notD, intS, blS, nonB, List.length_cons, List.length_nil, Nat.reduceAdd, endsF_rt, endsF_nx, rvQ_d, rvQ_new, rv_d, rv_ref, okRef_d, okRef_ref, List.not_mem_nil, List.nil_append, true_and, and_true, List.take_succ_cons, List.take_zero, Nat.zero_add, decide_eq_true_eq, Bool.false_eq_true, if_false, if_true, callS, handS_n, handS_tr, handS_fr, handS_fd, handS_fb, cellsAt_c, cellsAt_0, Option.getD_some, backS_0, backS_1, eCall, tup_lst, tup_tup, tup_ref, fLc, iRg, rng_1, rng_2, wipeS_c, wipeS_n, iPq, iSq, seq_tup, seq_lst, seq_bor, lst_lst, lst_bor, gdS_d, gdS_b, sFor, gNm, gcS_c, gcS_n, gcO_d, gcO_n, mapp, rcv_0, rcv_1, rcv_l, gcO_r0, gcO_r1, gcO_z, seal_d, eq_self, List.take_nil, List.cons_append, cDs]
        refine take_ok t6 (by omega) (by decide) (by decide) fun v ds7 v0 v1 t7 => ?_
        simp only [sSeq, sIf, sSet, sSub, sRet, sRetN, sNil, sDrop, sAsg, sPar, sParT, sAug, cP, bB, bTr, bNt, bAn, bOr, po1, po2, poN, pArgs, poIf, poAn, poOr, poNt, poTup, plLst, plN, pl2, pl1, pFz, pV, pC, eP, eo1, eo2, eoN, aP, aNil, aCons, eAn, eOr, eNt, eIf, eFz, eNw, fP, fN, f2, f1, tTupE, tLstF, tTr, tTb, tAn, tOrr, tNt, tYs, eSeal, eMt, poMt, mPure, eCh, pCh, ok_bind, ok_map, ok_some, ok_none, ok_gd, ok_ite, List.getElem?_cons_zero, List.getElem?_cons_succ, List.set_cons_zero, List.set_cons_succ, Option.join_some, Option.bind_some, Option.map_some, Option.bind_none, Option.map_none, ix_ref, ix_tup, ix_lst, ix_bor, ix_scr, add_int, add_str, add_tup, sub_int, mul_int, fdiv_int, mod_int, pow_int, neg_int, lt_int, le_int, gt_int, ge_int, eq_int, eq_str, eq_bl, ne_int, ne_str, ne_bl, is_bl, isnt_bl, is_non, isnt_non, len_tup, len_lst, len_ref, len_bor, len_scr, int_bl, int_int, abs_int, min_int, max_int, blD_bl, cell_lst, st_ref, at_0, at_1, at_2, at_3, at_4, ixN_10, ixN_20, ixN_21, ixN_30, ixN_31, ixN_32, dataS_d, datas_nil, datas_cons, truth_bl, notD, intS, blS, nonB, List.length_cons, List.length_nil, Nat.reduceAdd, endsF_rt, endsF_nx, rvQ_d, rvQ_new, rv_d, rv_ref, okRef_d, okRef_ref, List.not_mem_nil, List.nil_append, true_and, and_true, List.take_succ_cons, List.take_zero, Nat.zero_add, decide_eq_true_eq, Bool.false_eq_true, if_false, if_true, callS, handS_n, handS_tr, handS_fr, handS_fd, handS_fb, cellsAt_c, cellsAt_0, Option.getD_some, backS_0, backS_1, eCall, tup_lst, tup_tup, tup_ref, fLc, iRg, rng_1, rng_2, wipeS_c, wipeS_n, iPq, iSq, seq_tup, seq_lst, seq_bor, lst_lst, lst_bor, gdS_d, gdS_b, sFor, gNm, gcS_c, gcS_n, gcO_d, gcO_n, mapp, rcv_0, rcv_1, rcv_l, gcO_r0, gcO_r1, gcO_z, seal_d, eq_self, List.take_nil, List.cons_append]
        have hv : v = 0 ∨ v = 1 ∨ v = 2 ∨ v = 3 := by omega
        have fin : ∀ c : Cm, c.ok n 2 → c.sz ≤ 7 → nx [some (.ref 0), some (.d (.int n)), some (.ref 1), some (.d x), some (.d (.tup (cD c1 :: cD c2 :: cDs r))), some (.d (.lst [.tup [.str "or", .tup (cD c1 :: cD c2 :: cDs r)], .tup [.str "and", .tup (cD c1 :: cD c2 :: cDs r)], .tup [.str "same", cD c1, cD c2], .tup [.str "least", .int 2, .tup (cD c1 :: cD c2 :: cDs r)]])), none, none] [.lst ds7, .lst (cDs cs ++ [cD c])] := fun c h1 h2 => by
          refine k _ _ ⟨cs ++ [c], ds7, _, _, _, rfl, by rw [cDs_app]; rfl, (oks_app _ _).mpr ⟨q1, h1, trivial⟩, ?_, by simp; omega, t7.mono (by simp at y5 ⊢; omega)⟩
          rw [szs_app, List.length_append]; simp only [Cm.szs, List.length_cons, List.length_nil]; omega
        have hsz : (cDs cs).length < sizeLine := by rw [cDs_len, sizeLine_eq]; omega
        simp only [List.length_cons] at y5 y4
        rcases hv with rfl | rfl | rfl | rfl <;> simp only [sSeq, sIf, sSet, sSub, sRet, sRetN, sNil, sDrop, sAsg, sPar, sParT, sAug, cP, bB, bTr, bNt, bAn, bOr, po1, po2, poN, pArgs, poIf, poAn, poOr, poNt, poTup, plLst, plN, pl2, pl1, pFz, pV, pC, eP, eo1, eo2, eoN, aP, aNil, aCons, eAn, eOr, eNt, eIf, eFz, eNw, fP, fN, f2, f1, tTupE, tLstF, tTr, tTb, tAn, tOrr, tNt, tYs, eSeal, eMt, poMt, mPure, eCh, pCh, ok_bind, ok_map, ok_some, ok_none, ok_gd, ok_ite, List.getElem?_cons_zero, List.getElem?_cons_succ, List.set_cons_zero, List.set_cons_succ, Option.join_some, Option.bind_some, Option.map_some, Option.bind_none, Option.map_none, ix_ref, ix_tup, ix_lst, ix_bor, ix_scr, add_int, add_str, add_tup, sub_int, mul_int, fdiv_int, mod_int, pow_int, neg_int, lt_int, le_int, gt_int, ge_int, eq_int, eq_str, eq_bl, ne_int, ne_str, ne_bl, is_bl, isnt_bl, is_non, isnt_non, len_tup, len_lst, len_ref, len_bor, len_scr, int_bl, int_int, abs_int, min_int, max_int, blD_bl, cell_lst, st_ref, at_0, at_1, at_2, at_3, at_4, ixN_10, ixN_20, ixN_21, ixN_30, ixN_31, ixN_32, dataS_d, datas_nil, datas_cons, truth_bl, notD, intS, blS, nonB, List.length_cons, List.length_nil, Nat.reduceAdd, endsF_rt, endsF_nx, rvQ_d, rvQ_new, rv_d, rv_ref, okRef_d, okRef_ref, List.not_mem_nil, List.nil_append, true_and, and_true, List.take_succ_cons, List.take_zero, Nat.zero_add, decide_eq_true_eq, Bool.false_eq_true, if_false, if_true, callS, handS_n, handS_tr, handS_fr, handS_fd, handS_fb, cellsAt_c, cellsAt_0, Option.getD_some, backS_0, backS_1, eCall, tup_lst, tup_tup, tup_ref, fLc, iRg, rng_1, rng_2, wipeS_c, wipeS_n, iPq, iSq, seq_tup, seq_lst, seq_bor, lst_lst, lst_bor, gdS_d, gdS_b, sFor, gNm, gcS_c, gcS_n, gcO_d, gcO_n, mapp, rcv_0, rcv_1, rcv_l, gcO_r0, gcO_r1, gcO_z, seal_d, eq_self, List.take_nil, List.cons_append]
        · exact ⟨hsz, fin (.any (c1 :: c2 :: r)) (y3) (by simp only [Cm.sz]; omega)⟩
        · exact ⟨hsz, fin (.all (c1 :: c2 :: r)) (y3) (by simp only [Cm.sz]; omega)⟩
        · exact ⟨hsz, fin (.same c1 c2) ⟨y3.1, y3.2.1⟩ (by simp only [Cm.szs] at y4; simp only [Cm.sz]; omega)⟩
        · exact ⟨hsz, fin (.least 2 (c1 :: c2 :: r)) ⟨by simp, y3⟩ (by simp only [Cm.sz]; omega)⟩
      · rintro x2 rest2 acc M R ⟨r, cs2, ds6, hr, y1, y2, rfl, rfl, y3, y4, y5, t6⟩ k2
        cases r with
        | nil => cases hr
        | cons c r =>
          simp only [cDs, List.cons.injEq] at hr
          obtain ⟨rfl, rfl⟩ := hr
          simp only [List.length_cons] at y5
          have hc1 : c.sz = 1 ∧ Cm.szs r = r.length := by
            have : ∀ l : List Cm, Cm.oks n 0 l → Cm.szs l = l.length := by
              intro l
              induction l with
              | nil => intro _; rfl
              | cons c l ih =>
                intro h
                have := ih h.2
                have h1 := h.1
                cases c <;> first | exact h1.elim | (simp only [Cm.szs, Cm.sz, List.length_cons]; omega)
            have := this r y1.2
            simp only [Cm.szs, List.length_cons] at y2
            omega
          refine ⟨trivial, ?_⟩
          simp only [sSeq, sIf, sSet, sSub, sRet, sRetN, sNil, sDrop, sAsg, sPar, sParT, sAug, cP, bB, bTr, bNt, bAn, bOr, po1, po2, poN, pArgs, poIf, poAn, poOr, poNt, poTup, plLst, plN, pl2, pl1, pFz, pV, pC, eP, eo1, eo2, eoN, aP, aNil, aCons, eAn, eOr, eNt, eIf, eFz, eNw, fP, fN, f2, f1, tTupE, tLstF, tTr, tTb, tAn, tOrr, tNt, tYs, eSeal, eMt, poMt, mPure, eCh, pCh, ok_bind, ok_map, ok_some, ok_none, ok_gd, ok_ite, List.getElem?_cons_zero, List.getElem?_cons_succ, List.set_cons_zero, List.set_cons_succ, Option.join_some, Option.bind_some, Option.map_some, Option.bind_none, Option.map_none, ix_ref, ix_tup, ix_lst, ix_bor, ix_scr, add_int, add_str, add_tup, sub_int, mul_int, fdiv_int, mod_int, pow_int, neg_int, lt_int, le_int, gt_int, ge_int, eq_int, eq_str, eq_bl, ne_int, ne_str, ne_bl, is_bl, isnt_bl, is_non, isnt_non, len_tup, len_lst, len_ref, len_bor, len_scr, int_bl, int_int, abs_int, min_int, max_int, blD_bl, cell_lst, st_ref, at_0, at_1, at_2, at_3, at_4, ixN_10, ixN_20, ixN_21, ixN_30, ixN_31, ixN_32, dataS_d, datas_nil, datas_cons, truth_bl, notD, intS, blS, nonB, List.length_cons, List.length_nil, Nat.reduceAdd, endsF_rt, endsF_nx, rvQ_d, rvQ_new, rv_d, rv_ref, okRef_d, okRef_ref, List.not_mem_nil, List.nil_append, true_and, and_true, List.take_succ_cons, List.take_zero, Nat.zero_add, decide_eq_true_eq, Bool.false_eq_true, if_false, if_true, callS, handS_n, handS_tr, handS_fr, handS_fd, handS_fb, cellsAt_c, cellsAt_0, Option.getD_some, backS_0, backS_1, eCall, tup_lst, tup_tup, tup_ref, fLc, iRg, rng_1, rng_2, wipeS_c, wipeS_n, iPq, iSq, seq_tup, seq_lst, seq_bor, lst_lst, lst_bor, gdS_d, gdS_b, sFor, gNm, gcS_c, gcS_n, gcO_d, gcO_n, mapp, rcv_0, rcv_1, rcv_l, gcO_r0, gcO_r1, gcO_z, seal_d, eq_self, List.take_nil, List.cons_append]
          refine take_ok t6 (by omega) (by decide) (by decide) fun v ds7 v0 v1 t7 => ?_
          simp only [sSeq, sIf, sSet, sSub, sRet, sRetN, sNil, sDrop, sAsg, sPar, sParT, sAug, cP, bB, bTr, bNt, bAn, bOr, po1, po2, poN, pArgs, poIf, poAn, poOr, poNt, poTup, plLst, plN, pl2, pl1, pFz, pV, pC, eP, eo1, eo2, eoN, aP, aNil, aCons, eAn, eOr, eNt, eIf, eFz, eNw, fP, fN, f2, f1, tTupE, tLstF, tTr, tTb, tAn, tOrr, tNt, tYs, eSeal, eMt, poMt, mPure, eCh, pCh, ok_bind, ok_map, ok_some, ok_none, ok_gd, ok_ite, List.getElem?_cons_zero, List.getElem?_cons_succ, List.set_cons_zero, List.set_cons_succ, Option.join_some, Option.bind_some, Option.map_some, Option.bind_none, Option.map_none, ix_ref, ix_tup, ix_lst, ix_bor, ix_scr, add_int, add_str, add_tup, sub_int, mul_int, fdiv_int, mod_int, pow_int, neg_int, lt_int, le_int, gt_int, ge_int, eq_int, eq_str, eq_bl, ne_int, ne_str, ne_bl, is_bl, isnt_bl, is_non, isnt_non, len_tup, len_lst, len_ref, len_bor, len_scr, int_bl, int_int, abs_int, min_int, max_int, blD_bl, cell_lst, st_ref, at_0, at_1, at_2, at_3, at_4, ixN_10, ixN_20, ixN_21, ixN_30, ixN_31, ixN_32, dataS_d, datas_nil, datas_cons, truth_bl, notD, intS, blS, nonB, List.length_cons, List.length_nil, Nat.reduceAdd, endsF_rt, endsF_nx, rvQ_d, rvQ_new, rv_d, rv_ref, okRef_d, okRef_ref, List.not_mem_nil, List.nil_append, true_and, and_true, List.take_succ_cons, List.take_zero, Nat.zero_add, decide_eq_true_eq, Bool.false_eq_true, if_false, if_true, callS, handS_n, handS_tr, handS_fr, handS_fd, handS_fb, cellsAt_c, cellsAt_0, Option.getD_some, backS_0, backS_1, eCall, tup_lst, tup_tup, tup_ref, fLc, iRg, rng_1, rng_2, wipeS_c, wipeS_n, iPq, iSq, seq_tup, seq_lst, seq_bor, lst_lst, lst_bor, gdS_d, gdS_b, sFor, gNm, gcS_c, gcS_n, gcO_d, gcO_n, mapp, rcv_0, rcv_1, rcv_l, gcO_r0, gcO_r1, gcO_z, seal_d, eq_self, List.take_nil, List.cons_append]
          have done : ∀ c' : Cm, c'.ok n 1 → c'.sz ≤ 2 → R (.d (cD c')) [.lst ds7, .lst (cDs cs)] := fun c' h1 h2 => by
            refine k2 _ _ ⟨r, cs2 ++ [c'], ds7, rfl, y1.2, hc1.2, by rw [cDs_app]; rfl, rfl, (oks_app _ _).mpr ⟨y3, h1, trivial⟩, ?_, by simp; omega, t7.mono (by simp; omega)⟩
            rw [szs_app, List.length_append]; simp only [Cm.szs, List.length_cons, List.length_nil]; omega
          split
          · exact done (.neg c) y1.1 (by simp only [Cm.sz]; omega)
          · exact done c (Cm.ok_up 0 c y1.1) (by omega)
    · rintro x2 rest2 acc M R ⟨cs', ds5, rfl, rfl, w1, w2, w3, t5⟩ k2
      simp only [List.length_cons] at w3
      refine ⟨trivial, ?_⟩
      simp only [sSeq, sIf, sSet, sSub, sRet, sRetN, sNil, sDrop, sAsg, sPar, sParT, sAug, cP, bB, bTr, bNt, bAn, bOr, po1, po2, poN, pArgs, poIf, poAn, poOr, poNt, poTup, plLst, plN, pl2, pl1, pFz, pV, pC, eP, eo1, eo2, eoN, aP, aNil, aCons, eAn, eOr, eNt, eIf, eFz, eNw, fP, fN, f2, f1, tTupE, tLstF, tTr, tTb, tAn, tOrr, tNt, tYs, eSeal, eMt, poMt, mPure, eCh, pCh, ok_bind, ok_map, ok_some, ok_none, ok_gd, ok_ite, List.getElem?_cons_zero, List.getElem?_cons_succ, List.set_cons_zero, List.set_cons_succ, Option.join_some, Option.bind_some, Option.map_some, Option.bind_none, Option.map_none, ix_ref, ix_tup, ix_lst, ix_bor, ix_scr, add_int, add_str, add_tup, sub_int, mul_int, fdiv_int, mod_int, pow_int, neg_int, lt_int, le_int, gt_int, ge_int, eq_int, eq_str, eq_bl, ne_int, ne_str, ne_bl, is_bl, isnt_bl, is_non, isnt_non, len_tup, len_lst, len_ref, len_bor, len_scr, int_bl, int_int, abs_int, min_int, max_int, blD_bl, cell_lst, st_ref, at_0, at_1, at_2, at_3, at_4, ixN_10, ixN_20, ixN_21, ixN_30, ixN_31, ixN_32, dataS_d, datas_nil, datas_cons, truth_bl, notD, intS, blS, nonB, List.length_cons, List.length_nil, Nat.reduceAdd, endsF_rt, endsF_nx, rvQ_d, rvQ_new, rv_d, rv_ref, okRef_d, okRef_ref, List.not_mem_nil, List.nil_append, true_and, and_true, List.take_succ_cons, List.take_zero, Nat.zero_add, decide_eq_true_eq, Bool.false_eq_true, if_false, if_true, callS, handS_n, handS_tr, handS_fr, handS_fd, handS_fb, cellsAt_c, cellsAt_0, Option.getD_some, backS_0, backS_1, eCall, tup_lst, tup_tup, tup_ref, fLc, iRg, rng_1, rng_2, wipeS_c, wipeS_n, iPq, iSq, seq_tup, seq_lst, seq_bor, lst_lst, lst_bor, gdS_d, gdS_b, sFor, gNm, gcS_c, gcS_n, gcO_d, gcO_n, mapp, rcv_0, rcv_1, rcv_l, gcO_r0, gcO_r1, gcO_z, seal_d, eq_self, List.take_nil, List.cons_append]
      refine take_ok t5 (by omega) (by omega) (by omega) fun v ds6 v0 v1 t6 => ?_
      obtain ⟨v, rfl⟩ := Int.eq_ofNat_of_zero_le v0
      simp only [sSeq, sIf, sSet, sSub, sRet, sRetN, sNil, sDrop, sAsg, sPar, sParT, sAug, cP, bB, bTr, bNt, bAn, bOr, po1, po2, poN, pArgs, poIf, poAn, poOr, poNt, poTup, plLst, plN, pl2, pl1, pFz, pV, pC, eP, eo1, eo2, eoN, aP, aNil, aCons, eAn, eOr, eNt, eIf, eFz, eNw, fP, fN, f2, f1, tTupE, tLstF, tTr, tTb, tAn, tOrr, tNt, tYs, eSeal, eMt, poMt, mPure, eCh, pCh, ok_bind, ok_map, ok_some, ok_none, ok_gd, ok_ite, List.getElem?_cons_zero, List.getElem?_cons_succ, List.set_cons_zero, List.set_cons_succ, Option.join_some, Option.bind_some, Option.map_some, Option.bind_none, Option.map_none, ix_ref, ix_tup, ix_lst, ix_bor, ix_scr, add_int, add_str, add_tup, sub_int, mul_int, fdiv_int, mod_int, pow_int, neg_int, lt_int, le_int, gt_int, ge_int, eq_int, eq_str, eq_bl, ne_int, ne_str, ne_bl, is_bl, isnt_bl, is_non, isnt_non, len_tup, len_lst, len_ref, len_bor, len_scr, int_bl, int_int, abs_int, min_int, max_int, blD_bl, cell_lst, st_ref, at_0, at_1, at_2, at_3, at_4, ixN_10, ixN_20, ixN_21, ixN_30, ixN_31, ixN_32, dataS_d, datas_nil, datas_cons, truth_bl, notD, intS, blS, nonB, List.length_cons, List.length_nil, Nat.reduceAdd, endsF_rt, endsF_nx, rvQ_d, rvQ_new, rv_d, rv_ref, okRef_d, okRef_ref, List.not_mem_nil, List.nil_append, true_and, and_true, List.take_succ_cons, List.take_zero, Nat.zero_add, decide_eq_true_eq, Bool.false_eq_true, if_false, if_true, callS, handS_n, handS_tr, handS_fr, handS_fd, handS_fb, cellsAt_c, cellsAt_0, Option.getD_some, backS_0, backS_1, eCall, tup_lst, tup_tup, tup_ref, fLc, iRg, rng_1, rng_2, wipeS_c, wipeS_n, iPq, iSq, seq_tup, seq_lst, seq_bor, lst_lst, lst_bor, gdS_d, gdS_b, sFor, gNm, gcS_c, gcS_n, gcO_d, gcO_n, mapp, rcv_0, rcv_1, rcv_l, gcO_r0, gcO_r1, gcO_z, seal_d, eq_self, List.take_nil, List.cons_append]
      refine k2 (cD (.name v)) _ ⟨cs' ++ [.name v], ds6, by rw [cDs_app]; rfl, rfl, (oks_app _ _).mpr ⟨w1, (show Cm.ok n 0 (.name v) from (show v < n by omega)), trivial⟩, ?_, by simp; omega, t6.mono (by simp; omega)⟩
      rw [szs_app, List.length_append]; simp only [Cm.szs, Cm.sz, List.length_cons, List.length_nil]; omega
end VL
set_option Elab.async false
set_option linter.all false
set_option maxRecDepth 100000
set_option maxHeartbeats 1000000
/-! Plain laws: what claims say; texts told apart. -/
namespace VL
open PySem PySem.Spec L2

theorem toNat_inj {a b : Char} (h : a.toNat = b.toNat) : a = b := Char.ext (UInt32.toNat_inj.mp h)
theorem ofS_inj {a b : String} : (Str.ofString a = Str.ofString b) = (a = b) := by
  apply propext
  constructor
  · intro h
    rw [Str.ofString_eq_toList, Str.ofString_eq_toList] at h
    have h1 : a.toList.map Char.toNat = b.toList.map Char.toNat := by
      have := congrArg (fun z : Str => z.cps.toList) h
      simpa using this
    have h2 : ∀ (l m : List Char), l.map Char.toNat = m.map Char.toNat → l = m := by
      intro l
      induction l with
      | nil => intro m hm; cases m with | nil => rfl | cons _ _ => cases hm
      | cons x l ih =>
        intro m hm
        cases m with
        | nil => cases hm
        | cons y m =>
          simp only [List.map_cons, List.cons.injEq] at hm
          rw [toNat_inj hm.1, ih m hm.2]
    exact String.toList_inj.mp (h2 _ _ h1)
  · rintro rfl; rfl
theorem in_tup {M : Mem} {s : Str} {ds : List D} : inD M (.d (.str s)) (.d (.tup ds)) = (gd ((atomD (.str s) = true ∧ ds.all atomD = true) ∨ (okE (.str s) = true ∧ isTupD (.d (.tup ds)) = false ∧ okE (.lst ds) = true)) (ds.any fun z => eqvD z (.str s))).map blS := rfl
theorem in_str2 {M : Mem} {s a b : Str} : inD M (.d (.str s)) (.d (.tup [.str a, .str b])) = some (.d (.bl (decide (a = s ∨ b = s)))) := by
  rw [in_tup]
  have h : (atomD (.str s) = true ∧ [D.str a, D.str b].all atomD = true) ∨ (okE (.str s) = true ∧ isTupD (.d (.tup [D.str a, D.str b])) = false ∧ okE (.lst [D.str a, D.str b]) = true) := .inl ⟨rfl, rfl⟩
  rw [gd_pos h]
  simp only [Option.map_some, blS, List.any_cons, List.any_nil, eqvD, Bool.or_false]
  congr 3
  rw [Bool.eq_iff_iff]
  simp [beq_iff_eq]
theorem at_m1_2 {α : Type} {x y : α} : atI [x, y] (-1) = some y := rfl
theorem at_m1_3 {α : Type} {x y z : α} : atI [x, y, z] (-1) = some z := rfl
theorem cut_2 {x y : D} : cutD [x, y] (some 1) none = [y] := rfl
theorem cut_3 {x y z : D} : cutD [x, y, z] (some 1) none = [y, z] := rfl
theorem bls_map {bs : List Bool} : blsOf (bs.map D.bl) = some bs := blsOf_map bs
theorem all_bls {M : Mem} {bs : List Bool} : allD M [.d (.lst (bs.map D.bl))] = some (.d (.bl (bs.all id))) := by
  simp only [allD, lstD, Option.bind_some, bls_map, Option.map_some, blS]
theorem any_bls {M : Mem} {bs : List Bool} : anyD M [.d (.lst (bs.map D.bl))] = some (.d (.bl (bs.any id))) := by
  simp only [anyD, lstD, Option.bind_some, bls_map, Option.map_some, blS]
theorem okE_bl {b : Bool} : okE (.bl b) = true := by cases b <;> rfl
theorem bls_lay : ∀ bs : List Bool, PyData.canLayAll0 (pys (bs.map D.bl)) = true ∧ PyData.depthAll (pys (bs.map D.bl)) = 0 ∧ noRs (bs.map D.bl) = true
  | [] => ⟨rfl, rfl, rfl⟩
  | b :: bs => by
    obtain ⟨h1, h2, h3⟩ := bls_lay bs
    simp only [List.map_cons, pys, py, PyData.canLayAll0, PyData.canLay0, PyData.depthAll, PyData.depth, noRs, noR, h1, h2, h3]
    decide
theorem okE_bls {bs : List Bool} : okE (.lst (bs.map D.bl)) = true := by
  obtain ⟨h1, h2, h3⟩ := bls_lay bs
  unfold okE SeqAt.shaped
  simp only [noR, py, PyData.canLay0, PyData.depth, h1, h2, h3]
  decide
theorem count_bls {M : Mem} {bs : List Bool} {b : Bool} : countD M (.d (.lst (bs.map D.bl))) [.d (.bl b)] = some (.d (.int (bs.count b))) := by
  simp only [countD, lstD, Option.bind_some]
  rw [gd_pos ⟨okE_bl, okE_bls⟩]
  simp only [intS]
  congr 4
  rw [List.countP_map]
  rfl
theorem slD_t {M : Mem} {a : List D} {lo hi : Option Int} : slD M (.d (.tup a)) lo hi = some (.d (.tup (cutD a lo hi))) := rfl
theorem intO_i {i : Int} : intO (.d (.int i)) = some (some i) := rfl
theorem list_t {M : Mem} {a : List D} : listF M [.d (.tup a)] = some a := rfl
theorem list_l {M : Mem} {a : List D} : listF M [.d (.lst a)] = some a := rfl
/-! ### what a claim says of a filling -/
def bitD (b : Bool) : D := .int (if b then 1 else 0)
def fD (fs : List Bool) : D := .tup (fs.map bitD)
mutual
def Cm.hv (fs : List Bool) : Cm → Bool
  | .yes => true
  | .no => false
  | .name k => fs.getD k false
  | .neg c => !c.hv fs
  | .same a b => a.hv fs == b.hv fs
  | .all cs => (Cm.hvs fs cs).all id
  | .any cs => (Cm.hvs fs cs).any id
  | .least m cs => decide (m ≤ (Cm.hvs fs cs).count true)
def Cm.hvs (fs : List Bool) : List Cm → List Bool
  | [] => []
  | c :: cs => c.hv fs :: Cm.hvs fs cs
end
end VL
set_option Elab.async false
set_option linter.all false
set_option maxRecDepth 100000
set_option maxHeartbeats 1000000
/-! Plain laws: holds. -/
namespace VL
open PySem PySem.Spec L2

def Cm.subs : Cm → List Cm
  | .neg c => [c]
  | .same a b => [a, b]
  | .all cs => cs
  | .any cs => cs
  | .least _ cs => cs
  | _ => []
def c_PLAIN : D := (.tup [(.str "yes"), (.str "no")])
def sp_inner : SpD := fun as M Q => ∃ c : Cm, as = [.d (cD c)] ∧ M = [] ∧ Q (.new (cDs c.subs)) []
def r_inner : TS' :=
  (sSeq (sIf (cP (bOr (bB (po2 inD (po2 ixD (pV 0) (pC (.int 0))) (pC c_PLAIN))) (bB (po2 eqD (po2 ixD (pV 0) (pC (.int 0))) (pC (.str "name"))))))
  (sRet (eNw (fP (plLst []))))
  sNil)
  (sSeq (sIf (cP (bB (po2 inD (po2 ixD (pV 0) (pC (.int 0))) (poTup [(pC (.str "not")), (pC (.str "same"))]))))
  (sRet (eNw (fP (plN listF [(poSl (pV 0) (poI (pC (.int 1))) poNo)]))))
  sNil)
  (sRet (eNw (fP (plN listF [(po2 ixD (pV 0) (po1 negD (pC (.int 1))))]))))))
theorem pure_inner (as : List Sv) (M : Mem) (Q : Rv → Mem → Prop) (h : sp_inner as M Q) : r_inner (endsF M.length Q) (startD 1 as) M := by
  obtain ⟨c, rfl, rfl, z⟩ := h
  show r_inner (endsF 0 Q) [some (.d (cD c))] []
  cases c <;> simp only [r_inner, c_PLAIN, cD, cDs, Cm.subs, sSeq, sIf, sSet, sSub, sRet, sRetN, sNil, sDrop, sAsg, sPar, sParT, sAug, cP, bB, bTr, bNt, bAn, bOr, po1, po2, poN, pArgs, poIf, poAn, poOr, poNt, poTup, plLst, plN, pl2, pl1, pFz, pV, pC, eP, eo1, eo2, eoN, aP, aNil, aCons, eAn, eOr, eNt, eIf, eFz, eNw, fP, fN, f2, f1, tTupE, tLstF, tTr, tTb, tAn, tOrr, tNt, tYs, eSeal, eMt, poMt, mPure, eCh, pCh, ok_bind, ok_map, ok_some, ok_none, ok_gd, ok_ite, List.getElem?_cons_zero, List.getElem?_cons_succ, List.set_cons_zero, List.set_cons_succ, Option.join_some, Option.bind_some, Option.map_some, Option.bind_none, Option.map_none, ix_ref, ix_tup, ix_lst, ix_bor, ix_scr, add_int, add_str, add_tup, sub_int, mul_int, fdiv_int, mod_int, pow_int, neg_int, lt_int, le_int, gt_int, ge_int, eq_int, eq_str, eq_bl, ne_int, ne_str, ne_bl, is_bl, isnt_bl, is_non, isnt_non, len_tup, len_lst, len_ref, len_bor, len_scr, int_bl, int_int, abs_int, min_int, max_int, blD_bl, cell_lst, st_ref, at_0, at_1, at_2, at_3, at_4, ixN_10, ixN_20, ixN_21, ixN_30, ixN_31, ixN_32, dataS_d, datas_nil, datas_cons, truth_bl, notD, intS, blS, nonB, List.length_cons, List.length_nil, Nat.reduceAdd, endsF_rt, endsF_nx, rvQ_d, rvQ_new, rv_d, rv_ref, okRef_d, okRef_ref, List.not_mem_nil, List.nil_append, true_and, and_true, List.take_succ_cons, List.take_zero, Nat.zero_add, decide_eq_true_eq, Bool.false_eq_true, if_false, if_true, callS, handS_n, handS_tr, handS_fr, handS_fd, handS_fb, cellsAt_c, cellsAt_0, Option.getD_some, backS_0, backS_1, eCall, tup_lst, tup_tup, tup_ref, fLc, iRg, rng_1, rng_2, wipeS_c, wipeS_n, iPq, iSq, seq_tup, seq_lst, seq_bor, lst_lst, lst_bor, gdS_d, gdS_b, sFor, gNm, gcS_c, gcS_n, gcO_d, gcO_n, mapp, rcv_0, rcv_1, rcv_l, gcO_r0, gcO_r1, gcO_z, seal_d, eq_self, List.take_nil, List.cons_append, poSl, poI, poNo, slD_t, intO_i, list_t, list_l, in_str2, ofS_inj, String.reduceEq, or_false, false_or, or_true, true_or, or_self, decide_true, decide_false, Bool.not_true, Bool.not_false, at_m1_2, at_m1_3, cut_2, cut_3, all_bls, any_bls, count_bls] at z ⊢ <;> exact ⟨Nat.zero_le _, z⟩
def sp_holds (d : Nat) : SpD := fun as M Q => ∃ (c : Cm) (fs : List Bool), as = [.d (cD c), .d (fD fs)] ∧ M = [] ∧ c.ok fs.length d ∧ Q (.d (.bl (c.hv fs))) []
def r_holds (sp_inner_claims : SpD) (sp_holds : SpD) : TS' :=
  (sSeq (sSet 2 (eP (po2 ixD (pV 0) (pC (.int 0)))))
  (sSeq (sIf (cP (bB (po2 inD (pV 2) (pC c_PLAIN))))
  (sRet (eP (po2 eqD (pV 2) (pC (.str "yes")))))
  sNil)
  (sSeq (sIf (cP (bB (po2 eqD (pV 2) (pC (.str "name")))))
  (sRet (eP (po2 eqD (po2 ixD (pV 1) (po2 ixD (pV 0) (pC (.int 1)))) (pC (.int 1)))))
  sNil)
  (sSeq (sSet 3 (eFz (fLc (iSq (eSeal 0 (eCall [false] sp_inner_claims (aP [(pV 0)])))) (.nm 4) tYs (eCall [false, false] sp_holds (aP [(pV 4), (pV 1)])) [4])))
  (sSeq (sIf (cP (bB (po2 eqD (pV 2) (pC (.str "not")))))
  (sRet (eP (poNt (po2 ixD (pV 3) (pC (.int 0))))))
  sNil)
  (sSeq (sIf (cP (bB (po2 eqD (pV 2) (pC (.str "same")))))
  (sRet (eP (po2 eqD (po2 ixD (pV 3) (pC (.int 0))) (po2 ixD (pV 3) (pC (.int 1))))))
  sNil)
  (sSeq (sIf (cP (bB (po2 eqD (pV 2) (pC (.str "and")))))
  (sRet (eP (poN allD [(pV 3)])))
  sNil)
  (sSeq (sIf (cP (bB (po2 eqD (pV 2) (pC (.str "or")))))
  (sRet (eP (poN anyD [(pV 3)])))
  sNil)
  (sRet (eP (po2 geD (poMt "list" countD (pV 3) [(pC (.bl true))]) (po2 ixD (pV 0) (pC (.int 1))))))))))))))
theorem dec_beq {a b : Bool} : decide (a = b) = (a == b) := by cases a <;> cases b <;> rfl
theorem dec_le {m k : Nat} : decide ((m : Int) ≤ (k : Int)) = decide (m ≤ k) := by
  rw [Bool.eq_iff_iff]; simp [Int.ofNat_le]
theorem hvs_len (fs : List Bool) : ∀ cs : List Cm, (Cm.hvs fs cs).length = cs.length
  | [] => rfl
  | c :: cs => by simp [Cm.hvs, hvs_len fs cs]
theorem fD_at {fs : List Bool} {k : Nat} (h : k < fs.length) {M : Mem} : ixD M (.d (fD fs)) (.d (.int k)) = some (.d (bitD (fs.getD k false))) := by
  simp only [fD, ix_tup, at_nat, List.getElem?_map, List.getElem?_eq_getElem h, Option.map_some, List.getD_eq_getElem?_getD, Option.getD_some]
theorem bit_one {b : Bool} {M : Mem} : eqD M (.d (bitD b)) (.d (.int 1)) = some (.d (.bl b)) := by
  cases b <;> rfl
/-- the claims in a claim, held each -/
theorem lc_holds {fs : List Bool} {d n i : Nat} {te : TE'} {δw : DS} {gd : Mem → Prop} {Q : List D → Mem → Prop} {M0 : Mem} (hg : gd M0) (h : ∀ (c : Cm) (R : QD), c.ok n d → R (.d (.bl (c.hv fs))) M0 → te (δw.set i (some (.d (cD c)))) M0 R) :
    ∀ (cs : List Cm) (acc : List Bool), Cm.oks n d cs → Q ((acc ++ Cm.hvs fs cs).map D.bl) M0 → lcL (LcG.nm i).to tYs te δw gd Q (cDs cs) (acc.map D.bl) M0
  | [], acc, _, q => ⟨hg, by simpa [Cm.hvs] using q⟩
  | c :: cs, acc, o, q => by
    refine ⟨hg, h c _ o.1 ?_⟩
    have := lc_holds (Q := Q) hg h cs (acc ++ [c.hv fs]) o.2 (by simpa [Cm.hvs] using q)
    rw [List.map_append] at this
    exact this
theorem subs_ok {n d : Nat} {c : Cm} (h : c.ok n (d + 1)) : Cm.oks n d c.subs := by
  cases c <;> first | trivial | exact ⟨h, trivial⟩ | exact ⟨h.1, h.2, trivial⟩ | exact h | exact h.2
theorem seal_r {m0 n : Nat} {M : Mem} : sealD m0 M (.ref n) = if m0 ≤ n then (cellL M[n]?).map fun ds => (.d (.lst ds), M.set n .gone) else none := rfl
theorem pure_holds {d : Nat} (as : List Sv) (M : Mem) (Q : Rv → Mem → Prop) (h : spB sp_holds (d + 1) as M Q) : r_holds sp_inner (spB sp_holds d) (endsF M.length Q) (startD 5 as) M := by
  obtain ⟨e, he, c, fs, rfl, rfl, o, z⟩ := h
  show r_holds sp_inner (spB sp_holds d) (endsF 0 Q) [some (.d (cD c)), some (.d (fD fs)), none, none, none] []
  cases c with
  | yes => simp only [r_holds, c_PLAIN, cD, sSeq, sIf, sSet, sSub, sRet, sRetN, sNil, sDrop, sAsg, sPar, sParT, sAug, cP, bB, bTr, bNt, bAn, bOr, po1, po2, poN, pArgs, poIf, poAn, poOr, poNt, poTup, plLst, plN, pl2, pl1, pFz, pV, pC, eP, eo1, eo2, eoN, aP, aNil, aCons, eAn, eOr, eNt, eIf, eFz, eNw, fP, fN, f2, f1, tTupE, tLstF, tTr, tTb, tAn, tOrr, tNt, tYs, eSeal, eMt, poMt, mPure, eCh, pCh, ok_bind, ok_map, ok_some, ok_none, ok_gd, ok_ite, List.getElem?_cons_zero, List.getElem?_cons_succ, List.set_cons_zero, List.set_cons_succ, Option.join_some, Option.bind_some, Option.map_some, Option.bind_none, Option.map_none, ix_ref, ix_tup, ix_lst, ix_bor, ix_scr, add_int, add_str, add_tup, sub_int, mul_int, fdiv_int, mod_int, pow_int, neg_int, lt_int, le_int, gt_int, ge_int, eq_int, eq_str, eq_bl, ne_int, ne_str, ne_bl, is_bl, isnt_bl, is_non, isnt_non, len_tup, len_lst, len_ref, len_bor, len_scr, int_bl, int_int, abs_int, min_int, max_int, blD_bl, cell_lst, st_ref, at_0, at_1, at_2, at_3, at_4, ixN_10, ixN_20, ixN_21, ixN_30, ixN_31, ixN_32, dataS_d, datas_nil, datas_cons, truth_bl, notD, intS, blS, nonB, List.length_cons, List.length_nil, Nat.reduceAdd, endsF_rt, endsF_nx, rvQ_d, rvQ_new, rv_d, rv_ref, okRef_d, okRef_ref, List.not_mem_nil, List.nil_append, true_and, and_true, List.take_succ_cons, List.take_zero, Nat.zero_add, decide_eq_true_eq, Bool.false_eq_true, if_false, if_true, callS, handS_n, handS_tr, handS_fr, handS_fd, handS_fb, cellsAt_c, cellsAt_0, Option.getD_some, backS_0, backS_1, eCall, tup_lst, tup_tup, tup_ref, fLc, iRg, rng_1, rng_2, wipeS_c, wipeS_n, iPq, iSq, seq_tup, seq_lst, seq_bor, lst_lst, lst_bor, gdS_d, gdS_b, sFor, gNm, gcS_c, gcS_n, gcO_d, gcO_n, mapp, rcv_0, rcv_1, rcv_l, gcO_r0, gcO_r1, gcO_z, seal_d, eq_self, List.take_nil, List.cons_append, poSl, poI, poNo, slD_t, intO_i, list_t, list_l, in_str2, ofS_inj, String.reduceEq, or_false, false_or, or_true, true_or, or_self, decide_true, decide_false, Bool.not_true, Bool.not_false, at_m1_2, at_m1_3, cut_2, cut_3, all_bls, any_bls, count_bls]; exact z
  | no => simp only [r_holds, c_PLAIN, cD, sSeq, sIf, sSet, sSub, sRet, sRetN, sNil, sDrop, sAsg, sPar, sParT, sAug, cP, bB, bTr, bNt, bAn, bOr, po1, po2, poN, pArgs, poIf, poAn, poOr, poNt, poTup, plLst, plN, pl2, pl1, pFz, pV, pC, eP, eo1, eo2, eoN, aP, aNil, aCons, eAn, eOr, eNt, eIf, eFz, eNw, fP, fN, f2, f1, tTupE, tLstF, tTr, tTb, tAn, tOrr, tNt, tYs, eSeal, eMt, poMt, mPure, eCh, pCh, ok_bind, ok_map, ok_some, ok_none, ok_gd, ok_ite, List.getElem?_cons_zero, List.getElem?_cons_succ, List.set_cons_zero, List.set_cons_succ, Option.join_some, Option.bind_some, Option.map_some, Option.bind_none, Option.map_none, ix_ref, ix_tup, ix_lst, ix_bor, ix_scr, add_int, add_str, add_tup, sub_int, mul_int, fdiv_int, mod_int, pow_int, neg_int, lt_int, le_int, gt_int, ge_int, eq_int, eq_str, eq_bl, ne_int, ne_str, ne_bl, is_bl, isnt_bl, is_non, isnt_non, len_tup, len_lst, len_ref, len_bor, len_scr, int_bl, int_int, abs_int, min_int, max_int, blD_bl, cell_lst, st_ref, at_0, at_1, at_2, at_3, at_4, ixN_10, ixN_20, ixN_21, ixN_30, ixN_31, ixN_32, dataS_d, datas_nil, datas_cons, truth_bl, notD, intS, blS, nonB, List.length_cons, List.length_nil, Nat.reduceAdd, endsF_rt, endsF_nx, rvQ_d, rvQ_new, rv_d, rv_ref, okRef_d, okRef_ref, List.not_mem_nil, List.nil_append, true_and, and_true, List.take_succ_cons, List.take_zero, Nat.zero_add, decide_eq_true_eq, Bool.false_eq_true, if_false, if_true, callS, handS_n, handS_tr, handS_fr, handS_fd, handS_fb, cellsAt_c, cellsAt_0, Option.getD_some, backS_0, backS_1, eCall, tup_lst, tup_tup, tup_ref, fLc, iRg, rng_1, rng_2, wipeS_c, wipeS_n, iPq, iSq, seq_tup, seq_lst, seq_bor, lst_lst, lst_bor, gdS_d, gdS_b, sFor, gNm, gcS_c, gcS_n, gcO_d, gcO_n, mapp, rcv_0, rcv_1, rcv_l, gcO_r0, gcO_r1, gcO_z, seal_d, eq_self, List.take_nil, List.cons_append, poSl, poI, poNo, slD_t, intO_i, list_t, list_l, in_str2, ofS_inj, String.reduceEq, or_false, false_or, or_true, true_or, or_self, decide_true, decide_false, Bool.not_true, Bool.not_false, at_m1_2, at_m1_3, cut_2, cut_3, all_bls, any_bls, count_bls]; exact z
  | name k =>
    have hk : k < fs.length := by cases e <;> exact o
    simp only [r_holds, c_PLAIN, cD, sSeq, sIf, sSet, sSub, sRet, sRetN, sNil, sDrop, sAsg, sPar, sParT, sAug, cP, bB, bTr, bNt, bAn, bOr, po1, po2, poN, pArgs, poIf, poAn, poOr, poNt, poTup, plLst, plN, pl2, pl1, pFz, pV, pC, eP, eo1, eo2, eoN, aP, aNil, aCons, eAn, eOr, eNt, eIf, eFz, eNw, fP, fN, f2, f1, tTupE, tLstF, tTr, tTb, tAn, tOrr, tNt, tYs, eSeal, eMt, poMt, mPure, eCh, pCh, ok_bind, ok_map, ok_some, ok_none, ok_gd, ok_ite, List.getElem?_cons_zero, List.getElem?_cons_succ, List.set_cons_zero, List.set_cons_succ, Option.join_some, Option.bind_some, Option.map_some, Option.bind_none, Option.map_none, ix_ref, ix_tup, ix_lst, ix_bor, ix_scr, add_int, add_str, add_tup, sub_int, mul_int, fdiv_int, mod_int, pow_int, neg_int, lt_int, le_int, gt_int, ge_int, eq_int, eq_str, eq_bl, ne_int, ne_str, ne_bl, is_bl, isnt_bl, is_non, isnt_non, len_tup, len_lst, len_ref, len_bor, len_scr, int_bl, int_int, abs_int, min_int, max_int, blD_bl, cell_lst, st_ref, at_0, at_1, at_2, at_3, at_4, ixN_10, ixN_20, ixN_21, ixN_30, ixN_31, ixN_32, dataS_d, datas_nil, datas_cons, truth_bl, notD, intS, blS, nonB, List.length_cons, List.length_nil, Nat.reduceAdd, endsF_rt, endsF_nx, rvQ_d, rvQ_new, rv_d, rv_ref, okRef_d, okRef_ref, List.not_mem_nil, List.nil_append, true_and, and_true, List.take_succ_cons, List.take_zero, Nat.zero_add, decide_eq_true_eq, Bool.false_eq_true, if_false, if_true, callS, handS_n, handS_tr, handS_fr, handS_fd, handS_fb, cellsAt_c, cellsAt_0, Option.getD_some, backS_0, backS_1, eCall, tup_lst, tup_tup, tup_ref, fLc, iRg, rng_1, rng_2, wipeS_c, wipeS_n, iPq, iSq, seq_tup, seq_lst, seq_bor, lst_lst, lst_bor, gdS_d, gdS_b, sFor, gNm, gcS_c, gcS_n, gcO_d, gcO_n, mapp, rcv_0, rcv_1, rcv_l, gcO_r0, gcO_r1, gcO_z, seal_d, eq_self, List.take_nil, List.cons_append, poSl, poI, poNo, slD_t, intO_i, list_t, list_l, in_str2, ofS_inj, String.reduceEq, or_false, false_or, or_true, true_or, or_self, decide_true, decide_false, Bool.not_true, Bool.not_false, at_m1_2, at_m1_3, cut_2, cut_3, all_bls, any_bls, count_bls, fD_at hk, bit_one]
    exact z
  | neg c =>
    obtain ⟨e, rfl⟩ : ∃ e', e = e' + 1 := by
      cases e with
      | zero => exact o.elim
      | succ e => exact ⟨e, rfl⟩
    simp only [r_holds, c_PLAIN, cD, sSeq, sIf, sSet, sSub, sRet, sRetN, sNil, sDrop, sAsg, sPar, sParT, sAug, cP, bB, bTr, bNt, bAn, bOr, po1, po2, poN, pArgs, poIf, poAn, poOr, poNt, poTup, plLst, plN, pl2, pl1, pFz, pV, pC, eP, eo1, eo2, eoN, aP, aNil, aCons, eAn, eOr, eNt, eIf, eFz, eNw, fP, fN, f2, f1, tTupE, tLstF, tTr, tTb, tAn, tOrr, tNt, tYs, eSeal, eMt, poMt, mPure, eCh, pCh, ok_bind, ok_map, ok_some, ok_none, ok_gd, ok_ite, List.getElem?_cons_zero, List.getElem?_cons_succ, List.set_cons_zero, List.set_cons_succ, Option.join_some, Option.bind_some, Option.map_some, Option.bind_none, Option.map_none, ix_ref, ix_tup, ix_lst, ix_bor, ix_scr, add_int, add_str, add_tup, sub_int, mul_int, fdiv_int, mod_int, pow_int, neg_int, lt_int, le_int, gt_int, ge_int, eq_int, eq_str, eq_bl, ne_int, ne_str, ne_bl, is_bl, isnt_bl, is_non, isnt_non, len_tup, len_lst, len_ref, len_bor, len_scr, int_bl, int_int, abs_int, min_int, max_int, blD_bl, cell_lst, st_ref, at_0, at_1, at_2, at_3, at_4, ixN_10, ixN_20, ixN_21, ixN_30, ixN_31, ixN_32, dataS_d, datas_nil, datas_cons, truth_bl, notD, intS, blS, nonB, List.length_cons, List.length_nil, Nat.reduceAdd, endsF_rt, endsF_nx, rvQ_d, rvQ_new, rv_d, rv_ref, okRef_d, okRef_ref, List.not_mem_nil, List.nil_append, true_and, and_true, List.take_succ_cons, List.take_zero, Nat.zero_add, decide_eq_true_eq, Bool.false_eq_true, if_false, if_true, callS, handS_n, handS_tr, handS_fr, handS_fd, handS_fb, cellsAt_c, cellsAt_0, Option.getD_some, backS_0, backS_1, eCall, tup_lst, tup_tup, tup_ref, fLc, iRg, rng_1, rng_2, wipeS_c, wipeS_n, iPq, iSq, seq_tup, seq_lst, seq_bor, lst_lst, lst_bor, gdS_d, gdS_b, sFor, gNm, gcS_c, gcS_n, gcO_d, gcO_n, mapp, rcv_0, rcv_1, rcv_l, gcO_r0, gcO_r1, gcO_z, seal_d, eq_self, List.take_nil, List.cons_append, poSl, poI, poNo, slD_t, intO_i, list_t, list_l, in_str2, ofS_inj, String.reduceEq, or_false, false_or, or_true, true_or, or_self, decide_true, decide_false, Bool.not_true, Bool.not_false, at_m1_2, at_m1_3, cut_2, cut_3, all_bls, any_bls, count_bls]
    refine ⟨.neg c, rfl, rfl, ?_⟩
    simp only [sSeq, sIf, sSet, sSub, sRet, sRetN, sNil, sDrop, sAsg, sPar, sParT, sAug, cP, bB, bTr, bNt, bAn, bOr, po1, po2, poN, pArgs, poIf, poAn, poOr, poNt, poTup, plLst, plN, pl2, pl1, pFz, pV, pC, eP, eo1, eo2, eoN, aP, aNil, aCons, eAn, eOr, eNt, eIf, eFz, eNw, fP, fN, f2, f1, tTupE, tLstF, tTr, tTb, tAn, tOrr, tNt, tYs, eSeal, eMt, poMt, mPure, eCh, pCh, ok_bind, ok_map, ok_some, ok_none, ok_gd, ok_ite, List.getElem?_cons_zero, List.getElem?_cons_succ, List.set_cons_zero, List.set_cons_succ, Option.join_some, Option.bind_some, Option.map_some, Option.bind_none, Option.map_none, ix_ref, ix_tup, ix_lst, ix_bor, ix_scr, add_int, add_str, add_tup, sub_int, mul_int, fdiv_int, mod_int, pow_int, neg_int, lt_int, le_int, gt_int, ge_int, eq_int, eq_str, eq_bl, ne_int, ne_str, ne_bl, is_bl, isnt_bl, is_non, isnt_non, len_tup, len_lst, len_ref, len_bor, len_scr, int_bl, int_int, abs_int, min_int, max_int, blD_bl, cell_lst, st_ref, at_0, at_1, at_2, at_3, at_4, ixN_10, ixN_20, ixN_21, ixN_30, ixN_31, ixN_32, dataS_d, datas_nil, datas_cons, truth_bl, notD, intS, blS, nonB, List.length_cons, List.length_nil, Nat.reduceAdd, endsF_rt, endsF_nx, rvQ_d, rvQ_new, rv_d, rv_ref, okRef_d, okRef_ref, List.not_mem_nil, List.nil_append, true_and, and_true, List.take_succ_cons, List.take_zero, Nat.zero_add, decide_eq_true_eq, Bool.false_eq_true, if_false, if_true, callS, handS_n, handS_tr, handS_fr, handS_fd, handS_fb, cellsAt_c, cellsAt_0, Option.getD_some, backS_0, backS_1, eCall, tup_lst, tup_tup, tup_ref, fLc, iRg, rng_1, rng_2, wipeS_c, wipeS_n, iPq, iSq, seq_tup, seq_lst, seq_bor, lst_lst, lst_bor, gdS_d, gdS_b, sFor, gNm, gcS_c, gcS_n, gcO_d, gcO_n, mapp, rcv_0, rcv_1, rcv_l, gcO_r0, gcO_r1, gcO_z, seal_d, eq_self, List.take_nil, List.cons_append, poSl, poI, poNo, slD_t, intO_i, list_t, list_l, in_str2, ofS_inj, String.reduceEq, or_false, false_or, or_true, true_or, or_self, decide_true, decide_false, Bool.not_true, Bool.not_false, at_m1_2, at_m1_3, cut_2, cut_3, all_bls, any_bls, count_bls, seal_r, Nat.le_refl]
    refine lc_holds (acc := []) (M0 := [.gone]) trivial (fun c' R' o' hR' => by
      simp only [sSeq, sIf, sSet, sSub, sRet, sRetN, sNil, sDrop, sAsg, sPar, sParT, sAug, cP, bB, bTr, bNt, bAn, bOr, po1, po2, poN, pArgs, poIf, poAn, poOr, poNt, poTup, plLst, plN, pl2, pl1, pFz, pV, pC, eP, eo1, eo2, eoN, aP, aNil, aCons, eAn, eOr, eNt, eIf, eFz, eNw, fP, fN, f2, f1, tTupE, tLstF, tTr, tTb, tAn, tOrr, tNt, tYs, eSeal, eMt, poMt, mPure, eCh, pCh, ok_bind, ok_map, ok_some, ok_none, ok_gd, ok_ite, List.getElem?_cons_zero, List.getElem?_cons_succ, List.set_cons_zero, List.set_cons_succ, Option.join_some, Option.bind_some, Option.map_some, Option.bind_none, Option.map_none, ix_ref, ix_tup, ix_lst, ix_bor, ix_scr, add_int, add_str, add_tup, sub_int, mul_int, fdiv_int, mod_int, pow_int, neg_int, lt_int, le_int, gt_int, ge_int, eq_int, eq_str, eq_bl, ne_int, ne_str, ne_bl, is_bl, isnt_bl, is_non, isnt_non, len_tup, len_lst, len_ref, len_bor, len_scr, int_bl, int_int, abs_int, min_int, max_int, blD_bl, cell_lst, st_ref, at_0, at_1, at_2, at_3, at_4, ixN_10, ixN_20, ixN_21, ixN_30, ixN_31, ixN_32, dataS_d, datas_nil, datas_cons, truth_bl, notD, intS, blS, nonB, List.length_cons, List.length_nil, Nat.reduceAdd, endsF_rt, endsF_nx, rvQ_d, rvQ_new, rv_d, rv_ref, okRef_d, okRef_ref, List.not_mem_nil, List.nil_append, true_and, and_true, List.take_succ_cons, List.take_zero, Nat.zero_add, decide_eq_true_eq, Bool.false_eq_true, if_false, if_true, callS, handS_n, handS_tr, handS_fr, handS_fd, handS_fb, cellsAt_c, cellsAt_0, Option.getD_some, backS_0, backS_1, eCall, tup_lst, tup_tup, tup_ref, fLc, iRg, rng_1, rng_2, wipeS_c, wipeS_n, iPq, iSq, seq_tup, seq_lst, seq_bor, lst_lst, lst_bor, gdS_d, gdS_b, sFor, gNm, gcS_c, gcS_n, gcO_d, gcO_n, mapp, rcv_0, rcv_1, rcv_l, gcO_r0, gcO_r1, gcO_z, seal_d, eq_self, List.take_nil, List.cons_append, poSl, poI, poNo, slD_t, intO_i, list_t, list_l, in_str2, ofS_inj, String.reduceEq, or_false, false_or, or_true, true_or, or_self, decide_true, decide_false, Bool.not_true, Bool.not_false, at_m1_2, at_m1_3, cut_2, cut_3, all_bls, any_bls, count_bls]
      exact ⟨e, by omega, c', fs, rfl, rfl, o', by simp only [sSeq, sIf, sSet, sSub, sRet, sRetN, sNil, sDrop, sAsg, sPar, sParT, sAug, cP, bB, bTr, bNt, bAn, bOr, po1, po2, poN, pArgs, poIf, poAn, poOr, poNt, poTup, plLst, plN, pl2, pl1, pFz, pV, pC, eP, eo1, eo2, eoN, aP, aNil, aCons, eAn, eOr, eNt, eIf, eFz, eNw, fP, fN, f2, f1, tTupE, tLstF, tTr, tTb, tAn, tOrr, tNt, tYs, eSeal, eMt, poMt, mPure, eCh, pCh, ok_bind, ok_map, ok_some, ok_none, ok_gd, ok_ite, List.getElem?_cons_zero, List.getElem?_cons_succ, List.set_cons_zero, List.set_cons_succ, Option.join_some, Option.bind_some, Option.map_some, Option.bind_none, Option.map_none, ix_ref, ix_tup, ix_lst, ix_bor, ix_scr, add_int, add_str, add_tup, sub_int, mul_int, fdiv_int, mod_int, pow_int, neg_int, lt_int, le_int, gt_int, ge_int, eq_int, eq_str, eq_bl, ne_int, ne_str, ne_bl, is_bl, isnt_bl, is_non, isnt_non, len_tup, len_lst, len_ref, len_bor, len_scr, int_bl, int_int, abs_int, min_int, max_int, blD_bl, cell_lst, st_ref, at_0, at_1, at_2, at_3, at_4, ixN_10, ixN_20, ixN_21, ixN_30, ixN_31, ixN_32, dataS_d, datas_nil, datas_cons, truth_bl, notD, intS, blS, nonB, List.length_cons, List.length_nil, Nat.reduceAdd, endsF_rt, endsF_nx, rvQ_d, rvQ_new, rv_d, rv_ref, okRef_d, okRef_ref, List.not_mem_nil, List.nil_append, true_and, and_true, List.take_succ_cons, List.take_zero, Nat.zero_add, decide_eq_true_eq, Bool.false_eq_true, if_false, if_true, callS, handS_n, handS_tr, handS_fr, handS_fd, handS_fb, cellsAt_c, cellsAt_0, Option.getD_some, backS_0, backS_1, eCall, tup_lst, tup_tup, tup_ref, fLc, iRg, rng_1, rng_2, wipeS_c, wipeS_n, iPq, iSq, seq_tup, seq_lst, seq_bor, lst_lst, lst_bor, gdS_d, gdS_b, sFor, gNm, gcS_c, gcS_n, gcO_d, gcO_n, mapp, rcv_0, rcv_1, rcv_l, gcO_r0, gcO_r1, gcO_z, seal_d, eq_self, List.take_nil, List.cons_append, poSl, poI, poNo, slD_t, intO_i, list_t, list_l, in_str2, ofS_inj, String.reduceEq, or_false, false_or, or_true, true_or, or_self, decide_true, decide_false, Bool.not_true, Bool.not_false, at_m1_2, at_m1_3, cut_2, cut_3, all_bls, any_bls, count_bls]; exact hR'⟩) (Cm.neg c).subs (subs_ok o) ?_
    simp only [Cm.hv] at z
    simp only [sSeq, sIf, sSet, sSub, sRet, sRetN, sNil, sDrop, sAsg, sPar, sParT, sAug, cP, bB, bTr, bNt, bAn, bOr, po1, po2, poN, pArgs, poIf, poAn, poOr, poNt, poTup, plLst, plN, pl2, pl1, pFz, pV, pC, eP, eo1, eo2, eoN, aP, aNil, aCons, eAn, eOr, eNt, eIf, eFz, eNw, fP, fN, f2, f1, tTupE, tLstF, tTr, tTb, tAn, tOrr, tNt, tYs, eSeal, eMt, poMt, mPure, eCh, pCh, ok_bind, ok_map, ok_some, ok_none, ok_gd, ok_ite, List.getElem?_cons_zero, List.getElem?_cons_succ, List.set_cons_zero, List.set_cons_succ, Option.join_some, Option.bind_some, Option.map_some, Option.bind_none, Option.map_none, ix_ref, ix_tup, ix_lst, ix_bor, ix_scr, add_int, add_str, add_tup, sub_int, mul_int, fdiv_int, mod_int, pow_int, neg_int, lt_int, le_int, gt_int, ge_int, eq_int, eq_str, eq_bl, ne_int, ne_str, ne_bl, is_bl, isnt_bl, is_non, isnt_non, len_tup, len_lst, len_ref, len_bor, len_scr, int_bl, int_int, abs_int, min_int, max_int, blD_bl, cell_lst, st_ref, at_0, at_1, at_2, at_3, at_4, ixN_10, ixN_20, ixN_21, ixN_30, ixN_31, ixN_32, dataS_d, datas_nil, datas_cons, truth_bl, notD, intS, blS, nonB, List.length_cons, List.length_nil, Nat.reduceAdd, endsF_rt, endsF_nx, rvQ_d, rvQ_new, rv_d, rv_ref, okRef_d, okRef_ref, List.not_mem_nil, List.nil_append, true_and, and_true, List.take_succ_cons, List.take_zero, Nat.zero_add, decide_eq_true_eq, Bool.false_eq_true, if_false, if_true, callS, handS_n, handS_tr, handS_fr, handS_fd, handS_fb, cellsAt_c, cellsAt_0, Option.getD_some, backS_0, backS_1, eCall, tup_lst, tup_tup, tup_ref, fLc, iRg, rng_1, rng_2, wipeS_c, wipeS_n, iPq, iSq, seq_tup, seq_lst, seq_bor, lst_lst, lst_bor, gdS_d, gdS_b, sFor, gNm, gcS_c, gcS_n, gcO_d, gcO_n, mapp, rcv_0, rcv_1, rcv_l, gcO_r0, gcO_r1, gcO_z, seal_d, eq_self, List.take_nil, List.cons_append, poSl, poI, poNo, slD_t, intO_i, list_t, list_l, in_str2, ofS_inj, String.reduceEq, or_false, false_or, or_true, true_or, or_self, decide_true, decide_false, Bool.not_true, Bool.not_false, at_m1_2, at_m1_3, cut_2, cut_3, all_bls, any_bls, count_bls, Cm.subs, Cm.hvs, List.map_cons, List.map_nil, gdT]
    exact z
  | same c1 c2 =>
    obtain ⟨e, rfl⟩ : ∃ e', e = e' + 1 := by
      cases e with
      | zero => exact o.elim
      | succ e => exact ⟨e, rfl⟩
    simp only [r_holds, c_PLAIN, cD, sSeq, sIf, sSet, sSub, sRet, sRetN, sNil, sDrop, sAsg, sPar, sParT, sAug, cP, bB, bTr, bNt, bAn, bOr, po1, po2, poN, pArgs, poIf, poAn, poOr, poNt, poTup, plLst, plN, pl2, pl1, pFz, pV, pC, eP, eo1, eo2, eoN, aP, aNil, aCons, eAn, eOr, eNt, eIf, eFz, eNw, fP, fN, f2, f1, tTupE, tLstF, tTr, tTb, tAn, tOrr, tNt, tYs, eSeal, eMt, poMt, mPure, eCh, pCh, ok_bind, ok_map, ok_some, ok_none, ok_gd, ok_ite, List.getElem?_cons_zero, List.getElem?_cons_succ, List.set_cons_zero, List.set_cons_succ, Option.join_some, Option.bind_some, Option.map_some, Option.bind_none, Option.map_none, ix_ref, ix_tup, ix_lst, ix_bor, ix_scr, add_int, add_str, add_tup, sub_int, mul_int, fdiv_int, mod_int, pow_int, neg_int, lt_int, le_int, gt_int, ge_int, eq_int, eq_str, eq_bl, ne_int, ne_str, ne_bl, is_bl, isnt_bl, is_non, isnt_non, len_tup, len_lst, len_ref, len_bor, len_scr, int_bl, int_int, abs_int, min_int, max_int, blD_bl, cell_lst, st_ref, at_0, at_1, at_2, at_3, at_4, ixN_10, ixN_20, ixN_21, ixN_30, ixN_31, ixN_32, dataS_d, datas_nil, datas_cons, truth_bl, notD, intS, blS, nonB, List.length_cons, List.length_nil, Nat.reduceAdd, endsF_rt, endsF_nx, rvQ_d, rvQ_new, rv_d, rv_ref, okRef_d, okRef_ref, List.not_mem_nil, List.nil_append, true_and, and_true, List.take_succ_cons, List.take_zero, Nat.zero_add, decide_eq_true_eq, Bool.false_eq_true, if_false, if_true, callS, handS_n, handS_tr, handS_fr, handS_fd, handS_fb, cellsAt_c, cellsAt_0, Option.getD_some, backS_0, backS_1, eCall, tup_lst, tup_tup, tup_ref, fLc, iRg, rng_1, rng_2, wipeS_c, wipeS_n, iPq, iSq, seq_tup, seq_lst, seq_bor, lst_lst, lst_bor, gdS_d, gdS_b, sFor, gNm, gcS_c, gcS_n, gcO_d, gcO_n, mapp, rcv_0, rcv_1, rcv_l, gcO_r0, gcO_r1, gcO_z, seal_d, eq_self, List.take_nil, List.cons_append, poSl, poI, poNo, slD_t, intO_i, list_t, list_l, in_str2, ofS_inj, String.reduceEq, or_false, false_or, or_true, true_or, or_self, decide_true, decide_false, Bool.not_true, Bool.not_false, at_m1_2, at_m1_3, cut_2, cut_3, all_bls, any_bls, count_bls]
    refine ⟨.same c1 c2, rfl, rfl, ?_⟩
    simp only [sSeq, sIf, sSet, sSub, sRet, sRetN, sNil, sDrop, sAsg, sPar, sParT, sAug, cP, bB, bTr, bNt, bAn, bOr, po1, po2, poN, pArgs, poIf, poAn, poOr, poNt, poTup, plLst, plN, pl2, pl1, pFz, pV, pC, eP, eo1, eo2, eoN, aP, aNil, aCons, eAn, eOr, eNt, eIf, eFz, eNw, fP, fN, f2, f1, tTupE, tLstF, tTr, tTb, tAn, tOrr, tNt, tYs, eSeal, eMt, poMt, mPure, eCh, pCh, ok_bind, ok_map, ok_some, ok_none, ok_gd, ok_ite, List.getElem?_cons_zero, List.getElem?_cons_succ, List.set_cons_zero, List.set_cons_succ, Option.join_some, Option.bind_some, Option.map_some, Option.bind_none, Option.map_none, ix_ref, ix_tup, ix_lst, ix_bor, ix_scr, add_int, add_str, add_tup, sub_int, mul_int, fdiv_int, mod_int, pow_int, neg_int, lt_int, le_int, gt_int, ge_int, eq_int, eq_str, eq_bl, ne_int, ne_str, ne_bl, is_bl, isnt_bl, is_non, isnt_non, len_tup, len_lst, len_ref, len_bor, len_scr, int_bl, int_int, abs_int, min_int, max_int, blD_bl, cell_lst, st_ref, at_0, at_1, at_2, at_3, at_4, ixN_10, ixN_20, ixN_21, ixN_30, ixN_31, ixN_32, dataS_d, datas_nil, datas_cons, truth_bl, notD, intS, blS, nonB, List.length_cons, List.length_nil, Nat.reduceAdd, endsF_rt, endsF_nx, rvQ_d, rvQ_new, rv_d, rv_ref, okRef_d, okRef_ref, List.not_mem_nil, List.nil_append, true_and, and_true, List.take_succ_cons, List.take_zero, Nat.zero_add, decide_eq_true_eq, Bool.false_eq_true, if_false, if_true, callS, handS_n, handS_tr, handS_fr, handS_fd, handS_fb, cellsAt_c, cellsAt_0, Option.getD_some, backS_0, backS_1, eCall, tup_lst, tup_tup, tup_ref, fLc, iRg, rng_1, rng_2, wipeS_c, wipeS_n, iPq, iSq, seq_tup, seq_lst, seq_bor, lst_lst, lst_bor, gdS_d, gdS_b, sFor, gNm, gcS_c, gcS_n, gcO_d, gcO_n, mapp, rcv_0, rcv_1, rcv_l, gcO_r0, gcO_r1, gcO_z, seal_d, eq_self, List.take_nil, List.cons_append, poSl, poI, poNo, slD_t, intO_i, list_t, list_l, in_str2, ofS_inj, String.reduceEq, or_false, false_or, or_true, true_or, or_self, decide_true, decide_false, Bool.not_true, Bool.not_false, at_m1_2, at_m1_3, cut_2, cut_3, all_bls, any_bls, count_bls, seal_r, Nat.le_refl]
    refine lc_holds (acc := []) (M0 := [.gone]) trivial (fun c' R' o' hR' => by
      simp only [sSeq, sIf, sSet, sSub, sRet, sRetN, sNil, sDrop, sAsg, sPar, sParT, sAug, cP, bB, bTr, bNt, bAn, bOr, po1, po2, poN, pArgs, poIf, poAn, poOr, poNt, poTup, plLst, plN, pl2, pl1, pFz, pV, pC, eP, eo1, eo2, eoN, aP, aNil, aCons, eAn, eOr, eNt, eIf, eFz, eNw, fP, fN, f2, f1, tTupE, tLstF, tTr, tTb, tAn, tOrr, tNt, tYs, eSeal, eMt, poMt, mPure, eCh, pCh, ok_bind, ok_map, ok_some, ok_none, ok_gd, ok_ite, List.getElem?_cons_zero, List.getElem?_cons_succ, List.set_cons_zero, List.set_cons_succ, Option.join_some, Option.bind_some, Option.map_some, Option.bind_none, Option.map_none, ix_ref, ix_tup, ix_lst, ix_bor, ix_scr, add_int, add_str, add_tup, sub_int, mul_int, fdiv_int, mod_int, pow_int, neg_int, lt_int, le_int, gt_int, ge_int, eq_int, eq_str, eq_bl, ne_int, ne_str, ne_bl, is_bl, isnt_bl, is_non, isnt_non, len_tup, len_lst, len_ref, len_bor, len_scr, int_bl, int_int, abs_int, min_int, max_int, blD_bl, cell_lst, st_ref, at_0, at_1, at_2, at_3, at_4, ixN_10, ixN_20, ixN_21, ixN_30, ixN_31, ixN_32, dataS_d, datas_nil, datas_cons, truth_bl, notD, intS, blS, nonB, List.length_cons, List.length_nil, Nat.reduceAdd, endsF_rt, endsF_nx, rvQ_d, rvQ_new, rv_d, rv_ref, okRef_d, okRef_ref, List.not_mem_nil, List.nil_append, true_and, and_true, List.take_succ_cons, List.take_zero, Nat.zero_add, decide_eq_true_eq, Bool.false_eq_true, if_false, if_true, callS, handS_n, handS_tr, handS_fr, handS_fd, handS_fb, cellsAt_c, cellsAt_0, Option.getD_some, backS_0, backS_1, eCall, tup_lst, tup_tup, tup_ref, fLc, iRg, rng_1, rng_2, wipeS_c, wipeS_n, iPq, iSq, seq_tup, seq_lst, seq_bor, lst_lst, lst_bor, gdS_d, gdS_b, sFor, gNm, gcS_c, gcS_n, gcO_d, gcO_n, mapp, rcv_0, rcv_1, rcv_l, gcO_r0, gcO_r1, gcO_z, seal_d, eq_self, List.take_nil, List.cons_append, poSl, poI, poNo, slD_t, intO_i, list_t, list_l, in_str2, ofS_inj, String.reduceEq, or_false, false_or, or_true, true_or, or_self, decide_true, decide_false, Bool.not_true, Bool.not_false, at_m1_2, at_m1_3, cut_2, cut_3, all_bls, any_bls, count_bls]
      exact ⟨e, by omega, c', fs, rfl, rfl, o', by simp only [sSeq, sIf, sSet, sSub, sRet, sRetN, sNil, sDrop, sAsg, sPar, sParT, sAug, cP, bB, bTr, bNt, bAn, bOr, po1, po2, poN, pArgs, poIf, poAn, poOr, poNt, poTup, plLst, plN, pl2, pl1, pFz, pV, pC, eP, eo1, eo2, eoN, aP, aNil, aCons, eAn, eOr, eNt, eIf, eFz, eNw, fP, fN, f2, f1, tTupE, tLstF, tTr, tTb, tAn, tOrr, tNt, tYs, eSeal, eMt, poMt, mPure, eCh, pCh, ok_bind, ok_map, ok_some, ok_none, ok_gd, ok_ite, List.getElem?_cons_zero, List.getElem?_cons_succ, List.set_cons_zero, List.set_cons_succ, Option.join_some, Option.bind_some, Option.map_some, Option.bind_none, Option.map_none, ix_ref, ix_tup, ix_lst, ix_bor, ix_scr, add_int, add_str, add_tup, sub_int, mul_int, fdiv_int, mod_int, pow_int, neg_int, lt_int, le_int, gt_int, ge_int, eq_int, eq_str, eq_bl, ne_int, ne_str, ne_bl, is_bl, isnt_bl, is_non, isnt_non, len_tup, len_lst, len_ref, len_bor, len_scr, int_bl, int_int, abs_int, min_int, max_int, blD_bl, cell_lst, st_ref, at_0, at_1, at_2, at_3, at_4, ixN_10, ixN_20, ixN_21, ixN_30, ixN_31, ixN_32, dataS_d, datas_nil, datas_cons, truth_bl, notD, intS, blS, nonB, List.length_cons, List.length_nil, Nat.reduceAdd, endsF_rt, endsF_nx, rvQ_d, rvQ_new, rv_d, rv_ref, okRef_d, okRef_ref, List.not_mem_nil, List.nil_append, true_and, and_true, List.take_succ_cons, List.take_zero, Nat.zero_add, decide_eq_true_eq, Bool.false_eq_true, if_false, if_true, callS, handS_n, handS_tr, handS_fr, handS_fd, handS_fb, cellsAt_c, cellsAt_0, Option.getD_some, backS_0, backS_1, eCall, tup_lst, tup_tup, tup_ref, fLc, iRg, rng_1, rng_2, wipeS_c, wipeS_n, iPq, iSq, seq_tup, seq_lst, seq_bor, lst_lst, lst_bor, gdS_d, gdS_b, sFor, gNm, gcS_c, gcS_n, gcO_d, gcO_n, mapp, rcv_0, rcv_1, rcv_l, gcO_r0, gcO_r1, gcO_z, seal_d, eq_self, List.take_nil, List.cons_append, poSl, poI, poNo, slD_t, intO_i, list_t, list_l, in_str2, ofS_inj, String.reduceEq, or_false, false_or, or_true, true_or, or_self, decide_true, decide_false, Bool.not_true, Bool.not_false, at_m1_2, at_m1_3, cut_2, cut_3, all_bls, any_bls, count_bls]; exact hR'⟩) (Cm.same c1 c2).subs (subs_ok o) ?_
    simp only [Cm.hv] at z
    simp only [sSeq, sIf, sSet, sSub, sRet, sRetN, sNil, sDrop, sAsg, sPar, sParT, sAug, cP, bB, bTr, bNt, bAn, bOr, po1, po2, poN, pArgs, poIf, poAn, poOr, poNt, poTup, plLst, plN, pl2, pl1, pFz, pV, pC, eP, eo1, eo2, eoN, aP, aNil, aCons, eAn, eOr, eNt, eIf, eFz, eNw, fP, fN, f2, f1, tTupE, tLstF, tTr, tTb, tAn, tOrr, tNt, tYs, eSeal, eMt, poMt, mPure, eCh, pCh, ok_bind, ok_map, ok_some, ok_none, ok_gd, ok_ite, List.getElem?_cons_zero, List.getElem?_cons_succ, List.set_cons_zero, List.set_cons_succ, Option.join_some, Option.bind_some, Option.map_some, Option.bind_none, Option.map_none, ix_ref, ix_tup, ix_lst, ix_bor, ix_scr, add_int, add_str, add_tup, sub_int, mul_int, fdiv_int, mod_int, pow_int, neg_int, lt_int, le_int, gt_int, ge_int, eq_int, eq_str, eq_bl, ne_int, ne_str, ne_bl, is_bl, isnt_bl, is_non, isnt_non, len_tup, len_lst, len_ref, len_bor, len_scr, int_bl, int_int, abs_int, min_int, max_int, blD_bl, cell_lst, st_ref, at_0, at_1, at_2, at_3, at_4, ixN_10, ixN_20, ixN_21, ixN_30, ixN_31, ixN_32, dataS_d, datas_nil, datas_cons, truth_bl, notD, intS, blS, nonB, List.length_cons, List.length_nil, Nat.reduceAdd, endsF_rt, endsF_nx, rvQ_d, rvQ_new, rv_d, rv_ref, okRef_d, okRef_ref, List.not_mem_nil, List.nil_append, true_and, and_true, List.take_succ_cons, List.take_zero, Nat.zero_add, decide_eq_true_eq, Bool.false_eq_true, if_false, if_true, callS, handS_n, handS_tr, handS_fr, handS_fd, handS_fb, cellsAt_c, cellsAt_0, Option.getD_some, backS_0, backS_1, eCall, tup_lst, tup_tup, tup_ref, fLc, iRg, rng_1, rng_2, wipeS_c, wipeS_n, iPq, iSq, seq_tup, seq_lst, seq_bor, lst_lst, lst_bor, gdS_d, gdS_b, sFor, gNm, gcS_c, gcS_n, gcO_d, gcO_n, mapp, rcv_0, rcv_1, rcv_l, gcO_r0, gcO_r1, gcO_z, seal_d, eq_self, List.take_nil, List.cons_append, poSl, poI, poNo, slD_t, intO_i, list_t, list_l, in_str2, ofS_inj, String.reduceEq, or_false, false_or, or_true, true_or, or_self, decide_true, decide_false, Bool.not_true, Bool.not_false, at_m1_2, at_m1_3, cut_2, cut_3, all_bls, any_bls, count_bls, Cm.subs, Cm.hvs, List.map_cons, List.map_nil, gdT]
    rw [dec_beq]; exact z
  | all cs =>
    obtain ⟨e, rfl⟩ : ∃ e', e = e' + 1 := by
      cases e with
      | zero => exact o.elim
      | succ e => exact ⟨e, rfl⟩
    simp only [r_holds, c_PLAIN, cD, sSeq, sIf, sSet, sSub, sRet, sRetN, sNil, sDrop, sAsg, sPar, sParT, sAug, cP, bB, bTr, bNt, bAn, bOr, po1, po2, poN, pArgs, poIf, poAn, poOr, poNt, poTup, plLst, plN, pl2, pl1, pFz, pV, pC, eP, eo1, eo2, eoN, aP, aNil, aCons, eAn, eOr, eNt, eIf, eFz, eNw, fP, fN, f2, f1, tTupE, tLstF, tTr, tTb, tAn, tOrr, tNt, tYs, eSeal, eMt, poMt, mPure, eCh, pCh, ok_bind, ok_map, ok_some, ok_none, ok_gd, ok_ite, List.getElem?_cons_zero, List.getElem?_cons_succ, List.set_cons_zero, List.set_cons_succ, Option.join_some, Option.bind_some, Option.map_some, Option.bind_none, Option.map_none, ix_ref, ix_tup, ix_lst, ix_bor, ix_scr, add_int, add_str, add_tup, sub_int, mul_int, fdiv_int, mod_int, pow_int, neg_int, lt_int, le_int, gt_int, ge_int, eq_int, eq_str, eq_bl, ne_int, ne_str, ne_bl, is_bl, isnt_bl, is_non, isnt_non, len_tup, len_lst, len_ref, len_bor, len_scr, int_bl, int_int, abs_int, min_int, max_int, blD_bl, cell_lst, st_ref, at_0, at_1, at_2, at_3, at_4, ixN_10, ixN_20, ixN_21, ixN_30, ixN_31, ixN_32, dataS_d, datas_nil, datas_cons, truth_bl, notD, intS, blS, nonB, List.length_cons, List.length_nil, Nat.reduceAdd, endsF_rt, endsF_nx, rvQ_d, rvQ_new, rv_d, rv_ref, okRef_d, okRef_ref, List.not_mem_nil, List.nil_append, true_and, and_true, List.take_succ_cons, List.take_zero, Nat.zero_add, decide_eq_true_eq, Bool.false_eq_true, if_false, if_true, callS, handS_n, handS_tr, handS_fr, handS_fd, handS_fb, cellsAt_c, cellsAt_0, Option.getD_some, backS_0, backS_1, eCall, tup_lst, tup_tup, tup_ref, fLc, iRg, rng_1, rng_2, wipeS_c, wipeS_n, iPq, iSq, seq_tup, seq_lst, seq_bor, lst_lst, lst_bor, gdS_d, gdS_b, sFor, gNm, gcS_c, gcS_n, gcO_d, gcO_n, mapp, rcv_0, rcv_1, rcv_l, gcO_r0, gcO_r1, gcO_z, seal_d, eq_self, List.take_nil, List.cons_append, poSl, poI, poNo, slD_t, intO_i, list_t, list_l, in_str2, ofS_inj, String.reduceEq, or_false, false_or, or_true, true_or, or_self, decide_true, decide_false, Bool.not_true, Bool.not_false, at_m1_2, at_m1_3, cut_2, cut_3, all_bls, any_bls, count_bls]
    refine ⟨.all cs, rfl, rfl, ?_⟩
    simp only [sSeq, sIf, sSet, sSub, sRet, sRetN, sNil, sDrop, sAsg, sPar, sParT, sAug, cP, bB, bTr, bNt, bAn, bOr, po1, po2, poN, pArgs, poIf, poAn, poOr, poNt, poTup, plLst, plN, pl2, pl1, pFz, pV, pC, eP, eo1, eo2, eoN, aP, aNil, aCons, eAn, eOr, eNt, eIf, eFz, eNw, fP, fN, f2, f1, tTupE, tLstF, tTr, tTb, tAn, tOrr, tNt, tYs, eSeal, eMt, poMt, mPure, eCh, pCh, ok_bind, ok_map, ok_some, ok_none, ok_gd, ok_ite, List.getElem?_cons_zero, List.getElem?_cons_succ, List.set_cons_zero, List.set_cons_succ, Option.join_some, Option.bind_some, Option.map_some, Option.bind_none, Option.map_none, ix_ref, ix_tup, ix_lst, ix_bor, ix_scr, add_int, add_str, add_tup, sub_int, mul_int, fdiv_int, mod_int, pow_int, neg_int, lt_int, le_int, gt_int, ge_int, eq_int, eq_str, eq_bl, ne_int, ne_str, ne_bl, is_bl, isnt_bl, is_non, isnt_non, len_tup, len_lst, len_ref, len_bor, len_scr, int_bl, int_int, abs_int, min_int, max_int, blD_bl, cell_lst, st_ref, at_0, at_1, at_2, at_3, at_4, ixN_10, ixN_20, ixN_21, ixN_30, ixN_31, ixN_32, dataS_d, datas_nil, datas_cons, truth_bl, notD, intS, blS, nonB, List.length_cons, List.length_nil, Nat.reduceAdd, endsF_rt, endsF_nx, rvQ_d, rvQ_new, rv_d, rv_ref, okRef_d, okRef_ref, List.not_mem_nil, List.nil_append, true_and, and_true, List.take_succ_cons, List.take_zero, Nat.zero_add, decide_eq_true_eq, Bool.false_eq_true, if_false, if_true, callS, handS_n, handS_tr, handS_fr, handS_fd, handS_fb, cellsAt_c, cellsAt_0, Option.getD_some, backS_0, backS_1, eCall, tup_lst, tup_tup, tup_ref, fLc, iRg, rng_1, rng_2, wipeS_c, wipeS_n, iPq, iSq, seq_tup, seq_lst, seq_bor, lst_lst, lst_bor, gdS_d, gdS_b, sFor, gNm, gcS_c, gcS_n, gcO_d, gcO_n, mapp, rcv_0, rcv_1, rcv_l, gcO_r0, gcO_r1, gcO_z, seal_d, eq_self, List.take_nil, List.cons_append, poSl, poI, poNo, slD_t, intO_i, list_t, list_l, in_str2, ofS_inj, String.reduceEq, or_false, false_or, or_true, true_or, or_self, decide_true, decide_false, Bool.not_true, Bool.not_false, at_m1_2, at_m1_3, cut_2, cut_3, all_bls, any_bls, count_bls, seal_r, Nat.le_refl]
    refine lc_holds (acc := []) (M0 := [.gone]) trivial (fun c' R' o' hR' => by
      simp only [sSeq, sIf, sSet, sSub, sRet, sRetN, sNil, sDrop, sAsg, sPar, sParT, sAug, cP, bB, bTr, bNt, bAn, bOr, po1, po2, poN, pArgs, poIf, poAn, poOr, poNt, poTup, plLst, plN, pl2, pl1, pFz, pV, pC, eP, eo1, eo2, eoN, aP, aNil, aCons, eAn, eOr, eNt, eIf, eFz, eNw, fP, fN, f2, f1, tTupE, tLstF, tTr, tTb, tAn, tOrr, tNt, tYs, eSeal, eMt, poMt, mPure, eCh, pCh, ok_bind, ok_map, ok_some, ok_none, ok_gd, ok_ite, List.getElem?_cons_zero, List.getElem?_cons_succ, List.set_cons_zero, List.set_cons_succ, Option.join_some, Option.bind_some, Option.map_some, Option.bind_none, Option.map_none, ix_ref, ix_tup, ix_lst, ix_bor, ix_scr, add_int, add_str, add_tup, sub_int, mul_int, fdiv_int, mod_int, pow_int, neg_int, lt_int, le_int, gt_int, ge_int, eq_int, eq_str, eq_bl, ne_int, ne_str, ne_bl, is_bl, isnt_bl, is_non, isnt_non, len_tup, len_lst, len_ref, len_bor, len_scr, int_bl, int_int, abs_int, min_int, max_int, blD_bl, cell_lst, st_ref, at_0, at_1, at_2, at_3, at_4, ixN_10, ixN_20, ixN_21, ixN_30, ixN_31, ixN_32, dataS_d, datas_nil, datas_cons, truth_bl, notD, intS, blS, nonB, List.length_cons, List.length_nil, Nat.reduceAdd, endsF_rt, endsF_nx, rvQ_d, rvQ_new, rv_d, rv_ref, okRef_d, okRef_ref, List.not_mem_nil, List.nil_append, true_and, and_true, List.take_succ_cons, List.take_zero, Nat.zero_add, decide_eq_true_eq, Bool.false_eq_true, if_false, if_true, callS, handS_n, handS_tr, handS_fr, handS_fd, handS_fb, cellsAt_c, cellsAt_0, Option.getD_some, backS_0, backS_1, eCall, tup_lst, tup_tup, tup_ref, fLc, iRg, rng_1, rng_2, wipeS_c, wipeS_n, iPq, iSq, seq_tup, seq_lst, seq_bor, lst_lst, lst_bor, gdS_d, gdS_b, sFor, gNm, gcS_c, gcS_n, gcO_d, gcO_n, mapp, rcv_0, rcv_1, rcv_l, gcO_r0, gcO_r1, gcO_z, seal_d, eq_self, List.take_nil, List.cons_append, poSl, poI, poNo, slD_t, intO_i, list_t, list_l, in_str2, ofS_inj, String.reduceEq, or_false, false_or, or_true, true_or, or_self, decide_true, decide_false, Bool.not_true, Bool.not_false, at_m1_2, at_m1_3, cut_2, cut_3, all_bls, any_bls, count_bls]
      exact ⟨e, by omega, c', fs, rfl, rfl, o', by simp only [sSeq, sIf, sSet, sSub, sRet, sRetN, sNil, sDrop, sAsg, sPar, sParT, sAug, cP, bB, bTr, bNt, bAn, bOr, po1, po2, poN, pArgs, poIf, poAn, poOr, poNt, poTup, plLst, plN, pl2, pl1, pFz, pV, pC, eP, eo1, eo2, eoN, aP, aNil, aCons, eAn, eOr, eNt, eIf, eFz, eNw, fP, fN, f2, f1, tTupE, tLstF, tTr, tTb, tAn, tOrr, tNt, tYs, eSeal, eMt, poMt, mPure, eCh, pCh, ok_bind, ok_map, ok_some, ok_none, ok_gd, ok_ite, List.getElem?_cons_zero, List.getElem?_cons_succ, List.set_cons_zero, List.set_cons_succ, Option.join_some, Option.bind_some, Option.map_some, Option.bind_none, Option.map_none, ix_ref, ix_tup, ix_lst, ix_bor, ix_scr, add_int, add_str, add_tup, sub_int, mul_int, fdiv_int, mod_int, pow_int, neg_int, lt_int, le_int, gt_int, ge_int, eq_int, eq_str, eq_bl, ne_int, ne_str, ne_bl, is_bl, isnt_bl, is_non, isnt_non, len_tup, len_lst, len_ref, len_bor, len_scr, int_bl, int_int, abs_int, min_int, max_int, blD_bl, cell_lst, st_ref, at_0, at_1, at_2, at_3, at_4, ixN_10, ixN_20, ixN_21, ixN_30, ixN_31, ixN_32, dataS_d, datas_nil, datas_cons, truth_bl, notD, intS, blS, nonB, List.length_cons, List.length_nil, Nat.reduceAdd, endsF_rt, endsF_nx, rvQ_d, rvQ_new, rv_d, rv_ref, okRef_d, okRef_ref, List.not_mem_nil, List.nil_append, true_and, and_true, List.take_succ_cons, List.take_zero, Nat.zero_add, decide_eq_true_eq, Bool.false_eq_true, if_false, if_true, callS, handS_n, handS_tr, handS_fr, handS_fd, handS_fb, cellsAt_c, cellsAt_0, Option.getD_some, backS_0, backS_1, eCall, tup_lst, tup_tup, tup_ref, fLc, iRg, rng_1, rng_2, wipeS_c, wipeS_n, iPq, iSq, seq_tup, seq_lst, seq_bor, lst_lst, lst_bor, gdS_d, gdS_b, sFor, gNm, gcS_c, gcS_n, gcO_d, gcO_n, mapp, rcv_0, rcv_1, rcv_l, gcO_r0, gcO_r1, gcO_z, seal_d, eq_self, List.take_nil, List.cons_append, poSl, poI, poNo, slD_t, intO_i, list_t, list_l, in_str2, ofS_inj, String.reduceEq, or_false, false_or, or_true, true_or, or_self, decide_true, decide_false, Bool.not_true, Bool.not_false, at_m1_2, at_m1_3, cut_2, cut_3, all_bls, any_bls, count_bls]; exact hR'⟩) (Cm.all cs).subs (subs_ok o) ?_
    simp only [Cm.hv] at z
    simp only [sSeq, sIf, sSet, sSub, sRet, sRetN, sNil, sDrop, sAsg, sPar, sParT, sAug, cP, bB, bTr, bNt, bAn, bOr, po1, po2, poN, pArgs, poIf, poAn, poOr, poNt, poTup, plLst, plN, pl2, pl1, pFz, pV, pC, eP, eo1, eo2, eoN, aP, aNil, aCons, eAn, eOr, eNt, eIf, eFz, eNw, fP, fN, f2, f1, tTupE, tLstF, tTr, tTb, tAn, tOrr, tNt, tYs, eSeal, eMt, poMt, mPure, eCh, pCh, ok_bind, ok_map, ok_some, ok_none, ok_gd, ok_ite, List.getElem?_cons_zero, List.getElem?_cons_succ, List.set_cons_zero, List.set_cons_succ, Option.join_some, Option.bind_some, Option.map_some, Option.bind_none, Option.map_none, ix_ref, ix_tup, ix_lst, ix_bor, ix_scr, add_int, add_str, add_tup, sub_int, mul_int, fdiv_int, mod_int, pow_int, neg_int, lt_int, le_int, gt_int, ge_int, eq_int, eq_str, eq_bl, ne_int, ne_str, ne_bl, is_bl, isnt_bl, is_non, isnt_non, len_tup, len_lst, len_ref, len_bor, len_scr, int_bl, int_int, abs_int, min_int, max_int, blD_bl, cell_lst, st_ref, at_0, at_1, at_2, at_3, at_4, ixN_10, ixN_20, ixN_21, ixN_30, ixN_31, ixN_32, dataS_d, datas_nil, datas_cons, truth_bl, notD, intS, blS, nonB, List.length_cons, List.length_nil, Nat.reduceAdd, endsF_rt, endsF_nx, rvQ_d, rvQ_new, rv_d, rv_ref, okRef_d, okRef_ref, List.not_mem_nil, List.nil_append, true_and, and_true, List.take_succ_cons, List.take_zero, Nat.zero_add, decide_eq_true_eq, Bool.false_eq_true, if_false, if_true, callS, handS_n, handS_tr, handS_fr, handS_fd, handS_fb, cellsAt_c, cellsAt_0, Option.getD_some, backS_0, backS_1, eCall, tup_lst, tup_tup, tup_ref, fLc, iRg, rng_1, rng_2, wipeS_c, wipeS_n, iPq, iSq, seq_tup, seq_lst, seq_bor, lst_lst, lst_bor, gdS_d, gdS_b, sFor, gNm, gcS_c, gcS_n, gcO_d, gcO_n, mapp, rcv_0, rcv_1, rcv_l, gcO_r0, gcO_r1, gcO_z, seal_d, eq_self, List.take_nil, List.cons_append, poSl, poI, poNo, slD_t, intO_i, list_t, list_l, in_str2, ofS_inj, String.reduceEq, or_false, false_or, or_true, true_or, or_self, decide_true, decide_false, Bool.not_true, Bool.not_false, at_m1_2, at_m1_3, cut_2, cut_3, all_bls, any_bls, count_bls, Cm.subs, Cm.hvs, List.map_cons, List.map_nil, gdT]
    exact z
  | any cs =>
    obtain ⟨e, rfl⟩ : ∃ e', e = e' + 1 := by
      cases e with
      | zero => exact o.elim
      | succ e => exact ⟨e, rfl⟩
    simp only [r_holds, c_PLAIN, cD, sSeq, sIf, sSet, sSub, sRet, sRetN, sNil, sDrop, sAsg, sPar, sParT, sAug, cP, bB, bTr, bNt, bAn, bOr, po1, po2, poN, pArgs, poIf, poAn, poOr, poNt, poTup, plLst, plN, pl2, pl1, pFz, pV, pC, eP, eo1, eo2, eoN, aP, aNil, aCons, eAn, eOr, eNt, eIf, eFz, eNw, fP, fN, f2, f1, tTupE, tLstF, tTr, tTb, tAn, tOrr, tNt, tYs, eSeal, eMt, poMt, mPure, eCh, pCh, ok_bind, ok_map, ok_some, ok_none, ok_gd, ok_ite, List.getElem?_cons_zero, List.getElem?_cons_succ, List.set_cons_zero, List.set_cons_succ, Option.join_some, Option.bind_some, Option.map_some, Option.bind_none, Option.map_none, ix_ref, ix_tup, ix_lst, ix_bor, ix_scr, add_int, add_str, add_tup, sub_int, mul_int, fdiv_int, mod_int, pow_int, neg_int, lt_int, le_int, gt_int, ge_int, eq_int, eq_str, eq_bl, ne_int, ne_str, ne_bl, is_bl, isnt_bl, is_non, isnt_non, len_tup, len_lst, len_ref, len_bor, len_scr, int_bl, int_int, abs_int, min_int, max_int, blD_bl, cell_lst, st_ref, at_0, at_1, at_2, at_3, at_4, ixN_10, ixN_20, ixN_21, ixN_30, ixN_31, ixN_32, dataS_d, datas_nil, datas_cons, truth_bl, notD, intS, blS, nonB, List.length_cons, List.length_nil, Nat.reduceAdd, endsF_rt, endsF_nx, rvQ_d, rvQ_new, rv_d, rv_ref, okRef_d, okRef_ref, List.not_mem_nil, List.nil_append, true_and, and_true, List.take_succ_cons, List.take_zero, Nat.zero_add, decide_eq_true_eq, Bool.false_eq_true, if_false, if_true, callS, handS_n, handS_tr, handS_fr, handS_fd, handS_fb, cellsAt_c, cellsAt_0, Option.getD_some, backS_0, backS_1, eCall, tup_lst, tup_tup, tup_ref, fLc, iRg, rng_1, rng_2, wipeS_c, wipeS_n, iPq, iSq, seq_tup, seq_lst, seq_bor, lst_lst, lst_bor, gdS_d, gdS_b, sFor, gNm, gcS_c, gcS_n, gcO_d, gcO_n, mapp, rcv_0, rcv_1, rcv_l, gcO_r0, gcO_r1, gcO_z, seal_d, eq_self, List.take_nil, List.cons_append, poSl, poI, poNo, slD_t, intO_i, list_t, list_l, in_str2, ofS_inj, String.reduceEq, or_false, false_or, or_true, true_or, or_self, decide_true, decide_false, Bool.not_true, Bool.not_false, at_m1_2, at_m1_3, cut_2, cut_3, all_bls, any_bls, count_bls]
    refine ⟨.any cs, rfl, rfl, ?_⟩
    simp only [sSeq, sIf, sSet, sSub, sRet, sRetN, sNil, sDrop, sAsg, sPar, sParT, sAug, cP, bB, bTr, bNt, bAn, bOr, po1, po2, poN, pArgs, poIf, poAn, poOr, poNt, poTup, plLst, plN, pl2, pl1, pFz, pV, pC, eP, eo1, eo2, eoN, aP, aNil, aCons, eAn, eOr, eNt, eIf, eFz, eNw, fP, fN, f2, f1, tTupE, tLstF, tTr, tTb, tAn, tOrr, tNt, tYs, eSeal, eMt, poMt, mPure, eCh, pCh, ok_bind, ok_map, ok_some, ok_none, ok_gd, ok_ite, List.getElem?_cons_zero, List.getElem?_cons_succ, List.set_cons_zero, List.set_cons_succ, Option.join_some, Option.bind_some, Option.map_some, Option.bind_none, Option.map_none, ix_ref, ix_tup, ix_lst, ix_bor, ix_scr, add_int, add_str, add_tup, sub_int, mul_int, fdiv_int, mod_int, pow_int, neg_int, lt_int, le_int, gt_int, ge_int, eq_int, eq_str, eq_bl, ne_int, ne_str, ne_bl, is_bl, isnt_bl, is_non, isnt_non, len_tup, len_lst, len_ref, len_bor, len_scr, int_bl, int_int, abs_int, min_int, max_int, blD_bl, cell_lst, st_ref, at_0, at_1, at_2, at_3, at_4, ixN_10, ixN_20, ixN_21, ixN_30, ixN_31, ixN_32, dataS_d, datas_nil, datas_cons, truth_bl, notD, intS, blS, nonB, List.length_cons, List.length_nil, Nat.reduceAdd, endsF_rt, endsF_nx, rvQ_d, rvQ_new, rv_d, rv_ref, okRef_d, okRef_ref, List.not_mem_nil, List.nil_append, true_and, and_true, List.take_succ_cons, List.take_zero, Nat.zero_add, decide_eq_true_eq, Bool.false_eq_true, if_false, if_true, callS, handS_n, handS_tr, handS_fr, handS_fd, handS_fb, cellsAt_c, cellsAt_0, Option.getD_some, backS_0, backS_1, eCall, tup_lst, tup_tup, tup_ref, fLc, iRg, rng_1, rng_2, wipeS_c, wipeS_n, iPq, iSq, seq_tup, seq_lst, seq_bor, lst_lst, lst_bor, gdS_d, gdS_b, sFor, gNm, gcS_c, gcS_n, gcO_d, gcO_n, mapp, rcv_0, rcv_1, rcv_l, gcO_r0, gcO_r1, gcO_z, seal_d, eq_self, List.take_nil, List.cons_append, poSl, poI, poNo, slD_t, intO_i, list_t, list_l, in_str2, ofS_inj, String.reduceEq, or_false, false_or, or_true, true_or, or_self, decide_true, decide_false, Bool.not_true, Bool.not_false, at_m1_2, at_m1_3, cut_2, cut_3, all_bls, any_bls, count_bls, seal_r, Nat.le_refl]
    refine lc_holds (acc := []) (M0 := [.gone]) trivial (fun c' R' o' hR' => by
      simp only [sSeq, sIf, sSet, sSub, sRet, sRetN, sNil, sDrop, sAsg, sPar, sParT, sAug, cP, bB, bTr, bNt, bAn, bOr, po1, po2, poN, pArgs, poIf, poAn, poOr, poNt, poTup, plLst, plN, pl2, pl1, pFz, pV, pC, eP, eo1, eo2, eoN, aP, aNil, aCons, eAn, eOr, eNt, eIf, eFz, eNw, fP, fN, f2, f1, tTupE, tLstF, tTr, tTb, tAn, tOrr, tNt, tYs, eSeal, eMt, poMt, mPure, eCh, pCh, ok_bind, ok_map, ok_some, ok_none, ok_gd, ok_ite, List.getElem?_cons_zero, List.getElem?_cons_succ, List.set_cons_zero, List.set_cons_succ, Option.join_some, Option.bind_some, Option.map_some, Option.bind_none, Option.map_none, ix_ref, ix_tup, ix_lst, ix_bor, ix_scr, add_int, add_str, add_tup, sub_int, mul_int, fdiv_int, mod_int, pow_int, neg_int, lt_int, le_int, gt_int, ge_int, eq_int, eq_str, eq_bl, ne_int, ne_str, ne_bl, is_bl, isnt_bl, is_non, isnt_non, len_tup, len_lst, len_ref, len_bor, len_scr, int_bl, int_int, abs_int, min_int, max_int, blD_bl, cell_lst, st_ref, at_0, at_1, at_2, at_3, at_4, ixN_10, ixN_20, ixN_21, ixN_30, ixN_31, ixN_32, dataS_d, datas_nil, datas_cons, truth_bl, notD, intS, blS, nonB, List.length_cons, List.length_nil, Nat.reduceAdd, endsF_rt, endsF_nx, rvQ_d, rvQ_new, rv_d, rv_ref, okRef_d, okRef_ref, List.not_mem_nil, List.nil_append, true_and, and_true, List.take_succ_cons, List.take_zero, Nat.zero_add, decide_eq_true_eq, Bool.false_eq_true, if_false, if_true, callS, handS_n, handS_tr, handS_fr, handS_fd, handS_fb, cellsAt_c, cellsAt_0, Option.getD_some, backS_0, backS_1, eCall, tup_lst, tup_tup, tup_ref, fLc, iRg, rng_1, rng_2, wipeS_c, wipeS_n, iPq, iSq, seq_tup, seq_lst, seq_bor, lst_lst, lst_bor, gdS_d, gdS_b, sFor, gNm, gcS_c, gcS_n, gcO_d, gcO_n, mapp, rcv_0, rcv_1, rcv_l, gcO_r0, gcO_r1, gcO_z, seal_d, eq_self, List.take_nil, List.cons_append, poSl, poI, poNo, slD_t, intO_i, list_t, list_l, in_str2, ofS_inj, String.reduceEq, or_false, false_or, or_true, true_or, or_self, decide_true, decide_false, Bool.not_true, Bool.not_false, at_m1_2, at_m1_3, cut_2, cut_3, all_bls, any_bls, count_bls]
      exact ⟨e, by omega, c', fs, rfl, rfl, o', by simp only [sSeq, sIf, sSet, sSub, sRet, sRetN, sNil, sDrop, sAsg, sPar, sParT, sAug, cP, bB, bTr, bNt, bAn, bOr, po1, po2, poN, pArgs, poIf, poAn, poOr, poNt, poTup, plLst, plN, pl2, pl1, pFz, pV, pC, eP, eo1, eo2, eoN, aP, aNil, aCons, eAn, eOr, eNt, eIf, eFz, eNw, fP, fN, f2, f1, tTupE, tLstF, tTr, tTb, tAn, tOrr, tNt, tYs, eSeal, eMt, poMt, mPure, eCh, pCh, ok_bind, ok_map, ok_some, ok_none, ok_gd, ok_ite, List.getElem?_cons_zero, List.getElem?_cons_succ, List.set_cons_zero, List.set_cons_succ, Option.join_some, Option.bind_some, Option.map_some, Option.bind_none, Option.map_none, ix_ref, ix_tup, ix_lst, ix_bor, ix_scr, add_int, add_str, add_tup, sub_int, mul_int, fdiv_int, mod_int, pow_int, neg_int, lt_int, le_int, gt_int, ge_int, eq_int, eq_str, eq_bl, ne_int, ne_str, ne_bl, is_bl, isnt_bl, is_non, isnt_non, len_tup, len_lst, len_ref, len_bor, len_scr, int_bl, int_int, abs_int, min_int, max_int, blD_bl, cell_lst, st_ref, at_0, at_1, at_2, at_3, at_4, ixN_10, ixN_20, ixN_21, ixN_30, ixN_31, ixN_32, dataS_d, datas_nil, datas_cons, truth_bl, notD, intS, blS, nonB, List.length_cons, List.length_nil, Nat.reduceAdd, endsF_rt, endsF_nx, rvQ_d, rvQ_new, rv_d, rv_ref, okRef_d, okRef_ref, List.not_mem_nil, List.nil_append, true_and, and_true, List.take_succ_cons, List.take_zero, Nat.zero_add, decide_eq_true_eq, Bool.false_eq_true, if_false, if_true, callS, handS_n, handS_tr, handS_fr, handS_fd, handS_fb, cellsAt_c, cellsAt_0, Option.getD_some, backS_0, backS_1, eCall, tup_lst, tup_tup, tup_ref, fLc, iRg, rng_1, rng_2, wipeS_c, wipeS_n, iPq, iSq, seq_tup, seq_lst, seq_bor, lst_lst, lst_bor, gdS_d, gdS_b, sFor, gNm, gcS_c, gcS_n, gcO_d, gcO_n, mapp, rcv_0, rcv_1, rcv_l, gcO_r0, gcO_r1, gcO_z, seal_d, eq_self, List.take_nil, List.cons_append, poSl, poI, poNo, slD_t, intO_i, list_t, list_l, in_str2, ofS_inj, String.reduceEq, or_false, false_or, or_true, true_or, or_self, decide_true, decide_false, Bool.not_true, Bool.not_false, at_m1_2, at_m1_3, cut_2, cut_3, all_bls, any_bls, count_bls]; exact hR'⟩) (Cm.any cs).subs (subs_ok o) ?_
    simp only [Cm.hv] at z
    simp only [sSeq, sIf, sSet, sSub, sRet, sRetN, sNil, sDrop, sAsg, sPar, sParT, sAug, cP, bB, bTr, bNt, bAn, bOr, po1, po2, poN, pArgs, poIf, poAn, poOr, poNt, poTup, plLst, plN, pl2, pl1, pFz, pV, pC, eP, eo1, eo2, eoN, aP, aNil, aCons, eAn, eOr, eNt, eIf, eFz, eNw, fP, fN, f2, f1, tTupE, tLstF, tTr, tTb, tAn, tOrr, tNt, tYs, eSeal, eMt, poMt, mPure, eCh, pCh, ok_bind, ok_map, ok_some, ok_none, ok_gd, ok_ite, List.getElem?_cons_zero, List.getElem?_cons_succ, List.set_cons_zero, List.set_cons_succ, Option.join_some, Option.bind_some, Option.map_some, Option.bind_none, Option.map_none, ix_ref, ix_tup, ix_lst, ix_bor, ix_scr, add_int, add_str, add_tup, sub_int, mul_int, fdiv_int, mod_int, pow_int, neg_int, lt_int, le_int, gt_int, ge_int, eq_int, eq_str, eq_bl, ne_int, ne_str, ne_bl, is_bl, isnt_bl, is_non, isnt_non, len_tup, len_lst, len_ref, len_bor, len_scr, int_bl, int_int, abs_int, min_int, max_int, blD_bl, cell_lst, st_ref, at_0, at_1, at_2, at_3, at_4, ixN_10, ixN_20, ixN_21, ixN_30, ixN_31, ixN_32, dataS_d, datas_nil, datas_cons, truth_bl, notD, intS, blS, nonB, List.length_cons, List.length_nil, Nat.reduceAdd, endsF_rt, endsF_nx, rvQ_d, rvQ_new, rv_d, rv_ref, okRef_d, okRef_ref, List.not_mem_nil, List.nil_append, true_and, and_true, List.take_succ_cons, List.take_zero, Nat.zero_add, decide_eq_true_eq, Bool.false_eq_true, if_false, if_true, callS, handS_n, handS_tr, handS_fr, handS_fd, handS_fb, cellsAt_c, cellsAt_0, Option.getD_some, backS_0, backS_1, eCall, tup_lst, tup_tup, tup_ref, fLc, iRg, rng_1, rng_2, wipeS_c, wipeS_n, iPq, iSq, seq_tup, seq_lst, seq_bor, lst_lst, lst_bor, gdS_d, gdS_b, sFor, gNm, gcS_c, gcS_n, gcO_d, gcO_n, mapp, rcv_0, rcv_1, rcv_l, gcO_r0, gcO_r1, gcO_z, seal_d, eq_self, List.take_nil, List.cons_append, poSl, poI, poNo, slD_t, intO_i, list_t, list_l, in_str2, ofS_inj, String.reduceEq, or_false, false_or, or_true, true_or, or_self, decide_true, decide_false, Bool.not_true, Bool.not_false, at_m1_2, at_m1_3, cut_2, cut_3, all_bls, any_bls, count_bls, Cm.subs, Cm.hvs, List.map_cons, List.map_nil, gdT]
    exact z
  | least m cs =>
    obtain ⟨e, rfl⟩ : ∃ e', e = e' + 1 := by
      cases e with
      | zero => exact o.elim
      | succ e => exact ⟨e, rfl⟩
    simp only [r_holds, c_PLAIN, cD, sSeq, sIf, sSet, sSub, sRet, sRetN, sNil, sDrop, sAsg, sPar, sParT, sAug, cP, bB, bTr, bNt, bAn, bOr, po1, po2, poN, pArgs, poIf, poAn, poOr, poNt, poTup, plLst, plN, pl2, pl1, pFz, pV, pC, eP, eo1, eo2, eoN, aP, aNil, aCons, eAn, eOr, eNt, eIf, eFz, eNw, fP, fN, f2, f1, tTupE, tLstF, tTr, tTb, tAn, tOrr, tNt, tYs, eSeal, eMt, poMt, mPure, eCh, pCh, ok_bind, ok_map, ok_some, ok_none, ok_gd, ok_ite, List.getElem?_cons_zero, List.getElem?_cons_succ, List.set_cons_zero, List.set_cons_succ, Option.join_some, Option.bind_some, Option.map_some, Option.bind_none, Option.map_none, ix_ref, ix_tup, ix_lst, ix_bor, ix_scr, add_int, add_str, add_tup, sub_int, mul_int, fdiv_int, mod_int, pow_int, neg_int, lt_int, le_int, gt_int, ge_int, eq_int, eq_str, eq_bl, ne_int, ne_str, ne_bl, is_bl, isnt_bl, is_non, isnt_non, len_tup, len_lst, len_ref, len_bor, len_scr, int_bl, int_int, abs_int, min_int, max_int, blD_bl, cell_lst, st_ref, at_0, at_1, at_2, at_3, at_4, ixN_10, ixN_20, ixN_21, ixN_30, ixN_31, ixN_32, dataS_d, datas_nil, datas_cons, truth_bl, notD, intS, blS, nonB, List.length_cons, List.length_nil, Nat.reduceAdd, endsF_rt, endsF_nx, rvQ_d, rvQ_new, rv_d, rv_ref, okRef_d, okRef_ref, List.not_mem_nil, List.nil_append, true_and, and_true, List.take_succ_cons, List.take_zero, Nat.zero_add, decide_eq_true_eq, Bool.false_eq_true, if_false, if_true, callS, handS_n, handS_tr, handS_fr, handS_fd, handS_fb, cellsAt_c, cellsAt_0, Option.getD_some, backS_0, backS_1, eCall, tup_lst, tup_tup, tup_ref, fLc, iRg, rng_1, rng_2, wipeS_c, wipeS_n, iPq, iSq, seq_tup, seq_lst, seq_bor, lst_lst, lst_bor, gdS_d, gdS_b, sFor, gNm, gcS_c, gcS_n, gcO_d, gcO_n, mapp, rcv_0, rcv_1, rcv_l, gcO_r0, gcO_r1, gcO_z, seal_d, eq_self, List.take_nil, List.cons_append, poSl, poI, poNo, slD_t, intO_i, list_t, list_l, in_str2, ofS_inj, String.reduceEq, or_false, false_or, or_true, true_or, or_self, decide_true, decide_false, Bool.not_true, Bool.not_false, at_m1_2, at_m1_3, cut_2, cut_3, all_bls, any_bls, count_bls]
    refine ⟨.least m cs, rfl, rfl, ?_⟩
    simp only [sSeq, sIf, sSet, sSub, sRet, sRetN, sNil, sDrop, sAsg, sPar, sParT, sAug, cP, bB, bTr, bNt, bAn, bOr, po1, po2, poN, pArgs, poIf, poAn, poOr, poNt, poTup, plLst, plN, pl2, pl1, pFz, pV, pC, eP, eo1, eo2, eoN, aP, aNil, aCons, eAn, eOr, eNt, eIf, eFz, eNw, fP, fN, f2, f1, tTupE, tLstF, tTr, tTb, tAn, tOrr, tNt, tYs, eSeal, eMt, poMt, mPure, eCh, pCh, ok_bind, ok_map, ok_some, ok_none, ok_gd, ok_ite, List.getElem?_cons_zero, List.getElem?_cons_succ, List.set_cons_zero, List.set_cons_succ, Option.join_some, Option.bind_some, Option.map_some, Option.bind_none, Option.map_none, ix_ref, ix_tup, ix_lst, ix_bor, ix_scr, add_int, add_str, add_tup, sub_int, mul_int, fdiv_int, mod_int, pow_int, neg_int, lt_int, le_int, gt_int, ge_int, eq_int, eq_str, eq_bl, ne_int, ne_str, ne_bl, is_bl, isnt_bl, is_non, isnt_non, len_tup, len_lst, len_ref, len_bor, len_scr, int_bl, int_int, abs_int, min_int, max_int, blD_bl, cell_lst, st_ref, at_0, at_1, at_2, at_3, at_4, ixN_10, ixN_20, ixN_21, ixN_30, ixN_31, ixN_32, dataS_d, datas_nil, datas_cons, truth_bl, notD, intS, blS, nonB, List.length_cons, List.length_nil, Nat.reduceAdd, endsF_rt, endsF_nx, rvQ_d, rvQ_new, rv_d, rv_ref, okRef_d, okRef_ref, List.not_mem_nil, List.nil_append, true_and, and_true, List.take_succ_cons, List.take_zero, Nat.zero_add, decide_eq_true_eq, Bool.false_eq_true, if_false, if_true, callS, handS_n, handS_tr, handS_fr, handS_fd, handS_fb, cellsAt_c, cellsAt_0, Option.getD_some, backS_0, backS_1, eCall, tup_lst, tup_tup, tup_ref, fLc, iRg, rng_1, rng_2, wipeS_c, wipeS_n, iPq, iSq, seq_tup, seq_lst, seq_bor, lst_lst, lst_bor, gdS_d, gdS_b, sFor, gNm, gcS_c, gcS_n, gcO_d, gcO_n, mapp, rcv_0, rcv_1, rcv_l, gcO_r0, gcO_r1, gcO_z, seal_d, eq_self, List.take_nil, List.cons_append, poSl, poI, poNo, slD_t, intO_i, list_t, list_l, in_str2, ofS_inj, String.reduceEq, or_false, false_or, or_true, true_or, or_self, decide_true, decide_false, Bool.not_true, Bool.not_false, at_m1_2, at_m1_3, cut_2, cut_3, all_bls, any_bls, count_bls, seal_r, Nat.le_refl]
    refine lc_holds (acc := []) (M0 := [.gone]) trivial (fun c' R' o' hR' => by
      simp only [sSeq, sIf, sSet, sSub, sRet, sRetN, sNil, sDrop, sAsg, sPar, sParT, sAug, cP, bB, bTr, bNt, bAn, bOr, po1, po2, poN, pArgs, poIf, poAn, poOr, poNt, poTup, plLst, plN, pl2, pl1, pFz, pV, pC, eP, eo1, eo2, eoN, aP, aNil, aCons, eAn, eOr, eNt, eIf, eFz, eNw, fP, fN, f2, f1, tTupE, tLstF, tTr, tTb, tAn, tOrr, tNt, tYs, eSeal, eMt, poMt, mPure, eCh, pCh, ok_bind, ok_map, ok_some, ok_none, ok_gd, ok_ite, List.getElem?_cons_zero, List.getElem?_cons_succ, List.set_cons_zero, List.set_cons_succ, Option.join_some, Option.bind_some, Option.map_some, Option.bind_none, Option.map_none, ix_ref, ix_tup, ix_lst, ix_bor, ix_scr, add_int, add_str, add_tup, sub_int, mul_int, fdiv_int, mod_int, pow_int, neg_int, lt_int, le_int, gt_int, ge_int, eq_int, eq_str, eq_bl, ne_int, ne_str, ne_bl, is_bl, isnt_bl, is_non, isnt_non, len_tup, len_lst, len_ref, len_bor, len_scr, int_bl, int_int, abs_int, min_int, max_int, blD_bl, cell_lst, st_ref, at_0, at_1, at_2, at_3, at_4, ixN_10, ixN_20, ixN_21, ixN_30, ixN_31, ixN_32, dataS_d, datas_nil, datas_cons, truth_bl, notD, intS, blS, nonB, List.length_cons, List.length_nil, Nat.reduceAdd, endsF_rt, endsF_nx, rvQ_d, rvQ_new, rv_d, rv_ref, okRef_d, okRef_ref, List.not_mem_nil, List.nil_append, true_and, and_true, List.take_succ_cons, List.take_zero, Nat.zero_add, decide_eq_true_eq, Bool.false_eq_true, if_false, if_true, callS, handS_n, handS_tr, handS_fr, handS_fd, handS_fb, cellsAt_c, cellsAt_0, Option.getD_some, backS_0, backS_1, eCall, tup_lst, tup_tup, tup_ref, fLc, iRg, rng_1, rng_2, wipeS_c, wipeS_n, iPq, iSq, seq_tup, seq_lst, seq_bor, lst_lst, lst_bor, gdS_d, gdS_b, sFor, gNm, gcS_c, gcS_n, gcO_d, gcO_n, mapp, rcv_0, rcv_1, rcv_l, gcO_r0, gcO_r1, gcO_z, seal_d, eq_self, List.take_nil, List.cons_append, poSl, poI, poNo, slD_t, intO_i, list_t, list_l, in_str2, ofS_inj, String.reduceEq, or_false, false_or, or_true, true_or, or_self, decide_true, decide_false, Bool.not_true, Bool.not_false, at_m1_2, at_m1_3, cut_2, cut_3, all_bls, any_bls, count_bls]
      exact ⟨e, by omega, c', fs, rfl, rfl, o', by simp only [sSeq, sIf, sSet, sSub, sRet, sRetN, sNil, sDrop, sAsg, sPar, sParT, sAug, cP, bB, bTr, bNt, bAn, bOr, po1, po2, poN, pArgs, poIf, poAn, poOr, poNt, poTup, plLst, plN, pl2, pl1, pFz, pV, pC, eP, eo1, eo2, eoN, aP, aNil, aCons, eAn, eOr, eNt, eIf, eFz, eNw, fP, fN, f2, f1, tTupE, tLstF, tTr, tTb, tAn, tOrr, tNt, tYs, eSeal, eMt, poMt, mPure, eCh, pCh, ok_bind, ok_map, ok_some, ok_none, ok_gd, ok_ite, List.getElem?_cons_zero, List.getElem?_cons_succ, List.set_cons_zero, List.set_cons_succ, Option.join_some, Option.bind_some, Option.map_some, Option.bind_none, Option.map_none, ix_ref, ix_tup, ix_lst, ix_bor, ix_scr, add_int, add_str, add_tup, sub_int, mul_int, fdiv_int, mod_int, pow_int, neg_int, lt_int, le_int, gt_int, ge_int, eq_int, eq_str, eq_bl, ne_int, ne_str, ne_bl, is_bl, isnt_bl, is_non, isnt_non, len_tup, len_lst, len_ref, len_bor, len_scr, int_bl, int_int, abs_int, min_int, max_int, blD_bl, cell_lst, st_ref, at_0, at_1, at_2, at_3, at_4, ixN_10, ixN_20, ixN_21, ixN_30, ixN_31, ixN_32, dataS_d, datas_nil, datas_cons, truth_bl, notD, intS, blS, nonB, List.length_cons, List.length_nil, Nat.reduceAdd, endsF_rt, endsF_nx, rvQ_d, rvQ_new, rv_d, rv_ref, okRef_d, okRef_ref, List.not_mem_nil, List.nil_append, true_and, and_true, List.take_succ_cons, List.take_zero, Nat.zero_add, decide_eq_true_eq, Bool.false_eq_true, if_false, if_true, callS, handS_n, handS_tr, handS_fr, handS_fd, handS_fb, cellsAt_c, cellsAt_0, Option.getD_some, backS_0, backS_1, eCall, tup_lst, tup_tup, tup_ref, fLc, iRg, rng_1, rng_2, wipeS_c, wipeS_n, iPq, iSq, seq_tup, seq_lst, seq_bor, lst_lst, lst_bor, gdS_d, gdS_b, sFor, gNm, gcS_c, gcS_n, gcO_d, gcO_n, mapp, rcv_0, rcv_1, rcv_l, gcO_r0, gcO_r1, gcO_z, seal_d, eq_self, List.take_nil, List.cons_append, poSl, poI, poNo, slD_t, intO_i, list_t, list_l, in_str2, ofS_inj, String.reduceEq, or_false, false_or, or_true, true_or, or_self, decide_true, decide_false, Bool.not_true, Bool.not_false, at_m1_2, at_m1_3, cut_2, cut_3, all_bls, any_bls, count_bls]; exact hR'⟩) (Cm.least m cs).subs (subs_ok o) ?_
    simp only [Cm.hv] at z
    simp only [sSeq, sIf, sSet, sSub, sRet, sRetN, sNil, sDrop, sAsg, sPar, sParT, sAug, cP, bB, bTr, bNt, bAn, bOr, po1, po2, poN, pArgs, poIf, poAn, poOr, poNt, poTup, plLst, plN, pl2, pl1, pFz, pV, pC, eP, eo1, eo2, eoN, aP, aNil, aCons, eAn, eOr, eNt, eIf, eFz, eNw, fP, fN, f2, f1, tTupE, tLstF, tTr, tTb, tAn, tOrr, tNt, tYs, eSeal, eMt, poMt, mPure, eCh, pCh, ok_bind, ok_map, ok_some, ok_none, ok_gd, ok_ite, List.getElem?_cons_zero, List.getElem?_cons_succ, List.set_cons_zero, List.set_cons_succ, Option.join_some, Option.bind_some, Option.map_some, Option.bind_none, Option.map_none, ix_ref, ix_tup, ix_lst, ix_bor, ix_scr, add_int, add_str, add_tup, sub_int, mul_int, fdiv_int, mod_int, pow_int, neg_int, lt_int, le_int, gt_int, ge_int, eq_int, eq_str, eq_bl, ne_int, ne_str, ne_bl, is_bl, isnt_bl, is_non, isnt_non, len_tup, len_lst, len_ref, len_bor, len_scr, int_bl, int_int, abs_int, min_int, max_int, blD_bl, cell_lst, st_ref, at_0, at_1, at_2, at_3, at_4, ixN_10, ixN_20, ixN_21, ixN_30, ixN_31, ixN_32, dataS_d, datas_nil, datas_cons, truth_bl, notD, intS, blS, nonB, List.length_cons, List.length_nil, Nat.reduceAdd, endsF_rt, endsF_nx, rvQ_d, rvQ_new, rv_d, rv_ref, okRef_d, okRef_ref, List.not_mem_nil, List.nil_append, true_and, and_true, List.take_succ_cons, List.take_zero, Nat.zero_add, decide_eq_true_eq, Bool.false_eq_true, if_false, if_true, callS, handS_n, handS_tr, handS_fr, handS_fd, handS_fb, cellsAt_c, cellsAt_0, Option.getD_some, backS_0, backS_1, eCall, tup_lst, tup_tup, tup_ref, fLc, iRg, rng_1, rng_2, wipeS_c, wipeS_n, iPq, iSq, seq_tup, seq_lst, seq_bor, lst_lst, lst_bor, gdS_d, gdS_b, sFor, gNm, gcS_c, gcS_n, gcO_d, gcO_n, mapp, rcv_0, rcv_1, rcv_l, gcO_r0, gcO_r1, gcO_z, seal_d, eq_self, List.take_nil, List.cons_append, poSl, poI, poNo, slD_t, intO_i, list_t, list_l, in_str2, ofS_inj, String.reduceEq, or_false, false_or, or_true, true_or, or_self, decide_true, decide_false, Bool.not_true, Bool.not_false, at_m1_2, at_m1_3, cut_2, cut_3, all_bls, any_bls, count_bls, Cm.subs, Cm.hvs, List.map_cons, List.map_nil, gdT]
    rw [dec_le]; exact z
def r_lholds (sp__law_holds : SpD) : TS' :=
  (sSeq (sSet 2 (eP (po2 ixD (pV 0) (pC (.int 0)))))
  (sSeq (sIf (cP (bB (po2 inD (pV 2) (poTup [(pC (.str "yes")), (pC (.str "no"))]))))
  (sRet (eP (po2 eqD (pV 2) (pC (.str "yes")))))
  sNil)
  (sSeq (sIf (cP (bB (po2 eqD (pV 2) (pC (.str "name")))))
  (sRet (eP (po2 eqD (po2 ixD (pV 1) (po2 ixD (pV 0) (pC (.int 1)))) (pC (.int 1)))))
  sNil)
  (sSeq (sIf (cP (bB (po2 eqD (pV 2) (pC (.str "not")))))
  (sRet (eNt (eCall [false, false] sp__law_holds (aP [(po2 ixD (pV 0) (pC (.int 1))), (pV 1)]))))
  sNil)
  (sSeq (sIf (cP (bB (po2 eqD (pV 2) (pC (.str "same")))))
  (sRet (eo2 eqD (eCall [false, false] sp__law_holds (aP [(po2 ixD (pV 0) (pC (.int 1))), (pV 1)])) (eCall [false, false] sp__law_holds (aP [(po2 ixD (pV 0) (pC (.int 2))), (pV 1)]))))
  sNil)
  (sSeq (sSet 3 (eFz (fLc (iPq (po2 ixD (pV 0) (po1 negD (pC (.int 1))))) (.nm 4) tYs (eCall [false, false] sp__law_holds (aP [(pV 4), (pV 1)])) [4])))
  (sSeq (sIf (cP (bB (po2 eqD (pV 2) (pC (.str "least")))))
  (sRet (eP (po2 geD (poMt "list" countD (pV 3) [(pC (.bl true))]) (po2 ixD (pV 0) (pC (.int 1))))))
  sNil)
  (sRet (eP (poIf (bB (po2 eqD (pV 2) (pC (.str "and")))) (poN allD [(pV 3)]) (poN anyD [(pV 3)])))))))))))
theorem pure_lholds {d : Nat} (as : List Sv) (M : Mem) (Q : Rv → Mem → Prop) (h : spB sp_holds (d + 1) as M Q) : r_lholds (spB sp_holds d) (endsF M.length Q) (startD 5 as) M := by
  obtain ⟨e, he, c, fs, rfl, rfl, o, z⟩ := h
  show r_lholds (spB sp_holds d) (endsF 0 Q) [some (.d (cD c)), some (.d (fD fs)), none, none, none] []
  cases c with
  | yes => simp only [r_lholds, cD, sSeq, sIf, sSet, sSub, sRet, sRetN, sNil, sDrop, sAsg, sPar, sParT, sAug, cP, bB, bTr, bNt, bAn, bOr, po1, po2, poN, pArgs, poIf, poAn, poOr, poNt, poTup, plLst, plN, pl2, pl1, pFz, pV, pC, eP, eo1, eo2, eoN, aP, aNil, aCons, eAn, eOr, eNt, eIf, eFz, eNw, fP, fN, f2, f1, tTupE, tLstF, tTr, tTb, tAn, tOrr, tNt, tYs, eSeal, eMt, poMt, mPure, eCh, pCh, ok_bind, ok_map, ok_some, ok_none, ok_gd, ok_ite, List.getElem?_cons_zero, List.getElem?_cons_succ, List.set_cons_zero, List.set_cons_succ, Option.join_some, Option.bind_some, Option.map_some, Option.bind_none, Option.map_none, ix_ref, ix_tup, ix_lst, ix_bor, ix_scr, add_int, add_str, add_tup, sub_int, mul_int, fdiv_int, mod_int, pow_int, neg_int, lt_int, le_int, gt_int, ge_int, eq_int, eq_str, eq_bl, ne_int, ne_str, ne_bl, is_bl, isnt_bl, is_non, isnt_non, len_tup, len_lst, len_ref, len_bor, len_scr, int_bl, int_int, abs_int, min_int, max_int, blD_bl, cell_lst, st_ref, at_0, at_1, at_2, at_3, at_4, ixN_10, ixN_20, ixN_21, ixN_30, ixN_31, ixN_32, dataS_d, datas_nil, datas_cons, truth_bl, notD, intS, blS, nonB, List.length_cons, List.length_nil, Nat.reduceAdd, endsF_rt, endsF_nx, rvQ_d, rvQ_new, rv_d, rv_ref, okRef_d, okRef_ref, List.not_mem_nil, List.nil_append, true_and, and_true, List.take_succ_cons, List.take_zero, Nat.zero_add, decide_eq_true_eq, Bool.false_eq_true, if_false, if_true, callS, handS_n, handS_tr, handS_fr, handS_fd, handS_fb, cellsAt_c, cellsAt_0, Option.getD_some, backS_0, backS_1, eCall, tup_lst, tup_tup, tup_ref, fLc, iRg, rng_1, rng_2, wipeS_c, wipeS_n, iPq, iSq, seq_tup, seq_lst, seq_bor, lst_lst, lst_bor, gdS_d, gdS_b, sFor, gNm, gcS_c, gcS_n, gcO_d, gcO_n, mapp, rcv_0, rcv_1, rcv_l, gcO_r0, gcO_r1, gcO_z, seal_d, eq_self, List.take_nil, List.cons_append, poSl, poI, poNo, slD_t, intO_i, list_t, list_l, in_str2, ofS_inj, String.reduceEq, or_false, false_or, or_true, true_or, or_self, decide_true, decide_false, Bool.not_true, Bool.not_false, at_m1_2, at_m1_3, cut_2, cut_3, all_bls, any_bls, count_bls]; exact z
  | no => simp only [r_lholds, cD, sSeq, sIf, sSet, sSub, sRet, sRetN, sNil, sDrop, sAsg, sPar, sParT, sAug, cP, bB, bTr, bNt, bAn, bOr, po1, po2, poN, pArgs, poIf, poAn, poOr, poNt, poTup, plLst, plN, pl2, pl1, pFz, pV, pC, eP, eo1, eo2, eoN, aP, aNil, aCons, eAn, eOr, eNt, eIf, eFz, eNw, fP, fN, f2, f1, tTupE, tLstF, tTr, tTb, tAn, tOrr, tNt, tYs, eSeal, eMt, poMt, mPure, eCh, pCh, ok_bind, ok_map, ok_some, ok_none, ok_gd, ok_ite, List.getElem?_cons_zero, List.getElem?_cons_succ, List.set_cons_zero, List.set_cons_succ, Option.join_some, Option.bind_some, Option.map_some, Option.bind_none, Option.map_none, ix_ref, ix_tup, ix_lst, ix_bor, ix_scr, add_int, add_str, add_tup, sub_int, mul_int, fdiv_int, mod_int, pow_int, neg_int, lt_int, le_int, gt_int, ge_int, eq_int, eq_str, eq_bl, ne_int, ne_str, ne_bl, is_bl, isnt_bl, is_non, isnt_non, len_tup, len_lst, len_ref, len_bor, len_scr, int_bl, int_int, abs_int, min_int, max_int, blD_bl, cell_lst, st_ref, at_0, at_1, at_2, at_3, at_4, ixN_10, ixN_20, ixN_21, ixN_30, ixN_31, ixN_32, dataS_d, datas_nil, datas_cons, truth_bl, notD, intS, blS, nonB, List.length_cons, List.length_nil, Nat.reduceAdd, endsF_rt, endsF_nx, rvQ_d, rvQ_new, rv_d, rv_ref, okRef_d, okRef_ref, List.not_mem_nil, List.nil_append, true_and, and_true, List.take_succ_cons, List.take_zero, Nat.zero_add, decide_eq_true_eq, Bool.false_eq_true, if_false, if_true, callS, handS_n, handS_tr, handS_fr, handS_fd, handS_fb, cellsAt_c, cellsAt_0, Option.getD_some, backS_0, backS_1, eCall, tup_lst, tup_tup, tup_ref, fLc, iRg, rng_1, rng_2, wipeS_c, wipeS_n, iPq, iSq, seq_tup, seq_lst, seq_bor, lst_lst, lst_bor, gdS_d, gdS_b, sFor, gNm, gcS_c, gcS_n, gcO_d, gcO_n, mapp, rcv_0, rcv_1, rcv_l, gcO_r0, gcO_r1, gcO_z, seal_d, eq_self, List.take_nil, List.cons_append, poSl, poI, poNo, slD_t, intO_i, list_t, list_l, in_str2, ofS_inj, String.reduceEq, or_false, false_or, or_true, true_or, or_self, decide_true, decide_false, Bool.not_true, Bool.not_false, at_m1_2, at_m1_3, cut_2, cut_3, all_bls, any_bls, count_bls]; exact z
  | name k =>
    have hk : k < fs.length := by cases e <;> exact o
    simp only [r_lholds, cD, sSeq, sIf, sSet, sSub, sRet, sRetN, sNil, sDrop, sAsg, sPar, sParT, sAug, cP, bB, bTr, bNt, bAn, bOr, po1, po2, poN, pArgs, poIf, poAn, poOr, poNt, poTup, plLst, plN, pl2, pl1, pFz, pV, pC, eP, eo1, eo2, eoN, aP, aNil, aCons, eAn, eOr, eNt, eIf, eFz, eNw, fP, fN, f2, f1, tTupE, tLstF, tTr, tTb, tAn, tOrr, tNt, tYs, eSeal, eMt, poMt, mPure, eCh, pCh, ok_bind, ok_map, ok_some, ok_none, ok_gd, ok_ite, List.getElem?_cons_zero, List.getElem?_cons_succ, List.set_cons_zero, List.set_cons_succ, Option.join_some, Option.bind_some, Option.map_some, Option.bind_none, Option.map_none, ix_ref, ix_tup, ix_lst, ix_bor, ix_scr, add_int, add_str, add_tup, sub_int, mul_int, fdiv_int, mod_int, pow_int, neg_int, lt_int, le_int, gt_int, ge_int, eq_int, eq_str, eq_bl, ne_int, ne_str, ne_bl, is_bl, isnt_bl, is_non, isnt_non, len_tup, len_lst, len_ref, len_bor, len_scr, int_bl, int_int, abs_int, min_int, max_int, blD_bl, cell_lst, st_ref, at_0, at_1, at_2, at_3, at_4, ixN_10, ixN_20, ixN_21, ixN_30, ixN_31, ixN_32, dataS_d, datas_nil, datas_cons, truth_bl, notD, intS, blS, nonB, List.length_cons, List.length_nil, Nat.reduceAdd, endsF_rt, endsF_nx, rvQ_d, rvQ_new, rv_d, rv_ref, okRef_d, okRef_ref, List.not_mem_nil, List.nil_append, true_and, and_true, List.take_succ_cons, List.take_zero, Nat.zero_add, decide_eq_true_eq, Bool.false_eq_true, if_false, if_true, callS, handS_n, handS_tr, handS_fr, handS_fd, handS_fb, cellsAt_c, cellsAt_0, Option.getD_some, backS_0, backS_1, eCall, tup_lst, tup_tup, tup_ref, fLc, iRg, rng_1, rng_2, wipeS_c, wipeS_n, iPq, iSq, seq_tup, seq_lst, seq_bor, lst_lst, lst_bor, gdS_d, gdS_b, sFor, gNm, gcS_c, gcS_n, gcO_d, gcO_n, mapp, rcv_0, rcv_1, rcv_l, gcO_r0, gcO_r1, gcO_z, seal_d, eq_self, List.take_nil, List.cons_append, poSl, poI, poNo, slD_t, intO_i, list_t, list_l, in_str2, ofS_inj, String.reduceEq, or_false, false_or, or_true, true_or, or_self, decide_true, decide_false, Bool.not_true, Bool.not_false, at_m1_2, at_m1_3, cut_2, cut_3, all_bls, any_bls, count_bls, fD_at hk, bit_one]
    exact z
  | neg c =>
    obtain ⟨e, rfl⟩ : ∃ e', e = e' + 1 := by
      cases e with
      | zero => exact o.elim
      | succ e => exact ⟨e, rfl⟩
    simp only [r_lholds, cD, sSeq, sIf, sSet, sSub, sRet, sRetN, sNil, sDrop, sAsg, sPar, sParT, sAug, cP, bB, bTr, bNt, bAn, bOr, po1, po2, poN, pArgs, poIf, poAn, poOr, poNt, poTup, plLst, plN, pl2, pl1, pFz, pV, pC, eP, eo1, eo2, eoN, aP, aNil, aCons, eAn, eOr, eNt, eIf, eFz, eNw, fP, fN, f2, f1, tTupE, tLstF, tTr, tTb, tAn, tOrr, tNt, tYs, eSeal, eMt, poMt, mPure, eCh, pCh, ok_bind, ok_map, ok_some, ok_none, ok_gd, ok_ite, List.getElem?_cons_zero, List.getElem?_cons_succ, List.set_cons_zero, List.set_cons_succ, Option.join_some, Option.bind_some, Option.map_some, Option.bind_none, Option.map_none, ix_ref, ix_tup, ix_lst, ix_bor, ix_scr, add_int, add_str, add_tup, sub_int, mul_int, fdiv_int, mod_int, pow_int, neg_int, lt_int, le_int, gt_int, ge_int, eq_int, eq_str, eq_bl, ne_int, ne_str, ne_bl, is_bl, isnt_bl, is_non, isnt_non, len_tup, len_lst, len_ref, len_bor, len_scr, int_bl, int_int, abs_int, min_int, max_int, blD_bl, cell_lst, st_ref, at_0, at_1, at_2, at_3, at_4, ixN_10, ixN_20, ixN_21, ixN_30, ixN_31, ixN_32, dataS_d, datas_nil, datas_cons, truth_bl, notD, intS, blS, nonB, List.length_cons, List.length_nil, Nat.reduceAdd, endsF_rt, endsF_nx, rvQ_d, rvQ_new, rv_d, rv_ref, okRef_d, okRef_ref, List.not_mem_nil, List.nil_append, true_and, and_true, List.take_succ_cons, List.take_zero, Nat.zero_add, decide_eq_true_eq, Bool.false_eq_true, if_false, if_true, callS, handS_n, handS_tr, handS_fr, handS_fd, handS_fb, cellsAt_c, cellsAt_0, Option.getD_some, backS_0, backS_1, eCall, tup_lst, tup_tup, tup_ref, fLc, iRg, rng_1, rng_2, wipeS_c, wipeS_n, iPq, iSq, seq_tup, seq_lst, seq_bor, lst_lst, lst_bor, gdS_d, gdS_b, sFor, gNm, gcS_c, gcS_n, gcO_d, gcO_n, mapp, rcv_0, rcv_1, rcv_l, gcO_r0, gcO_r1, gcO_z, seal_d, eq_self, List.take_nil, List.cons_append, poSl, poI, poNo, slD_t, intO_i, list_t, list_l, in_str2, ofS_inj, String.reduceEq, or_false, false_or, or_true, true_or, or_self, decide_true, decide_false, Bool.not_true, Bool.not_false, at_m1_2, at_m1_3, cut_2, cut_3, all_bls, any_bls, count_bls]
    simp only [Cm.hv] at z
    refine ⟨e, by omega, c, fs, rfl, rfl, o, ?_⟩
    simp only [sSeq, sIf, sSet, sSub, sRet, sRetN, sNil, sDrop, sAsg, sPar, sParT, sAug, cP, bB, bTr, bNt, bAn, bOr, po1, po2, poN, pArgs, poIf, poAn, poOr, poNt, poTup, plLst, plN, pl2, pl1, pFz, pV, pC, eP, eo1, eo2, eoN, aP, aNil, aCons, eAn, eOr, eNt, eIf, eFz, eNw, fP, fN, f2, f1, tTupE, tLstF, tTr, tTb, tAn, tOrr, tNt, tYs, eSeal, eMt, poMt, mPure, eCh, pCh, ok_bind, ok_map, ok_some, ok_none, ok_gd, ok_ite, List.getElem?_cons_zero, List.getElem?_cons_succ, List.set_cons_zero, List.set_cons_succ, Option.join_some, Option.bind_some, Option.map_some, Option.bind_none, Option.map_none, ix_ref, ix_tup, ix_lst, ix_bor, ix_scr, add_int, add_str, add_tup, sub_int, mul_int, fdiv_int, mod_int, pow_int, neg_int, lt_int, le_int, gt_int, ge_int, eq_int, eq_str, eq_bl, ne_int, ne_str, ne_bl, is_bl, isnt_bl, is_non, isnt_non, len_tup, len_lst, len_ref, len_bor, len_scr, int_bl, int_int, abs_int, min_int, max_int, blD_bl, cell_lst, st_ref, at_0, at_1, at_2, at_3, at_4, ixN_10, ixN_20, ixN_21, ixN_30, ixN_31, ixN_32, dataS_d, datas_nil, datas_cons, truth_bl, notD, intS, blS, nonB, List.length_cons, List.length_nil, Nat.reduceAdd, endsF_rt, endsF_nx, rvQ_d, rvQ_new, rv_d, rv_ref, okRef_d, okRef_ref, List.not_mem_nil, List.nil_append, true_and, and_true, List.take_succ_cons, List.take_zero, Nat.zero_add, decide_eq_true_eq, Bool.false_eq_true, if_false, if_true, callS, handS_n, handS_tr, handS_fr, handS_fd, handS_fb, cellsAt_c, cellsAt_0, Option.getD_some, backS_0, backS_1, eCall, tup_lst, tup_tup, tup_ref, fLc, iRg, rng_1, rng_2, wipeS_c, wipeS_n, iPq, iSq, seq_tup, seq_lst, seq_bor, lst_lst, lst_bor, gdS_d, gdS_b, sFor, gNm, gcS_c, gcS_n, gcO_d, gcO_n, mapp, rcv_0, rcv_1, rcv_l, gcO_r0, gcO_r1, gcO_z, seal_d, eq_self, List.take_nil, List.cons_append, poSl, poI, poNo, slD_t, intO_i, list_t, list_l, in_str2, ofS_inj, String.reduceEq, or_false, false_or, or_true, true_or, or_self, decide_true, decide_false, Bool.not_true, Bool.not_false, at_m1_2, at_m1_3, cut_2, cut_3, all_bls, any_bls, count_bls]
    exact z
  | same c1 c2 =>
    obtain ⟨e, rfl⟩ : ∃ e', e = e' + 1 := by
      cases e with
      | zero => exact o.elim
      | succ e => exact ⟨e, rfl⟩
    simp only [r_lholds, cD, sSeq, sIf, sSet, sSub, sRet, sRetN, sNil, sDrop, sAsg, sPar, sParT, sAug, cP, bB, bTr, bNt, bAn, bOr, po1, po2, poN, pArgs, poIf, poAn, poOr, poNt, poTup, plLst, plN, pl2, pl1, pFz, pV, pC, eP, eo1, eo2, eoN, aP, aNil, aCons, eAn, eOr, eNt, eIf, eFz, eNw, fP, fN, f2, f1, tTupE, tLstF, tTr, tTb, tAn, tOrr, tNt, tYs, eSeal, eMt, poMt, mPure, eCh, pCh, ok_bind, ok_map, ok_some, ok_none, ok_gd, ok_ite, List.getElem?_cons_zero, List.getElem?_cons_succ, List.set_cons_zero, List.set_cons_succ, Option.join_some, Option.bind_some, Option.map_some, Option.bind_none, Option.map_none, ix_ref, ix_tup, ix_lst, ix_bor, ix_scr, add_int, add_str, add_tup, sub_int, mul_int, fdiv_int, mod_int, pow_int, neg_int, lt_int, le_int, gt_int, ge_int, eq_int, eq_str, eq_bl, ne_int, ne_str, ne_bl, is_bl, isnt_bl, is_non, isnt_non, len_tup, len_lst, len_ref, len_bor, len_scr, int_bl, int_int, abs_int, min_int, max_int, blD_bl, cell_lst, st_ref, at_0, at_1, at_2, at_3, at_4, ixN_10, ixN_20, ixN_21, ixN_30, ixN_31, ixN_32, dataS_d, datas_nil, datas_cons, truth_bl, notD, intS, blS, nonB, List.length_cons, List.length_nil, Nat.reduceAdd, endsF_rt, endsF_nx, rvQ_d, rvQ_new, rv_d, rv_ref, okRef_d, okRef_ref, List.not_mem_nil, List.nil_append, true_and, and_true, List.take_succ_cons, List.take_zero, Nat.zero_add, decide_eq_true_eq, Bool.false_eq_true, if_false, if_true, callS, handS_n, handS_tr, handS_fr, handS_fd, handS_fb, cellsAt_c, cellsAt_0, Option.getD_some, backS_0, backS_1, eCall, tup_lst, tup_tup, tup_ref, fLc, iRg, rng_1, rng_2, wipeS_c, wipeS_n, iPq, iSq, seq_tup, seq_lst, seq_bor, lst_lst, lst_bor, gdS_d, gdS_b, sFor, gNm, gcS_c, gcS_n, gcO_d, gcO_n, mapp, rcv_0, rcv_1, rcv_l, gcO_r0, gcO_r1, gcO_z, seal_d, eq_self, List.take_nil, List.cons_append, poSl, poI, poNo, slD_t, intO_i, list_t, list_l, in_str2, ofS_inj, String.reduceEq, or_false, false_or, or_true, true_or, or_self, decide_true, decide_false, Bool.not_true, Bool.not_false, at_m1_2, at_m1_3, cut_2, cut_3, all_bls, any_bls, count_bls]
    simp only [Cm.hv] at z
    refine ⟨e, by omega, c1, fs, rfl, rfl, o.1, ?_⟩
    simp only [sSeq, sIf, sSet, sSub, sRet, sRetN, sNil, sDrop, sAsg, sPar, sParT, sAug, cP, bB, bTr, bNt, bAn, bOr, po1, po2, poN, pArgs, poIf, poAn, poOr, poNt, poTup, plLst, plN, pl2, pl1, pFz, pV, pC, eP, eo1, eo2, eoN, aP, aNil, aCons, eAn, eOr, eNt, eIf, eFz, eNw, fP, fN, f2, f1, tTupE, tLstF, tTr, tTb, tAn, tOrr, tNt, tYs, eSeal, eMt, poMt, mPure, eCh, pCh, ok_bind, ok_map, ok_some, ok_none, ok_gd, ok_ite, List.getElem?_cons_zero, List.getElem?_cons_succ, List.set_cons_zero, List.set_cons_succ, Option.join_some, Option.bind_some, Option.map_some, Option.bind_none, Option.map_none, ix_ref, ix_tup, ix_lst, ix_bor, ix_scr, add_int, add_str, add_tup, sub_int, mul_int, fdiv_int, mod_int, pow_int, neg_int, lt_int, le_int, gt_int, ge_int, eq_int, eq_str, eq_bl, ne_int, ne_str, ne_bl, is_bl, isnt_bl, is_non, isnt_non, len_tup, len_lst, len_ref, len_bor, len_scr, int_bl, int_int, abs_int, min_int, max_int, blD_bl, cell_lst, st_ref, at_0, at_1, at_2, at_3, at_4, ixN_10, ixN_20, ixN_21, ixN_30, ixN_31, ixN_32, dataS_d, datas_nil, datas_cons, truth_bl, notD, intS, blS, nonB, List.length_cons, List.length_nil, Nat.reduceAdd, endsF_rt, endsF_nx, rvQ_d, rvQ_new, rv_d, rv_ref, okRef_d, okRef_ref, List.not_mem_nil, List.nil_append, true_and, and_true, List.take_succ_cons, List.take_zero, Nat.zero_add, decide_eq_true_eq, Bool.false_eq_true, if_false, if_true, callS, handS_n, handS_tr, handS_fr, handS_fd, handS_fb, cellsAt_c, cellsAt_0, Option.getD_some, backS_0, backS_1, eCall, tup_lst, tup_tup, tup_ref, fLc, iRg, rng_1, rng_2, wipeS_c, wipeS_n, iPq, iSq, seq_tup, seq_lst, seq_bor, lst_lst, lst_bor, gdS_d, gdS_b, sFor, gNm, gcS_c, gcS_n, gcO_d, gcO_n, mapp, rcv_0, rcv_1, rcv_l, gcO_r0, gcO_r1, gcO_z, seal_d, eq_self, List.take_nil, List.cons_append, poSl, poI, poNo, slD_t, intO_i, list_t, list_l, in_str2, ofS_inj, String.reduceEq, or_false, false_or, or_true, true_or, or_self, decide_true, decide_false, Bool.not_true, Bool.not_false, at_m1_2, at_m1_3, cut_2, cut_3, all_bls, any_bls, count_bls]
    refine ⟨e, by omega, c2, fs, rfl, rfl, o.2, ?_⟩
    simp only [sSeq, sIf, sSet, sSub, sRet, sRetN, sNil, sDrop, sAsg, sPar, sParT, sAug, cP, bB, bTr, bNt, bAn, bOr, po1, po2, poN, pArgs, poIf, poAn, poOr, poNt, poTup, plLst, plN, pl2, pl1, pFz, pV, pC, eP, eo1, eo2, eoN, aP, aNil, aCons, eAn, eOr, eNt, eIf, eFz, eNw, fP, fN, f2, f1, tTupE, tLstF, tTr, tTb, tAn, tOrr, tNt, tYs, eSeal, eMt, poMt, mPure, eCh, pCh, ok_bind, ok_map, ok_some, ok_none, ok_gd, ok_ite, List.getElem?_cons_zero, List.getElem?_cons_succ, List.set_cons_zero, List.set_cons_succ, Option.join_some, Option.bind_some, Option.map_some, Option.bind_none, Option.map_none, ix_ref, ix_tup, ix_lst, ix_bor, ix_scr, add_int, add_str, add_tup, sub_int, mul_int, fdiv_int, mod_int, pow_int, neg_int, lt_int, le_int, gt_int, ge_int, eq_int, eq_str, eq_bl, ne_int, ne_str, ne_bl, is_bl, isnt_bl, is_non, isnt_non, len_tup, len_lst, len_ref, len_bor, len_scr, int_bl, int_int, abs_int, min_int, max_int, blD_bl, cell_lst, st_ref, at_0, at_1, at_2, at_3, at_4, ixN_10, ixN_20, ixN_21, ixN_30, ixN_31, ixN_32, dataS_d, datas_nil, datas_cons, truth_bl, notD, intS, blS, nonB, List.length_cons, List.length_nil, Nat.reduceAdd, endsF_rt, endsF_nx, rvQ_d, rvQ_new, rv_d, rv_ref, okRef_d, okRef_ref, List.not_mem_nil, List.nil_append, true_and, and_true, List.take_succ_cons, List.take_zero, Nat.zero_add, decide_eq_true_eq, Bool.false_eq_true, if_false, if_true, callS, handS_n, handS_tr, handS_fr, handS_fd, handS_fb, cellsAt_c, cellsAt_0, Option.getD_some, backS_0, backS_1, eCall, tup_lst, tup_tup, tup_ref, fLc, iRg, rng_1, rng_2, wipeS_c, wipeS_n, iPq, iSq, seq_tup, seq_lst, seq_bor, lst_lst, lst_bor, gdS_d, gdS_b, sFor, gNm, gcS_c, gcS_n, gcO_d, gcO_n, mapp, rcv_0, rcv_1, rcv_l, gcO_r0, gcO_r1, gcO_z, seal_d, eq_self, List.take_nil, List.cons_append, poSl, poI, poNo, slD_t, intO_i, list_t, list_l, in_str2, ofS_inj, String.reduceEq, or_false, false_or, or_true, true_or, or_self, decide_true, decide_false, Bool.not_true, Bool.not_false, at_m1_2, at_m1_3, cut_2, cut_3, all_bls, any_bls, count_bls]
    rw [dec_beq]
    exact z
  | all cs =>
    obtain ⟨e, rfl⟩ : ∃ e', e = e' + 1 := by
      cases e with
      | zero => exact o.elim
      | succ e => exact ⟨e, rfl⟩
    simp only [r_lholds, cD, sSeq, sIf, sSet, sSub, sRet, sRetN, sNil, sDrop, sAsg, sPar, sParT, sAug, cP, bB, bTr, bNt, bAn, bOr, po1, po2, poN, pArgs, poIf, poAn, poOr, poNt, poTup, plLst, plN, pl2, pl1, pFz, pV, pC, eP, eo1, eo2, eoN, aP, aNil, aCons, eAn, eOr, eNt, eIf, eFz, eNw, fP, fN, f2, f1, tTupE, tLstF, tTr, tTb, tAn, tOrr, tNt, tYs, eSeal, eMt, poMt, mPure, eCh, pCh, ok_bind, ok_map, ok_some, ok_none, ok_gd, ok_ite, List.getElem?_cons_zero, List.getElem?_cons_succ, List.set_cons_zero, List.set_cons_succ, Option.join_some, Option.bind_some, Option.map_some, Option.bind_none, Option.map_none, ix_ref, ix_tup, ix_lst, ix_bor, ix_scr, add_int, add_str, add_tup, sub_int, mul_int, fdiv_int, mod_int, pow_int, neg_int, lt_int, le_int, gt_int, ge_int, eq_int, eq_str, eq_bl, ne_int, ne_str, ne_bl, is_bl, isnt_bl, is_non, isnt_non, len_tup, len_lst, len_ref, len_bor, len_scr, int_bl, int_int, abs_int, min_int, max_int, blD_bl, cell_lst, st_ref, at_0, at_1, at_2, at_3, at_4, ixN_10, ixN_20, ixN_21, ixN_30, ixN_31, ixN_32, dataS_d, datas_nil, datas_cons, truth_bl, notD, intS, blS, nonB, List.length_cons, List.length_nil, Nat.reduceAdd, endsF_rt, endsF_nx, rvQ_d, rvQ_new, rv_d, rv_ref, okRef_d, okRef_ref, List.not_mem_nil, List.nil_append, true_and, and_true, List.take_succ_cons, List.take_zero, Nat.zero_add, decide_eq_true_eq, Bool.false_eq_true, if_false, if_true, callS, handS_n, handS_tr, handS_fr, handS_fd, handS_fb, cellsAt_c, cellsAt_0, Option.getD_some, backS_0, backS_1, eCall, tup_lst, tup_tup, tup_ref, fLc, iRg, rng_1, rng_2, wipeS_c, wipeS_n, iPq, iSq, seq_tup, seq_lst, seq_bor, lst_lst, lst_bor, gdS_d, gdS_b, sFor, gNm, gcS_c, gcS_n, gcO_d, gcO_n, mapp, rcv_0, rcv_1, rcv_l, gcO_r0, gcO_r1, gcO_z, seal_d, eq_self, List.take_nil, List.cons_append, poSl, poI, poNo, slD_t, intO_i, list_t, list_l, in_str2, ofS_inj, String.reduceEq, or_false, false_or, or_true, true_or, or_self, decide_true, decide_false, Bool.not_true, Bool.not_false, at_m1_2, at_m1_3, cut_2, cut_3, all_bls, any_bls, count_bls]
    simp only [Cm.hv] at z
    refine lc_holds (acc := []) (M0 := []) trivial (fun c' R' o' hR' => by
      simp only [sSeq, sIf, sSet, sSub, sRet, sRetN, sNil, sDrop, sAsg, sPar, sParT, sAug, cP, bB, bTr, bNt, bAn, bOr, po1, po2, poN, pArgs, poIf, poAn, poOr, poNt, poTup, plLst, plN, pl2, pl1, pFz, pV, pC, eP, eo1, eo2, eoN, aP, aNil, aCons, eAn, eOr, eNt, eIf, eFz, eNw, fP, fN, f2, f1, tTupE, tLstF, tTr, tTb, tAn, tOrr, tNt, tYs, eSeal, eMt, poMt, mPure, eCh, pCh, ok_bind, ok_map, ok_some, ok_none, ok_gd, ok_ite, List.getElem?_cons_zero, List.getElem?_cons_succ, List.set_cons_zero, List.set_cons_succ, Option.join_some, Option.bind_some, Option.map_some, Option.bind_none, Option.map_none, ix_ref, ix_tup, ix_lst, ix_bor, ix_scr, add_int, add_str, add_tup, sub_int, mul_int, fdiv_int, mod_int, pow_int, neg_int, lt_int, le_int, gt_int, ge_int, eq_int, eq_str, eq_bl, ne_int, ne_str, ne_bl, is_bl, isnt_bl, is_non, isnt_non, len_tup, len_lst, len_ref, len_bor, len_scr, int_bl, int_int, abs_int, min_int, max_int, blD_bl, cell_lst, st_ref, at_0, at_1, at_2, at_3, at_4, ixN_10, ixN_20, ixN_21, ixN_30, ixN_31, ixN_32, dataS_d, datas_nil, datas_cons, truth_bl, notD, intS, blS, nonB, List.length_cons, List.length_nil, Nat.reduceAdd, endsF_rt, endsF_nx, rvQ_d, rvQ_new, rv_d, rv_ref, okRef_d, okRef_ref, List.not_mem_nil, List.nil_append, true_and, and_true, List.take_succ_cons, List.take_zero, Nat.zero_add, decide_eq_true_eq, Bool.false_eq_true, if_false, if_true, callS, handS_n, handS_tr, handS_fr, handS_fd, handS_fb, cellsAt_c, cellsAt_0, Option.getD_some, backS_0, backS_1, eCall, tup_lst, tup_tup, tup_ref, fLc, iRg, rng_1, rng_2, wipeS_c, wipeS_n, iPq, iSq, seq_tup, seq_lst, seq_bor, lst_lst, lst_bor, gdS_d, gdS_b, sFor, gNm, gcS_c, gcS_n, gcO_d, gcO_n, mapp, rcv_0, rcv_1, rcv_l, gcO_r0, gcO_r1, gcO_z, seal_d, eq_self, List.take_nil, List.cons_append, poSl, poI, poNo, slD_t, intO_i, list_t, list_l, in_str2, ofS_inj, String.reduceEq, or_false, false_or, or_true, true_or, or_self, decide_true, decide_false, Bool.not_true, Bool.not_false, at_m1_2, at_m1_3, cut_2, cut_3, all_bls, any_bls, count_bls]
      exact ⟨e, by omega, c', fs, rfl, rfl, o', by simp only [sSeq, sIf, sSet, sSub, sRet, sRetN, sNil, sDrop, sAsg, sPar, sParT, sAug, cP, bB, bTr, bNt, bAn, bOr, po1, po2, poN, pArgs, poIf, poAn, poOr, poNt, poTup, plLst, plN, pl2, pl1, pFz, pV, pC, eP, eo1, eo2, eoN, aP, aNil, aCons, eAn, eOr, eNt, eIf, eFz, eNw, fP, fN, f2, f1, tTupE, tLstF, tTr, tTb, tAn, tOrr, tNt, tYs, eSeal, eMt, poMt, mPure, eCh, pCh, ok_bind, ok_map, ok_some, ok_none, ok_gd, ok_ite, List.getElem?_cons_zero, List.getElem?_cons_succ, List.set_cons_zero, List.set_cons_succ, Option.join_some, Option.bind_some, Option.map_some, Option.bind_none, Option.map_none, ix_ref, ix_tup, ix_lst, ix_bor, ix_scr, add_int, add_str, add_tup, sub_int, mul_int, fdiv_int, mod_int, pow_int, neg_int, lt_int, le_int, gt_int, ge_int, eq_int, eq_str, eq_bl, ne_int, ne_str, ne_bl, is_bl, isnt_bl, is_non, isnt_non, len_tup, len_lst, len_ref, len_bor, len_scr, int_bl, int_int, abs_int, min_int, max_int, blD_bl, cell_lst, st_ref, at_0, at_1, at_2, at_3, at_4, ixN_10, ixN_20, ixN_21, ixN_30, ixN_31, ixN_32, dataS_d, datas_nil, datas_cons, truth_bl, notD, intS, blS, nonB, List.length_cons, List.length_nil, Nat.reduceAdd, endsF_rt, endsF_nx, rvQ_d, rvQ_new, rv_d, rv_ref, okRef_d, okRef_ref, List.not_mem_nil, List.nil_append, true_and, and_true, List.take_succ_cons, List.take_zero, Nat.zero_add, decide_eq_true_eq, Bool.false_eq_true, if_false, if_true, callS, handS_n, handS_tr, handS_fr, handS_fd, handS_fb, cellsAt_c, cellsAt_0, Option.getD_some, backS_0, backS_1, eCall, tup_lst, tup_tup, tup_ref, fLc, iRg, rng_1, rng_2, wipeS_c, wipeS_n, iPq, iSq, seq_tup, seq_lst, seq_bor, lst_lst, lst_bor, gdS_d, gdS_b, sFor, gNm, gcS_c, gcS_n, gcO_d, gcO_n, mapp, rcv_0, rcv_1, rcv_l, gcO_r0, gcO_r1, gcO_z, seal_d, eq_self, List.take_nil, List.cons_append, poSl, poI, poNo, slD_t, intO_i, list_t, list_l, in_str2, ofS_inj, String.reduceEq, or_false, false_or, or_true, true_or, or_self, decide_true, decide_false, Bool.not_true, Bool.not_false, at_m1_2, at_m1_3, cut_2, cut_3, all_bls, any_bls, count_bls]; exact hR'⟩) cs (o) ?_
    simp only [sSeq, sIf, sSet, sSub, sRet, sRetN, sNil, sDrop, sAsg, sPar, sParT, sAug, cP, bB, bTr, bNt, bAn, bOr, po1, po2, poN, pArgs, poIf, poAn, poOr, poNt, poTup, plLst, plN, pl2, pl1, pFz, pV, pC, eP, eo1, eo2, eoN, aP, aNil, aCons, eAn, eOr, eNt, eIf, eFz, eNw, fP, fN, f2, f1, tTupE, tLstF, tTr, tTb, tAn, tOrr, tNt, tYs, eSeal, eMt, poMt, mPure, eCh, pCh, ok_bind, ok_map, ok_some, ok_none, ok_gd, ok_ite, List.getElem?_cons_zero, List.getElem?_cons_succ, List.set_cons_zero, List.set_cons_succ, Option.join_some, Option.bind_some, Option.map_some, Option.bind_none, Option.map_none, ix_ref, ix_tup, ix_lst, ix_bor, ix_scr, add_int, add_str, add_tup, sub_int, mul_int, fdiv_int, mod_int, pow_int, neg_int, lt_int, le_int, gt_int, ge_int, eq_int, eq_str, eq_bl, ne_int, ne_str, ne_bl, is_bl, isnt_bl, is_non, isnt_non, len_tup, len_lst, len_ref, len_bor, len_scr, int_bl, int_int, abs_int, min_int, max_int, blD_bl, cell_lst, st_ref, at_0, at_1, at_2, at_3, at_4, ixN_10, ixN_20, ixN_21, ixN_30, ixN_31, ixN_32, dataS_d, datas_nil, datas_cons, truth_bl, notD, intS, blS, nonB, List.length_cons, List.length_nil, Nat.reduceAdd, endsF_rt, endsF_nx, rvQ_d, rvQ_new, rv_d, rv_ref, okRef_d, okRef_ref, List.not_mem_nil, List.nil_append, true_and, and_true, List.take_succ_cons, List.take_zero, Nat.zero_add, decide_eq_true_eq, Bool.false_eq_true, if_false, if_true, callS, handS_n, handS_tr, handS_fr, handS_fd, handS_fb, cellsAt_c, cellsAt_0, Option.getD_some, backS_0, backS_1, eCall, tup_lst, tup_tup, tup_ref, fLc, iRg, rng_1, rng_2, wipeS_c, wipeS_n, iPq, iSq, seq_tup, seq_lst, seq_bor, lst_lst, lst_bor, gdS_d, gdS_b, sFor, gNm, gcS_c, gcS_n, gcO_d, gcO_n, mapp, rcv_0, rcv_1, rcv_l, gcO_r0, gcO_r1, gcO_z, seal_d, eq_self, List.take_nil, List.cons_append, poSl, poI, poNo, slD_t, intO_i, list_t, list_l, in_str2, ofS_inj, String.reduceEq, or_false, false_or, or_true, true_or, or_self, decide_true, decide_false, Bool.not_true, Bool.not_false, at_m1_2, at_m1_3, cut_2, cut_3, all_bls, any_bls, count_bls, List.map_cons, List.map_nil, gdT]
    exact z
  | any cs =>
    obtain ⟨e, rfl⟩ : ∃ e', e = e' + 1 := by
      cases e with
      | zero => exact o.elim
      | succ e => exact ⟨e, rfl⟩
    simp only [r_lholds, cD, sSeq, sIf, sSet, sSub, sRet, sRetN, sNil, sDrop, sAsg, sPar, sParT, sAug, cP, bB, bTr, bNt, bAn, bOr, po1, po2, poN, pArgs, poIf, poAn, poOr, poNt, poTup, plLst, plN, pl2, pl1, pFz, pV, pC, eP, eo1, eo2, eoN, aP, aNil, aCons, eAn, eOr, eNt, eIf, eFz, eNw, fP, fN, f2, f1, tTupE, tLstF, tTr, tTb, tAn, tOrr, tNt, tYs, eSeal, eMt, poMt, mPure, eCh, pCh, ok_bind, ok_map, ok_some, ok_none, ok_gd, ok_ite, List.getElem?_cons_zero, List.getElem?_cons_succ, List.set_cons_zero, List.set_cons_succ, Option.join_some, Option.bind_some, Option.map_some, Option.bind_none, Option.map_none, ix_ref, ix_tup, ix_lst, ix_bor, ix_scr, add_int, add_str, add_tup, sub_int, mul_int, fdiv_int, mod_int, pow_int, neg_int, lt_int, le_int, gt_int, ge_int, eq_int, eq_str, eq_bl, ne_int, ne_str, ne_bl, is_bl, isnt_bl, is_non, isnt_non, len_tup, len_lst, len_ref, len_bor, len_scr, int_bl, int_int, abs_int, min_int, max_int, blD_bl, cell_lst, st_ref, at_0, at_1, at_2, at_3, at_4, ixN_10, ixN_20, ixN_21, ixN_30, ixN_31, ixN_32, dataS_d, datas_nil, datas_cons, truth_bl, notD, intS, blS, nonB, List.length_cons, List.length_nil, Nat.reduceAdd, endsF_rt, endsF_nx, rvQ_d, rvQ_new, rv_d, rv_ref, okRef_d, okRef_ref, List.not_mem_nil, List.nil_append, true_and, and_true, List.take_succ_cons, List.take_zero, Nat.zero_add, decide_eq_true_eq, Bool.false_eq_true, if_false, if_true, callS, handS_n, handS_tr, handS_fr, handS_fd, handS_fb, cellsAt_c, cellsAt_0, Option.getD_some, backS_0, backS_1, eCall, tup_lst, tup_tup, tup_ref, fLc, iRg, rng_1, rng_2, wipeS_c, wipeS_n, iPq, iSq, seq_tup, seq_lst, seq_bor, lst_lst, lst_bor, gdS_d, gdS_b, sFor, gNm, gcS_c, gcS_n, gcO_d, gcO_n, mapp, rcv_0, rcv_1, rcv_l, gcO_r0, gcO_r1, gcO_z, seal_d, eq_self, List.take_nil, List.cons_append, poSl, poI, poNo, slD_t, intO_i, list_t, list_l, in_str2, ofS_inj, String.reduceEq, or_false, false_or, or_true, true_or, or_self, decide_true, decide_false, Bool.not_true, Bool.not_false, at_m1_2, at_m1_3, cut_2, cut_3, all_bls, any_bls, count_bls]
    simp only [Cm.hv] at z
    refine lc_holds (acc := []) (M0 := []) trivial (fun c' R' o' hR' => by
      simp only [sSeq, sIf, sSet, sSub, sRet, sRetN, sNil, sDrop, sAsg, sPar, sParT, sAug, cP, bB, bTr, bNt, bAn, bOr, po1, po2, poN, pArgs, poIf, poAn, poOr, poNt, poTup, plLst, plN, pl2, pl1, pFz, pV, pC, eP, eo1, eo2, eoN, aP, aNil, aCons, eAn, eOr, eNt, eIf, eFz, eNw, fP, fN, f2, f1, tTupE, tLstF, tTr, tTb, tAn, tOrr, tNt, tYs, eSeal, eMt, poMt, mPure, eCh, pCh, ok_bind, ok_map, ok_some, ok_none, ok_gd, ok_ite, List.getElem?_cons_zero, List.getElem?_cons_succ, List.set_cons_zero, List.set_cons_succ, Option.join_some, Option.bind_some, Option.map_some, Option.bind_none, Option.map_none, ix_ref, ix_tup, ix_lst, ix_bor, ix_scr, add_int, add_str, add_tup, sub_int, mul_int, fdiv_int, mod_int, pow_int, neg_int, lt_int, le_int, gt_int, ge_int, eq_int, eq_str, eq_bl, ne_int, ne_str, ne_bl, is_bl, isnt_bl, is_non, isnt_non, len_tup, len_lst, len_ref, len_bor, len_scr, int_bl, int_int, abs_int, min_int, max_int, blD_bl, cell_lst, st_ref, at_0, at_1, at_2, at_3, at_4, ixN_10, ixN_20, ixN_21, ixN_30, ixN_31, ixN_32, dataS_d, datas_nil, datas_cons, truth_bl, notD, intS, blS, nonB, List.length_cons, List.length_nil, Nat.reduceAdd, endsF_rt, endsF_nx, rvQ_d, rvQ_new, rv_d, rv_ref, okRef_d, okRef_ref, List.not_mem_nil, List.nil_append, true_and, and_true, List.take_succ_cons, List.take_zero, Nat.zero_add, decide_eq_true_eq, Bool.false_eq_true, if_false, if_true, callS, handS_n, handS_tr, handS_fr, handS_fd, handS_fb, cellsAt_c, cellsAt_0, Option.getD_some, backS_0, backS_1, eCall, tup_lst, tup_tup, tup_ref, fLc, iRg, rng_1, rng_2, wipeS_c, wipeS_n, iPq, iSq, seq_tup, seq_lst, seq_bor, lst_lst, lst_bor, gdS_d, gdS_b, sFor, gNm, gcS_c, gcS_n, gcO_d, gcO_n, mapp, rcv_0, rcv_1, rcv_l, gcO_r0, gcO_r1, gcO_z, seal_d, eq_self, List.take_nil, List.cons_append, poSl, poI, poNo, slD_t, intO_i, list_t, list_l, in_str2, ofS_inj, String.reduceEq, or_false, false_or, or_true, true_or, or_self, decide_true, decide_false, Bool.not_true, Bool.not_false, at_m1_2, at_m1_3, cut_2, cut_3, all_bls, any_bls, count_bls]
      exact ⟨e, by omega, c', fs, rfl, rfl, o', by simp only [sSeq, sIf, sSet, sSub, sRet, sRetN, sNil, sDrop, sAsg, sPar, sParT, sAug, cP, bB, bTr, bNt, bAn, bOr, po1, po2, poN, pArgs, poIf, poAn, poOr, poNt, poTup, plLst, plN, pl2, pl1, pFz, pV, pC, eP, eo1, eo2, eoN, aP, aNil, aCons, eAn, eOr, eNt, eIf, eFz, eNw, fP, fN, f2, f1, tTupE, tLstF, tTr, tTb, tAn, tOrr, tNt, tYs, eSeal, eMt, poMt, mPure, eCh, pCh, ok_bind, ok_map, ok_some, ok_none, ok_gd, ok_ite, List.getElem?_cons_zero, List.getElem?_cons_succ, List.set_cons_zero, List.set_cons_succ, Option.join_some, Option.bind_some, Option.map_some, Option.bind_none, Option.map_none, ix_ref, ix_tup, ix_lst, ix_bor, ix_scr, add_int, add_str, add_tup, sub_int, mul_int, fdiv_int, mod_int, pow_int, neg_int, lt_int, le_int, gt_int, ge_int, eq_int, eq_str, eq_bl, ne_int, ne_str, ne_bl, is_bl, isnt_bl, is_non, isnt_non, len_tup, len_lst, len_ref, len_bor, len_scr, int_bl, int_int, abs_int, min_int, max_int, blD_bl, cell_lst, st_ref, at_0, at_1, at_2, at_3, at_4, ixN_10, ixN_20, ixN_21, ixN_30, ixN_31, ixN_32, dataS_d, datas_nil, datas_cons, truth_bl, notD, intS, blS, nonB, List.length_cons, List.length_nil, Nat.reduceAdd, endsF_rt, endsF_nx, rvQ_d, rvQ_new, rv_d, rv_ref, okRef_d, okRef_ref, List.not_mem_nil, List.nil_append, true_and, and_true, List.take_succ_cons, List.take_zero, Nat.zero_add, decide_eq_true_eq, Bool.false_eq_true, if_false, if_true, callS, handS_n, handS_tr, handS_fr, handS_fd, handS_fb, cellsAt_c, cellsAt_0, Option.getD_some, backS_0, backS_1, eCall, tup_lst, tup_tup, tup_ref, fLc, iRg, rng_1, rng_2, wipeS_c, wipeS_n, iPq, iSq, seq_tup, seq_lst, seq_bor, lst_lst, lst_bor, gdS_d, gdS_b, sFor, gNm, gcS_c, gcS_n, gcO_d, gcO_n, mapp, rcv_0, rcv_1, rcv_l, gcO_r0, gcO_r1, gcO_z, seal_d, eq_self, List.take_nil, List.cons_append, poSl, poI, poNo, slD_t, intO_i, list_t, list_l, in_str2, ofS_inj, String.reduceEq, or_false, false_or, or_true, true_or, or_self, decide_true, decide_false, Bool.not_true, Bool.not_false, at_m1_2, at_m1_3, cut_2, cut_3, all_bls, any_bls, count_bls]; exact hR'⟩) cs (o) ?_
    simp only [sSeq, sIf, sSet, sSub, sRet, sRetN, sNil, sDrop, sAsg, sPar, sParT, sAug, cP, bB, bTr, bNt, bAn, bOr, po1, po2, poN, pArgs, poIf, poAn, poOr, poNt, poTup, plLst, plN, pl2, pl1, pFz, pV, pC, eP, eo1, eo2, eoN, aP, aNil, aCons, eAn, eOr, eNt, eIf, eFz, eNw, fP, fN, f2, f1, tTupE, tLstF, tTr, tTb, tAn, tOrr, tNt, tYs, eSeal, eMt, poMt, mPure, eCh, pCh, ok_bind, ok_map, ok_some, ok_none, ok_gd, ok_ite, List.getElem?_cons_zero, List.getElem?_cons_succ, List.set_cons_zero, List.set_cons_succ, Option.join_some, Option.bind_some, Option.map_some, Option.bind_none, Option.map_none, ix_ref, ix_tup, ix_lst, ix_bor, ix_scr, add_int, add_str, add_tup, sub_int, mul_int, fdiv_int, mod_int, pow_int, neg_int, lt_int, le_int, gt_int, ge_int, eq_int, eq_str, eq_bl, ne_int, ne_str, ne_bl, is_bl, isnt_bl, is_non, isnt_non, len_tup, len_lst, len_ref, len_bor, len_scr, int_bl, int_int, abs_int, min_int, max_int, blD_bl, cell_lst, st_ref, at_0, at_1, at_2, at_3, at_4, ixN_10, ixN_20, ixN_21, ixN_30, ixN_31, ixN_32, dataS_d, datas_nil, datas_cons, truth_bl, notD, intS, blS, nonB, List.length_cons, List.length_nil, Nat.reduceAdd, endsF_rt, endsF_nx, rvQ_d, rvQ_new, rv_d, rv_ref, okRef_d, okRef_ref, List.not_mem_nil, List.nil_append, true_and, and_true, List.take_succ_cons, List.take_zero, Nat.zero_add, decide_eq_true_eq, Bool.false_eq_true, if_false, if_true, callS, handS_n, handS_tr, handS_fr, handS_fd, handS_fb, cellsAt_c, cellsAt_0, Option.getD_some, backS_0, backS_1, eCall, tup_lst, tup_tup, tup_ref, fLc, iRg, rng_1, rng_2, wipeS_c, wipeS_n, iPq, iSq, seq_tup, seq_lst, seq_bor, lst_lst, lst_bor, gdS_d, gdS_b, sFor, gNm, gcS_c, gcS_n, gcO_d, gcO_n, mapp, rcv_0, rcv_1, rcv_l, gcO_r0, gcO_r1, gcO_z, seal_d, eq_self, List.take_nil, List.cons_append, poSl, poI, poNo, slD_t, intO_i, list_t, list_l, in_str2, ofS_inj, String.reduceEq, or_false, false_or, or_true, true_or, or_self, decide_true, decide_false, Bool.not_true, Bool.not_false, at_m1_2, at_m1_3, cut_2, cut_3, all_bls, any_bls, count_bls, List.map_cons, List.map_nil, gdT]
    exact z
  | least m cs =>
    obtain ⟨e, rfl⟩ : ∃ e', e = e' + 1 := by
      cases e with
      | zero => exact o.elim
      | succ e => exact ⟨e, rfl⟩
    simp only [r_lholds, cD, sSeq, sIf, sSet, sSub, sRet, sRetN, sNil, sDrop, sAsg, sPar, sParT, sAug, cP, bB, bTr, bNt, bAn, bOr, po1, po2, poN, pArgs, poIf, poAn, poOr, poNt, poTup, plLst, plN, pl2, pl1, pFz, pV, pC, eP, eo1, eo2, eoN, aP, aNil, aCons, eAn, eOr, eNt, eIf, eFz, eNw, fP, fN, f2, f1, tTupE, tLstF, tTr, tTb, tAn, tOrr, tNt, tYs, eSeal, eMt, poMt, mPure, eCh, pCh, ok_bind, ok_map, ok_some, ok_none, ok_gd, ok_ite, List.getElem?_cons_zero, List.getElem?_cons_succ, List.set_cons_zero, List.set_cons_succ, Option.join_some, Option.bind_some, Option.map_some, Option.bind_none, Option.map_none, ix_ref, ix_tup, ix_lst, ix_bor, ix_scr, add_int, add_str, add_tup, sub_int, mul_int, fdiv_int, mod_int, pow_int, neg_int, lt_int, le_int, gt_int, ge_int, eq_int, eq_str, eq_bl, ne_int, ne_str, ne_bl, is_bl, isnt_bl, is_non, isnt_non, len_tup, len_lst, len_ref, len_bor, len_scr, int_bl, int_int, abs_int, min_int, max_int, blD_bl, cell_lst, st_ref, at_0, at_1, at_2, at_3, at_4, ixN_10, ixN_20, ixN_21, ixN_30, ixN_31, ixN_32, dataS_d, datas_nil, datas_cons, truth_bl, notD, intS, blS, nonB, List.length_cons, List.length_nil, Nat.reduceAdd, endsF_rt, endsF_nx, rvQ_d, rvQ_new, rv_d, rv_ref, okRef_d, okRef_ref, List.not_mem_nil, List.nil_append, true_and, and_true, List.take_succ_cons, List.take_zero, Nat.zero_add, decide_eq_true_eq, Bool.false_eq_true, if_false, if_true, callS, handS_n, handS_tr, handS_fr, handS_fd, handS_fb, cellsAt_c, cellsAt_0, Option.getD_some, backS_0, backS_1, eCall, tup_lst, tup_tup, tup_ref, fLc, iRg, rng_1, rng_2, wipeS_c, wipeS_n, iPq, iSq, seq_tup, seq_lst, seq_bor, lst_lst, lst_bor, gdS_d, gdS_b, sFor, gNm, gcS_c, gcS_n, gcO_d, gcO_n, mapp, rcv_0, rcv_1, rcv_l, gcO_r0, gcO_r1, gcO_z, seal_d, eq_self, List.take_nil, List.cons_append, poSl, poI, poNo, slD_t, intO_i, list_t, list_l, in_str2, ofS_inj, String.reduceEq, or_false, false_or, or_true, true_or, or_self, decide_true, decide_false, Bool.not_true, Bool.not_false, at_m1_2, at_m1_3, cut_2, cut_3, all_bls, any_bls, count_bls]
    simp only [Cm.hv] at z
    refine lc_holds (acc := []) (M0 := []) trivial (fun c' R' o' hR' => by
      simp only [sSeq, sIf, sSet, sSub, sRet, sRetN, sNil, sDrop, sAsg, sPar, sParT, sAug, cP, bB, bTr, bNt, bAn, bOr, po1, po2, poN, pArgs, poIf, poAn, poOr, poNt, poTup, plLst, plN, pl2, pl1, pFz, pV, pC, eP, eo1, eo2, eoN, aP, aNil, aCons, eAn, eOr, eNt, eIf, eFz, eNw, fP, fN, f2, f1, tTupE, tLstF, tTr, tTb, tAn, tOrr, tNt, tYs, eSeal, eMt, poMt, mPure, eCh, pCh, ok_bind, ok_map, ok_some, ok_none, ok_gd, ok_ite, List.getElem?_cons_zero, List.getElem?_cons_succ, List.set_cons_zero, List.set_cons_succ, Option.join_some, Option.bind_some, Option.map_some, Option.bind_none, Option.map_none, ix_ref, ix_tup, ix_lst, ix_bor, ix_scr, add_int, add_str, add_tup, sub_int, mul_int, fdiv_int, mod_int, pow_int, neg_int, lt_int, le_int, gt_int, ge_int, eq_int, eq_str, eq_bl, ne_int, ne_str, ne_bl, is_bl, isnt_bl, is_non, isnt_non, len_tup, len_lst, len_ref, len_bor, len_scr, int_bl, int_int, abs_int, min_int, max_int, blD_bl, cell_lst, st_ref, at_0, at_1, at_2, at_3, at_4, ixN_10, ixN_20, ixN_21, ixN_30, ixN_31, ixN_32, dataS_d, datas_nil, datas_cons, truth_bl, notD, intS, blS, nonB, List.length_cons, List.length_nil, Nat.reduceAdd, endsF_rt, endsF_nx, rvQ_d, rvQ_new, rv_d, rv_ref, okRef_d, okRef_ref, List.not_mem_nil, List.nil_append, true_and, and_true, List.take_succ_cons, List.take_zero, Nat.zero_add, decide_eq_true_eq, Bool.false_eq_true, if_false, if_true, callS, handS_n, handS_tr, handS_fr, handS_fd, handS_fb, cellsAt_c, cellsAt_0, Option.getD_some, backS_0, backS_1, eCall, tup_lst, tup_tup, tup_ref, fLc, iRg, rng_1, rng_2, wipeS_c, wipeS_n, iPq, iSq, seq_tup, seq_lst, seq_bor, lst_lst, lst_bor, gdS_d, gdS_b, sFor, gNm, gcS_c, gcS_n, gcO_d, gcO_n, mapp, rcv_0, rcv_1, rcv_l, gcO_r0, gcO_r1, gcO_z, seal_d, eq_self, List.take_nil, List.cons_append, poSl, poI, poNo, slD_t, intO_i, list_t, list_l, in_str2, ofS_inj, String.reduceEq, or_false, false_or, or_true, true_or, or_self, decide_true, decide_false, Bool.not_true, Bool.not_false, at_m1_2, at_m1_3, cut_2, cut_3, all_bls, any_bls, count_bls]
      exact ⟨e, by omega, c', fs, rfl, rfl, o', by simp only [sSeq, sIf, sSet, sSub, sRet, sRetN, sNil, sDrop, sAsg, sPar, sParT, sAug, cP, bB, bTr, bNt, bAn, bOr, po1, po2, poN, pArgs, poIf, poAn, poOr, poNt, poTup, plLst, plN, pl2, pl1, pFz, pV, pC, eP, eo1, eo2, eoN, aP, aNil, aCons, eAn, eOr, eNt, eIf, eFz, eNw, fP, fN, f2, f1, tTupE, tLstF, tTr, tTb, tAn, tOrr, tNt, tYs, eSeal, eMt, poMt, mPure, eCh, pCh, ok_bind, ok_map, ok_some, ok_none, ok_gd, ok_ite, List.getElem?_cons_zero, List.getElem?_cons_succ, List.set_cons_zero, List.set_cons_succ, Option.join_some, Option.bind_some, Option.map_some, Option.bind_none, Option.map_none, ix_ref, ix_tup, ix_lst, ix_bor, ix_scr, add_int, add_str, add_tup, sub_int, mul_int, fdiv_int, mod_int, pow_int, neg_int, lt_int, le_int, gt_int, ge_int, eq_int, eq_str, eq_bl, ne_int, ne_str, ne_bl, is_bl, isnt_bl, is_non, isnt_non, len_tup, len_lst, len_ref, len_bor, len_scr, int_bl, int_int, abs_int, min_int, max_int, blD_bl, cell_lst, st_ref, at_0, at_1, at_2, at_3, at_4, ixN_10, ixN_20, ixN_21, ixN_30, ixN_31, ixN_32, dataS_d, datas_nil, datas_cons, truth_bl, notD, intS, blS, nonB, List.length_cons, List.length_nil, Nat.reduceAdd, endsF_rt, endsF_nx, rvQ_d, rvQ_new, rv_d, rv_ref, okRef_d, okRef_ref, List.not_mem_nil, List.nil_append, true_and, and_true, List.take_succ_cons, List.take_zero, Nat.zero_add, decide_eq_true_eq, Bool.false_eq_true, if_false, if_true, callS, handS_n, handS_tr, handS_fr, handS_fd, handS_fb, cellsAt_c, cellsAt_0, Option.getD_some, backS_0, backS_1, eCall, tup_lst, tup_tup, tup_ref, fLc, iRg, rng_1, rng_2, wipeS_c, wipeS_n, iPq, iSq, seq_tup, seq_lst, seq_bor, lst_lst, lst_bor, gdS_d, gdS_b, sFor, gNm, gcS_c, gcS_n, gcO_d, gcO_n, mapp, rcv_0, rcv_1, rcv_l, gcO_r0, gcO_r1, gcO_z, seal_d, eq_self, List.take_nil, List.cons_append, poSl, poI, poNo, slD_t, intO_i, list_t, list_l, in_str2, ofS_inj, String.reduceEq, or_false, false_or, or_true, true_or, or_self, decide_true, decide_false, Bool.not_true, Bool.not_false, at_m1_2, at_m1_3, cut_2, cut_3, all_bls, any_bls, count_bls]; exact hR'⟩) cs (o.2) ?_
    simp only [sSeq, sIf, sSet, sSub, sRet, sRetN, sNil, sDrop, sAsg, sPar, sParT, sAug, cP, bB, bTr, bNt, bAn, bOr, po1, po2, poN, pArgs, poIf, poAn, poOr, poNt, poTup, plLst, plN, pl2, pl1, pFz, pV, pC, eP, eo1, eo2, eoN, aP, aNil, aCons, eAn, eOr, eNt, eIf, eFz, eNw, fP, fN, f2, f1, tTupE, tLstF, tTr, tTb, tAn, tOrr, tNt, tYs, eSeal, eMt, poMt, mPure, eCh, pCh, ok_bind, ok_map, ok_some, ok_none, ok_gd, ok_ite, List.getElem?_cons_zero, List.getElem?_cons_succ, List.set_cons_zero, List.set_cons_succ, Option.join_some, Option.bind_some, Option.map_some, Option.bind_none, Option.map_none, ix_ref, ix_tup, ix_lst, ix_bor, ix_scr, add_int, add_str, add_tup, sub_int, mul_int, fdiv_int, mod_int, pow_int, neg_int, lt_int, le_int, gt_int, ge_int, eq_int, eq_str, eq_bl, ne_int, ne_str, ne_bl, is_bl, isnt_bl, is_non, isnt_non, len_tup, len_lst, len_ref, len_bor, len_scr, int_bl, int_int, abs_int, min_int, max_int, blD_bl, cell_lst, st_ref, at_0, at_1, at_2, at_3, at_4, ixN_10, ixN_20, ixN_21, ixN_30, ixN_31, ixN_32, dataS_d, datas_nil, datas_cons, truth_bl, notD, intS, blS, nonB, List.length_cons, List.length_nil, Nat.reduceAdd, endsF_rt, endsF_nx, rvQ_d, rvQ_new, rv_d, rv_ref, okRef_d, okRef_ref, List.not_mem_nil, List.nil_append, true_and, and_true, List.take_succ_cons, List.take_zero, Nat.zero_add, decide_eq_true_eq, Bool.false_eq_true, if_false, if_true, callS, handS_n, handS_tr, handS_fr, handS_fd, handS_fb, cellsAt_c, cellsAt_0, Option.getD_some, backS_0, backS_1, eCall, tup_lst, tup_tup, tup_ref, fLc, iRg, rng_1, rng_2, wipeS_c, wipeS_n, iPq, iSq, seq_tup, seq_lst, seq_bor, lst_lst, lst_bor, gdS_d, gdS_b, sFor, gNm, gcS_c, gcS_n, gcO_d, gcO_n, mapp, rcv_0, rcv_1, rcv_l, gcO_r0, gcO_r1, gcO_z, seal_d, eq_self, List.take_nil, List.cons_append, poSl, poI, poNo, slD_t, intO_i, list_t, list_l, in_str2, ofS_inj, String.reduceEq, or_false, false_or, or_true, true_or, or_self, decide_true, decide_false, Bool.not_true, Bool.not_false, at_m1_2, at_m1_3, cut_2, cut_3, all_bls, any_bls, count_bls, List.map_cons, List.map_nil, gdT]
    rw [dec_le]; exact z
end VL
set_option Elab.async false
set_option linter.all false
set_option maxRecDepth 100000
set_option maxHeartbeats 1000000
/-! Plain laws: data that repr and == may look at. -/
namespace VL
open PySem PySem.Spec L2

structure Pl (w dp : Nat) (d : D) : Prop where
  no : noR d = true
  sh : (py d).leavesShort 40 = true
  la : (py d).canLay0 = true
  sw : (py d).showable = true
  we : (py d).weight ≤ w
  de : (py d).depth ≤ dp
structure Pls (w dp : Nat) (d : List D) : Prop where
  no : noRs d = true
  sh : PyData.leavesShortAll 40 (pys d) = true
  la : PyData.canLayAll0 (pys d) = true
  sw : PyData.showableAll (pys d) = true
  we : PyData.weightAll (pys d) ≤ w
  de : PyData.depthAll (pys d) ≤ dp
theorem Pl.mono {w dp w' dp' : Nat} {d : D} (h : Pl w dp d) (h1 : w ≤ w') (h2 : dp ≤ dp') : Pl w' dp' d := ⟨h.no, h.sh, h.la, h.sw, Nat.le_trans h.we h1, Nat.le_trans h.de h2⟩
theorem Pls.mono {w dp w' dp' : Nat} {d : List D} (h : Pls w dp d) (h1 : w ≤ w') (h2 : dp ≤ dp') : Pls w' dp' d := ⟨h.no, h.sh, h.la, h.sw, Nat.le_trans h.we h1, Nat.le_trans h.de h2⟩
theorem Pl.int {i : Int} (h : i.natAbs < 10 ^ 39) : Pl 140 0 (.int i) := by
  have h2 : i.natAbs < 2 ^ 130 := Nat.lt_trans h (by decide)
  have hl : i.natAbs ≠ 0 → i.natAbs.log2 < 130 := fun h0 => (Nat.log2_lt h0).mpr h2
  have hl2 : i.natAbs.log2 < 130 := by
    by_cases h0 : i.natAbs = 0
    · rw [h0]; decide
    · exact hl h0
  refine ⟨rfl, ?_, rfl, ?_, ?_, Nat.le_refl _⟩
  · show decide ((PyData.shown (.int i)).length ≤ 40) = true
    have e := int_text_length_le10 (k := 39) (by decide) h
    have : (Str.ofString (toString i)).length ≤ 40 := by rw [ofString_length]; exact e
    exact decide_eq_true this
  · show decide (i.natAbs.log2 < 1920) = true
    exact decide_eq_true (by omega)
  · show (if i == 0 then 0 else i.natAbs.log2 + 1) ≤ 140
    split <;> omega
theorem Pl.str {s : Str} {n : Nat} (h : (PyData.canLay0 (.str s) && s.cps.toList.all (fun c => decide (c < 16 ^ 8)) && decide (s.cps.size ≤ n)) = true) : Pl n 0 (.str s) := by
  simp only [Bool.and_eq_true, decide_eq_true_eq] at h
  exact ⟨rfl, h.1.2, h.1.1, rfl, h.2, Nat.le_refl _⟩
theorem Pl.bl {b : Bool} : Pl 0 0 (.bl b) := ⟨rfl, rfl, rfl, rfl, Nat.le_refl _, Nat.le_refl _⟩
theorem Pl.non : Pl 0 0 .non := ⟨rfl, rfl, rfl, rfl, Nat.le_refl _, Nat.le_refl _⟩
theorem Pls.nil {dp : Nat} : Pls 0 dp [] := ⟨rfl, rfl, rfl, rfl, Nat.le_refl _, Nat.zero_le _⟩
theorem Pls.cons {w1 w2 dp : Nat} {d : D} {ds : List D} (h : Pl w1 dp d) (h2 : Pls w2 dp ds) : Pls (w1 + 1 + w2) dp (d :: ds) := by
  refine ⟨?_, ?_, ?_, ?_, ?_, ?_⟩
  · simp only [noRs, h.no, h2.no]; rfl
  · simp only [pys, PyData.leavesShortAll, h.sh, h2.sh]; rfl
  · simp only [pys, PyData.canLayAll0, h.la, h2.la]; rfl
  · simp only [pys, PyData.showableAll, h.sw, h2.sw]; rfl
  · simp only [pys, PyData.weightAll]; have := h.we; have := h2.we; omega
  · simp only [pys, PyData.depthAll]; have := h.de; have := h2.de; omega
theorem Pl.tup {w dp : Nat} {ds : List D} (h : Pls w dp ds) : Pl w (dp + 1) (.tup ds) := by
  refine ⟨h.no, ?_, ?_, ?_, ?_, ?_⟩
  · simp only [py, PyData.leavesShort]; exact h.sh
  · simp only [py, PyData.canLay0]; exact h.la
  · simp only [py, PyData.showable]; exact h.sw
  · simp only [py, PyData.weight]; exact h.we
  · simp only [py, PyData.depth]; have := h.de; omega
theorem Pl.lst {w dp : Nat} {ds : List D} (h : Pls w dp ds) : Pl w (dp + 1) (.lst ds) := by
  refine ⟨h.no, ?_, ?_, ?_, ?_, ?_⟩
  · simp only [py, PyData.leavesShort]; exact h.sh
  · simp only [py, PyData.canLay0]; exact h.la
  · simp only [py, PyData.showable]; exact h.sw
  · simp only [py, PyData.weight]; exact h.we
  · simp only [py, PyData.depth]; have := h.de; omega
theorem Pl.okR {w dp : Nat} {d : D} (h : Pl w dp d) (hw : w ≤ 390000) (hd : dp ≤ 150) : okR d = true := by
  have h1 := PyData.shown_le 40 (by decide) _ h.sh
  have h2 : (40 + 2) * (py d).weight ≤ 42 * 390000 := Nat.mul_le_mul (by decide) (Nat.le_trans h.we hw)
  have h3 : (PyData.shown (py d)).length ≤ sizeLine := by rw [sizeLine_eq]; omega
  have h4 := h.de
  unfold VL.okR
  rw [h.no, h.sw, decide_eq_true h3, decide_eq_true (show (py d).depth ≤ 150 by omega)]
  rfl
theorem Pl.okE {w dp : Nat} {d : D} (h : Pl w dp d) (hd : dp ≤ 64) : okE d = true := by
  have h4 := h.de
  unfold VL.okE SeqAt.shaped
  rw [h.no, h.la, decide_eq_true (show (py d).depth ≤ 64 by omega)]
  rfl
theorem cs_len : ∀ cs : List Cm, cs.length ≤ Cm.szs cs
  | [] => Nat.le_refl _
  | c :: cs => by
    have := cs_len cs
    have : 1 ≤ c.sz := by cases c <;> simp [Cm.sz]
    simp only [Cm.szs, List.length_cons]; omega
/-! claims -/
mutual
theorem cD_pl {n : Nat} (hn : n ≤ 99990) : ∀ (d : Nat) (c : Cm), c.ok n d → c.sz ≤ 1000 → Pl (401 * c.sz - 1) (2 * d + 1) (cD c)
  | d, .yes, _, _ => (Pl.tup (Pls.cons (Pl.str (n := 10) (by decide +kernel)) Pls.nil)).mono (by simp only [Cm.sz]; omega) (by omega)
  | d, .no, _, _ => (Pl.tup (Pls.cons (Pl.str (n := 10) (by decide +kernel)) Pls.nil)).mono (by simp only [Cm.sz]; omega) (by omega)
  | d, .name k, o, _ => by
    have hk : k < n := by cases d <;> exact o
    exact (Pl.tup (Pls.cons (Pl.str (n := 10) (by decide +kernel)) (Pls.cons (Pl.int (by omega)) Pls.nil))).mono (by simp only [Cm.sz]; omega) (by omega)
  | d + 1, .neg c, o, s => by
    simp only [Cm.sz] at s
    have h := cD_pl hn d c o (by omega)
    exact (Pl.tup (Pls.cons ((Pl.str (n := 10) (by decide +kernel)).mono (Nat.le_refl _) (Nat.zero_le _)) (Pls.cons h Pls.nil))).mono (by simp only [Cm.sz]; omega) (by omega)
  | d + 1, .same a b, o, s => by
    simp only [Cm.sz] at s
    have h := cD_pl hn d a o.1 (by omega)
    have h' := cD_pl hn d b o.2 (by omega)
    exact (Pl.tup (Pls.cons ((Pl.str (n := 10) (by decide +kernel)).mono (Nat.le_refl _) (Nat.zero_le _)) (Pls.cons h (Pls.cons h' Pls.nil)))).mono (by simp only [Cm.sz]; omega) (by omega)
  | d + 1, .all cs, o, s => by
    simp only [Cm.sz] at s
    have h := cDs_pl hn d cs o (by omega)
    exact (Pl.tup (Pls.cons ((Pl.str (n := 10) (by decide +kernel)).mono (Nat.le_refl _) (Nat.zero_le _)) (Pls.cons (Pl.tup h) Pls.nil))).mono (by simp only [Cm.sz]; omega) (by omega)
  | d + 1, .any cs, o, s => by
    simp only [Cm.sz] at s
    have h := cDs_pl hn d cs o (by omega)
    exact (Pl.tup (Pls.cons ((Pl.str (n := 10) (by decide +kernel)).mono (Nat.le_refl _) (Nat.zero_le _)) (Pls.cons (Pl.tup h) Pls.nil))).mono (by simp only [Cm.sz]; omega) (by omega)
  | d + 1, .least m cs, o, s => by
    simp only [Cm.sz] at s
    have h := cDs_pl hn d cs o.2 (by omega)
    have hl : cs.length ≤ Cm.szs cs := cs_len cs
    have hm := o.1
    exact (Pl.tup (Pls.cons ((Pl.str (n := 10) (by decide +kernel)).mono (Nat.le_refl _) (Nat.zero_le _)) (Pls.cons ((Pl.int (i := (m : Int)) (by omega)).mono (Nat.le_refl _) (Nat.zero_le _)) (Pls.cons (Pl.tup h) Pls.nil)))).mono (by simp only [Cm.sz]; omega) (by omega)
  | 0, .neg _, o, _ => o.elim
  | 0, .same _ _, o, _ => o.elim
  | 0, .all _, o, _ => o.elim
  | 0, .any _, o, _ => o.elim
  | 0, .least _ _, o, _ => o.elim
theorem cDs_pl {n : Nat} (hn : n ≤ 99990) : ∀ (d : Nat) (cs : List Cm), Cm.oks n d cs → Cm.szs cs ≤ 1000 → Pls (401 * Cm.szs cs) (2 * d + 1) (cDs cs)
  | d, [], _, _ => Pls.nil
  | d, c :: cs, o, s => by
    simp only [Cm.szs] at s ⊢
    have h := cD_pl hn d c o.1 (by omega)
    have h2 := cDs_pl hn d cs o.2 (by omega)
    have : 1 ≤ c.sz := by cases c <;> simp [Cm.sz]
    exact (Pls.cons h h2).mono (by omega) (Nat.le_refl _)
end
end VL
set_option Elab.async false
set_option linter.all false
set_option maxRecDepth 100000
set_option maxHeartbeats 1000000
/-! Plain laws: all fillings; the same. -/
namespace VL
open PySem PySem.Spec L2

def afs : Nat → List (List Bool)
  | 0 => [[]]
  | k + 1 => (afs k).map (false :: ·) ++ (afs k).map (true :: ·)
theorem afs_len : ∀ k, (afs k).length = 2 ^ k
  | 0 => rfl
  | k + 1 => by simp only [afs, List.length_append, List.length_map, afs_len k]; omega
theorem afs_mem : ∀ (k : Nat) (f : List Bool), f ∈ afs k → f.length = k
  | 0, f, h => by simp only [afs, List.mem_singleton] at h; subst h; rfl
  | k + 1, f, h => by
    simp only [afs, List.mem_append, List.mem_map] at h
    rcases h with ⟨g, hg, rfl⟩ | ⟨g, hg, rfl⟩ <;> simp [afs_mem k g hg]
theorem cat_l {M : Mem} {a b : List D} : catF M (.d (.lst a)) (.d (.lst b)) = gd (a.length + b.length ≤ sizeLine) (a ++ b) := rfl
def sp_afs : SpD := fun as M Q => ∃ n : Nat, as = [.d (.int n)] ∧ M = [] ∧ n ≤ 12 ∧ Q (.d (.lst ((afs n).map fD))) []
def r_afs : TS' :=
  (sSeq (sSet 1 (eP (pFz (plLst [(poTup [])]))))
  (sSeq (sFor (iRg false (aP [(pV 0)])) (gNm 2)
  (sSet 1 (eFz (f2 catF (eFz (fLc (iPq (pV 1)) (.nm 3) tYs (eP (po2 addD (poTup [(pC (.int 0))]) (pV 3))) [3])) (eFz (fLc (iPq (pV 1)) (.nm 3) tYs (eP (po2 addD (poTup [(pC (.int 1))]) (pV 3))) [3]))))))
  (sRet (eP (pV 1)))))
def pre (x : D) : D → D
  | .tup ds => .tup (x :: ds)
  | d => d
theorem pre_fD {b : Bool} {k : Nat} : ((afs k).map fD).map (pre (bitD b)) = ((afs k).map (b :: ·)).map fD := by
  rw [List.map_map, List.map_map]; rfl
theorem pure_afs (as : List Sv) (M : Mem) (Q : Rv → Mem → Prop) (h : sp_afs as M Q) : r_afs (endsF M.length Q) (startD 4 as) M := by
  obtain ⟨n, rfl, rfl, hn, z⟩ := h
  show r_afs (endsF 0 Q) [some (.d (.int n)), none, none, none] []
  simp only [r_afs, sSeq, sIf, sSet, sSub, sRet, sRetN, sNil, sDrop, sAsg, sPar, sParT, sAug, cP, bB, bTr, bNt, bAn, bOr, po1, po2, poN, pArgs, poIf, poAn, poOr, poNt, poTup, plLst, plN, pl2, pl1, pFz, pV, pC, eP, eo1, eo2, eoN, aP, aNil, aCons, eAn, eOr, eNt, eIf, eFz, eNw, fP, fN, f2, f1, tTupE, tLstF, tTr, tTb, tAn, tOrr, tNt, tYs, eSeal, eMt, poMt, mPure, eCh, pCh, ok_bind, ok_map, ok_some, ok_none, ok_gd, ok_ite, List.getElem?_cons_zero, List.getElem?_cons_succ, List.set_cons_zero, List.set_cons_succ, Option.join_some, Option.bind_some, Option.map_some, Option.bind_none, Option.map_none, ix_ref, ix_tup, ix_lst, ix_bor, ix_scr, add_int, add_str, add_tup, sub_int, mul_int, fdiv_int, mod_int, pow_int, neg_int, lt_int, le_int, gt_int, ge_int, eq_int, eq_str, eq_bl, ne_int, ne_str, ne_bl, is_bl, isnt_bl, is_non, isnt_non, len_tup, len_lst, len_ref, len_bor, len_scr, int_bl, int_int, abs_int, min_int, max_int, blD_bl, cell_lst, st_ref, at_0, at_1, at_2, at_3, at_4, ixN_10, ixN_20, ixN_21, ixN_30, ixN_31, ixN_32, dataS_d, datas_nil, datas_cons, truth_bl, notD, intS, blS, nonB, List.length_cons, List.length_nil, Nat.reduceAdd, endsF_rt, endsF_nx, rvQ_d, rvQ_new, rv_d, rv_ref, okRef_d, okRef_ref, List.not_mem_nil, List.nil_append, true_and, and_true, List.take_succ_cons, List.take_zero, Nat.zero_add, decide_eq_true_eq, Bool.false_eq_true, if_false, if_true, callS, handS_n, handS_tr, handS_fr, handS_fd, handS_fb, cellsAt_c, cellsAt_0, Option.getD_some, backS_0, backS_1, eCall, tup_lst, tup_tup, tup_ref, fLc, iRg, rng_1, rng_2, wipeS_c, wipeS_n, iPq, iSq, seq_tup, seq_lst, seq_bor, lst_lst, lst_bor, gdS_d, gdS_b, sFor, gNm, gcS_c, gcS_n, gcO_d, gcO_n, mapp, rcv_0, rcv_1, rcv_l, gcO_r0, gcO_r1, gcO_z, seal_d, eq_self, List.take_nil, List.cons_append, poSl, poI, poNo, slD_t, intO_i, list_t, list_l, in_str2, ofS_inj, String.reduceEq, or_false, false_or, or_true, true_or, or_self, decide_true, decide_false, Bool.not_true, Bool.not_false, at_m1_2, at_m1_3, cut_2, cut_3, all_bls, any_bls, count_bls]
  refine ⟨⟨by omega, by omega⟩, fun h => h.elim, ?_⟩
  rw [Int.toNat_natCast]
  refine for_inv (fun rest δ M => ∃ j o2, δ = [some (.d (.int n)), some (.d (.lst ((afs j).map fD))), o2, none] ∧ M = [] ∧ j + rest.length = n) ?_ ?_ _ _ _ ⟨0, none, rfl, rfl, by simp [rgL_len]⟩
  · rintro δ M ⟨j, o2, rfl, rfl, hj⟩
    simp only [List.length_nil, Nat.add_zero] at hj
    subst hj
    refine ⟨trivial, ?_⟩
    simp only [sSeq, sIf, sSet, sSub, sRet, sRetN, sNil, sDrop, sAsg, sPar, sParT, sAug, cP, bB, bTr, bNt, bAn, bOr, po1, po2, poN, pArgs, poIf, poAn, poOr, poNt, poTup, plLst, plN, pl2, pl1, pFz, pV, pC, eP, eo1, eo2, eoN, aP, aNil, aCons, eAn, eOr, eNt, eIf, eFz, eNw, fP, fN, f2, f1, tTupE, tLstF, tTr, tTb, tAn, tOrr, tNt, tYs, eSeal, eMt, poMt, mPure, eCh, pCh, ok_bind, ok_map, ok_some, ok_none, ok_gd, ok_ite, List.getElem?_cons_zero, List.getElem?_cons_succ, List.set_cons_zero, List.set_cons_succ, Option.join_some, Option.bind_some, Option.map_some, Option.bind_none, Option.map_none, ix_ref, ix_tup, ix_lst, ix_bor, ix_scr, add_int, add_str, add_tup, sub_int, mul_int, fdiv_int, mod_int, pow_int, neg_int, lt_int, le_int, gt_int, ge_int, eq_int, eq_str, eq_bl, ne_int, ne_str, ne_bl, is_bl, isnt_bl, is_non, isnt_non, len_tup, len_lst, len_ref, len_bor, len_scr, int_bl, int_int, abs_int, min_int, max_int, blD_bl, cell_lst, st_ref, at_0, at_1, at_2, at_3, at_4, ixN_10, ixN_20, ixN_21, ixN_30, ixN_31, ixN_32, dataS_d, datas_nil, datas_cons, truth_bl, notD, intS, blS, nonB, List.length_cons, List.length_nil, Nat.reduceAdd, endsF_rt, endsF_nx, rvQ_d, rvQ_new, rv_d, rv_ref, okRef_d, okRef_ref, List.not_mem_nil, List.nil_append, true_and, and_true, List.take_succ_cons, List.take_zero, Nat.zero_add, decide_eq_true_eq, Bool.false_eq_true, if_false, if_true, callS, handS_n, handS_tr, handS_fr, handS_fd, handS_fb, cellsAt_c, cellsAt_0, Option.getD_some, backS_0, backS_1, eCall, tup_lst, tup_tup, tup_ref, fLc, iRg, rng_1, rng_2, wipeS_c, wipeS_n, iPq, iSq, seq_tup, seq_lst, seq_bor, lst_lst, lst_bor, gdS_d, gdS_b, sFor, gNm, gcS_c, gcS_n, gcO_d, gcO_n, mapp, rcv_0, rcv_1, rcv_l, gcO_r0, gcO_r1, gcO_z, seal_d, eq_self, List.take_nil, List.cons_append, poSl, poI, poNo, slD_t, intO_i, list_t, list_l, in_str2, ofS_inj, String.reduceEq, or_false, false_or, or_true, true_or, or_self, decide_true, decide_false, Bool.not_true, Bool.not_false, at_m1_2, at_m1_3, cut_2, cut_3, all_bls, any_bls, count_bls]
    exact z
  · rintro x rest δ M nx ⟨j, o2, rfl, rfl, hj⟩ k
    simp only [List.length_cons] at hj
    have hl : ((afs j).map fD).length ≤ 4096 := by
      rw [List.length_map, afs_len]
      exact Nat.pow_le_pow_right (n := 2) (by decide) (show j ≤ 12 by omega)
    have step : ∀ (b : Bool), ∀ d ∈ (afs j).map fD, ∀ R : QD, R (.d (pre (bitD b) d)) [] → ok (addD [] (.d (.tup [bitD b])) (.d d)) fun v => R v [] := fun b d hd R hR => by
      obtain ⟨f, hf, rfl⟩ := List.mem_map.mp hd
      have := afs_mem j f hf
      show ok (addD [] (.d (.tup [bitD b])) (.d (.tup (f.map bitD)))) _
      rw [add_tup, ok_gd]
      exact ⟨by rw [sizeLine_eq]; simp; omega, hR⟩
    refine ⟨trivial, ?_⟩
    simp only [sSeq, sIf, sSet, sSub, sRet, sRetN, sNil, sDrop, sAsg, sPar, sParT, sAug, cP, bB, bTr, bNt, bAn, bOr, po1, po2, poN, pArgs, poIf, poAn, poOr, poNt, poTup, plLst, plN, pl2, pl1, pFz, pV, pC, eP, eo1, eo2, eoN, aP, aNil, aCons, eAn, eOr, eNt, eIf, eFz, eNw, fP, fN, f2, f1, tTupE, tLstF, tTr, tTb, tAn, tOrr, tNt, tYs, eSeal, eMt, poMt, mPure, eCh, pCh, ok_bind, ok_map, ok_some, ok_none, ok_gd, ok_ite, List.getElem?_cons_zero, List.getElem?_cons_succ, List.set_cons_zero, List.set_cons_succ, Option.join_some, Option.bind_some, Option.map_some, Option.bind_none, Option.map_none, ix_ref, ix_tup, ix_lst, ix_bor, ix_scr, add_int, add_str, add_tup, sub_int, mul_int, fdiv_int, mod_int, pow_int, neg_int, lt_int, le_int, gt_int, ge_int, eq_int, eq_str, eq_bl, ne_int, ne_str, ne_bl, is_bl, isnt_bl, is_non, isnt_non, len_tup, len_lst, len_ref, len_bor, len_scr, int_bl, int_int, abs_int, min_int, max_int, blD_bl, cell_lst, st_ref, at_0, at_1, at_2, at_3, at_4, ixN_10, ixN_20, ixN_21, ixN_30, ixN_31, ixN_32, dataS_d, datas_nil, datas_cons, truth_bl, notD, intS, blS, nonB, List.length_cons, List.length_nil, Nat.reduceAdd, endsF_rt, endsF_nx, rvQ_d, rvQ_new, rv_d, rv_ref, okRef_d, okRef_ref, List.not_mem_nil, List.nil_append, true_and, and_true, List.take_succ_cons, List.take_zero, Nat.zero_add, decide_eq_true_eq, Bool.false_eq_true, if_false, if_true, callS, handS_n, handS_tr, handS_fr, handS_fd, handS_fb, cellsAt_c, cellsAt_0, Option.getD_some, backS_0, backS_1, eCall, tup_lst, tup_tup, tup_ref, fLc, iRg, rng_1, rng_2, wipeS_c, wipeS_n, iPq, iSq, seq_tup, seq_lst, seq_bor, lst_lst, lst_bor, gdS_d, gdS_b, sFor, gNm, gcS_c, gcS_n, gcO_d, gcO_n, mapp, rcv_0, rcv_1, rcv_l, gcO_r0, gcO_r1, gcO_z, seal_d, eq_self, List.take_nil, List.cons_append, poSl, poI, poNo, slD_t, intO_i, list_t, list_l, in_str2, ofS_inj, String.reduceEq, or_false, false_or, or_true, true_or, or_self, decide_true, decide_false, Bool.not_true, Bool.not_false, at_m1_2, at_m1_3, cut_2, cut_3, all_bls, any_bls, count_bls]
    refine lc_map (f := pre (bitD false)) trivial (fun d hd R hR => by simp only [sSeq, sIf, sSet, sSub, sRet, sRetN, sNil, sDrop, sAsg, sPar, sParT, sAug, cP, bB, bTr, bNt, bAn, bOr, po1, po2, poN, pArgs, poIf, poAn, poOr, poNt, poTup, plLst, plN, pl2, pl1, pFz, pV, pC, eP, eo1, eo2, eoN, aP, aNil, aCons, eAn, eOr, eNt, eIf, eFz, eNw, fP, fN, f2, f1, tTupE, tLstF, tTr, tTb, tAn, tOrr, tNt, tYs, eSeal, eMt, poMt, mPure, eCh, pCh, ok_bind, ok_map, ok_some, ok_none, ok_gd, ok_ite, List.getElem?_cons_zero, List.getElem?_cons_succ, List.set_cons_zero, List.set_cons_succ, Option.join_some, Option.bind_some, Option.map_some, Option.bind_none, Option.map_none, ix_ref, ix_tup, ix_lst, ix_bor, ix_scr, add_int, add_str, add_tup, sub_int, mul_int, fdiv_int, mod_int, pow_int, neg_int, lt_int, le_int, gt_int, ge_int, eq_int, eq_str, eq_bl, ne_int, ne_str, ne_bl, is_bl, isnt_bl, is_non, isnt_non, len_tup, len_lst, len_ref, len_bor, len_scr, int_bl, int_int, abs_int, min_int, max_int, blD_bl, cell_lst, st_ref, at_0, at_1, at_2, at_3, at_4, ixN_10, ixN_20, ixN_21, ixN_30, ixN_31, ixN_32, dataS_d, datas_nil, datas_cons, truth_bl, notD, intS, blS, nonB, List.length_cons, List.length_nil, Nat.reduceAdd, endsF_rt, endsF_nx, rvQ_d, rvQ_new, rv_d, rv_ref, okRef_d, okRef_ref, List.not_mem_nil, List.nil_append, true_and, and_true, List.take_succ_cons, List.take_zero, Nat.zero_add, decide_eq_true_eq, Bool.false_eq_true, if_false, if_true, callS, handS_n, handS_tr, handS_fr, handS_fd, handS_fb, cellsAt_c, cellsAt_0, Option.getD_some, backS_0, backS_1, eCall, tup_lst, tup_tup, tup_ref, fLc, iRg, rng_1, rng_2, wipeS_c, wipeS_n, iPq, iSq, seq_tup, seq_lst, seq_bor, lst_lst, lst_bor, gdS_d, gdS_b, sFor, gNm, gcS_c, gcS_n, gcO_d, gcO_n, mapp, rcv_0, rcv_1, rcv_l, gcO_r0, gcO_r1, gcO_z, seal_d, eq_self, List.take_nil, List.cons_append, poSl, poI, poNo, slD_t, intO_i, list_t, list_l, in_str2, ofS_inj, String.reduceEq, or_false, false_or, or_true, true_or, or_self, decide_true, decide_false, Bool.not_true, Bool.not_false, at_m1_2, at_m1_3, cut_2, cut_3, all_bls, any_bls, count_bls]; exact step false d hd R hR) ?_
    refine lc_map (f := pre (bitD true)) trivial (fun d hd R hR => by simp only [sSeq, sIf, sSet, sSub, sRet, sRetN, sNil, sDrop, sAsg, sPar, sParT, sAug, cP, bB, bTr, bNt, bAn, bOr, po1, po2, poN, pArgs, poIf, poAn, poOr, poNt, poTup, plLst, plN, pl2, pl1, pFz, pV, pC, eP, eo1, eo2, eoN, aP, aNil, aCons, eAn, eOr, eNt, eIf, eFz, eNw, fP, fN, f2, f1, tTupE, tLstF, tTr, tTb, tAn, tOrr, tNt, tYs, eSeal, eMt, poMt, mPure, eCh, pCh, ok_bind, ok_map, ok_some, ok_none, ok_gd, ok_ite, List.getElem?_cons_zero, List.getElem?_cons_succ, List.set_cons_zero, List.set_cons_succ, Option.join_some, Option.bind_some, Option.map_some, Option.bind_none, Option.map_none, ix_ref, ix_tup, ix_lst, ix_bor, ix_scr, add_int, add_str, add_tup, sub_int, mul_int, fdiv_int, mod_int, pow_int, neg_int, lt_int, le_int, gt_int, ge_int, eq_int, eq_str, eq_bl, ne_int, ne_str, ne_bl, is_bl, isnt_bl, is_non, isnt_non, len_tup, len_lst, len_ref, len_bor, len_scr, int_bl, int_int, abs_int, min_int, max_int, blD_bl, cell_lst, st_ref, at_0, at_1, at_2, at_3, at_4, ixN_10, ixN_20, ixN_21, ixN_30, ixN_31, ixN_32, dataS_d, datas_nil, datas_cons, truth_bl, notD, intS, blS, nonB, List.length_cons, List.length_nil, Nat.reduceAdd, endsF_rt, endsF_nx, rvQ_d, rvQ_new, rv_d, rv_ref, okRef_d, okRef_ref, List.not_mem_nil, List.nil_append, true_and, and_true, List.take_succ_cons, List.take_zero, Nat.zero_add, decide_eq_true_eq, Bool.false_eq_true, if_false, if_true, callS, handS_n, handS_tr, handS_fr, handS_fd, handS_fb, cellsAt_c, cellsAt_0, Option.getD_some, backS_0, backS_1, eCall, tup_lst, tup_tup, tup_ref, fLc, iRg, rng_1, rng_2, wipeS_c, wipeS_n, iPq, iSq, seq_tup, seq_lst, seq_bor, lst_lst, lst_bor, gdS_d, gdS_b, sFor, gNm, gcS_c, gcS_n, gcO_d, gcO_n, mapp, rcv_0, rcv_1, rcv_l, gcO_r0, gcO_r1, gcO_z, seal_d, eq_self, List.take_nil, List.cons_append, poSl, poI, poNo, slD_t, intO_i, list_t, list_l, in_str2, ofS_inj, String.reduceEq, or_false, false_or, or_true, true_or, or_self, decide_true, decide_false, Bool.not_true, Bool.not_false, at_m1_2, at_m1_3, cut_2, cut_3, all_bls, any_bls, count_bls]; exact step true d hd R hR) ?_
    simp only [sSeq, sIf, sSet, sSub, sRet, sRetN, sNil, sDrop, sAsg, sPar, sParT, sAug, cP, bB, bTr, bNt, bAn, bOr, po1, po2, poN, pArgs, poIf, poAn, poOr, poNt, poTup, plLst, plN, pl2, pl1, pFz, pV, pC, eP, eo1, eo2, eoN, aP, aNil, aCons, eAn, eOr, eNt, eIf, eFz, eNw, fP, fN, f2, f1, tTupE, tLstF, tTr, tTb, tAn, tOrr, tNt, tYs, eSeal, eMt, poMt, mPure, eCh, pCh, ok_bind, ok_map, ok_some, ok_none, ok_gd, ok_ite, List.getElem?_cons_zero, List.getElem?_cons_succ, List.set_cons_zero, List.set_cons_succ, Option.join_some, Option.bind_some, Option.map_some, Option.bind_none, Option.map_none, ix_ref, ix_tup, ix_lst, ix_bor, ix_scr, add_int, add_str, add_tup, sub_int, mul_int, fdiv_int, mod_int, pow_int, neg_int, lt_int, le_int, gt_int, ge_int, eq_int, eq_str, eq_bl, ne_int, ne_str, ne_bl, is_bl, isnt_bl, is_non, isnt_non, len_tup, len_lst, len_ref, len_bor, len_scr, int_bl, int_int, abs_int, min_int, max_int, blD_bl, cell_lst, st_ref, at_0, at_1, at_2, at_3, at_4, ixN_10, ixN_20, ixN_21, ixN_30, ixN_31, ixN_32, dataS_d, datas_nil, datas_cons, truth_bl, notD, intS, blS, nonB, List.length_cons, List.length_nil, Nat.reduceAdd, endsF_rt, endsF_nx, rvQ_d, rvQ_new, rv_d, rv_ref, okRef_d, okRef_ref, List.not_mem_nil, List.nil_append, true_and, and_true, List.take_succ_cons, List.take_zero, Nat.zero_add, decide_eq_true_eq, Bool.false_eq_true, if_false, if_true, callS, handS_n, handS_tr, handS_fr, handS_fd, handS_fb, cellsAt_c, cellsAt_0, Option.getD_some, backS_0, backS_1, eCall, tup_lst, tup_tup, tup_ref, fLc, iRg, rng_1, rng_2, wipeS_c, wipeS_n, iPq, iSq, seq_tup, seq_lst, seq_bor, lst_lst, lst_bor, gdS_d, gdS_b, sFor, gNm, gcS_c, gcS_n, gcO_d, gcO_n, mapp, rcv_0, rcv_1, rcv_l, gcO_r0, gcO_r1, gcO_z, seal_d, eq_self, List.take_nil, List.cons_append, poSl, poI, poNo, slD_t, intO_i, list_t, list_l, in_str2, ofS_inj, String.reduceEq, or_false, false_or, or_true, true_or, or_self, decide_true, decide_false, Bool.not_true, Bool.not_false, at_m1_2, at_m1_3, cut_2, cut_3, all_bls, any_bls, count_bls, cat_l]
    rw [pre_fD, pre_fD]
    refine ⟨by rw [List.length_map, List.length_map, List.length_map, List.length_map, sizeLine_eq]; rw [List.length_map] at hl; omega, ?_⟩
    refine k _ _ ⟨j + 1, some (.d x), ?_, rfl, by omega⟩
    simp only [sSeq, sIf, sSet, sSub, sRet, sRetN, sNil, sDrop, sAsg, sPar, sParT, sAug, cP, bB, bTr, bNt, bAn, bOr, po1, po2, poN, pArgs, poIf, poAn, poOr, poNt, poTup, plLst, plN, pl2, pl1, pFz, pV, pC, eP, eo1, eo2, eoN, aP, aNil, aCons, eAn, eOr, eNt, eIf, eFz, eNw, fP, fN, f2, f1, tTupE, tLstF, tTr, tTb, tAn, tOrr, tNt, tYs, eSeal, eMt, poMt, mPure, eCh, pCh, ok_bind, ok_map, ok_some, ok_none, ok_gd, ok_ite, List.getElem?_cons_zero, List.getElem?_cons_succ, List.set_cons_zero, List.set_cons_succ, Option.join_some, Option.bind_some, Option.map_some, Option.bind_none, Option.map_none, ix_ref, ix_tup, ix_lst, ix_bor, ix_scr, add_int, add_str, add_tup, sub_int, mul_int, fdiv_int, mod_int, pow_int, neg_int, lt_int, le_int, gt_int, ge_int, eq_int, eq_str, eq_bl, ne_int, ne_str, ne_bl, is_bl, isnt_bl, is_non, isnt_non, len_tup, len_lst, len_ref, len_bor, len_scr, int_bl, int_int, abs_int, min_int, max_int, blD_bl, cell_lst, st_ref, at_0, at_1, at_2, at_3, at_4, ixN_10, ixN_20, ixN_21, ixN_30, ixN_31, ixN_32, dataS_d, datas_nil, datas_cons, truth_bl, notD, intS, blS, nonB, List.length_cons, List.length_nil, Nat.reduceAdd, endsF_rt, endsF_nx, rvQ_d, rvQ_new, rv_d, rv_ref, okRef_d, okRef_ref, List.not_mem_nil, List.nil_append, true_and, and_true, List.take_succ_cons, List.take_zero, Nat.zero_add, decide_eq_true_eq, Bool.false_eq_true, if_false, if_true, callS, handS_n, handS_tr, handS_fr, handS_fd, handS_fb, cellsAt_c, cellsAt_0, Option.getD_some, backS_0, backS_1, eCall, tup_lst, tup_tup, tup_ref, fLc, iRg, rng_1, rng_2, wipeS_c, wipeS_n, iPq, iSq, seq_tup, seq_lst, seq_bor, lst_lst, lst_bor, gdS_d, gdS_b, sFor, gNm, gcS_c, gcS_n, gcO_d, gcO_n, mapp, rcv_0, rcv_1, rcv_l, gcO_r0, gcO_r1, gcO_z, seal_d, eq_self, List.take_nil, List.cons_append, poSl, poI, poNo, slD_t, intO_i, list_t, list_l, in_str2, ofS_inj, String.reduceEq, or_false, false_or, or_true, true_or, or_self, decide_true, decide_false, Bool.not_true, Bool.not_false, at_m1_2, at_m1_3, cut_2, cut_3, all_bls, any_bls, count_bls, afs, List.map_append]
def sp_many : SpD := fun as M Q => ∃ (ds : List D) (b : Nat), as = [.ref 0] ∧ M = [.lst ds] ∧ Tp b ds ∧ b + 10 < 1099511627776 ∧ ∀ (v : Nat) ds', v ≤ 8 → Tp (b + 3) ds' → Q (.d (.int v)) [.lst ds']
def r_many (sp__law_take : SpD) : TS' :=
  (sSeq (sSet 1 (eo2 eqD (eCall [true, false] sp__law_take (aP [(pV 0), (pC (.int 8))])) (eP (pC (.int 0)))))
  (sRet (eIf (cP (bTr (pV 1))) (eo2 addD (eP (pC (.int 7))) (eCall [true, false] sp__law_take (aP [(pV 0), (pC (.int 2))]))) (eCall [true, false] sp__law_take (aP [(pV 0), (pC (.int 7))])))))
theorem pure_many (as : List Sv) (M : Mem) (Q : Rv → Mem → Prop) (h : sp_many as M Q) : r_many sp_take (endsF M.length Q) (startD 2 as) M := by
  obtain ⟨ds, b, rfl, rfl, ht, hb, z⟩ := h
  show r_many sp_take (endsF 1 Q) [some (.ref 0), none] [.lst ds]
  simp only [r_many, sSeq, sIf, sSet, sSub, sRet, sRetN, sNil, sDrop, sAsg, sPar, sParT, sAug, cP, bB, bTr, bNt, bAn, bOr, po1, po2, poN, pArgs, poIf, poAn, poOr, poNt, poTup, plLst, plN, pl2, pl1, pFz, pV, pC, eP, eo1, eo2, eoN, aP, aNil, aCons, eAn, eOr, eNt, eIf, eFz, eNw, fP, fN, f2, f1, tTupE, tLstF, tTr, tTb, tAn, tOrr, tNt, tYs, eSeal, eMt, poMt, mPure, eCh, pCh, ok_bind, ok_map, ok_some, ok_none, ok_gd, ok_ite, List.getElem?_cons_zero, List.getElem?_cons_succ, List.set_cons_zero, List.set_cons_succ, Option.join_some, Option.bind_some, Option.map_some, Option.bind_none, Option.map_none, ix_ref, ix_tup, ix_lst, ix_bor, ix_scr, add_int, add_str, add_tup, sub_int, mul_int, fdiv_int, mod_int, pow_int, neg_int, lt_int, le_int, gt_int, ge_int, eq_int, eq_str, eq_bl, ne_int, ne_str, ne_bl, is_bl, isnt_bl, is_non, isnt_non, len_tup, len_lst, len_ref, len_bor, len_scr, int_bl, int_int, abs_int, min_int, max_int, blD_bl, cell_lst, st_ref, at_0, at_1, at_2, at_3, at_4, ixN_10, ixN_20, ixN_21, ixN_30, ixN_31, ixN_32, dataS_d, datas_nil, datas_cons, truth_bl, notD, intS, blS, nonB, List.length_cons, List.length_nil, Nat.reduceAdd, endsF_rt, endsF_nx, rvQ_d, rvQ_new, rv_d, rv_ref, okRef_d, okRef_ref, List.not_mem_nil, List.nil_append, true_and, and_true, List.take_succ_cons, List.take_zero, Nat.zero_add, decide_eq_true_eq, Bool.false_eq_true, if_false, if_true, callS, handS_n, handS_tr, handS_fr, handS_fd, handS_fb, cellsAt_c, cellsAt_0, Option.getD_some, backS_0, backS_1, eCall, tup_lst, tup_tup, tup_ref, fLc, iRg, rng_1, rng_2, wipeS_c, wipeS_n, iPq, iSq, seq_tup, seq_lst, seq_bor, lst_lst, lst_bor, gdS_d, gdS_b, sFor, gNm, gcS_c, gcS_n, gcO_d, gcO_n, mapp, rcv_0, rcv_1, rcv_l, gcO_r0, gcO_r1, gcO_z, seal_d, eq_self, List.take_nil, List.cons_append, poSl, poI, poNo, slD_t, intO_i, list_t, list_l, in_str2, ofS_inj, String.reduceEq, or_false, false_or, or_true, true_or, or_self, decide_true, decide_false, Bool.not_true, Bool.not_false, at_m1_2, at_m1_3, cut_2, cut_3, all_bls, any_bls, count_bls]
  refine take_ok ht (by omega) (by decide) (by decide) fun v ds1 v0 v1 t1 => ?_
  simp only [sSeq, sIf, sSet, sSub, sRet, sRetN, sNil, sDrop, sAsg, sPar, sParT, sAug, cP, bB, bTr, bNt, bAn, bOr, po1, po2, poN, pArgs, poIf, poAn, poOr, poNt, poTup, plLst, plN, pl2, pl1, pFz, pV, pC, eP, eo1, eo2, eoN, aP, aNil, aCons, eAn, eOr, eNt, eIf, eFz, eNw, fP, fN, f2, f1, tTupE, tLstF, tTr, tTb, tAn, tOrr, tNt, tYs, eSeal, eMt, poMt, mPure, eCh, pCh, ok_bind, ok_map, ok_some, ok_none, ok_gd, ok_ite, List.getElem?_cons_zero, List.getElem?_cons_succ, List.set_cons_zero, List.set_cons_succ, Option.join_some, Option.bind_some, Option.map_some, Option.bind_none, Option.map_none, ix_ref, ix_tup, ix_lst, ix_bor, ix_scr, add_int, add_str, add_tup, sub_int, mul_int, fdiv_int, mod_int, pow_int, neg_int, lt_int, le_int, gt_int, ge_int, eq_int, eq_str, eq_bl, ne_int, ne_str, ne_bl, is_bl, isnt_bl, is_non, isnt_non, len_tup, len_lst, len_ref, len_bor, len_scr, int_bl, int_int, abs_int, min_int, max_int, blD_bl, cell_lst, st_ref, at_0, at_1, at_2, at_3, at_4, ixN_10, ixN_20, ixN_21, ixN_30, ixN_31, ixN_32, dataS_d, datas_nil, datas_cons, truth_bl, notD, intS, blS, nonB, List.length_cons, List.length_nil, Nat.reduceAdd, endsF_rt, endsF_nx, rvQ_d, rvQ_new, rv_d, rv_ref, okRef_d, okRef_ref, List.not_mem_nil, List.nil_append, true_and, and_true, List.take_succ_cons, List.take_zero, Nat.zero_add, decide_eq_true_eq, Bool.false_eq_true, if_false, if_true, callS, handS_n, handS_tr, handS_fr, handS_fd, handS_fb, cellsAt_c, cellsAt_0, Option.getD_some, backS_0, backS_1, eCall, tup_lst, tup_tup, tup_ref, fLc, iRg, rng_1, rng_2, wipeS_c, wipeS_n, iPq, iSq, seq_tup, seq_lst, seq_bor, lst_lst, lst_bor, gdS_d, gdS_b, sFor, gNm, gcS_c, gcS_n, gcO_d, gcO_n, mapp, rcv_0, rcv_1, rcv_l, gcO_r0, gcO_r1, gcO_z, seal_d, eq_self, List.take_nil, List.cons_append, poSl, poI, poNo, slD_t, intO_i, list_t, list_l, in_str2, ofS_inj, String.reduceEq, or_false, false_or, or_true, true_or, or_self, decide_true, decide_false, Bool.not_true, Bool.not_false, at_m1_2, at_m1_3, cut_2, cut_3, all_bls, any_bls, count_bls]
  split
  · refine take_ok t1 (by omega) (by decide) (by decide) fun v ds1 v0 v1 t1 => ?_
    obtain ⟨v, rfl⟩ := Int.eq_ofNat_of_zero_le v0
    simp only [sSeq, sIf, sSet, sSub, sRet, sRetN, sNil, sDrop, sAsg, sPar, sParT, sAug, cP, bB, bTr, bNt, bAn, bOr, po1, po2, poN, pArgs, poIf, poAn, poOr, poNt, poTup, plLst, plN, pl2, pl1, pFz, pV, pC, eP, eo1, eo2, eoN, aP, aNil, aCons, eAn, eOr, eNt, eIf, eFz, eNw, fP, fN, f2, f1, tTupE, tLstF, tTr, tTb, tAn, tOrr, tNt, tYs, eSeal, eMt, poMt, mPure, eCh, pCh, ok_bind, ok_map, ok_some, ok_none, ok_gd, ok_ite, List.getElem?_cons_zero, List.getElem?_cons_succ, List.set_cons_zero, List.set_cons_succ, Option.join_some, Option.bind_some, Option.map_some, Option.bind_none, Option.map_none, ix_ref, ix_tup, ix_lst, ix_bor, ix_scr, add_int, add_str, add_tup, sub_int, mul_int, fdiv_int, mod_int, pow_int, neg_int, lt_int, le_int, gt_int, ge_int, eq_int, eq_str, eq_bl, ne_int, ne_str, ne_bl, is_bl, isnt_bl, is_non, isnt_non, len_tup, len_lst, len_ref, len_bor, len_scr, int_bl, int_int, abs_int, min_int, max_int, blD_bl, cell_lst, st_ref, at_0, at_1, at_2, at_3, at_4, ixN_10, ixN_20, ixN_21, ixN_30, ixN_31, ixN_32, dataS_d, datas_nil, datas_cons, truth_bl, notD, intS, blS, nonB, List.length_cons, List.length_nil, Nat.reduceAdd, endsF_rt, endsF_nx, rvQ_d, rvQ_new, rv_d, rv_ref, okRef_d, okRef_ref, List.not_mem_nil, List.nil_append, true_and, and_true, List.take_succ_cons, List.take_zero, Nat.zero_add, decide_eq_true_eq, Bool.false_eq_true, if_false, if_true, callS, handS_n, handS_tr, handS_fr, handS_fd, handS_fb, cellsAt_c, cellsAt_0, Option.getD_some, backS_0, backS_1, eCall, tup_lst, tup_tup, tup_ref, fLc, iRg, rng_1, rng_2, wipeS_c, wipeS_n, iPq, iSq, seq_tup, seq_lst, seq_bor, lst_lst, lst_bor, gdS_d, gdS_b, sFor, gNm, gcS_c, gcS_n, gcO_d, gcO_n, mapp, rcv_0, rcv_1, rcv_l, gcO_r0, gcO_r1, gcO_z, seal_d, eq_self, List.take_nil, List.cons_append, poSl, poI, poNo, slD_t, intO_i, list_t, list_l, in_str2, ofS_inj, String.reduceEq, or_false, false_or, or_true, true_or, or_self, decide_true, decide_false, Bool.not_true, Bool.not_false, at_m1_2, at_m1_3, cut_2, cut_3, all_bls, any_bls, count_bls]
    exact z (7 + v) ds1 (by omega) (t1.mono (by omega))
  · refine take_ok t1 (by omega) (by decide) (by decide) fun v ds1 v0 v1 t1 => ?_
    obtain ⟨v, rfl⟩ := Int.eq_ofNat_of_zero_le v0
    simp only [sSeq, sIf, sSet, sSub, sRet, sRetN, sNil, sDrop, sAsg, sPar, sParT, sAug, cP, bB, bTr, bNt, bAn, bOr, po1, po2, poN, pArgs, poIf, poAn, poOr, poNt, poTup, plLst, plN, pl2, pl1, pFz, pV, pC, eP, eo1, eo2, eoN, aP, aNil, aCons, eAn, eOr, eNt, eIf, eFz, eNw, fP, fN, f2, f1, tTupE, tLstF, tTr, tTb, tAn, tOrr, tNt, tYs, eSeal, eMt, poMt, mPure, eCh, pCh, ok_bind, ok_map, ok_some, ok_none, ok_gd, ok_ite, List.getElem?_cons_zero, List.getElem?_cons_succ, List.set_cons_zero, List.set_cons_succ, Option.join_some, Option.bind_some, Option.map_some, Option.bind_none, Option.map_none, ix_ref, ix_tup, ix_lst, ix_bor, ix_scr, add_int, add_str, add_tup, sub_int, mul_int, fdiv_int, mod_int, pow_int, neg_int, lt_int, le_int, gt_int, ge_int, eq_int, eq_str, eq_bl, ne_int, ne_str, ne_bl, is_bl, isnt_bl, is_non, isnt_non, len_tup, len_lst, len_ref, len_bor, len_scr, int_bl, int_int, abs_int, min_int, max_int, blD_bl, cell_lst, st_ref, at_0, at_1, at_2, at_3, at_4, ixN_10, ixN_20, ixN_21, ixN_30, ixN_31, ixN_32, dataS_d, datas_nil, datas_cons, truth_bl, notD, intS, blS, nonB, List.length_cons, List.length_nil, Nat.reduceAdd, endsF_rt, endsF_nx, rvQ_d, rvQ_new, rv_d, rv_ref, okRef_d, okRef_ref, List.not_mem_nil, List.nil_append, true_and, and_true, List.take_succ_cons, List.take_zero, Nat.zero_add, decide_eq_true_eq, Bool.false_eq_true, if_false, if_true, callS, handS_n, handS_tr, handS_fr, handS_fd, handS_fb, cellsAt_c, cellsAt_0, Option.getD_some, backS_0, backS_1, eCall, tup_lst, tup_tup, tup_ref, fLc, iRg, rng_1, rng_2, wipeS_c, wipeS_n, iPq, iSq, seq_tup, seq_lst, seq_bor, lst_lst, lst_bor, gdS_d, gdS_b, sFor, gNm, gcS_c, gcS_n, gcO_d, gcO_n, mapp, rcv_0, rcv_1, rcv_l, gcO_r0, gcO_r1, gcO_z, seal_d, eq_self, List.take_nil, List.cons_append, poSl, poI, poNo, slD_t, intO_i, list_t, list_l, in_str2, ofS_inj, String.reduceEq, or_false, false_or, or_true, true_or, or_self, decide_true, decide_false, Bool.not_true, Bool.not_false, at_m1_2, at_m1_3, cut_2, cut_3, all_bls, any_bls, count_bls]
    exact z v ds1 (by omega) (t1.mono (by omega))
theorem isi_b1 {M : Mem} {b : Bool} : isiD M [.d (.bl b), .d (.tup [.ty "list", .ty "tuple"])] = some (.d (.bl false)) := by simp [isiD, tyN, gd, known, subT]
theorem isi_b2 {M : Mem} {b : Bool} : isiD M [.d (.bl b), .d (.ty "str")] = some (.d (.bl false)) := by simp [isiD, tyN, gd, known, subT]
theorem isi_b3 {M : Mem} {b : Bool} : isiD M [.d (.bl b), .d (.ty "bool")] = some (.d (.bl true)) := by simp [isiD, tyN, gd, known, subT]
def sp_sameB : SpD := fun as M Q => ∃ x y : Bool, as = [.d (.bl x), .d (.bl y)] ∧ M = [] ∧ Q (.d (.bl (x == y))) []
def r_same (sp__law_same : SpD) : TS' :=
  (sSeq (sIf (cP (bTr (poN isiD [(pV 1), (poTup [(pC (.ty "list")), (pC (.ty "tuple"))])])))
  (sSeq (sIf (cP (bOr (bB (po2 neD (poN isiD [(pV 0), (pC (.ty "list"))]) (poN isiD [(pV 1), (pC (.ty "list"))]))) (bB (po2 neD (poN isiD [(pV 0), (pC (.ty "tuple"))]) (poN isiD [(pV 1), (pC (.ty "tuple"))])))))
  (sRet (eP (pC (.bl false))))
  sNil)
  (sSeq (sIf (cP (bB (po2 neD (poN lenD [(pV 0)]) (poN lenD [(pV 1)]))))
  (sRet (eP (pC (.bl false))))
  sNil)
  (sRet (eoN allD (aCons (eFz (fLc (iZp (aP [(pV 0), (pV 1)])) (.tp [2, 3]) tYs (eCall [false, false] sp__law_same (aP [(pV 2), (pV 3)])) [2, 3])) (aP []))))))
  sNil)
  (sSeq (sIf (cP (bOr (bB (po2 isD (pV 1) (pC .non))) (bTr (poN isiD [(pV 1), (pC (.ty "str"))]))))
  (sRet (eP (poAn (po2 eqD (pV 0) (pV 1)) (po2 eqD (poN isiD [(pV 0), (pC (.ty "str"))]) (poN isiD [(pV 1), (pC (.ty "str"))])))))
  sNil)
  (sSeq (sIf (cP (bTr (poN isiD [(pV 1), (pC (.ty "bool"))])))
  (sRet (eP (poAn (poN isiD [(pV 0), (pC (.ty "bool"))]) (po2 eqD (pV 0) (pV 1)))))
  sNil)
  (sRet (eP (poAn (poN isiD [(pV 0), (pC (.ty "int"))]) (poAn (poNt (poN isiD [(pV 0), (pC (.ty "bool"))])) (po2 eqD (pV 0) (pV 1)))))))))
theorem pure_sameB {sp : SpD} (as : List Sv) (M : Mem) (Q : Rv → Mem → Prop) (h : sp_sameB as M Q) : r_same sp (endsF M.length Q) (startD 4 as) M := by
  obtain ⟨x, y, rfl, rfl, z⟩ := h
  show r_same sp (endsF 0 Q) [some (.d (.bl x)), some (.d (.bl y)), none, none] []
  simp only [r_same, sSeq, sIf, sSet, sSub, sRet, sRetN, sNil, sDrop, sAsg, sPar, sParT, sAug, cP, bB, bTr, bNt, bAn, bOr, po1, po2, poN, pArgs, poIf, poAn, poOr, poNt, poTup, plLst, plN, pl2, pl1, pFz, pV, pC, eP, eo1, eo2, eoN, aP, aNil, aCons, eAn, eOr, eNt, eIf, eFz, eNw, fP, fN, f2, f1, tTupE, tLstF, tTr, tTb, tAn, tOrr, tNt, tYs, eSeal, eMt, poMt, mPure, eCh, pCh, ok_bind, ok_map, ok_some, ok_none, ok_gd, ok_ite, List.getElem?_cons_zero, List.getElem?_cons_succ, List.set_cons_zero, List.set_cons_succ, Option.join_some, Option.bind_some, Option.map_some, Option.bind_none, Option.map_none, ix_ref, ix_tup, ix_lst, ix_bor, ix_scr, add_int, add_str, add_tup, sub_int, mul_int, fdiv_int, mod_int, pow_int, neg_int, lt_int, le_int, gt_int, ge_int, eq_int, eq_str, eq_bl, ne_int, ne_str, ne_bl, is_bl, isnt_bl, is_non, isnt_non, len_tup, len_lst, len_ref, len_bor, len_scr, int_bl, int_int, abs_int, min_int, max_int, blD_bl, cell_lst, st_ref, at_0, at_1, at_2, at_3, at_4, ixN_10, ixN_20, ixN_21, ixN_30, ixN_31, ixN_32, dataS_d, datas_nil, datas_cons, truth_bl, notD, intS, blS, nonB, List.length_cons, List.length_nil, Nat.reduceAdd, endsF_rt, endsF_nx, rvQ_d, rvQ_new, rv_d, rv_ref, okRef_d, okRef_ref, List.not_mem_nil, List.nil_append, true_and, and_true, List.take_succ_cons, List.take_zero, Nat.zero_add, decide_eq_true_eq, Bool.false_eq_true, if_false, if_true, callS, handS_n, handS_tr, handS_fr, handS_fd, handS_fb, cellsAt_c, cellsAt_0, Option.getD_some, backS_0, backS_1, eCall, tup_lst, tup_tup, tup_ref, fLc, iRg, rng_1, rng_2, wipeS_c, wipeS_n, iPq, iSq, seq_tup, seq_lst, seq_bor, lst_lst, lst_bor, gdS_d, gdS_b, sFor, gNm, gcS_c, gcS_n, gcO_d, gcO_n, mapp, rcv_0, rcv_1, rcv_l, gcO_r0, gcO_r1, gcO_z, seal_d, eq_self, List.take_nil, List.cons_append, poSl, poI, poNo, slD_t, intO_i, list_t, list_l, in_str2, ofS_inj, String.reduceEq, or_false, false_or, or_true, true_or, or_self, decide_true, decide_false, Bool.not_true, Bool.not_false, at_m1_2, at_m1_3, cut_2, cut_3, all_bls, any_bls, count_bls, isi_b1, isi_b2, isi_b3]
  rw [dec_beq]
  exact z
theorem repr_d {M : Mem} {x : D} : reprD M [.d x] = gd (okR x = true) (.d (.str (PyData.shown (py x)))) := rfl
def sp_right (d : Nat) : SpD := fun as M Q => ∃ (c : Cm) (fs : List Bool), as = [.d (cD c), .d (fD fs)] ∧ M = [] ∧ c.ok fs.length d ∧ c.sz ≤ 900 ∧ fs.length ≤ 99990 ∧ Q (.d (.bl true)) []
def r_right (sp__law_same : SpD) (sp_holds : SpD) (sp__law_holds : SpD) : TS' :=
  (sSeq (sSet 2 (eP (poN reprD [(pV 0)])))
  (sRet (eAn (eCall [false, false] sp__law_same (aCons (eCall [false, false] sp_holds (aP [(pV 0), (pV 1)])) (aCons (eCall [false, false] sp__law_holds (aP [(pV 0), (pV 1)])) (aP [])))) (eP (po2 eqD (poN reprD [(pV 0)]) (pV 2))))))
theorem pure_right {d D : Nat} (hd : d < D) (hd2 : d ≤ 30) (as : List Sv) (M : Mem) (Q : Rv → Mem → Prop) (h : sp_right d as M Q) : r_right sp_sameB (spB sp_holds D) (spB sp_holds D) (endsF M.length Q) (startD 3 as) M := by
  obtain ⟨c, fs, rfl, rfl, o, hs, hf, z⟩ := h
  have hr : okR (cD c) = true := (cD_pl hf d c o (by omega)).okR (by omega) (by omega)
  show r_right sp_sameB (spB sp_holds D) (spB sp_holds D) (endsF 0 Q) [some (.d (cD c)), some (.d (fD fs)), none] []
  simp only [r_right, sSeq, sIf, sSet, sSub, sRet, sRetN, sNil, sDrop, sAsg, sPar, sParT, sAug, cP, bB, bTr, bNt, bAn, bOr, po1, po2, poN, pArgs, poIf, poAn, poOr, poNt, poTup, plLst, plN, pl2, pl1, pFz, pV, pC, eP, eo1, eo2, eoN, aP, aNil, aCons, eAn, eOr, eNt, eIf, eFz, eNw, fP, fN, f2, f1, tTupE, tLstF, tTr, tTb, tAn, tOrr, tNt, tYs, eSeal, eMt, poMt, mPure, eCh, pCh, ok_bind, ok_map, ok_some, ok_none, ok_gd, ok_ite, List.getElem?_cons_zero, List.getElem?_cons_succ, List.set_cons_zero, List.set_cons_succ, Option.join_some, Option.bind_some, Option.map_some, Option.bind_none, Option.map_none, ix_ref, ix_tup, ix_lst, ix_bor, ix_scr, add_int, add_str, add_tup, sub_int, mul_int, fdiv_int, mod_int, pow_int, neg_int, lt_int, le_int, gt_int, ge_int, eq_int, eq_str, eq_bl, ne_int, ne_str, ne_bl, is_bl, isnt_bl, is_non, isnt_non, len_tup, len_lst, len_ref, len_bor, len_scr, int_bl, int_int, abs_int, min_int, max_int, blD_bl, cell_lst, st_ref, at_0, at_1, at_2, at_3, at_4, ixN_10, ixN_20, ixN_21, ixN_30, ixN_31, ixN_32, dataS_d, datas_nil, datas_cons, truth_bl, notD, intS, blS, nonB, List.length_cons, List.length_nil, Nat.reduceAdd, endsF_rt, endsF_nx, rvQ_d, rvQ_new, rv_d, rv_ref, okRef_d, okRef_ref, List.not_mem_nil, List.nil_append, true_and, and_true, List.take_succ_cons, List.take_zero, Nat.zero_add, decide_eq_true_eq, Bool.false_eq_true, if_false, if_true, callS, handS_n, handS_tr, handS_fr, handS_fd, handS_fb, cellsAt_c, cellsAt_0, Option.getD_some, backS_0, backS_1, eCall, tup_lst, tup_tup, tup_ref, fLc, iRg, rng_1, rng_2, wipeS_c, wipeS_n, iPq, iSq, seq_tup, seq_lst, seq_bor, lst_lst, lst_bor, gdS_d, gdS_b, sFor, gNm, gcS_c, gcS_n, gcO_d, gcO_n, mapp, rcv_0, rcv_1, rcv_l, gcO_r0, gcO_r1, gcO_z, seal_d, eq_self, List.take_nil, List.cons_append, poSl, poI, poNo, slD_t, intO_i, list_t, list_l, in_str2, ofS_inj, String.reduceEq, or_false, false_or, or_true, true_or, or_self, decide_true, decide_false, Bool.not_true, Bool.not_false, at_m1_2, at_m1_3, cut_2, cut_3, all_bls, any_bls, count_bls, repr_d]
  refine ⟨hr, d, hd, c, fs, rfl, rfl, o, ?_⟩
  simp only [sSeq, sIf, sSet, sSub, sRet, sRetN, sNil, sDrop, sAsg, sPar, sParT, sAug, cP, bB, bTr, bNt, bAn, bOr, po1, po2, poN, pArgs, poIf, poAn, poOr, poNt, poTup, plLst, plN, pl2, pl1, pFz, pV, pC, eP, eo1, eo2, eoN, aP, aNil, aCons, eAn, eOr, eNt, eIf, eFz, eNw, fP, fN, f2, f1, tTupE, tLstF, tTr, tTb, tAn, tOrr, tNt, tYs, eSeal, eMt, poMt, mPure, eCh, pCh, ok_bind, ok_map, ok_some, ok_none, ok_gd, ok_ite, List.getElem?_cons_zero, List.getElem?_cons_succ, List.set_cons_zero, List.set_cons_succ, Option.join_some, Option.bind_some, Option.map_some, Option.bind_none, Option.map_none, ix_ref, ix_tup, ix_lst, ix_bor, ix_scr, add_int, add_str, add_tup, sub_int, mul_int, fdiv_int, mod_int, pow_int, neg_int, lt_int, le_int, gt_int, ge_int, eq_int, eq_str, eq_bl, ne_int, ne_str, ne_bl, is_bl, isnt_bl, is_non, isnt_non, len_tup, len_lst, len_ref, len_bor, len_scr, int_bl, int_int, abs_int, min_int, max_int, blD_bl, cell_lst, st_ref, at_0, at_1, at_2, at_3, at_4, ixN_10, ixN_20, ixN_21, ixN_30, ixN_31, ixN_32, dataS_d, datas_nil, datas_cons, truth_bl, notD, intS, blS, nonB, List.length_cons, List.length_nil, Nat.reduceAdd, endsF_rt, endsF_nx, rvQ_d, rvQ_new, rv_d, rv_ref, okRef_d, okRef_ref, List.not_mem_nil, List.nil_append, true_and, and_true, List.take_succ_cons, List.take_zero, Nat.zero_add, decide_eq_true_eq, Bool.false_eq_true, if_false, if_true, callS, handS_n, handS_tr, handS_fr, handS_fd, handS_fb, cellsAt_c, cellsAt_0, Option.getD_some, backS_0, backS_1, eCall, tup_lst, tup_tup, tup_ref, fLc, iRg, rng_1, rng_2, wipeS_c, wipeS_n, iPq, iSq, seq_tup, seq_lst, seq_bor, lst_lst, lst_bor, gdS_d, gdS_b, sFor, gNm, gcS_c, gcS_n, gcO_d, gcO_n, mapp, rcv_0, rcv_1, rcv_l, gcO_r0, gcO_r1, gcO_z, seal_d, eq_self, List.take_nil, List.cons_append, poSl, poI, poNo, slD_t, intO_i, list_t, list_l, in_str2, ofS_inj, String.reduceEq, or_false, false_or, or_true, true_or, or_self, decide_true, decide_false, Bool.not_true, Bool.not_false, at_m1_2, at_m1_3, cut_2, cut_3, all_bls, any_bls, count_bls]
  refine ⟨d, hd, c, fs, rfl, rfl, o, ?_⟩
  simp only [sSeq, sIf, sSet, sSub, sRet, sRetN, sNil, sDrop, sAsg, sPar, sParT, sAug, cP, bB, bTr, bNt, bAn, bOr, po1, po2, poN, pArgs, poIf, poAn, poOr, poNt, poTup, plLst, plN, pl2, pl1, pFz, pV, pC, eP, eo1, eo2, eoN, aP, aNil, aCons, eAn, eOr, eNt, eIf, eFz, eNw, fP, fN, f2, f1, tTupE, tLstF, tTr, tTb, tAn, tOrr, tNt, tYs, eSeal, eMt, poMt, mPure, eCh, pCh, ok_bind, ok_map, ok_some, ok_none, ok_gd, ok_ite, List.getElem?_cons_zero, List.getElem?_cons_succ, List.set_cons_zero, List.set_cons_succ, Option.join_some, Option.bind_some, Option.map_some, Option.bind_none, Option.map_none, ix_ref, ix_tup, ix_lst, ix_bor, ix_scr, add_int, add_str, add_tup, sub_int, mul_int, fdiv_int, mod_int, pow_int, neg_int, lt_int, le_int, gt_int, ge_int, eq_int, eq_str, eq_bl, ne_int, ne_str, ne_bl, is_bl, isnt_bl, is_non, isnt_non, len_tup, len_lst, len_ref, len_bor, len_scr, int_bl, int_int, abs_int, min_int, max_int, blD_bl, cell_lst, st_ref, at_0, at_1, at_2, at_3, at_4, ixN_10, ixN_20, ixN_21, ixN_30, ixN_31, ixN_32, dataS_d, datas_nil, datas_cons, truth_bl, notD, intS, blS, nonB, List.length_cons, List.length_nil, Nat.reduceAdd, endsF_rt, endsF_nx, rvQ_d, rvQ_new, rv_d, rv_ref, okRef_d, okRef_ref, List.not_mem_nil, List.nil_append, true_and, and_true, List.take_succ_cons, List.take_zero, Nat.zero_add, decide_eq_true_eq, Bool.false_eq_true, if_false, if_true, callS, handS_n, handS_tr, handS_fr, handS_fd, handS_fb, cellsAt_c, cellsAt_0, Option.getD_some, backS_0, backS_1, eCall, tup_lst, tup_tup, tup_ref, fLc, iRg, rng_1, rng_2, wipeS_c, wipeS_n, iPq, iSq, seq_tup, seq_lst, seq_bor, lst_lst, lst_bor, gdS_d, gdS_b, sFor, gNm, gcS_c, gcS_n, gcO_d, gcO_n, mapp, rcv_0, rcv_1, rcv_l, gcO_r0, gcO_r1, gcO_z, seal_d, eq_self, List.take_nil, List.cons_append, poSl, poI, poNo, slD_t, intO_i, list_t, list_l, in_str2, ofS_inj, String.reduceEq, or_false, false_or, or_true, true_or, or_self, decide_true, decide_false, Bool.not_true, Bool.not_false, at_m1_2, at_m1_3, cut_2, cut_3, all_bls, any_bls, count_bls]
  refine ⟨_, _, rfl, rfl, ?_⟩
  simp only [sSeq, sIf, sSet, sSub, sRet, sRetN, sNil, sDrop, sAsg, sPar, sParT, sAug, cP, bB, bTr, bNt, bAn, bOr, po1, po2, poN, pArgs, poIf, poAn, poOr, poNt, poTup, plLst, plN, pl2, pl1, pFz, pV, pC, eP, eo1, eo2, eoN, aP, aNil, aCons, eAn, eOr, eNt, eIf, eFz, eNw, fP, fN, f2, f1, tTupE, tLstF, tTr, tTb, tAn, tOrr, tNt, tYs, eSeal, eMt, poMt, mPure, eCh, pCh, ok_bind, ok_map, ok_some, ok_none, ok_gd, ok_ite, List.getElem?_cons_zero, List.getElem?_cons_succ, List.set_cons_zero, List.set_cons_succ, Option.join_some, Option.bind_some, Option.map_some, Option.bind_none, Option.map_none, ix_ref, ix_tup, ix_lst, ix_bor, ix_scr, add_int, add_str, add_tup, sub_int, mul_int, fdiv_int, mod_int, pow_int, neg_int, lt_int, le_int, gt_int, ge_int, eq_int, eq_str, eq_bl, ne_int, ne_str, ne_bl, is_bl, isnt_bl, is_non, isnt_non, len_tup, len_lst, len_ref, len_bor, len_scr, int_bl, int_int, abs_int, min_int, max_int, blD_bl, cell_lst, st_ref, at_0, at_1, at_2, at_3, at_4, ixN_10, ixN_20, ixN_21, ixN_30, ixN_31, ixN_32, dataS_d, datas_nil, datas_cons, truth_bl, notD, intS, blS, nonB, List.length_cons, List.length_nil, Nat.reduceAdd, endsF_rt, endsF_nx, rvQ_d, rvQ_new, rv_d, rv_ref, okRef_d, okRef_ref, List.not_mem_nil, List.nil_append, true_and, and_true, List.take_succ_cons, List.take_zero, Nat.zero_add, decide_eq_true_eq, Bool.false_eq_true, if_false, if_true, callS, handS_n, handS_tr, handS_fr, handS_fd, handS_fb, cellsAt_c, cellsAt_0, Option.getD_some, backS_0, backS_1, eCall, tup_lst, tup_tup, tup_ref, fLc, iRg, rng_1, rng_2, wipeS_c, wipeS_n, iPq, iSq, seq_tup, seq_lst, seq_bor, lst_lst, lst_bor, gdS_d, gdS_b, sFor, gNm, gcS_c, gcS_n, gcO_d, gcO_n, mapp, rcv_0, rcv_1, rcv_l, gcO_r0, gcO_r1, gcO_z, seal_d, eq_self, List.take_nil, List.cons_append, poSl, poI, poNo, slD_t, intO_i, list_t, list_l, in_str2, ofS_inj, String.reduceEq, or_false, false_or, or_true, true_or, or_self, decide_true, decide_false, Bool.not_true, Bool.not_false, at_m1_2, at_m1_3, cut_2, cut_3, all_bls, any_bls, count_bls, repr_d, beq_self_eq_true]
  exact ⟨hr, z⟩
end VL
set_option Elab.async false
set_option linter.all false
set_option maxRecDepth 100000
set_option maxHeartbeats 1000000
/-! k03: the law, plain. -/
namespace VL
open PySem PySem.Spec L2

def r_law3 (sp_holds : SpD) (sp__law_same : SpD) (sp__law_tape : SpD) (sp__law_many : SpD) (sp__law_any_claim : SpD) (sp__law_all_fillings : SpD) (sp__law_right : SpD) (sp__law_take : SpD) : TS' :=
  (sSeq (sParT [4, 5] (aP [(poTup [(pC (.str "name")), (pC (.int 1))]), (pC (.int 40))]))
  (sSeq (sFor (iRg false (aP [(pC (.int 11))])) (gNm 1)
  (sSet 4 (eP (poTup [(pC (.str "not")), (pV 4)]))))
  (sSeq (sIf (tOrr (tTb (eo2 isntD (eCall [false, false] sp_holds (aP [(pV 4), (poTup [(pC (.int 0)), (pC (.int 0))])])) (eP (pC (.bl true))))) (tTb (eo2 isntD (eCall [false, false] sp_holds (aP [(pV 4), (poTup [(pC (.int 0)), (pC (.int 1))])])) (eP (pC (.bl false))))))
  (sRet (eP (pC (.bl false))))
  sNil)
  (sSeq (sFor (iPq (poTup [(pC (.int 0)), (pC (.int 1)), (pC (.int 20)), (pC (.int 21)), (pC (.int 40)), (pC (.int 41))])) (gNm 2)
  (sSeq (sSet 6 (eo1 tupC (eFz (fLc (iRg true (aP [(pV 5)])) (.nm 9) tYs (eP (poTup [(pC (.str "name")), (po2 modD (pV 9) (pC (.int 2)))])) [9]))))
  (sIf (tNt (tTr (eCall [false, false] sp__law_same (aCons (eCall [false, false] sp_holds (aP [(poTup [(pC (.str "least")), (pV 2), (pV 6)]), (poTup [(pC (.int 1)), (pC (.int 0))])])) (aP [(po2 ltD (pV 2) (pC (.int 21)))])))))
  (sRet (eP (pC (.bl false))))
  sNil)))
  (sSeq (sFor (iRg false (aP [(po2 addD (pC (.int 1)) (poN minD [(pC (.int 3)), (poN lenD [(pV 0)])]))])) (gNm 3)
  (sSeq (sSet 7 (eCall [false, false] sp__law_tape (aP [(pV 0), (pV 3)])))
  (sSeq (sSet 5 (eo2 modD (eCall [true] sp__law_many (aP [(pV 7)])) (eP (po2 ixD (pFz (plLst [(pC (.int 9)), (pC (.int 6))])) (poN intD [(po2 gtD (pV 3) (pC (.int 0)))])))))
  (sSeq (sFor (iSq (eFz (fLc (iRg true (aP [(pC (.int 3))])) (.nm 1) tYs (eCall [true, false] sp__law_any_claim (aP [(pV 7), (pV 5)])) [1]))) (gNm 8)
  (sIf (tNt (tTr (eoN allD (aCons (eFz (fLc (iSq (eSeal 0 (eCall [false] sp__law_all_fillings (aP [(pV 5)])))) (.nm 10) tYs (eCall [false, false] sp__law_right (aP [(pV 8), (pV 10)])) [10])) (aP [])))))
  (sRet (eP (pC (.bl false))))
  sNil))
  (sSeq (sSet 8 (eCall [true, false] sp__law_any_claim (aP [(pV 7), (pC (.int 30))])))
  (sFor (iRg false (aP [(pC (.int 8))])) (gNm 1)
  (sIf (tNt (tTr (eCall [false, false] sp__law_right (aCons (eP (pV 8)) (aCons (eo1 tupC (eFz (fLc (iRg true (aP [(pC (.int 30))])) (.nm 11) tYs (eCall [true, false] sp__law_take (aP [(pV 7), (pC (.int 2))])) [11]))) (aP []))))))
  (sRet (eP (pC (.bl false))))
  sNil)))))))
  (sRet (eP (pC (.bl true)))))))))
def sp_law : SpD := fun as M Q => ∃ ns : List Int, as = [.d (.scr ns)] ∧ M = [] ∧ ns.length ≤ 63 ∧ Q (.d (.bl true)) []
/-- so many nots -/
def nots : Nat → Cm
  | 0 => .name 1
  | k + 1 => .neg (nots k)
theorem nots_ok : ∀ k, (nots k).ok 2 k
  | 0 => (by decide : 1 < 2)
  | k + 1 => nots_ok k
def nmL (l : List Nat) : List Cm := l.map fun i => .name (i % 2)
theorem nmL_ok : ∀ l, Cm.oks 2 0 (nmL l)
  | [] => trivial
  | i :: l => ⟨Nat.mod_lt _ (by decide), nmL_ok l⟩
def nmF : D → D
  | .int i => .tup [.str "name", .int (i % 2)]
  | d => d
theorem nmF_eq : ∀ l : List Nat, (l.map fun i => D.int (0 + (i : Nat))).map nmF = cDs (nmL l)
  | [] => rfl
  | i :: l => by
    have ih := nmF_eq l
    simp only [List.map_cons, nmL, cDs, nmF, cD] at ih ⊢
    rw [ih]
    congr 5
    omega
theorem nm40 : (Cm.hvs [true, false] (nmL (List.range 40))).count true = 20 := by decide
theorem all_true {l : List D} : allD [] [.d (.lst (l.map fun _ => D.bl true))] = some (.d (.bl true)) := by
  have e : (l.map fun _ => D.bl true) = (l.map fun _ => true).map D.bl := by rw [List.map_map]; rfl
  rw [e, all_bls]
  simp
theorem all_true' {M : Mem} {l : List D} : allD M [.d (.lst (l.map fun _ => D.bl true))] = some (.d (.bl true)) := by
  have e : (l.map fun _ => D.bl true) = (l.map fun _ => true).map D.bl := by rw [List.map_map]; rfl
  rw [e, all_bls]
  simp
theorem pure_law3 (as : List Sv) (M : Mem) (Q : Rv → Mem → Prop) (h : sp_law as M Q) : r_law3 (spB sp_holds 20) sp_sameB sp_tape sp_many sp_any sp_afs (sp_right 3) sp_take (endsF M.length Q) (startD 12 as) M := by
  obtain ⟨ns, rfl, rfl, hns, z⟩ := h
  show r_law3 (spB sp_holds 20) sp_sameB sp_tape sp_many sp_any sp_afs (sp_right 3) sp_take (endsF 0 Q) [some (.d (.scr ns)), none, none, none, none, none, none, none, none, none, none, none] []
  unfold r_law3
  simp only [sSeq, sParT, aP, pArgs, poTup, pC, sSeq, sIf, sSet, sSub, sRet, sRetN, sNil, sDrop, sAsg, sPar, sParT, sAug, cP, bB, bTr, bNt, bAn, bOr, po1, po2, poN, pArgs, poIf, poAn, poOr, poNt, poTup, plLst, plN, pl2, pl1, pFz, pV, pC, eP, eo1, eo2, eoN, aP, aNil, aCons, eAn, eOr, eNt, eIf, eFz, eNw, fP, fN, f2, f1, tTupE, tLstF, tTr, tTb, tAn, tOrr, tNt, tYs, eSeal, eMt, poMt, mPure, eCh, pCh, ok_bind, ok_map, ok_some, ok_none, ok_gd, ok_ite, List.getElem?_cons_zero, List.getElem?_cons_succ, List.set_cons_zero, List.set_cons_succ, Option.join_some, Option.bind_some, Option.map_some, Option.bind_none, Option.map_none, ix_ref, ix_tup, ix_lst, ix_bor, ix_scr, add_int, add_str, add_tup, sub_int, mul_int, fdiv_int, mod_int, pow_int, neg_int, lt_int, le_int, gt_int, ge_int, eq_int, eq_str, eq_bl, ne_int, ne_str, ne_bl, is_bl, isnt_bl, is_non, isnt_non, len_tup, len_lst, len_ref, len_bor, len_scr, int_bl, int_int, abs_int, min_int, max_int, blD_bl, cell_lst, st_ref, at_0, at_1, at_2, at_3, at_4, ixN_10, ixN_20, ixN_21, ixN_30, ixN_31, ixN_32, dataS_d, datas_nil, datas_cons, truth_bl, notD, intS, blS, nonB, List.length_cons, List.length_nil, Nat.reduceAdd, endsF_rt, endsF_nx, rvQ_d, rvQ_new, rv_d, rv_ref, okRef_d, okRef_ref, List.not_mem_nil, List.nil_append, true_and, and_true, List.take_succ_cons, List.take_zero, Nat.zero_add, decide_eq_true_eq, Bool.false_eq_true, if_false, if_true, callS, handS_n, handS_tr, handS_fr, handS_fd, handS_fb, cellsAt_c, cellsAt_0, Option.getD_some, backS_0, backS_1, eCall, tup_lst, tup_tup, tup_ref, fLc, iRg, rng_1, rng_2, wipeS_c, wipeS_n, iPq, iSq, seq_tup, seq_lst, seq_bor, lst_lst, lst_bor, gdS_d, gdS_b, sFor, gNm, gcS_c, gcS_n, gcO_d, gcO_n, mapp, rcv_0, rcv_1, rcv_l, gcO_r0, gcO_r1, gcO_z, seal_d, eq_self, List.take_nil, List.cons_append, poSl, poI, poNo, slD_t, intO_i, list_t, list_l, in_str2, ofS_inj, String.reduceEq, or_false, false_or, or_true, true_or, or_self, decide_true, decide_false, Bool.not_true, Bool.not_false, at_m1_2, at_m1_3, cut_2, cut_3, all_bls, any_bls, count_bls, setAllS]
  refine ⟨⟨by decide, by decide⟩, fun h => h.elim, ?_⟩
  refine for_inv (fun rest δ M => ∃ j o1, δ = [some (.d (.scr ns)), o1, none, none, some (.d (cD (nots j))), some (.d (.int 40)), none, none, none, none, none, none] ∧ M = [] ∧ j + rest.length = 11) ?_ ?_ _ _ _ ⟨0, none, rfl, rfl, by simp [rgL_len]⟩
  · rintro δ M ⟨j, o1, rfl, rfl, hj⟩
    simp only [List.length_nil, Nat.add_zero] at hj
    subst hj
    refine ⟨trivial, ?_⟩
    simp only [sSeq, sIf, sSet, sSub, sRet, sRetN, sNil, sDrop, sAsg, sPar, sParT, sAug, cP, bB, bTr, bNt, bAn, bOr, po1, po2, poN, pArgs, poIf, poAn, poOr, poNt, poTup, plLst, plN, pl2, pl1, pFz, pV, pC, eP, eo1, eo2, eoN, aP, aNil, aCons, eAn, eOr, eNt, eIf, eFz, eNw, fP, fN, f2, f1, tTupE, tLstF, tTr, tTb, tAn, tOrr, tNt, tYs, eSeal, eMt, poMt, mPure, eCh, pCh, ok_bind, ok_map, ok_some, ok_none, ok_gd, ok_ite, List.getElem?_cons_zero, List.getElem?_cons_succ, List.set_cons_zero, List.set_cons_succ, Option.join_some, Option.bind_some, Option.map_some, Option.bind_none, Option.map_none, ix_ref, ix_tup, ix_lst, ix_bor, ix_scr, add_int, add_str, add_tup, sub_int, mul_int, fdiv_int, mod_int, pow_int, neg_int, lt_int, le_int, gt_int, ge_int, eq_int, eq_str, eq_bl, ne_int, ne_str, ne_bl, is_bl, isnt_bl, is_non, isnt_non, len_tup, len_lst, len_ref, len_bor, len_scr, int_bl, int_int, abs_int, min_int, max_int, blD_bl, cell_lst, st_ref, at_0, at_1, at_2, at_3, at_4, ixN_10, ixN_20, ixN_21, ixN_30, ixN_31, ixN_32, dataS_d, datas_nil, datas_cons, truth_bl, notD, intS, blS, nonB, List.length_cons, List.length_nil, Nat.reduceAdd, endsF_rt, endsF_nx, rvQ_d, rvQ_new, rv_d, rv_ref, okRef_d, okRef_ref, List.not_mem_nil, List.nil_append, true_and, and_true, List.take_succ_cons, List.take_zero, Nat.zero_add, decide_eq_true_eq, Bool.false_eq_true, if_false, if_true, callS, handS_n, handS_tr, handS_fr, handS_fd, handS_fb, cellsAt_c, cellsAt_0, Option.getD_some, backS_0, backS_1, eCall, tup_lst, tup_tup, tup_ref, fLc, iRg, rng_1, rng_2, wipeS_c, wipeS_n, iPq, iSq, seq_tup, seq_lst, seq_bor, lst_lst, lst_bor, gdS_d, gdS_b, sFor, gNm, gcS_c, gcS_n, gcO_d, gcO_n, mapp, rcv_0, rcv_1, rcv_l, gcO_r0, gcO_r1, gcO_z, seal_d, eq_self, List.take_nil, List.cons_append, poSl, poI, poNo, slD_t, intO_i, list_t, list_l, in_str2, ofS_inj, String.reduceEq, or_false, false_or, or_true, true_or, or_self, decide_true, decide_false, Bool.not_true, Bool.not_false, at_m1_2, at_m1_3, cut_2, cut_3, all_bls, any_bls, count_bls]
    refine ⟨11, by decide, nots 11, [false, false], rfl, rfl, nots_ok 11, ?_⟩
    rw [show Cm.hv [false, false] (nots 11) = true from rfl]
    simp only [sSeq, sIf, sSet, sSub, sRet, sRetN, sNil, sDrop, sAsg, sPar, sParT, sAug, cP, bB, bTr, bNt, bAn, bOr, po1, po2, poN, pArgs, poIf, poAn, poOr, poNt, poTup, plLst, plN, pl2, pl1, pFz, pV, pC, eP, eo1, eo2, eoN, aP, aNil, aCons, eAn, eOr, eNt, eIf, eFz, eNw, fP, fN, f2, f1, tTupE, tLstF, tTr, tTb, tAn, tOrr, tNt, tYs, eSeal, eMt, poMt, mPure, eCh, pCh, ok_bind, ok_map, ok_some, ok_none, ok_gd, ok_ite, List.getElem?_cons_zero, List.getElem?_cons_succ, List.set_cons_zero, List.set_cons_succ, Option.join_some, Option.bind_some, Option.map_some, Option.bind_none, Option.map_none, ix_ref, ix_tup, ix_lst, ix_bor, ix_scr, add_int, add_str, add_tup, sub_int, mul_int, fdiv_int, mod_int, pow_int, neg_int, lt_int, le_int, gt_int, ge_int, eq_int, eq_str, eq_bl, ne_int, ne_str, ne_bl, is_bl, isnt_bl, is_non, isnt_non, len_tup, len_lst, len_ref, len_bor, len_scr, int_bl, int_int, abs_int, min_int, max_int, blD_bl, cell_lst, st_ref, at_0, at_1, at_2, at_3, at_4, ixN_10, ixN_20, ixN_21, ixN_30, ixN_31, ixN_32, dataS_d, datas_nil, datas_cons, truth_bl, notD, intS, blS, nonB, List.length_cons, List.length_nil, Nat.reduceAdd, endsF_rt, endsF_nx, rvQ_d, rvQ_new, rv_d, rv_ref, okRef_d, okRef_ref, List.not_mem_nil, List.nil_append, true_and, and_true, List.take_succ_cons, List.take_zero, Nat.zero_add, decide_eq_true_eq, Bool.false_eq_true, if_false, if_true, callS, handS_n, handS_tr, handS_fr, handS_fd, handS_fb, cellsAt_c, cellsAt_0, Option.getD_some, backS_0, backS_1, eCall, tup_lst, tup_tup, tup_ref, fLc, iRg, rng_1, rng_2, wipeS_c, wipeS_n, iPq, iSq, seq_tup, seq_lst, seq_bor, lst_lst, lst_bor, gdS_d, gdS_b, sFor, gNm, gcS_c, gcS_n, gcO_d, gcO_n, mapp, rcv_0, rcv_1, rcv_l, gcO_r0, gcO_r1, gcO_z, seal_d, eq_self, List.take_nil, List.cons_append, poSl, poI, poNo, slD_t, intO_i, list_t, list_l, in_str2, ofS_inj, String.reduceEq, or_false, false_or, or_true, true_or, or_self, decide_true, decide_false, Bool.not_true, Bool.not_false, at_m1_2, at_m1_3, cut_2, cut_3, all_bls, any_bls, count_bls]
    refine ⟨11, by decide, nots 11, [false, true], rfl, rfl, nots_ok 11, ?_⟩
    rw [show Cm.hv [false, true] (nots 11) = false from rfl]
    simp only [sSeq, sIf, sSet, sSub, sRet, sRetN, sNil, sDrop, sAsg, sPar, sParT, sAug, cP, bB, bTr, bNt, bAn, bOr, po1, po2, poN, pArgs, poIf, poAn, poOr, poNt, poTup, plLst, plN, pl2, pl1, pFz, pV, pC, eP, eo1, eo2, eoN, aP, aNil, aCons, eAn, eOr, eNt, eIf, eFz, eNw, fP, fN, f2, f1, tTupE, tLstF, tTr, tTb, tAn, tOrr, tNt, tYs, eSeal, eMt, poMt, mPure, eCh, pCh, ok_bind, ok_map, ok_some, ok_none, ok_gd, ok_ite, List.getElem?_cons_zero, List.getElem?_cons_succ, List.set_cons_zero, List.set_cons_succ, Option.join_some, Option.bind_some, Option.map_some, Option.bind_none, Option.map_none, ix_ref, ix_tup, ix_lst, ix_bor, ix_scr, add_int, add_str, add_tup, sub_int, mul_int, fdiv_int, mod_int, pow_int, neg_int, lt_int, le_int, gt_int, ge_int, eq_int, eq_str, eq_bl, ne_int, ne_str, ne_bl, is_bl, isnt_bl, is_non, isnt_non, len_tup, len_lst, len_ref, len_bor, len_scr, int_bl, int_int, abs_int, min_int, max_int, blD_bl, cell_lst, st_ref, at_0, at_1, at_2, at_3, at_4, ixN_10, ixN_20, ixN_21, ixN_30, ixN_31, ixN_32, dataS_d, datas_nil, datas_cons, truth_bl, notD, intS, blS, nonB, List.length_cons, List.length_nil, Nat.reduceAdd, endsF_rt, endsF_nx, rvQ_d, rvQ_new, rv_d, rv_ref, okRef_d, okRef_ref, List.not_mem_nil, List.nil_append, true_and, and_true, List.take_succ_cons, List.take_zero, Nat.zero_add, decide_eq_true_eq, Bool.false_eq_true, if_false, if_true, callS, handS_n, handS_tr, handS_fr, handS_fd, handS_fb, cellsAt_c, cellsAt_0, Option.getD_some, backS_0, backS_1, eCall, tup_lst, tup_tup, tup_ref, fLc, iRg, rng_1, rng_2, wipeS_c, wipeS_n, iPq, iSq, seq_tup, seq_lst, seq_bor, lst_lst, lst_bor, gdS_d, gdS_b, sFor, gNm, gcS_c, gcS_n, gcO_d, gcO_n, mapp, rcv_0, rcv_1, rcv_l, gcO_r0, gcO_r1, gcO_z, seal_d, eq_self, List.take_nil, List.cons_append, poSl, poI, poNo, slD_t, intO_i, list_t, list_l, in_str2, ofS_inj, String.reduceEq, or_false, false_or, or_true, true_or, or_self, decide_true, decide_false, Bool.not_true, Bool.not_false, at_m1_2, at_m1_3, cut_2, cut_3, all_bls, any_bls, count_bls]
    refine for_inv (fun rest δ M => (∀ d ∈ rest, ∃ m : Nat, d = .int m ∧ m ≤ 41) ∧ ∃ o1 o2 o4 o6, δ = [some (.d (.scr ns)), o1, o2, none, o4, some (.d (.int 40)), o6, none, none, none, none, none] ∧ M = []) ?_ ?_ _ _ _
      ⟨fun d hd => by
        simp only [List.mem_cons, List.not_mem_nil, or_false] at hd
        rcases hd with rfl | rfl | rfl | rfl | rfl | rfl
        · exact ⟨0, rfl, by decide⟩
        · exact ⟨1, rfl, by decide⟩
        · exact ⟨20, rfl, by decide⟩
        · exact ⟨21, rfl, by decide⟩
        · exact ⟨40, rfl, by decide⟩
        · exact ⟨41, rfl, by decide⟩, _, _, _, _, rfl, rfl⟩
    · rintro δ M ⟨_, o1, o2, o4, o6, rfl, rfl⟩
      refine ⟨trivial, ?_⟩
      simp only [sSeq, sIf, sSet, sSub, sRet, sRetN, sNil, sDrop, sAsg, sPar, sParT, sAug, cP, bB, bTr, bNt, bAn, bOr, po1, po2, poN, pArgs, poIf, poAn, poOr, poNt, poTup, plLst, plN, pl2, pl1, pFz, pV, pC, eP, eo1, eo2, eoN, aP, aNil, aCons, eAn, eOr, eNt, eIf, eFz, eNw, fP, fN, f2, f1, tTupE, tLstF, tTr, tTb, tAn, tOrr, tNt, tYs, eSeal, eMt, poMt, mPure, eCh, pCh, ok_bind, ok_map, ok_some, ok_none, ok_gd, ok_ite, List.getElem?_cons_zero, List.getElem?_cons_succ, List.set_cons_zero, List.set_cons_succ, Option.join_some, Option.bind_some, Option.map_some, Option.bind_none, Option.map_none, ix_ref, ix_tup, ix_lst, ix_bor, ix_scr, add_int, add_str, add_tup, sub_int, mul_int, fdiv_int, mod_int, pow_int, neg_int, lt_int, le_int, gt_int, ge_int, eq_int, eq_str, eq_bl, ne_int, ne_str, ne_bl, is_bl, isnt_bl, is_non, isnt_non, len_tup, len_lst, len_ref, len_bor, len_scr, int_bl, int_int, abs_int, min_int, max_int, blD_bl, cell_lst, st_ref, at_0, at_1, at_2, at_3, at_4, ixN_10, ixN_20, ixN_21, ixN_30, ixN_31, ixN_32, dataS_d, datas_nil, datas_cons, truth_bl, notD, intS, blS, nonB, List.length_cons, List.length_nil, Nat.reduceAdd, endsF_rt, endsF_nx, rvQ_d, rvQ_new, rv_d, rv_ref, okRef_d, okRef_ref, List.not_mem_nil, List.nil_append, true_and, and_true, List.take_succ_cons, List.take_zero, Nat.zero_add, decide_eq_true_eq, Bool.false_eq_true, if_false, if_true, callS, handS_n, handS_tr, handS_fr, handS_fd, handS_fb, cellsAt_c, cellsAt_0, Option.getD_some, backS_0, backS_1, eCall, tup_lst, tup_tup, tup_ref, fLc, iRg, rng_1, rng_2, wipeS_c, wipeS_n, iPq, iSq, seq_tup, seq_lst, seq_bor, lst_lst, lst_bor, gdS_d, gdS_b, sFor, gNm, gcS_c, gcS_n, gcO_d, gcO_n, mapp, rcv_0, rcv_1, rcv_l, gcO_r0, gcO_r1, gcO_z, seal_d, eq_self, List.take_nil, List.cons_append, poSl, poI, poNo, slD_t, intO_i, list_t, list_l, in_str2, ofS_inj, String.reduceEq, or_false, false_or, or_true, true_or, or_self, decide_true, decide_false, Bool.not_true, Bool.not_false, at_m1_2, at_m1_3, cut_2, cut_3, all_bls, any_bls, count_bls]
      have hj : 0 ≤ (1 + if (ns.length : Int) < 3 then (ns.length : Int) else 3) ∧ (1 + if (ns.length : Int) < 3 then (ns.length : Int) else 3) ≤ 4 := by split <;> omega
      generalize (1 + if (ns.length : Int) < 3 then (ns.length : Int) else 3) = J at hj
      refine ⟨⟨by omega, by omega⟩, fun h => h.elim, ?_⟩
      refine for_inv (fun rest δ M => (∀ d ∈ rest, ∃ m : Nat, d = .int m ∧ m ≤ 4) ∧ ∃ o1 o2 o3 o4 o5 o6 o7 o8, δ = [some (.d (.scr ns)), o1, o2, o3, o4, o5, o6, o7, o8, none, none, none] ∧ M = []) ?_ ?_ _ _ _
        ⟨fun d hd => by
          unfold rgL at hd
          obtain ⟨i, hi, rfl⟩ := List.mem_map.mp hd
          simp only [List.mem_range] at hi
          exact ⟨i, by simp, by omega⟩, _, _, _, _, _, _, _, _, rfl, rfl⟩
      · rintro δ M ⟨_, o1, o2, o3, o4, o5, o6, o7, o8, rfl, rfl⟩
        exact ⟨trivial, z⟩
      · rintro x rest δ M nx ⟨hx, o1, o2, o3, o4, o5, o6, o7, o8, rfl, rfl⟩ k
        obtain ⟨m, rfl, hm⟩ := hx x List.mem_cons_self
        have hx' : ∀ d ∈ rest, ∃ m : Nat, d = .int m ∧ m ≤ 4 := fun d hd => hx d (List.mem_cons_of_mem _ hd)
        refine ⟨trivial, ?_⟩
        simp only [sSeq, sIf, sSet, sSub, sRet, sRetN, sNil, sDrop, sAsg, sPar, sParT, sAug, cP, bB, bTr, bNt, bAn, bOr, po1, po2, poN, pArgs, poIf, poAn, poOr, poNt, poTup, plLst, plN, pl2, pl1, pFz, pV, pC, eP, eo1, eo2, eoN, aP, aNil, aCons, eAn, eOr, eNt, eIf, eFz, eNw, fP, fN, f2, f1, tTupE, tLstF, tTr, tTb, tAn, tOrr, tNt, tYs, eSeal, eMt, poMt, mPure, eCh, pCh, ok_bind, ok_map, ok_some, ok_none, ok_gd, ok_ite, List.getElem?_cons_zero, List.getElem?_cons_succ, List.set_cons_zero, List.set_cons_succ, Option.join_some, Option.bind_some, Option.map_some, Option.bind_none, Option.map_none, ix_ref, ix_tup, ix_lst, ix_bor, ix_scr, add_int, add_str, add_tup, sub_int, mul_int, fdiv_int, mod_int, pow_int, neg_int, lt_int, le_int, gt_int, ge_int, eq_int, eq_str, eq_bl, ne_int, ne_str, ne_bl, is_bl, isnt_bl, is_non, isnt_non, len_tup, len_lst, len_ref, len_bor, len_scr, int_bl, int_int, abs_int, min_int, max_int, blD_bl, cell_lst, st_ref, at_0, at_1, at_2, at_3, at_4, ixN_10, ixN_20, ixN_21, ixN_30, ixN_31, ixN_32, dataS_d, datas_nil, datas_cons, truth_bl, notD, intS, blS, nonB, List.length_cons, List.length_nil, Nat.reduceAdd, endsF_rt, endsF_nx, rvQ_d, rvQ_new, rv_d, rv_ref, okRef_d, okRef_ref, List.not_mem_nil, List.nil_append, true_and, and_true, List.take_succ_cons, List.take_zero, Nat.zero_add, decide_eq_true_eq, Bool.false_eq_true, if_false, if_true, callS, handS_n, handS_tr, handS_fr, handS_fd, handS_fb, cellsAt_c, cellsAt_0, Option.getD_some, backS_0, backS_1, eCall, tup_lst, tup_tup, tup_ref, fLc, iRg, rng_1, rng_2, wipeS_c, wipeS_n, iPq, iSq, seq_tup, seq_lst, seq_bor, lst_lst, lst_bor, gdS_d, gdS_b, sFor, gNm, gcS_c, gcS_n, gcO_d, gcO_n, mapp, rcv_0, rcv_1, rcv_l, gcO_r0, gcO_r1, gcO_z, seal_d, eq_self, List.take_nil, List.cons_append, poSl, poI, poNo, slD_t, intO_i, list_t, list_l, in_str2, ofS_inj, String.reduceEq, or_false, false_or, or_true, true_or, or_self, decide_true, decide_false, Bool.not_true, Bool.not_false, at_m1_2, at_m1_3, cut_2, cut_3, all_bls, any_bls, count_bls]
        refine ⟨ns, m, rfl, rfl, by omega, by omega, fun ds t0 => ?_⟩
        simp only [sSeq, sIf, sSet, sSub, sRet, sRetN, sNil, sDrop, sAsg, sPar, sParT, sAug, cP, bB, bTr, bNt, bAn, bOr, po1, po2, poN, pArgs, poIf, poAn, poOr, poNt, poTup, plLst, plN, pl2, pl1, pFz, pV, pC, eP, eo1, eo2, eoN, aP, aNil, aCons, eAn, eOr, eNt, eIf, eFz, eNw, fP, fN, f2, f1, tTupE, tLstF, tTr, tTb, tAn, tOrr, tNt, tYs, eSeal, eMt, poMt, mPure, eCh, pCh, ok_bind, ok_map, ok_some, ok_none, ok_gd, ok_ite, List.getElem?_cons_zero, List.getElem?_cons_succ, List.set_cons_zero, List.set_cons_succ, Option.join_some, Option.bind_some, Option.map_some, Option.bind_none, Option.map_none, ix_ref, ix_tup, ix_lst, ix_bor, ix_scr, add_int, add_str, add_tup, sub_int, mul_int, fdiv_int, mod_int, pow_int, neg_int, lt_int, le_int, gt_int, ge_int, eq_int, eq_str, eq_bl, ne_int, ne_str, ne_bl, is_bl, isnt_bl, is_non, isnt_non, len_tup, len_lst, len_ref, len_bor, len_scr, int_bl, int_int, abs_int, min_int, max_int, blD_bl, cell_lst, st_ref, at_0, at_1, at_2, at_3, at_4, ixN_10, ixN_20, ixN_21, ixN_30, ixN_31, ixN_32, dataS_d, datas_nil, datas_cons, truth_bl, notD, intS, blS, nonB, List.length_cons, List.length_nil, Nat.reduceAdd, endsF_rt, endsF_nx, rvQ_d, rvQ_new, rv_d, rv_ref, okRef_d, okRef_ref, List.not_mem_nil, List.nil_append, true_and, and_true, List.take_succ_cons, List.take_zero, Nat.zero_add, decide_eq_true_eq, Bool.false_eq_true, if_false, if_true, callS, handS_n, handS_tr, handS_fr, handS_fd, handS_fb, cellsAt_c, cellsAt_0, Option.getD_some, backS_0, backS_1, eCall, tup_lst, tup_tup, tup_ref, fLc, iRg, rng_1, rng_2, wipeS_c, wipeS_n, iPq, iSq, seq_tup, seq_lst, seq_bor, lst_lst, lst_bor, gdS_d, gdS_b, sFor, gNm, gcS_c, gcS_n, gcO_d, gcO_n, mapp, rcv_0, rcv_1, rcv_l, gcO_r0, gcO_r1, gcO_z, seal_d, eq_self, List.take_nil, List.cons_append, poSl, poI, poNo, slD_t, intO_i, list_t, list_l, in_str2, ofS_inj, String.reduceEq, or_false, false_or, or_true, true_or, or_self, decide_true, decide_false, Bool.not_true, Bool.not_false, at_m1_2, at_m1_3, cut_2, cut_3, all_bls, any_bls, count_bls]
        refine ⟨ds, 0, rfl, rfl, t0, by decide, fun v ds1 hv t1 => ?_⟩
        simp only [sSeq, sIf, sSet, sSub, sRet, sRetN, sNil, sDrop, sAsg, sPar, sParT, sAug, cP, bB, bTr, bNt, bAn, bOr, po1, po2, poN, pArgs, poIf, poAn, poOr, poNt, poTup, plLst, plN, pl2, pl1, pFz, pV, pC, eP, eo1, eo2, eoN, aP, aNil, aCons, eAn, eOr, eNt, eIf, eFz, eNw, fP, fN, f2, f1, tTupE, tLstF, tTr, tTb, tAn, tOrr, tNt, tYs, eSeal, eMt, poMt, mPure, eCh, pCh, ok_bind, ok_map, ok_some, ok_none, ok_gd, ok_ite, List.getElem?_cons_zero, List.getElem?_cons_succ, List.set_cons_zero, List.set_cons_succ, Option.join_some, Option.bind_some, Option.map_some, Option.bind_none, Option.map_none, ix_ref, ix_tup, ix_lst, ix_bor, ix_scr, add_int, add_str, add_tup, sub_int, mul_int, fdiv_int, mod_int, pow_int, neg_int, lt_int, le_int, gt_int, ge_int, eq_int, eq_str, eq_bl, ne_int, ne_str, ne_bl, is_bl, isnt_bl, is_non, isnt_non, len_tup, len_lst, len_ref, len_bor, len_scr, int_bl, int_int, abs_int, min_int, max_int, blD_bl, cell_lst, st_ref, at_0, at_1, at_2, at_3, at_4, ixN_10, ixN_20, ixN_21, ixN_30, ixN_31, ixN_32, dataS_d, datas_nil, datas_cons, truth_bl, notD, intS, blS, nonB, List.length_cons, List.length_nil, Nat.reduceAdd, endsF_rt, endsF_nx, rvQ_d, rvQ_new, rv_d, rv_ref, okRef_d, okRef_ref, List.not_mem_nil, List.nil_append, true_and, and_true, List.take_succ_cons, List.take_zero, Nat.zero_add, decide_eq_true_eq, Bool.false_eq_true, if_false, if_true, callS, handS_n, handS_tr, handS_fr, handS_fd, handS_fb, cellsAt_c, cellsAt_0, Option.getD_some, backS_0, backS_1, eCall, tup_lst, tup_tup, tup_ref, fLc, iRg, rng_1, rng_2, wipeS_c, wipeS_n, iPq, iSq, seq_tup, seq_lst, seq_bor, lst_lst, lst_bor, gdS_d, gdS_b, sFor, gNm, gcS_c, gcS_n, gcO_d, gcO_n, mapp, rcv_0, rcv_1, rcv_l, gcO_r0, gcO_r1, gcO_z, seal_d, eq_self, List.take_nil, List.cons_append, poSl, poI, poNo, slD_t, intO_i, list_t, list_l, in_str2, ofS_inj, String.reduceEq, or_false, false_or, or_true, true_or, or_self, decide_true, decide_false, Bool.not_true, Bool.not_false, at_m1_2, at_m1_3, cut_2, cut_3, all_bls, any_bls, count_bls]
        have key : ∃ (q : Int) (n : Nat), atI [D.int 9, D.int 6] (if 0 < (m : Int) then 1 else 0) = some (.int q) ∧ 0 < q ∧ (v : Int) % q = (n : Int) ∧ n ≤ 8 := by
          split
          · exact ⟨6, v % 6, rfl, by decide, by omega, by omega⟩
          · exact ⟨9, v % 9, rfl, by decide, by omega, by omega⟩
        obtain ⟨q, n, e1, q0, e2, hn⟩ := key
        rw [e1]
        simp only [sSeq, sIf, sSet, sSub, sRet, sRetN, sNil, sDrop, sAsg, sPar, sParT, sAug, cP, bB, bTr, bNt, bAn, bOr, po1, po2, poN, pArgs, poIf, poAn, poOr, poNt, poTup, plLst, plN, pl2, pl1, pFz, pV, pC, eP, eo1, eo2, eoN, aP, aNil, aCons, eAn, eOr, eNt, eIf, eFz, eNw, fP, fN, f2, f1, tTupE, tLstF, tTr, tTb, tAn, tOrr, tNt, tYs, eSeal, eMt, poMt, mPure, eCh, pCh, ok_bind, ok_map, ok_some, ok_none, ok_gd, ok_ite, List.getElem?_cons_zero, List.getElem?_cons_succ, List.set_cons_zero, List.set_cons_succ, Option.join_some, Option.bind_some, Option.map_some, Option.bind_none, Option.map_none, ix_ref, ix_tup, ix_lst, ix_bor, ix_scr, add_int, add_str, add_tup, sub_int, mul_int, fdiv_int, mod_int, pow_int, neg_int, lt_int, le_int, gt_int, ge_int, eq_int, eq_str, eq_bl, ne_int, ne_str, ne_bl, is_bl, isnt_bl, is_non, isnt_non, len_tup, len_lst, len_ref, len_bor, len_scr, int_bl, int_int, abs_int, min_int, max_int, blD_bl, cell_lst, st_ref, at_0, at_1, at_2, at_3, at_4, ixN_10, ixN_20, ixN_21, ixN_30, ixN_31, ixN_32, dataS_d, datas_nil, datas_cons, truth_bl, notD, intS, blS, nonB, List.length_cons, List.length_nil, Nat.reduceAdd, endsF_rt, endsF_nx, rvQ_d, rvQ_new, rv_d, rv_ref, okRef_d, okRef_ref, List.not_mem_nil, List.nil_append, true_and, and_true, List.take_succ_cons, List.take_zero, Nat.zero_add, decide_eq_true_eq, Bool.false_eq_true, if_false, if_true, callS, handS_n, handS_tr, handS_fr, handS_fd, handS_fb, cellsAt_c, cellsAt_0, Option.getD_some, backS_0, backS_1, eCall, tup_lst, tup_tup, tup_ref, fLc, iRg, rng_1, rng_2, wipeS_c, wipeS_n, iPq, iSq, seq_tup, seq_lst, seq_bor, lst_lst, lst_bor, gdS_d, gdS_b, sFor, gNm, gcS_c, gcS_n, gcO_d, gcO_n, mapp, rcv_0, rcv_1, rcv_l, gcO_r0, gcO_r1, gcO_z, seal_d, eq_self, List.take_nil, List.cons_append, poSl, poI, poNo, slD_t, intO_i, list_t, list_l, in_str2, ofS_inj, String.reduceEq, or_false, false_or, or_true, true_or, or_self, decide_true, decide_false, Bool.not_true, Bool.not_false, at_m1_2, at_m1_3, cut_2, cut_3, all_bls, any_bls, count_bls, e2]
        refine ⟨q0, ⟨by decide, by decide⟩, fun _ => by rw [rgL_len, sizeLine_eq]; decide, ?_⟩
        refine lc_inv (fun rest acc M => ∃ cs ds2, acc = cDs cs ∧ M = [.lst ds2] ∧ (∀ c ∈ cs, c.ok n 3 ∧ c.sz ≤ 100) ∧ cs.length + rest.length = 3 ∧ Tp (3 + 300 * cs.length) ds2) ?_ ?_ _ _ _ ⟨[], ds1, rfl, rfl, by simp, by simp [rgL_len], t1⟩
        · rintro acc M ⟨cs, ds2, rfl, rfl, hc, hl, t2⟩
          simp only [List.length_nil, Nat.add_zero] at hl
          rw [hl] at t2
          refine ⟨trivial, ?_⟩
          simp only [sSeq, sIf, sSet, sSub, sRet, sRetN, sNil, sDrop, sAsg, sPar, sParT, sAug, cP, bB, bTr, bNt, bAn, bOr, po1, po2, poN, pArgs, poIf, poAn, poOr, poNt, poTup, plLst, plN, pl2, pl1, pFz, pV, pC, eP, eo1, eo2, eoN, aP, aNil, aCons, eAn, eOr, eNt, eIf, eFz, eNw, fP, fN, f2, f1, tTupE, tLstF, tTr, tTb, tAn, tOrr, tNt, tYs, eSeal, eMt, poMt, mPure, eCh, pCh, ok_bind, ok_map, ok_some, ok_none, ok_gd, ok_ite, List.getElem?_cons_zero, List.getElem?_cons_succ, List.set_cons_zero, List.set_cons_succ, Option.join_some, Option.bind_some, Option.map_some, Option.bind_none, Option.map_none, ix_ref, ix_tup, ix_lst, ix_bor, ix_scr, add_int, add_str, add_tup, sub_int, mul_int, fdiv_int, mod_int, pow_int, neg_int, lt_int, le_int, gt_int, ge_int, eq_int, eq_str, eq_bl, ne_int, ne_str, ne_bl, is_bl, isnt_bl, is_non, isnt_non, len_tup, len_lst, len_ref, len_bor, len_scr, int_bl, int_int, abs_int, min_int, max_int, blD_bl, cell_lst, st_ref, at_0, at_1, at_2, at_3, at_4, ixN_10, ixN_20, ixN_21, ixN_30, ixN_31, ixN_32, dataS_d, datas_nil, datas_cons, truth_bl, notD, intS, blS, nonB, List.length_cons, List.length_nil, Nat.reduceAdd, endsF_rt, endsF_nx, rvQ_d, rvQ_new, rv_d, rv_ref, okRef_d, okRef_ref, List.not_mem_nil, List.nil_append, true_and, and_true, List.take_succ_cons, List.take_zero, Nat.zero_add, decide_eq_true_eq, Bool.false_eq_true, if_false, if_true, callS, handS_n, handS_tr, handS_fr, handS_fd, handS_fb, cellsAt_c, cellsAt_0, Option.getD_some, backS_0, backS_1, eCall, tup_lst, tup_tup, tup_ref, fLc, iRg, rng_1, rng_2, wipeS_c, wipeS_n, iPq, iSq, seq_tup, seq_lst, seq_bor, lst_lst, lst_bor, gdS_d, gdS_b, sFor, gNm, gcS_c, gcS_n, gcO_d, gcO_n, mapp, rcv_0, rcv_1, rcv_l, gcO_r0, gcO_r1, gcO_z, seal_d, eq_self, List.take_nil, List.cons_append, poSl, poI, poNo, slD_t, intO_i, list_t, list_l, in_str2, ofS_inj, String.reduceEq, or_false, false_or, or_true, true_or, or_self, decide_true, decide_false, Bool.not_true, Bool.not_false, at_m1_2, at_m1_3, cut_2, cut_3, all_bls, any_bls, count_bls]
          refine for_inv (fun rest δ M => ∃ r ds3 p1 p2 p4 p6 p8, rest = cDs r ∧ (∀ c ∈ r, c.ok n 3 ∧ c.sz ≤ 100) ∧ δ = [some (.d (.scr ns)), p1, p2, some (.d (.int m)), p4, some (.d (.int n)), p6, some (.ref 0), p8, none, none, none] ∧ M = [.lst ds3] ∧ Tp 903 ds3) ?_ ?_ _ _ _ ⟨cs, ds2, o1, o2, o4, o6, o8, rfl, hc, rfl, rfl, t2⟩
          · rintro δ M ⟨_, ds3, p1, p2, p4, p6, p8, _, _, rfl, rfl, t3⟩
            refine ⟨trivial, ?_⟩
            simp only [sSeq, sIf, sSet, sSub, sRet, sRetN, sNil, sDrop, sAsg, sPar, sParT, sAug, cP, bB, bTr, bNt, bAn, bOr, po1, po2, poN, pArgs, poIf, poAn, poOr, poNt, poTup, plLst, plN, pl2, pl1, pFz, pV, pC, eP, eo1, eo2, eoN, aP, aNil, aCons, eAn, eOr, eNt, eIf, eFz, eNw, fP, fN, f2, f1, tTupE, tLstF, tTr, tTb, tAn, tOrr, tNt, tYs, eSeal, eMt, poMt, mPure, eCh, pCh, ok_bind, ok_map, ok_some, ok_none, ok_gd, ok_ite, List.getElem?_cons_zero, List.getElem?_cons_succ, List.set_cons_zero, List.set_cons_succ, Option.join_some, Option.bind_some, Option.map_some, Option.bind_none, Option.map_none, ix_ref, ix_tup, ix_lst, ix_bor, ix_scr, add_int, add_str, add_tup, sub_int, mul_int, fdiv_int, mod_int, pow_int, neg_int, lt_int, le_int, gt_int, ge_int, eq_int, eq_str, eq_bl, ne_int, ne_str, ne_bl, is_bl, isnt_bl, is_non, isnt_non, len_tup, len_lst, len_ref, len_bor, len_scr, int_bl, int_int, abs_int, min_int, max_int, blD_bl, cell_lst, st_ref, at_0, at_1, at_2, at_3, at_4, ixN_10, ixN_20, ixN_21, ixN_30, ixN_31, ixN_32, dataS_d, datas_nil, datas_cons, truth_bl, notD, intS, blS, nonB, List.length_cons, List.length_nil, Nat.reduceAdd, endsF_rt, endsF_nx, rvQ_d, rvQ_new, rv_d, rv_ref, okRef_d, okRef_ref, List.not_mem_nil, List.nil_append, true_and, and_true, List.take_succ_cons, List.take_zero, Nat.zero_add, decide_eq_true_eq, Bool.false_eq_true, if_false, if_true, callS, handS_n, handS_tr, handS_fr, handS_fd, handS_fb, cellsAt_c, cellsAt_0, Option.getD_some, backS_0, backS_1, eCall, tup_lst, tup_tup, tup_ref, fLc, iRg, rng_1, rng_2, wipeS_c, wipeS_n, iPq, iSq, seq_tup, seq_lst, seq_bor, lst_lst, lst_bor, gdS_d, gdS_b, sFor, gNm, gcS_c, gcS_n, gcO_d, gcO_n, mapp, rcv_0, rcv_1, rcv_l, gcO_r0, gcO_r1, gcO_z, seal_d, eq_self, List.take_nil, List.cons_append, poSl, poI, poNo, slD_t, intO_i, list_t, list_l, in_str2, ofS_inj, String.reduceEq, or_false, false_or, or_true, true_or, or_self, decide_true, decide_false, Bool.not_true, Bool.not_false, at_m1_2, at_m1_3, cut_2, cut_3, all_bls, any_bls, count_bls]
            refine ⟨ds3, 30, 903, rfl, rfl, t3, by decide, by decide, fun c ds4 h1 h2 t4 => ?_⟩
            simp only [sSeq, sIf, sSet, sSub, sRet, sRetN, sNil, sDrop, sAsg, sPar, sParT, sAug, cP, bB, bTr, bNt, bAn, bOr, po1, po2, poN, pArgs, poIf, poAn, poOr, poNt, poTup, plLst, plN, pl2, pl1, pFz, pV, pC, eP, eo1, eo2, eoN, aP, aNil, aCons, eAn, eOr, eNt, eIf, eFz, eNw, fP, fN, f2, f1, tTupE, tLstF, tTr, tTb, tAn, tOrr, tNt, tYs, eSeal, eMt, poMt, mPure, eCh, pCh, ok_bind, ok_map, ok_some, ok_none, ok_gd, ok_ite, List.getElem?_cons_zero, List.getElem?_cons_succ, List.set_cons_zero, List.set_cons_succ, Option.join_some, Option.bind_some, Option.map_some, Option.bind_none, Option.map_none, ix_ref, ix_tup, ix_lst, ix_bor, ix_scr, add_int, add_str, add_tup, sub_int, mul_int, fdiv_int, mod_int, pow_int, neg_int, lt_int, le_int, gt_int, ge_int, eq_int, eq_str, eq_bl, ne_int, ne_str, ne_bl, is_bl, isnt_bl, is_non, isnt_non, len_tup, len_lst, len_ref, len_bor, len_scr, int_bl, int_int, abs_int, min_int, max_int, blD_bl, cell_lst, st_ref, at_0, at_1, at_2, at_3, at_4, ixN_10, ixN_20, ixN_21, ixN_30, ixN_31, ixN_32, dataS_d, datas_nil, datas_cons, truth_bl, notD, intS, blS, nonB, List.length_cons, List.length_nil, Nat.reduceAdd, endsF_rt, endsF_nx, rvQ_d, rvQ_new, rv_d, rv_ref, okRef_d, okRef_ref, List.not_mem_nil, List.nil_append, true_and, and_true, List.take_succ_cons, List.take_zero, Nat.zero_add, decide_eq_true_eq, Bool.false_eq_true, if_false, if_true, callS, handS_n, handS_tr, handS_fr, handS_fd, handS_fb, cellsAt_c, cellsAt_0, Option.getD_some, backS_0, backS_1, eCall, tup_lst, tup_tup, tup_ref, fLc, iRg, rng_1, rng_2, wipeS_c, wipeS_n, iPq, iSq, seq_tup, seq_lst, seq_bor, lst_lst, lst_bor, gdS_d, gdS_b, sFor, gNm, gcS_c, gcS_n, gcO_d, gcO_n, mapp, rcv_0, rcv_1, rcv_l, gcO_r0, gcO_r1, gcO_z, seal_d, eq_self, List.take_nil, List.cons_append, poSl, poI, poNo, slD_t, intO_i, list_t, list_l, in_str2, ofS_inj, String.reduceEq, or_false, false_or, or_true, true_or, or_self, decide_true, decide_false, Bool.not_true, Bool.not_false, at_m1_2, at_m1_3, cut_2, cut_3, all_bls, any_bls, count_bls]
            refine ⟨⟨by decide, by decide⟩, fun h => h.elim, ?_⟩
            refine for_inv (fun rest δ M => ∃ i ds5 p1 p2 p4 p6, i + rest.length = 8 ∧ δ = [some (.d (.scr ns)), p1, p2, some (.d (.int m)), p4, some (.d (.int n)), p6, some (.ref 0), some (.d (cD c)), none, none, none] ∧ M = [.lst ds5] ∧ Tp (1203 + 30 * i) ds5) ?_ ?_ _ _ _ ⟨0, ds4, p1, p2, p4, p6, by simp [rgL_len], rfl, rfl, t4⟩
            · rintro δ M ⟨i, ds5, p1, p2, p4, p6, hi, rfl, rfl, t5⟩
              refine ⟨trivial, ?_⟩
              exact k _ _ ⟨hx', _, _, _, _, _, _, _, _, rfl, rfl⟩
            · rintro x5 rest5 δ M nx5 ⟨i, ds5, p1, p2, p4, p6, hi, rfl, rfl, t5⟩ k5
              simp only [List.length_cons] at hi
              refine ⟨trivial, ?_⟩
              simp only [sSeq, sIf, sSet, sSub, sRet, sRetN, sNil, sDrop, sAsg, sPar, sParT, sAug, cP, bB, bTr, bNt, bAn, bOr, po1, po2, poN, pArgs, poIf, poAn, poOr, poNt, poTup, plLst, plN, pl2, pl1, pFz, pV, pC, eP, eo1, eo2, eoN, aP, aNil, aCons, eAn, eOr, eNt, eIf, eFz, eNw, fP, fN, f2, f1, tTupE, tLstF, tTr, tTb, tAn, tOrr, tNt, tYs, eSeal, eMt, poMt, mPure, eCh, pCh, ok_bind, ok_map, ok_some, ok_none, ok_gd, ok_ite, List.getElem?_cons_zero, List.getElem?_cons_succ, List.set_cons_zero, List.set_cons_succ, Option.join_some, Option.bind_some, Option.map_some, Option.bind_none, Option.map_none, ix_ref, ix_tup, ix_lst, ix_bor, ix_scr, add_int, add_str, add_tup, sub_int, mul_int, fdiv_int, mod_int, pow_int, neg_int, lt_int, le_int, gt_int, ge_int, eq_int, eq_str, eq_bl, ne_int, ne_str, ne_bl, is_bl, isnt_bl, is_non, isnt_non, len_tup, len_lst, len_ref, len_bor, len_scr, int_bl, int_int, abs_int, min_int, max_int, blD_bl, cell_lst, st_ref, at_0, at_1, at_2, at_3, at_4, ixN_10, ixN_20, ixN_21, ixN_30, ixN_31, ixN_32, dataS_d, datas_nil, datas_cons, truth_bl, notD, intS, blS, nonB, List.length_cons, List.length_nil, Nat.reduceAdd, endsF_rt, endsF_nx, rvQ_d, rvQ_new, rv_d, rv_ref, okRef_d, okRef_ref, List.not_mem_nil, List.nil_append, true_and, and_true, List.take_succ_cons, List.take_zero, Nat.zero_add, decide_eq_true_eq, Bool.false_eq_true, if_false, if_true, callS, handS_n, handS_tr, handS_fr, handS_fd, handS_fb, cellsAt_c, cellsAt_0, Option.getD_some, backS_0, backS_1, eCall, tup_lst, tup_tup, tup_ref, fLc, iRg, rng_1, rng_2, wipeS_c, wipeS_n, iPq, iSq, seq_tup, seq_lst, seq_bor, lst_lst, lst_bor, gdS_d, gdS_b, sFor, gNm, gcS_c, gcS_n, gcO_d, gcO_n, mapp, rcv_0, rcv_1, rcv_l, gcO_r0, gcO_r1, gcO_z, seal_d, eq_self, List.take_nil, List.cons_append, poSl, poI, poNo, slD_t, intO_i, list_t, list_l, in_str2, ofS_inj, String.reduceEq, or_false, false_or, or_true, true_or, or_self, decide_true, decide_false, Bool.not_true, Bool.not_false, at_m1_2, at_m1_3, cut_2, cut_3, all_bls, any_bls, count_bls]
              refine ⟨⟨by decide, by decide⟩, fun _ => by rw [rgL_len, sizeLine_eq]; decide, ?_⟩
              refine lc_inv (fun rest acc M => ∃ bs ds6, acc = bs.map bitD ∧ M = [.lst ds6] ∧ bs.length + rest.length = 30 ∧ Tp (1203 + 30 * i + bs.length) ds6) ?_ ?_ _ _ _ ⟨[], ds5, rfl, rfl, by simp [rgL_len], t5⟩
              · rintro acc M ⟨bs, ds6, rfl, rfl, hb, t6⟩
                simp only [List.length_nil, Nat.add_zero] at hb
                refine ⟨trivial, ?_⟩
                refine ⟨c, bs, rfl, rfl, by rw [hb]; exact h1, by omega, by omega, ?_⟩
                simp only [sSeq, sIf, sSet, sSub, sRet, sRetN, sNil, sDrop, sAsg, sPar, sParT, sAug, cP, bB, bTr, bNt, bAn, bOr, po1, po2, poN, pArgs, poIf, poAn, poOr, poNt, poTup, plLst, plN, pl2, pl1, pFz, pV, pC, eP, eo1, eo2, eoN, aP, aNil, aCons, eAn, eOr, eNt, eIf, eFz, eNw, fP, fN, f2, f1, tTupE, tLstF, tTr, tTb, tAn, tOrr, tNt, tYs, eSeal, eMt, poMt, mPure, eCh, pCh, ok_bind, ok_map, ok_some, ok_none, ok_gd, ok_ite, List.getElem?_cons_zero, List.getElem?_cons_succ, List.set_cons_zero, List.set_cons_succ, Option.join_some, Option.bind_some, Option.map_some, Option.bind_none, Option.map_none, ix_ref, ix_tup, ix_lst, ix_bor, ix_scr, add_int, add_str, add_tup, sub_int, mul_int, fdiv_int, mod_int, pow_int, neg_int, lt_int, le_int, gt_int, ge_int, eq_int, eq_str, eq_bl, ne_int, ne_str, ne_bl, is_bl, isnt_bl, is_non, isnt_non, len_tup, len_lst, len_ref, len_bor, len_scr, int_bl, int_int, abs_int, min_int, max_int, blD_bl, cell_lst, st_ref, at_0, at_1, at_2, at_3, at_4, ixN_10, ixN_20, ixN_21, ixN_30, ixN_31, ixN_32, dataS_d, datas_nil, datas_cons, truth_bl, notD, intS, blS, nonB, List.length_cons, List.length_nil, Nat.reduceAdd, endsF_rt, endsF_nx, rvQ_d, rvQ_new, rv_d, rv_ref, okRef_d, okRef_ref, List.not_mem_nil, List.nil_append, true_and, and_true, List.take_succ_cons, List.take_zero, Nat.zero_add, decide_eq_true_eq, Bool.false_eq_true, if_false, if_true, callS, handS_n, handS_tr, handS_fr, handS_fd, handS_fb, cellsAt_c, cellsAt_0, Option.getD_some, backS_0, backS_1, eCall, tup_lst, tup_tup, tup_ref, fLc, iRg, rng_1, rng_2, wipeS_c, wipeS_n, iPq, iSq, seq_tup, seq_lst, seq_bor, lst_lst, lst_bor, gdS_d, gdS_b, sFor, gNm, gcS_c, gcS_n, gcO_d, gcO_n, mapp, rcv_0, rcv_1, rcv_l, gcO_r0, gcO_r1, gcO_z, seal_d, eq_self, List.take_nil, List.cons_append, poSl, poI, poNo, slD_t, intO_i, list_t, list_l, in_str2, ofS_inj, String.reduceEq, or_false, false_or, or_true, true_or, or_self, decide_true, decide_false, Bool.not_true, Bool.not_false, at_m1_2, at_m1_3, cut_2, cut_3, all_bls, any_bls, count_bls]
                exact k5 _ _ ⟨i + 1, ds6, _, _, _, _, by omega, rfl, rfl, t6.mono (by omega)⟩
              · rintro x6 rest6 acc M R ⟨bs, ds6, rfl, rfl, hb, t6⟩ k6
                simp only [List.length_cons] at hb
                refine ⟨trivial, ?_⟩
                simp only [sSeq, sIf, sSet, sSub, sRet, sRetN, sNil, sDrop, sAsg, sPar, sParT, sAug, cP, bB, bTr, bNt, bAn, bOr, po1, po2, poN, pArgs, poIf, poAn, poOr, poNt, poTup, plLst, plN, pl2, pl1, pFz, pV, pC, eP, eo1, eo2, eoN, aP, aNil, aCons, eAn, eOr, eNt, eIf, eFz, eNw, fP, fN, f2, f1, tTupE, tLstF, tTr, tTb, tAn, tOrr, tNt, tYs, eSeal, eMt, poMt, mPure, eCh, pCh, ok_bind, ok_map, ok_some, ok_none, ok_gd, ok_ite, List.getElem?_cons_zero, List.getElem?_cons_succ, List.set_cons_zero, List.set_cons_succ, Option.join_some, Option.bind_some, Option.map_some, Option.bind_none, Option.map_none, ix_ref, ix_tup, ix_lst, ix_bor, ix_scr, add_int, add_str, add_tup, sub_int, mul_int, fdiv_int, mod_int, pow_int, neg_int, lt_int, le_int, gt_int, ge_int, eq_int, eq_str, eq_bl, ne_int, ne_str, ne_bl, is_bl, isnt_bl, is_non, isnt_non, len_tup, len_lst, len_ref, len_bor, len_scr, int_bl, int_int, abs_int, min_int, max_int, blD_bl, cell_lst, st_ref, at_0, at_1, at_2, at_3, at_4, ixN_10, ixN_20, ixN_21, ixN_30, ixN_31, ixN_32, dataS_d, datas_nil, datas_cons, truth_bl, notD, intS, blS, nonB, List.length_cons, List.length_nil, Nat.reduceAdd, endsF_rt, endsF_nx, rvQ_d, rvQ_new, rv_d, rv_ref, okRef_d, okRef_ref, List.not_mem_nil, List.nil_append, true_and, and_true, List.take_succ_cons, List.take_zero, Nat.zero_add, decide_eq_true_eq, Bool.false_eq_true, if_false, if_true, callS, handS_n, handS_tr, handS_fr, handS_fd, handS_fb, cellsAt_c, cellsAt_0, Option.getD_some, backS_0, backS_1, eCall, tup_lst, tup_tup, tup_ref, fLc, iRg, rng_1, rng_2, wipeS_c, wipeS_n, iPq, iSq, seq_tup, seq_lst, seq_bor, lst_lst, lst_bor, gdS_d, gdS_b, sFor, gNm, gcS_c, gcS_n, gcO_d, gcO_n, mapp, rcv_0, rcv_1, rcv_l, gcO_r0, gcO_r1, gcO_z, seal_d, eq_self, List.take_nil, List.cons_append, poSl, poI, poNo, slD_t, intO_i, list_t, list_l, in_str2, ofS_inj, String.reduceEq, or_false, false_or, or_true, true_or, or_self, decide_true, decide_false, Bool.not_true, Bool.not_false, at_m1_2, at_m1_3, cut_2, cut_3, all_bls, any_bls, count_bls]
                refine take_ok t6 (by omega) (by decide) (by decide) fun u ds7 u0 u1 t7 => ?_
                simp only [sSeq, sIf, sSet, sSub, sRet, sRetN, sNil, sDrop, sAsg, sPar, sParT, sAug, cP, bB, bTr, bNt, bAn, bOr, po1, po2, poN, pArgs, poIf, poAn, poOr, poNt, poTup, plLst, plN, pl2, pl1, pFz, pV, pC, eP, eo1, eo2, eoN, aP, aNil, aCons, eAn, eOr, eNt, eIf, eFz, eNw, fP, fN, f2, f1, tTupE, tLstF, tTr, tTb, tAn, tOrr, tNt, tYs, eSeal, eMt, poMt, mPure, eCh, pCh, ok_bind, ok_map, ok_some, ok_none, ok_gd, ok_ite, List.getElem?_cons_zero, List.getElem?_cons_succ, List.set_cons_zero, List.set_cons_succ, Option.join_some, Option.bind_some, Option.map_some, Option.bind_none, Option.map_none, ix_ref, ix_tup, ix_lst, ix_bor, ix_scr, add_int, add_str, add_tup, sub_int, mul_int, fdiv_int, mod_int, pow_int, neg_int, lt_int, le_int, gt_int, ge_int, eq_int, eq_str, eq_bl, ne_int, ne_str, ne_bl, is_bl, isnt_bl, is_non, isnt_non, len_tup, len_lst, len_ref, len_bor, len_scr, int_bl, int_int, abs_int, min_int, max_int, blD_bl, cell_lst, st_ref, at_0, at_1, at_2, at_3, at_4, ixN_10, ixN_20, ixN_21, ixN_30, ixN_31, ixN_32, dataS_d, datas_nil, datas_cons, truth_bl, notD, intS, blS, nonB, List.length_cons, List.length_nil, Nat.reduceAdd, endsF_rt, endsF_nx, rvQ_d, rvQ_new, rv_d, rv_ref, okRef_d, okRef_ref, List.not_mem_nil, List.nil_append, true_and, and_true, List.take_succ_cons, List.take_zero, Nat.zero_add, decide_eq_true_eq, Bool.false_eq_true, if_false, if_true, callS, handS_n, handS_tr, handS_fr, handS_fd, handS_fb, cellsAt_c, cellsAt_0, Option.getD_some, backS_0, backS_1, eCall, tup_lst, tup_tup, tup_ref, fLc, iRg, rng_1, rng_2, wipeS_c, wipeS_n, iPq, iSq, seq_tup, seq_lst, seq_bor, lst_lst, lst_bor, gdS_d, gdS_b, sFor, gNm, gcS_c, gcS_n, gcO_d, gcO_n, mapp, rcv_0, rcv_1, rcv_l, gcO_r0, gcO_r1, gcO_z, seal_d, eq_self, List.take_nil, List.cons_append, poSl, poI, poNo, slD_t, intO_i, list_t, list_l, in_str2, ofS_inj, String.reduceEq, or_false, false_or, or_true, true_or, or_self, decide_true, decide_false, Bool.not_true, Bool.not_false, at_m1_2, at_m1_3, cut_2, cut_3, all_bls, any_bls, count_bls]
                have hu : u = 0 ∨ u = 1 := by omega
                rcases hu with rfl | rfl
                · exact k6 (bitD false) _ ⟨bs ++ [false], ds7, by simp, rfl, by simp; omega, t7.mono (by simp; omega)⟩
                · exact k6 (bitD true) _ ⟨bs ++ [true], ds7, by simp, rfl, by simp; omega, t7.mono (by simp; omega)⟩
          · rintro x3 rest3 δ M nx3 ⟨r, ds3, p1, p2, p4, p6, p8, hr, hc3, rfl, rfl, t3⟩ k3
            cases r with
            | nil => cases hr
            | cons c r =>
              simp only [cDs, List.cons.injEq] at hr
              obtain ⟨rfl, rfl⟩ := hr
              obtain ⟨h1, h2⟩ := hc3 c List.mem_cons_self
              refine ⟨trivial, ?_⟩
              simp only [sSeq, sIf, sSet, sSub, sRet, sRetN, sNil, sDrop, sAsg, sPar, sParT, sAug, cP, bB, bTr, bNt, bAn, bOr, po1, po2, poN, pArgs, poIf, poAn, poOr, poNt, poTup, plLst, plN, pl2, pl1, pFz, pV, pC, eP, eo1, eo2, eoN, aP, aNil, aCons, eAn, eOr, eNt, eIf, eFz, eNw, fP, fN, f2, f1, tTupE, tLstF, tTr, tTb, tAn, tOrr, tNt, tYs, eSeal, eMt, poMt, mPure, eCh, pCh, ok_bind, ok_map, ok_some, ok_none, ok_gd, ok_ite, List.getElem?_cons_zero, List.getElem?_cons_succ, List.set_cons_zero, List.set_cons_succ, Option.join_some, Option.bind_some, Option.map_some, Option.bind_none, Option.map_none, ix_ref, ix_tup, ix_lst, ix_bor, ix_scr, add_int, add_str, add_tup, sub_int, mul_int, fdiv_int, mod_int, pow_int, neg_int, lt_int, le_int, gt_int, ge_int, eq_int, eq_str, eq_bl, ne_int, ne_str, ne_bl, is_bl, isnt_bl, is_non, isnt_non, len_tup, len_lst, len_ref, len_bor, len_scr, int_bl, int_int, abs_int, min_int, max_int, blD_bl, cell_lst, st_ref, at_0, at_1, at_2, at_3, at_4, ixN_10, ixN_20, ixN_21, ixN_30, ixN_31, ixN_32, dataS_d, datas_nil, datas_cons, truth_bl, notD, intS, blS, nonB, List.length_cons, List.length_nil, Nat.reduceAdd, endsF_rt, endsF_nx, rvQ_d, rvQ_new, rv_d, rv_ref, okRef_d, okRef_ref, List.not_mem_nil, List.nil_append, true_and, and_true, List.take_succ_cons, List.take_zero, Nat.zero_add, decide_eq_true_eq, Bool.false_eq_true, if_false, if_true, callS, handS_n, handS_tr, handS_fr, handS_fd, handS_fb, cellsAt_c, cellsAt_0, Option.getD_some, backS_0, backS_1, eCall, tup_lst, tup_tup, tup_ref, fLc, iRg, rng_1, rng_2, wipeS_c, wipeS_n, iPq, iSq, seq_tup, seq_lst, seq_bor, lst_lst, lst_bor, gdS_d, gdS_b, sFor, gNm, gcS_c, gcS_n, gcO_d, gcO_n, mapp, rcv_0, rcv_1, rcv_l, gcO_r0, gcO_r1, gcO_z, seal_d, eq_self, List.take_nil, List.cons_append, poSl, poI, poNo, slD_t, intO_i, list_t, list_l, in_str2, ofS_inj, String.reduceEq, or_false, false_or, or_true, true_or, or_self, decide_true, decide_false, Bool.not_true, Bool.not_false, at_m1_2, at_m1_3, cut_2, cut_3, all_bls, any_bls, count_bls]
              refine ⟨n, rfl, rfl, by omega, ?_⟩
              simp only [sSeq, sIf, sSet, sSub, sRet, sRetN, sNil, sDrop, sAsg, sPar, sParT, sAug, cP, bB, bTr, bNt, bAn, bOr, po1, po2, poN, pArgs, poIf, poAn, poOr, poNt, poTup, plLst, plN, pl2, pl1, pFz, pV, pC, eP, eo1, eo2, eoN, aP, aNil, aCons, eAn, eOr, eNt, eIf, eFz, eNw, fP, fN, f2, f1, tTupE, tLstF, tTr, tTb, tAn, tOrr, tNt, tYs, eSeal, eMt, poMt, mPure, eCh, pCh, ok_bind, ok_map, ok_some, ok_none, ok_gd, ok_ite, List.getElem?_cons_zero, List.getElem?_cons_succ, List.set_cons_zero, List.set_cons_succ, Option.join_some, Option.bind_some, Option.map_some, Option.bind_none, Option.map_none, ix_ref, ix_tup, ix_lst, ix_bor, ix_scr, add_int, add_str, add_tup, sub_int, mul_int, fdiv_int, mod_int, pow_int, neg_int, lt_int, le_int, gt_int, ge_int, eq_int, eq_str, eq_bl, ne_int, ne_str, ne_bl, is_bl, isnt_bl, is_non, isnt_non, len_tup, len_lst, len_ref, len_bor, len_scr, int_bl, int_int, abs_int, min_int, max_int, blD_bl, cell_lst, st_ref, at_0, at_1, at_2, at_3, at_4, ixN_10, ixN_20, ixN_21, ixN_30, ixN_31, ixN_32, dataS_d, datas_nil, datas_cons, truth_bl, notD, intS, blS, nonB, List.length_cons, List.length_nil, Nat.reduceAdd, endsF_rt, endsF_nx, rvQ_d, rvQ_new, rv_d, rv_ref, okRef_d, okRef_ref, List.not_mem_nil, List.nil_append, true_and, and_true, List.take_succ_cons, List.take_zero, Nat.zero_add, decide_eq_true_eq, Bool.false_eq_true, if_false, if_true, callS, handS_n, handS_tr, handS_fr, handS_fd, handS_fb, cellsAt_c, cellsAt_0, Option.getD_some, backS_0, backS_1, eCall, tup_lst, tup_tup, tup_ref, fLc, iRg, rng_1, rng_2, wipeS_c, wipeS_n, iPq, iSq, seq_tup, seq_lst, seq_bor, lst_lst, lst_bor, gdS_d, gdS_b, sFor, gNm, gcS_c, gcS_n, gcO_d, gcO_n, mapp, rcv_0, rcv_1, rcv_l, gcO_r0, gcO_r1, gcO_z, seal_d, eq_self, List.take_nil, List.cons_append, poSl, poI, poNo, slD_t, intO_i, list_t, list_l, in_str2, ofS_inj, String.reduceEq, or_false, false_or, or_true, true_or, or_self, decide_true, decide_false, Bool.not_true, Bool.not_false, at_m1_2, at_m1_3, cut_2, cut_3, all_bls, any_bls, count_bls]
              refine lc_map (f := fun _ => .bl true) trivial (fun d hd R hR => ?_) ?_
              · obtain ⟨f, hf, rfl⟩ := List.mem_map.mp hd
                have hfl := afs_mem n f hf
                simp only [sSeq, sIf, sSet, sSub, sRet, sRetN, sNil, sDrop, sAsg, sPar, sParT, sAug, cP, bB, bTr, bNt, bAn, bOr, po1, po2, poN, pArgs, poIf, poAn, poOr, poNt, poTup, plLst, plN, pl2, pl1, pFz, pV, pC, eP, eo1, eo2, eoN, aP, aNil, aCons, eAn, eOr, eNt, eIf, eFz, eNw, fP, fN, f2, f1, tTupE, tLstF, tTr, tTb, tAn, tOrr, tNt, tYs, eSeal, eMt, poMt, mPure, eCh, pCh, ok_bind, ok_map, ok_some, ok_none, ok_gd, ok_ite, List.getElem?_cons_zero, List.getElem?_cons_succ, List.set_cons_zero, List.set_cons_succ, Option.join_some, Option.bind_some, Option.map_some, Option.bind_none, Option.map_none, ix_ref, ix_tup, ix_lst, ix_bor, ix_scr, add_int, add_str, add_tup, sub_int, mul_int, fdiv_int, mod_int, pow_int, neg_int, lt_int, le_int, gt_int, ge_int, eq_int, eq_str, eq_bl, ne_int, ne_str, ne_bl, is_bl, isnt_bl, is_non, isnt_non, len_tup, len_lst, len_ref, len_bor, len_scr, int_bl, int_int, abs_int, min_int, max_int, blD_bl, cell_lst, st_ref, at_0, at_1, at_2, at_3, at_4, ixN_10, ixN_20, ixN_21, ixN_30, ixN_31, ixN_32, dataS_d, datas_nil, datas_cons, truth_bl, notD, intS, blS, nonB, List.length_cons, List.length_nil, Nat.reduceAdd, endsF_rt, endsF_nx, rvQ_d, rvQ_new, rv_d, rv_ref, okRef_d, okRef_ref, List.not_mem_nil, List.nil_append, true_and, and_true, List.take_succ_cons, List.take_zero, Nat.zero_add, decide_eq_true_eq, Bool.false_eq_true, if_false, if_true, callS, handS_n, handS_tr, handS_fr, handS_fd, handS_fb, cellsAt_c, cellsAt_0, Option.getD_some, backS_0, backS_1, eCall, tup_lst, tup_tup, tup_ref, fLc, iRg, rng_1, rng_2, wipeS_c, wipeS_n, iPq, iSq, seq_tup, seq_lst, seq_bor, lst_lst, lst_bor, gdS_d, gdS_b, sFor, gNm, gcS_c, gcS_n, gcO_d, gcO_n, mapp, rcv_0, rcv_1, rcv_l, gcO_r0, gcO_r1, gcO_z, seal_d, eq_self, List.take_nil, List.cons_append, poSl, poI, poNo, slD_t, intO_i, list_t, list_l, in_str2, ofS_inj, String.reduceEq, or_false, false_or, or_true, true_or, or_self, decide_true, decide_false, Bool.not_true, Bool.not_false, at_m1_2, at_m1_3, cut_2, cut_3, all_bls, any_bls, count_bls]
                refine ⟨c, f, rfl, rfl, by rw [hfl]; exact h1, by omega, by omega, ?_⟩
                simp only [sSeq, sIf, sSet, sSub, sRet, sRetN, sNil, sDrop, sAsg, sPar, sParT, sAug, cP, bB, bTr, bNt, bAn, bOr, po1, po2, poN, pArgs, poIf, poAn, poOr, poNt, poTup, plLst, plN, pl2, pl1, pFz, pV, pC, eP, eo1, eo2, eoN, aP, aNil, aCons, eAn, eOr, eNt, eIf, eFz, eNw, fP, fN, f2, f1, tTupE, tLstF, tTr, tTb, tAn, tOrr, tNt, tYs, eSeal, eMt, poMt, mPure, eCh, pCh, ok_bind, ok_map, ok_some, ok_none, ok_gd, ok_ite, List.getElem?_cons_zero, List.getElem?_cons_succ, List.set_cons_zero, List.set_cons_succ, Option.join_some, Option.bind_some, Option.map_some, Option.bind_none, Option.map_none, ix_ref, ix_tup, ix_lst, ix_bor, ix_scr, add_int, add_str, add_tup, sub_int, mul_int, fdiv_int, mod_int, pow_int, neg_int, lt_int, le_int, gt_int, ge_int, eq_int, eq_str, eq_bl, ne_int, ne_str, ne_bl, is_bl, isnt_bl, is_non, isnt_non, len_tup, len_lst, len_ref, len_bor, len_scr, int_bl, int_int, abs_int, min_int, max_int, blD_bl, cell_lst, st_ref, at_0, at_1, at_2, at_3, at_4, ixN_10, ixN_20, ixN_21, ixN_30, ixN_31, ixN_32, dataS_d, datas_nil, datas_cons, truth_bl, notD, intS, blS, nonB, List.length_cons, List.length_nil, Nat.reduceAdd, endsF_rt, endsF_nx, rvQ_d, rvQ_new, rv_d, rv_ref, okRef_d, okRef_ref, List.not_mem_nil, List.nil_append, true_and, and_true, List.take_succ_cons, List.take_zero, Nat.zero_add, decide_eq_true_eq, Bool.false_eq_true, if_false, if_true, callS, handS_n, handS_tr, handS_fr, handS_fd, handS_fb, cellsAt_c, cellsAt_0, Option.getD_some, backS_0, backS_1, eCall, tup_lst, tup_tup, tup_ref, fLc, iRg, rng_1, rng_2, wipeS_c, wipeS_n, iPq, iSq, seq_tup, seq_lst, seq_bor, lst_lst, lst_bor, gdS_d, gdS_b, sFor, gNm, gcS_c, gcS_n, gcO_d, gcO_n, mapp, rcv_0, rcv_1, rcv_l, gcO_r0, gcO_r1, gcO_z, seal_d, eq_self, List.take_nil, List.cons_append, poSl, poI, poNo, slD_t, intO_i, list_t, list_l, in_str2, ofS_inj, String.reduceEq, or_false, false_or, or_true, true_or, or_self, decide_true, decide_false, Bool.not_true, Bool.not_false, at_m1_2, at_m1_3, cut_2, cut_3, all_bls, any_bls, count_bls]
                exact hR
              · simp only [sSeq, sIf, sSet, sSub, sRet, sRetN, sNil, sDrop, sAsg, sPar, sParT, sAug, cP, bB, bTr, bNt, bAn, bOr, po1, po2, poN, pArgs, poIf, poAn, poOr, poNt, poTup, plLst, plN, pl2, pl1, pFz, pV, pC, eP, eo1, eo2, eoN, aP, aNil, aCons, eAn, eOr, eNt, eIf, eFz, eNw, fP, fN, f2, f1, tTupE, tLstF, tTr, tTb, tAn, tOrr, tNt, tYs, eSeal, eMt, poMt, mPure, eCh, pCh, ok_bind, ok_map, ok_some, ok_none, ok_gd, ok_ite, List.getElem?_cons_zero, List.getElem?_cons_succ, List.set_cons_zero, List.set_cons_succ, Option.join_some, Option.bind_some, Option.map_some, Option.bind_none, Option.map_none, ix_ref, ix_tup, ix_lst, ix_bor, ix_scr, add_int, add_str, add_tup, sub_int, mul_int, fdiv_int, mod_int, pow_int, neg_int, lt_int, le_int, gt_int, ge_int, eq_int, eq_str, eq_bl, ne_int, ne_str, ne_bl, is_bl, isnt_bl, is_non, isnt_non, len_tup, len_lst, len_ref, len_bor, len_scr, int_bl, int_int, abs_int, min_int, max_int, blD_bl, cell_lst, st_ref, at_0, at_1, at_2, at_3, at_4, ixN_10, ixN_20, ixN_21, ixN_30, ixN_31, ixN_32, dataS_d, datas_nil, datas_cons, truth_bl, notD, intS, blS, nonB, List.length_cons, List.length_nil, Nat.reduceAdd, endsF_rt, endsF_nx, rvQ_d, rvQ_new, rv_d, rv_ref, okRef_d, okRef_ref, List.not_mem_nil, List.nil_append, true_and, and_true, List.take_succ_cons, List.take_zero, Nat.zero_add, decide_eq_true_eq, Bool.false_eq_true, if_false, if_true, callS, handS_n, handS_tr, handS_fr, handS_fd, handS_fb, cellsAt_c, cellsAt_0, Option.getD_some, backS_0, backS_1, eCall, tup_lst, tup_tup, tup_ref, fLc, iRg, rng_1, rng_2, wipeS_c, wipeS_n, iPq, iSq, seq_tup, seq_lst, seq_bor, lst_lst, lst_bor, gdS_d, gdS_b, sFor, gNm, gcS_c, gcS_n, gcO_d, gcO_n, mapp, rcv_0, rcv_1, rcv_l, gcO_r0, gcO_r1, gcO_z, seal_d, eq_self, List.take_nil, List.cons_append, poSl, poI, poNo, slD_t, intO_i, list_t, list_l, in_str2, ofS_inj, String.reduceEq, or_false, false_or, or_true, true_or, or_self, decide_true, decide_false, Bool.not_true, Bool.not_false, at_m1_2, at_m1_3, cut_2, cut_3, all_bls, any_bls, count_bls, all_true']
                exact k3 _ _ ⟨r, ds3, _, _, _, _, _, rfl, fun c' hc' => hc3 c' (List.mem_cons_of_mem _ hc'), rfl, rfl, t3⟩
        · rintro x2 rest2 acc M R ⟨cs, ds2, rfl, rfl, hc, hl, t2⟩ k2
          simp only [List.length_cons] at hl
          refine ⟨trivial, ?_⟩
          simp only [sSeq, sIf, sSet, sSub, sRet, sRetN, sNil, sDrop, sAsg, sPar, sParT, sAug, cP, bB, bTr, bNt, bAn, bOr, po1, po2, poN, pArgs, poIf, poAn, poOr, poNt, poTup, plLst, plN, pl2, pl1, pFz, pV, pC, eP, eo1, eo2, eoN, aP, aNil, aCons, eAn, eOr, eNt, eIf, eFz, eNw, fP, fN, f2, f1, tTupE, tLstF, tTr, tTb, tAn, tOrr, tNt, tYs, eSeal, eMt, poMt, mPure, eCh, pCh, ok_bind, ok_map, ok_some, ok_none, ok_gd, ok_ite, List.getElem?_cons_zero, List.getElem?_cons_succ, List.set_cons_zero, List.set_cons_succ, Option.join_some, Option.bind_some, Option.map_some, Option.bind_none, Option.map_none, ix_ref, ix_tup, ix_lst, ix_bor, ix_scr, add_int, add_str, add_tup, sub_int, mul_int, fdiv_int, mod_int, pow_int, neg_int, lt_int, le_int, gt_int, ge_int, eq_int, eq_str, eq_bl, ne_int, ne_str, ne_bl, is_bl, isnt_bl, is_non, isnt_non, len_tup, len_lst, len_ref, len_bor, len_scr, int_bl, int_int, abs_int, min_int, max_int, blD_bl, cell_lst, st_ref, at_0, at_1, at_2, at_3, at_4, ixN_10, ixN_20, ixN_21, ixN_30, ixN_31, ixN_32, dataS_d, datas_nil, datas_cons, truth_bl, notD, intS, blS, nonB, List.length_cons, List.length_nil, Nat.reduceAdd, endsF_rt, endsF_nx, rvQ_d, rvQ_new, rv_d, rv_ref, okRef_d, okRef_ref, List.not_mem_nil, List.nil_append, true_and, and_true, List.take_succ_cons, List.take_zero, Nat.zero_add, decide_eq_true_eq, Bool.false_eq_true, if_false, if_true, callS, handS_n, handS_tr, handS_fr, handS_fd, handS_fb, cellsAt_c, cellsAt_0, Option.getD_some, backS_0, backS_1, eCall, tup_lst, tup_tup, tup_ref, fLc, iRg, rng_1, rng_2, wipeS_c, wipeS_n, iPq, iSq, seq_tup, seq_lst, seq_bor, lst_lst, lst_bor, gdS_d, gdS_b, sFor, gNm, gcS_c, gcS_n, gcO_d, gcO_n, mapp, rcv_0, rcv_1, rcv_l, gcO_r0, gcO_r1, gcO_z, seal_d, eq_self, List.take_nil, List.cons_append, poSl, poI, poNo, slD_t, intO_i, list_t, list_l, in_str2, ofS_inj, String.reduceEq, or_false, false_or, or_true, true_or, or_self, decide_true, decide_false, Bool.not_true, Bool.not_false, at_m1_2, at_m1_3, cut_2, cut_3, all_bls, any_bls, count_bls]
          refine ⟨ds2, n, 3 + 300 * cs.length, rfl, rfl, t2, by omega, by omega, fun c ds3 h1 h2 t3 => ?_⟩
          simp only [sSeq, sIf, sSet, sSub, sRet, sRetN, sNil, sDrop, sAsg, sPar, sParT, sAug, cP, bB, bTr, bNt, bAn, bOr, po1, po2, poN, pArgs, poIf, poAn, poOr, poNt, poTup, plLst, plN, pl2, pl1, pFz, pV, pC, eP, eo1, eo2, eoN, aP, aNil, aCons, eAn, eOr, eNt, eIf, eFz, eNw, fP, fN, f2, f1, tTupE, tLstF, tTr, tTb, tAn, tOrr, tNt, tYs, eSeal, eMt, poMt, mPure, eCh, pCh, ok_bind, ok_map, ok_some, ok_none, ok_gd, ok_ite, List.getElem?_cons_zero, List.getElem?_cons_succ, List.set_cons_zero, List.set_cons_succ, Option.join_some, Option.bind_some, Option.map_some, Option.bind_none, Option.map_none, ix_ref, ix_tup, ix_lst, ix_bor, ix_scr, add_int, add_str, add_tup, sub_int, mul_int, fdiv_int, mod_int, pow_int, neg_int, lt_int, le_int, gt_int, ge_int, eq_int, eq_str, eq_bl, ne_int, ne_str, ne_bl, is_bl, isnt_bl, is_non, isnt_non, len_tup, len_lst, len_ref, len_bor, len_scr, int_bl, int_int, abs_int, min_int, max_int, blD_bl, cell_lst, st_ref, at_0, at_1, at_2, at_3, at_4, ixN_10, ixN_20, ixN_21, ixN_30, ixN_31, ixN_32, dataS_d, datas_nil, datas_cons, truth_bl, notD, intS, blS, nonB, List.length_cons, List.length_nil, Nat.reduceAdd, endsF_rt, endsF_nx, rvQ_d, rvQ_new, rv_d, rv_ref, okRef_d, okRef_ref, List.not_mem_nil, List.nil_append, true_and, and_true, List.take_succ_cons, List.take_zero, Nat.zero_add, decide_eq_true_eq, Bool.false_eq_true, if_false, if_true, callS, handS_n, handS_tr, handS_fr, handS_fd, handS_fb, cellsAt_c, cellsAt_0, Option.getD_some, backS_0, backS_1, eCall, tup_lst, tup_tup, tup_ref, fLc, iRg, rng_1, rng_2, wipeS_c, wipeS_n, iPq, iSq, seq_tup, seq_lst, seq_bor, lst_lst, lst_bor, gdS_d, gdS_b, sFor, gNm, gcS_c, gcS_n, gcO_d, gcO_n, mapp, rcv_0, rcv_1, rcv_l, gcO_r0, gcO_r1, gcO_z, seal_d, eq_self, List.take_nil, List.cons_append, poSl, poI, poNo, slD_t, intO_i, list_t, list_l, in_str2, ofS_inj, String.reduceEq, or_false, false_or, or_true, true_or, or_self, decide_true, decide_false, Bool.not_true, Bool.not_false, at_m1_2, at_m1_3, cut_2, cut_3, all_bls, any_bls, count_bls]
          refine k2 (cD c) _ ⟨cs ++ [c], ds3, by rw [cDs_app]; rfl, rfl, fun c' hc' => ?_, by simp; omega, t3.mono (by simp; omega)⟩
          rcases List.mem_append.mp hc' with h | h
          · exact hc c' h
          · simp only [List.mem_singleton] at h; subst h; exact ⟨h1, h2⟩
    · rintro x rest δ M nx ⟨hx, o1, o2, o4, o6, rfl, rfl⟩ k
      obtain ⟨m, rfl, hm⟩ := hx x List.mem_cons_self
      refine ⟨trivial, ?_⟩
      simp only [sSeq, sIf, sSet, sSub, sRet, sRetN, sNil, sDrop, sAsg, sPar, sParT, sAug, cP, bB, bTr, bNt, bAn, bOr, po1, po2, poN, pArgs, poIf, poAn, poOr, poNt, poTup, plLst, plN, pl2, pl1, pFz, pV, pC, eP, eo1, eo2, eoN, aP, aNil, aCons, eAn, eOr, eNt, eIf, eFz, eNw, fP, fN, f2, f1, tTupE, tLstF, tTr, tTb, tAn, tOrr, tNt, tYs, eSeal, eMt, poMt, mPure, eCh, pCh, ok_bind, ok_map, ok_some, ok_none, ok_gd, ok_ite, List.getElem?_cons_zero, List.getElem?_cons_succ, List.set_cons_zero, List.set_cons_succ, Option.join_some, Option.bind_some, Option.map_some, Option.bind_none, Option.map_none, ix_ref, ix_tup, ix_lst, ix_bor, ix_scr, add_int, add_str, add_tup, sub_int, mul_int, fdiv_int, mod_int, pow_int, neg_int, lt_int, le_int, gt_int, ge_int, eq_int, eq_str, eq_bl, ne_int, ne_str, ne_bl, is_bl, isnt_bl, is_non, isnt_non, len_tup, len_lst, len_ref, len_bor, len_scr, int_bl, int_int, abs_int, min_int, max_int, blD_bl, cell_lst, st_ref, at_0, at_1, at_2, at_3, at_4, ixN_10, ixN_20, ixN_21, ixN_30, ixN_31, ixN_32, dataS_d, datas_nil, datas_cons, truth_bl, notD, intS, blS, nonB, List.length_cons, List.length_nil, Nat.reduceAdd, endsF_rt, endsF_nx, rvQ_d, rvQ_new, rv_d, rv_ref, okRef_d, okRef_ref, List.not_mem_nil, List.nil_append, true_and, and_true, List.take_succ_cons, List.take_zero, Nat.zero_add, decide_eq_true_eq, Bool.false_eq_true, if_false, if_true, callS, handS_n, handS_tr, handS_fr, handS_fd, handS_fb, cellsAt_c, cellsAt_0, Option.getD_some, backS_0, backS_1, eCall, tup_lst, tup_tup, tup_ref, fLc, iRg, rng_1, rng_2, wipeS_c, wipeS_n, iPq, iSq, seq_tup, seq_lst, seq_bor, lst_lst, lst_bor, gdS_d, gdS_b, sFor, gNm, gcS_c, gcS_n, gcO_d, gcO_n, mapp, rcv_0, rcv_1, rcv_l, gcO_r0, gcO_r1, gcO_z, seal_d, eq_self, List.take_nil, List.cons_append, poSl, poI, poNo, slD_t, intO_i, list_t, list_l, in_str2, ofS_inj, String.reduceEq, or_false, false_or, or_true, true_or, or_self, decide_true, decide_false, Bool.not_true, Bool.not_false, at_m1_2, at_m1_3, cut_2, cut_3, all_bls, any_bls, count_bls]
      refine ⟨⟨by decide, by decide⟩, fun _ => by rw [rgL_len, sizeLine_eq]; decide, ?_⟩
      refine lc_map (f := nmF) trivial (fun d hd R hR => ?_) ?_
      · unfold rgL at hd
        obtain ⟨i, hi, rfl⟩ := List.mem_map.mp hd
        simp only [sSeq, sIf, sSet, sSub, sRet, sRetN, sNil, sDrop, sAsg, sPar, sParT, sAug, cP, bB, bTr, bNt, bAn, bOr, po1, po2, poN, pArgs, poIf, poAn, poOr, poNt, poTup, plLst, plN, pl2, pl1, pFz, pV, pC, eP, eo1, eo2, eoN, aP, aNil, aCons, eAn, eOr, eNt, eIf, eFz, eNw, fP, fN, f2, f1, tTupE, tLstF, tTr, tTb, tAn, tOrr, tNt, tYs, eSeal, eMt, poMt, mPure, eCh, pCh, ok_bind, ok_map, ok_some, ok_none, ok_gd, ok_ite, List.getElem?_cons_zero, List.getElem?_cons_succ, List.set_cons_zero, List.set_cons_succ, Option.join_some, Option.bind_some, Option.map_some, Option.bind_none, Option.map_none, ix_ref, ix_tup, ix_lst, ix_bor, ix_scr, add_int, add_str, add_tup, sub_int, mul_int, fdiv_int, mod_int, pow_int, neg_int, lt_int, le_int, gt_int, ge_int, eq_int, eq_str, eq_bl, ne_int, ne_str, ne_bl, is_bl, isnt_bl, is_non, isnt_non, len_tup, len_lst, len_ref, len_bor, len_scr, int_bl, int_int, abs_int, min_int, max_int, blD_bl, cell_lst, st_ref, at_0, at_1, at_2, at_3, at_4, ixN_10, ixN_20, ixN_21, ixN_30, ixN_31, ixN_32, dataS_d, datas_nil, datas_cons, truth_bl, notD, intS, blS, nonB, List.length_cons, List.length_nil, Nat.reduceAdd, endsF_rt, endsF_nx, rvQ_d, rvQ_new, rv_d, rv_ref, okRef_d, okRef_ref, List.not_mem_nil, List.nil_append, true_and, and_true, List.take_succ_cons, List.take_zero, Nat.zero_add, decide_eq_true_eq, Bool.false_eq_true, if_false, if_true, callS, handS_n, handS_tr, handS_fr, handS_fd, handS_fb, cellsAt_c, cellsAt_0, Option.getD_some, backS_0, backS_1, eCall, tup_lst, tup_tup, tup_ref, fLc, iRg, rng_1, rng_2, wipeS_c, wipeS_n, iPq, iSq, seq_tup, seq_lst, seq_bor, lst_lst, lst_bor, gdS_d, gdS_b, sFor, gNm, gcS_c, gcS_n, gcO_d, gcO_n, mapp, rcv_0, rcv_1, rcv_l, gcO_r0, gcO_r1, gcO_z, seal_d, eq_self, List.take_nil, List.cons_append, poSl, poI, poNo, slD_t, intO_i, list_t, list_l, in_str2, ofS_inj, String.reduceEq, or_false, false_or, or_true, true_or, or_self, decide_true, decide_false, Bool.not_true, Bool.not_false, at_m1_2, at_m1_3, cut_2, cut_3, all_bls, any_bls, count_bls]
        exact ⟨by decide, hR⟩
      · rw [show rgL 0 (Int.toNat 40) = (List.range 40).map (fun i => D.int (0 + (i : Nat))) from rfl, nmF_eq]
        refine ⟨1, by decide, .least m (nmL (List.range 40)), [true, false], rfl, rfl, ⟨by simp [nmL]; omega, nmL_ok _⟩, ?_⟩
        simp only [Cm.hv, nm40, sSeq, sIf, sSet, sSub, sRet, sRetN, sNil, sDrop, sAsg, sPar, sParT, sAug, cP, bB, bTr, bNt, bAn, bOr, po1, po2, poN, pArgs, poIf, poAn, poOr, poNt, poTup, plLst, plN, pl2, pl1, pFz, pV, pC, eP, eo1, eo2, eoN, aP, aNil, aCons, eAn, eOr, eNt, eIf, eFz, eNw, fP, fN, f2, f1, tTupE, tLstF, tTr, tTb, tAn, tOrr, tNt, tYs, eSeal, eMt, poMt, mPure, eCh, pCh, ok_bind, ok_map, ok_some, ok_none, ok_gd, ok_ite, List.getElem?_cons_zero, List.getElem?_cons_succ, List.set_cons_zero, List.set_cons_succ, Option.join_some, Option.bind_some, Option.map_some, Option.bind_none, Option.map_none, ix_ref, ix_tup, ix_lst, ix_bor, ix_scr, add_int, add_str, add_tup, sub_int, mul_int, fdiv_int, mod_int, pow_int, neg_int, lt_int, le_int, gt_int, ge_int, eq_int, eq_str, eq_bl, ne_int, ne_str, ne_bl, is_bl, isnt_bl, is_non, isnt_non, len_tup, len_lst, len_ref, len_bor, len_scr, int_bl, int_int, abs_int, min_int, max_int, blD_bl, cell_lst, st_ref, at_0, at_1, at_2, at_3, at_4, ixN_10, ixN_20, ixN_21, ixN_30, ixN_31, ixN_32, dataS_d, datas_nil, datas_cons, truth_bl, notD, intS, blS, nonB, List.length_cons, List.length_nil, Nat.reduceAdd, endsF_rt, endsF_nx, rvQ_d, rvQ_new, rv_d, rv_ref, okRef_d, okRef_ref, List.not_mem_nil, List.nil_append, true_and, and_true, List.take_succ_cons, List.take_zero, Nat.zero_add, decide_eq_true_eq, Bool.false_eq_true, if_false, if_true, callS, handS_n, handS_tr, handS_fr, handS_fd, handS_fb, cellsAt_c, cellsAt_0, Option.getD_some, backS_0, backS_1, eCall, tup_lst, tup_tup, tup_ref, fLc, iRg, rng_1, rng_2, wipeS_c, wipeS_n, iPq, iSq, seq_tup, seq_lst, seq_bor, lst_lst, lst_bor, gdS_d, gdS_b, sFor, gNm, gcS_c, gcS_n, gcO_d, gcO_n, mapp, rcv_0, rcv_1, rcv_l, gcO_r0, gcO_r1, gcO_z, seal_d, eq_self, List.take_nil, List.cons_append, poSl, poI, poNo, slD_t, intO_i, list_t, list_l, in_str2, ofS_inj, String.reduceEq, or_false, false_or, or_true, true_or, or_self, decide_true, decide_false, Bool.not_true, Bool.not_false, at_m1_2, at_m1_3, cut_2, cut_3, all_bls, any_bls, count_bls]
        refine ⟨_, _, rfl, rfl, ?_⟩
        have e : (decide (m ≤ 20) == decide ((m : Int) < 21)) = true := by
          rw [beq_iff_eq, Bool.eq_iff_iff]; simp; omega
        rw [e]
        simp only [sSeq, sIf, sSet, sSub, sRet, sRetN, sNil, sDrop, sAsg, sPar, sParT, sAug, cP, bB, bTr, bNt, bAn, bOr, po1, po2, poN, pArgs, poIf, poAn, poOr, poNt, poTup, plLst, plN, pl2, pl1, pFz, pV, pC, eP, eo1, eo2, eoN, aP, aNil, aCons, eAn, eOr, eNt, eIf, eFz, eNw, fP, fN, f2, f1, tTupE, tLstF, tTr, tTb, tAn, tOrr, tNt, tYs, eSeal, eMt, poMt, mPure, eCh, pCh, ok_bind, ok_map, ok_some, ok_none, ok_gd, ok_ite, List.getElem?_cons_zero, List.getElem?_cons_succ, List.set_cons_zero, List.set_cons_succ, Option.join_some, Option.bind_some, Option.map_some, Option.bind_none, Option.map_none, ix_ref, ix_tup, ix_lst, ix_bor, ix_scr, add_int, add_str, add_tup, sub_int, mul_int, fdiv_int, mod_int, pow_int, neg_int, lt_int, le_int, gt_int, ge_int, eq_int, eq_str, eq_bl, ne_int, ne_str, ne_bl, is_bl, isnt_bl, is_non, isnt_non, len_tup, len_lst, len_ref, len_bor, len_scr, int_bl, int_int, abs_int, min_int, max_int, blD_bl, cell_lst, st_ref, at_0, at_1, at_2, at_3, at_4, ixN_10, ixN_20, ixN_21, ixN_30, ixN_31, ixN_32, dataS_d, datas_nil, datas_cons, truth_bl, notD, intS, blS, nonB, List.length_cons, List.length_nil, Nat.reduceAdd, endsF_rt, endsF_nx, rvQ_d, rvQ_new, rv_d, rv_ref, okRef_d, okRef_ref, List.not_mem_nil, List.nil_append, true_and, and_true, List.take_succ_cons, List.take_zero, Nat.zero_add, decide_eq_true_eq, Bool.false_eq_true, if_false, if_true, callS, handS_n, handS_tr, handS_fr, handS_fd, handS_fb, cellsAt_c, cellsAt_0, Option.getD_some, backS_0, backS_1, eCall, tup_lst, tup_tup, tup_ref, fLc, iRg, rng_1, rng_2, wipeS_c, wipeS_n, iPq, iSq, seq_tup, seq_lst, seq_bor, lst_lst, lst_bor, gdS_d, gdS_b, sFor, gNm, gcS_c, gcS_n, gcO_d, gcO_n, mapp, rcv_0, rcv_1, rcv_l, gcO_r0, gcO_r1, gcO_z, seal_d, eq_self, List.take_nil, List.cons_append, poSl, poI, poNo, slD_t, intO_i, list_t, list_l, in_str2, ofS_inj, String.reduceEq, or_false, false_or, or_true, true_or, or_self, decide_true, decide_false, Bool.not_true, Bool.not_false, at_m1_2, at_m1_3, cut_2, cut_3, all_bls, any_bls, count_bls]
        exact k _ _ ⟨fun d hd => hx d (List.mem_cons_of_mem _ hd), _, _, _, _, rfl, rfl⟩
  · rintro x rest δ M nx ⟨j, o1, rfl, rfl, hj⟩ k
    simp only [List.length_cons] at hj
    refine ⟨trivial, ?_⟩
    simp only [sSeq, sIf, sSet, sSub, sRet, sRetN, sNil, sDrop, sAsg, sPar, sParT, sAug, cP, bB, bTr, bNt, bAn, bOr, po1, po2, poN, pArgs, poIf, poAn, poOr, poNt, poTup, plLst, plN, pl2, pl1, pFz, pV, pC, eP, eo1, eo2, eoN, aP, aNil, aCons, eAn, eOr, eNt, eIf, eFz, eNw, fP, fN, f2, f1, tTupE, tLstF, tTr, tTb, tAn, tOrr, tNt, tYs, eSeal, eMt, poMt, mPure, eCh, pCh, ok_bind, ok_map, ok_some, ok_none, ok_gd, ok_ite, List.getElem?_cons_zero, List.getElem?_cons_succ, List.set_cons_zero, List.set_cons_succ, Option.join_some, Option.bind_some, Option.map_some, Option.bind_none, Option.map_none, ix_ref, ix_tup, ix_lst, ix_bor, ix_scr, add_int, add_str, add_tup, sub_int, mul_int, fdiv_int, mod_int, pow_int, neg_int, lt_int, le_int, gt_int, ge_int, eq_int, eq_str, eq_bl, ne_int, ne_str, ne_bl, is_bl, isnt_bl, is_non, isnt_non, len_tup, len_lst, len_ref, len_bor, len_scr, int_bl, int_int, abs_int, min_int, max_int, blD_bl, cell_lst, st_ref, at_0, at_1, at_2, at_3, at_4, ixN_10, ixN_20, ixN_21, ixN_30, ixN_31, ixN_32, dataS_d, datas_nil, datas_cons, truth_bl, notD, intS, blS, nonB, List.length_cons, List.length_nil, Nat.reduceAdd, endsF_rt, endsF_nx, rvQ_d, rvQ_new, rv_d, rv_ref, okRef_d, okRef_ref, List.not_mem_nil, List.nil_append, true_and, and_true, List.take_succ_cons, List.take_zero, Nat.zero_add, decide_eq_true_eq, Bool.false_eq_true, if_false, if_true, callS, handS_n, handS_tr, handS_fr, handS_fd, handS_fb, cellsAt_c, cellsAt_0, Option.getD_some, backS_0, backS_1, eCall, tup_lst, tup_tup, tup_ref, fLc, iRg, rng_1, rng_2, wipeS_c, wipeS_n, iPq, iSq, seq_tup, seq_lst, seq_bor, lst_lst, lst_bor, gdS_d, gdS_b, sFor, gNm, gcS_c, gcS_n, gcO_d, gcO_n, mapp, rcv_0, rcv_1, rcv_l, gcO_r0, gcO_r1, gcO_z, seal_d, eq_self, List.take_nil, List.cons_append, poSl, poI, poNo, slD_t, intO_i, list_t, list_l, in_str2, ofS_inj, String.reduceEq, or_false, false_or, or_true, true_or, or_self, decide_true, decide_false, Bool.not_true, Bool.not_false, at_m1_2, at_m1_3, cut_2, cut_3, all_bls, any_bls, count_bls]
    refine k _ _ ⟨j + 1, some (.d x), ?_, rfl, by omega⟩
    simp only [sSeq, sIf, sSet, sSub, sRet, sRetN, sNil, sDrop, sAsg, sPar, sParT, sAug, cP, bB, bTr, bNt, bAn, bOr, po1, po2, poN, pArgs, poIf, poAn, poOr, poNt, poTup, plLst, plN, pl2, pl1, pFz, pV, pC, eP, eo1, eo2, eoN, aP, aNil, aCons, eAn, eOr, eNt, eIf, eFz, eNw, fP, fN, f2, f1, tTupE, tLstF, tTr, tTb, tAn, tOrr, tNt, tYs, eSeal, eMt, poMt, mPure, eCh, pCh, ok_bind, ok_map, ok_some, ok_none, ok_gd, ok_ite, List.getElem?_cons_zero, List.getElem?_cons_succ, List.set_cons_zero, List.set_cons_succ, Option.join_some, Option.bind_some, Option.map_some, Option.bind_none, Option.map_none, ix_ref, ix_tup, ix_lst, ix_bor, ix_scr, add_int, add_str, add_tup, sub_int, mul_int, fdiv_int, mod_int, pow_int, neg_int, lt_int, le_int, gt_int, ge_int, eq_int, eq_str, eq_bl, ne_int, ne_str, ne_bl, is_bl, isnt_bl, is_non, isnt_non, len_tup, len_lst, len_ref, len_bor, len_scr, int_bl, int_int, abs_int, min_int, max_int, blD_bl, cell_lst, st_ref, at_0, at_1, at_2, at_3, at_4, ixN_10, ixN_20, ixN_21, ixN_30, ixN_31, ixN_32, dataS_d, datas_nil, datas_cons, truth_bl, notD, intS, blS, nonB, List.length_cons, List.length_nil, Nat.reduceAdd, endsF_rt, endsF_nx, rvQ_d, rvQ_new, rv_d, rv_ref, okRef_d, okRef_ref, List.not_mem_nil, List.nil_append, true_and, and_true, List.take_succ_cons, List.take_zero, Nat.zero_add, decide_eq_true_eq, Bool.false_eq_true, if_false, if_true, callS, handS_n, handS_tr, handS_fr, handS_fd, handS_fb, cellsAt_c, cellsAt_0, Option.getD_some, backS_0, backS_1, eCall, tup_lst, tup_tup, tup_ref, fLc, iRg, rng_1, rng_2, wipeS_c, wipeS_n, iPq, iSq, seq_tup, seq_lst, seq_bor, lst_lst, lst_bor, gdS_d, gdS_b, sFor, gNm, gcS_c, gcS_n, gcO_d, gcO_n, mapp, rcv_0, rcv_1, rcv_l, gcO_r0, gcO_r1, gcO_z, seal_d, eq_self, List.take_nil, List.cons_append, poSl, poI, poNo, slD_t, intO_i, list_t, list_l, in_str2, ofS_inj, String.reduceEq, or_false, false_or, or_true, true_or, or_self, decide_true, decide_false, Bool.not_true, Bool.not_false, at_m1_2, at_m1_3, cut_2, cut_3, all_bls, any_bls, count_bls, nots, cD]
end VL
set_option Elab.async false
set_option linter.all false
set_option maxRecDepth 100000
set_option maxHeartbeats 400000
namespace VL
open PySem PySem.Spec PyProof.Rows L2
theorem Ca.imp {P : Program} {w : World} {K : PySem.W.Frag} {mg : Str → Option Value} {base : Heap} {k n : Nat} {x : Str} {sp sp' : SpD} (c : Ca P w K mg base k x n sp) (h : ∀ as M Q, sp' as M Q → sp as M Q) : Ca P w K mg base k x n sp' := by
  obtain ⟨f, fd, ps, F, hm, kp, b⟩ := c.ex
  have up : ∀ vs H Q E, lP K n sp' vs H Q E → lP K n sp vs H Q E := fun vs H Q E ⟨as, M, i0, B, Q0, a1, a2, a3, a4, a5, a6⟩ => ⟨as, M, i0, B, Q0, a1, a2, a3, a4, h _ _ _ a5, a6⟩
  exact ⟨f, fd, ps, ⟨fun vs H Q E q => F.len vs H Q E (up _ _ _ _ q), fun A outer s H args us vs Q E hr he hb hv hs => F.run A outer s H args us vs Q E hr he hb hv (up _ _ _ _ hs)⟩, hm, kp, b⟩
theorem fg_of {P : Program} {w : World} {K : PySem.W.Frag} {mg : Str → Option Value} {base : Heap} {x qual : Str} {params : Arguments} {body : List Stmt} {scope : Scope} {f : Addr} {fd : FuncData} {Ns ps : List Str} {k m0 : Nat} {sp : SpD} {t : TS'}
    (F : FunD K x qual params body scope [] [] f fd) (S : FnScope Ns ps scope) (hm0 : ∀ as M Q0, sp as M Q0 → M.length = m0)
    (hb : ∀ (cdv : Value) (A : Around) (outer : List Env) (s : Shared) (H : Hp) (E : XK) (G : Gd), RoomG k (A.deeper (PyProof.Rows.envOfC qual scope s.heap.objs.size f cdv)) → G.i0.length = m0 → VSs (cxOf C8.CX0 P w K mg base Ns qual scope f cdv A outer s H E).nox G body t)
    (hp : ∀ as M Q0, as.length = ps.length → sp as M Q0 → t (endsF M.length Q0) (startD Ns.length as) M) : FnG P w K mg base C8.CX0 (k + 1) f fd ps (lP K ps.length sp) := by
  refine fn_g F S (fun vs H Q E ⟨as, M, i0, B, Q0, hn, hB, ra, h⟩ => by rw [← ra.length, hn]) fun cdv A outer s H vs Q E hr h => ?_
  obtain ⟨t', h1, h2⟩ := body_ok (X := (cxOf C8.CX0 P w K mg base Ns qual scope f cdv A outer s H E).nox) (Ns := Ns) m0 rfl (fun G hG => hb cdv A outer s H E G hr hG) hm0 hp h
  exact ⟨t', h1.nox, h2⟩
/-- the law's own promise, of a script -/
theorem lawSp {K : PySem.W.Frag} {H : Hp} {a : Addr} {ns : List Int} (hl : ns.length ≤ 63) (hO : Only H) (hS : SqL K H a (ns.map V.int)) : lP K 1 sp_law [.ref a] H (fun v _ => v = .bl true) fun _ _ _ => False := by
  have hs : RD K (NB fun _ => False) H [] (.scr ns) (.ref a) := by
    refine ⟨a, rfl, ?_, by rw [sizeLine_eq]; omega⟩
    rcases hS with (h | ⟨o, h⟩) | h
    · rcases hO a with z | ⟨o, xs, z⟩
      · rw [z] at h; cases h
      · rw [z] at h; cases h
    · exact .inl ⟨o, h, by simp⟩
    · exact .inr h
  refine ⟨[.d (.scr ns)], [], [], fun _ => False, fun r _ => r = .d (.bl true), rfl, fun _ h => h.elim, ⟨_, _, rfl, hs, rfl⟩, ⟨rfl, fun n m b h => by simp at h, fun n c b h => by simp at h, fun n h => by simp at h⟩, ⟨ns, rfl, rfl, hl, rfl⟩, ?_⟩
  rintro r M' v H' rfl ⟨h, _⟩
  exact h
end VL
set_option Elab.async false
set_option linter.all false
set_option maxRecDepth 100000
set_option maxHeartbeats 1000000
namespace Zk03
open PySem PySem.Spec L2 RT RZ VL
def top (i : Nat) : Stmt := PySem.Challenge.pw_countforms_k03_what_holds.main.body.getD i (.Pass ⟨0, 0, 0, 0⟩)
def c_PLAIN : D := (.tup [(.str "yes"), (.str "no")])
abbrev s_inner_claims : Stmt := top 2
def N_inner_claims : List Str := ["claim"]
def t_inner_claims  : TS' :=
  (sSeq (sIf (cP (bOr (bB (po2 inD (po2 ixD (pV 0) (pC (.int 0))) (pC c_PLAIN))) (bB (po2 eqD (po2 ixD (pV 0) (pC (.int 0))) (pC (.str "name"))))))
  (sRet (eNw (fP (plLst []))))
  sNil)
  (sSeq (sIf (cP (bB (po2 inD (po2 ixD (pV 0) (pC (.int 0))) (poTup [(pC (.str "not")), (pC (.str "same"))]))))
  (sRet (eNw (fP (plN listF [(poSl (pV 0) (poI (pC (.int 1))) poNo)]))))
  sNil)
  (sRet (eNw (fP (plN listF [(po2 ixD (pV 0) (po1 negD (pC (.int 1))))]))))))
theorem nd_inner_claims : N_inner_claims.Nodup := by decide
theorem sc_inner_claims : FnScope N_inner_claims ["claim"] (defScope s_inner_claims) := C8.fnScope_by (by decide +kernel)
theorem d_inner_claims {P : Program} {w : World} {K : PySem.W.Frag} {mg : Str → Option Value} {base : Heap} {f : Addr} {k : Nat} (m_list : mg "list" = none) {u_PLAIN : Value} (hm_PLAIN : mg "PLAIN" = some u_PLAIN) (kv_PLAIN : KV K c_PLAIN u_PLAIN) :
    ∀ (cdv : Value) (A : Around) (outer : List Env) (s : Shared) (H : Hp) (E : XK) (G : Gd), RoomG k (A.deeper (PyProof.Rows.envOfC "inner_claims" (defScope s_inner_claims) s.heap.objs.size f cdv)) → G.i0.length = 0 →
      VSs (cxOf C8.CX0 P w K mg base N_inner_claims "inner_claims" (defScope s_inner_claims) f cdv A outer s H E).nox G (defBody s_inner_claims) (t_inner_claims ) := by
  intro cdv A outer s H E G hr hG
  have hU : ∀ n : Nat, n ≤ 200 → (A.deeper (PyProof.Rows.envOfC "inner_claims" (defScope s_inner_claims) s.heap.objs.size f cdv)).units + n < cLine := fun n hn => by have := hr.rm.un; omega
  exact (vss_cons (vs_if (VW.vt (VW.pOr (vw_or (VT.pureB2 (vt_cmp (op_inX (hU 65 (by decide))) rd_in (VE.pure2 (ve_idx (ve_v 0) ve_int)) (ve_glob rfl hm_PLAIN kv_PLAIN) rfl)) (vw_or1 (VT.pureB2 (vt_cmp (op_eqX (hU 64 (by decide))) rd_eq (VE.pure2 (ve_idx (ve_v 0) ve_int)) ve_str (nomark _))))))) (vss_one (vs_ret (VF.nw (VF.pLst (vf_lst va_p0))))) vss_nil)
  (vss_cons (vs_if (VT.pureB2 (vt_cmp (op_inX (hU 65 (by decide))) rd_in (VE.pure2 (ve_idx (ve_v 0) ve_int)) (VE.pTup (ve_tup (va_p ve_str (va_p ve_str va_p0)))) rfl)) (vss_one (vs_ret (VF.nw (VF.pN (vf_callTy call_list_of rd_list rfl m_list bt_list (va_p (ve_slice (ve_v 0) (vo_some ve_int) vo_none) va_p0)))))) vss_nil)
  (vss_one (vs_ret (VF.nw (VF.pN (vf_callTy call_list_of rd_list rfl m_list bt_list (va_p (VE.pure2 (ve_idx (ve_v 0) (VE.pure1 (ve_neg ve_int)))) va_p0))))))))
abbrev s_holds : Stmt := top 3
def N_holds : List Str := ["claim", "filling", "word", "held", "one"]
def t_holds (sp_inner_claims : SpD) (sp_holds : SpD) : TS' :=
  (sSeq (sSet 2 (eP (po2 ixD (pV 0) (pC (.int 0)))))
  (sSeq (sIf (cP (bB (po2 inD (pV 2) (pC c_PLAIN))))
  (sRet (eP (po2 eqD (pV 2) (pC (.str "yes")))))
  sNil)
  (sSeq (sIf (cP (bB (po2 eqD (pV 2) (pC (.str "name")))))
  (sRet (eP (po2 eqD (po2 ixD (pV 1) (po2 ixD (pV 0) (pC (.int 1)))) (pC (.int 1)))))
  sNil)
  (sSeq (sSet 3 (eFz (fLc (iSq (eSeal 0 (eCall [false] sp_inner_claims (aP [(pV 0)])))) (.nm 4) tYs (eCall [false, false] sp_holds (aP [(pV 4), (pV 1)])) [4])))
  (sSeq (sIf (cP (bB (po2 eqD (pV 2) (pC (.str "not")))))
  (sRet (eP (poNt (po2 ixD (pV 3) (pC (.int 0))))))
  sNil)
  (sSeq (sIf (cP (bB (po2 eqD (pV 2) (pC (.str "same")))))
  (sRet (eP (po2 eqD (po2 ixD (pV 3) (pC (.int 0))) (po2 ixD (pV 3) (pC (.int 1))))))
  sNil)
  (sSeq (sIf (cP (bB (po2 eqD (pV 2) (pC (.str "and")))))
  (sRet (eP (poN allD [(pV 3)])))
  sNil)
  (sSeq (sIf (cP (bB (po2 eqD (pV 2) (pC (.str "or")))))
  (sRet (eP (poN anyD [(pV 3)])))
  sNil)
  (sRet (eP (po2 geD (poMt "list" countD (pV 3) [(pC (.bl true))]) (po2 ixD (pV 0) (pC (.int 1))))))))))))))
theorem nd_holds : N_holds.Nodup := by decide
theorem sc_holds : FnScope N_holds ["claim", "filling"] (defScope s_holds) := C8.fnScope_by (by decide +kernel)
theorem d_holds {P : Program} {w : World} {K : PySem.W.Frag} {mg : Str → Option Value} {base : Heap} {f : Addr} {k : Nat} (m_all : mg "all" = none) (m_any : mg "any" = none) {u_PLAIN : Value} (hm_PLAIN : mg "PLAIN" = some u_PLAIN) (kv_PLAIN : KV K c_PLAIN u_PLAIN) {sp_inner_claims : SpD} {k_inner_claims : Nat} (ca_inner_claims : Ca P w K mg base k_inner_claims "inner_claims" 1 sp_inner_claims) (hk_inner_claims : k_inner_claims ≤ k) {sp_holds : SpD} {k_holds : Nat} (ca_holds : Ca P w K mg base k_holds "holds" 2 sp_holds) (hk_holds : k_holds ≤ k) :
    ∀ (cdv : Value) (A : Around) (outer : List Env) (s : Shared) (H : Hp) (E : XK) (G : Gd), RoomG k (A.deeper (PyProof.Rows.envOfC "holds" (defScope s_holds) s.heap.objs.size f cdv)) → G.i0.length = 0 →
      VSs (cxOf C8.CX0 P w K mg base N_holds "holds" (defScope s_holds) f cdv A outer s H E).nox G (defBody s_holds) (t_holds sp_inner_claims sp_holds) := by
  intro cdv A outer s H E G hr hG
  have hU : ∀ n : Nat, n ≤ 200 → (A.deeper (PyProof.Rows.envOfC "holds" (defScope s_holds) s.heap.objs.size f cdv)).units + n < cLine := fun n hn => by have := hr.rm.un; omega
  exact (vss_cons (vs_set nd_holds rfl (by first | exact Or.inl rfl | exact Or.inr rfl) (VE.pure2 (ve_idx (ve_v 0) ve_int)))
  (vss_cons (vs_if (VT.pureB2 (vt_cmp (op_inX (hU 65 (by decide))) rd_in (ve_v 2) (ve_glob rfl hm_PLAIN kv_PLAIN) rfl)) (vss_one (vs_ret (VE.pure2 (ve_cmp (op_eqX (hU 64 (by decide))) rd_eq (ve_v 2) ve_str (nomark _))))) vss_nil)
  (vss_cons (vs_if (VT.pureB2 (vt_cmp (op_eqX (hU 64 (by decide))) rd_eq (ve_v 2) ve_str (nomark _))) (vss_one (vs_ret (VE.pure2 (ve_cmp (op_eqX (hU 64 (by decide))) rd_eq (VE.pure2 (ve_idx (ve_v 1) (VE.pure2 (ve_idx (ve_v 0) ve_int)))) ve_int (nomark _))))) vss_nil)
  (vss_cons (vs_setLcF (own := [("one", 4)]) rfl nd_holds rfl rfl rfl (vi_sq (VE.seal hG (ve_call [false] ca_inner_claims hr hk_inner_claims rfl (va_p (ve_v 0) va_p0)))) (blkOk_by (show blkC N_holds (defScope s_holds) _ _ = true by decide +kernel)) (fun s H C cl fp => pg_name nd_holds rfl (by first | exact Or.inl rfl | exact Or.inr rfl) (.inr rfl)) (fun s H C cl fp G hG' => vts_nil) (fun s H C cl fp G hG' => (ve_call [false, false] ca_holds hr hk_holds rfl (va_p (ve_v 4) (va_p (ve_v 1) va_p0)))) (by decide))
  (vss_cons (vs_if (VT.pureB2 (vt_cmp (op_eqX (hU 64 (by decide))) rd_eq (ve_v 2) ve_str (nomark _))) (vss_one (vs_ret (VE.pNt (ve_not (VE.pure2 (ve_idx (ve_v 3) ve_int)))))) vss_nil)
  (vss_cons (vs_if (VT.pureB2 (vt_cmp (op_eqX (hU 64 (by decide))) rd_eq (ve_v 2) ve_str (nomark _))) (vss_one (vs_ret (VE.pure2 (ve_cmp (op_eqX (hU 64 (by decide))) rd_eq (VE.pure2 (ve_idx (ve_v 3) ve_int)) (VE.pure2 (ve_idx (ve_v 3) ve_int)) (nomark _))))) vss_nil)
  (vss_cons (vs_if (VT.pureB2 (vt_cmp (op_eqX (hU 64 (by decide))) rd_eq (ve_v 2) ve_str (nomark _))) (vss_one (vs_ret (VE.pureN (ve_callB (cr_all rfl) rd_all rfl m_all bt_all (va_p (ve_v 3) va_p0))))) vss_nil)
  (vss_cons (vs_if (VT.pureB2 (vt_cmp (op_eqX (hU 64 (by decide))) rd_eq (ve_v 2) ve_str (nomark _))) (vss_one (vs_ret (VE.pureN (ve_callB (cr_any rfl) rd_any rfl m_any bt_any (va_p (ve_v 3) va_p0))))) vss_nil)
  (vss_one (vs_ret (VE.pure2 (ve_cmp op_ge rd_ge (VE.pMt (ve_mt F.plainAttrs_list F.slot_list_count rfl (mt_countD (hU 65 (by decide))) rd_count (ve_v 3) (va_p ve_bl va_p0))) (VE.pure2 (ve_idx (ve_v 0) ve_int)) (nomark _)))))))))))))
abbrev s__law_cell_at : Stmt := top 5
def N__law_cell_at : List Str := ["_law_script", "_law_k"]
def t__law_cell_at  : TS' :=
  (sRet (eP (poIf (bB (po2 ltD (pV 1) (poN lenD [(pV 0)]))) (po2 ixD (pV 0) (pV 1)) (pC (.int 0)))))
theorem nd__law_cell_at : N__law_cell_at.Nodup := by decide
theorem sc__law_cell_at : FnScope N__law_cell_at ["_law_script", "_law_k"] (defScope s__law_cell_at) := C8.fnScope_by (by decide +kernel)
theorem d__law_cell_at {P : Program} {w : World} {K : PySem.W.Frag} {mg : Str → Option Value} {base : Heap} {f : Addr} {k : Nat} (m_len : mg "len" = none) :
    ∀ (cdv : Value) (A : Around) (outer : List Env) (s : Shared) (H : Hp) (E : XK) (G : Gd), RoomG k (A.deeper (PyProof.Rows.envOfC "_law_cell_at" (defScope s__law_cell_at) s.heap.objs.size f cdv)) → G.i0.length = 0 →
      VSs (cxOf C8.CX0 P w K mg base N__law_cell_at "_law_cell_at" (defScope s__law_cell_at) f cdv A outer s H E).nox G (defBody s__law_cell_at) (t__law_cell_at ) := by
  intro cdv A outer s H E G hr hG
  have hU : ∀ n : Nat, n ≤ 200 → (A.deeper (PyProof.Rows.envOfC "_law_cell_at" (defScope s__law_cell_at) s.heap.objs.size f cdv)).units + n < cLine := fun n hn => by have := hr.rm.un; omega
  exact (vss_one (vs_ret (VE.pIf (ve_if (VT.pureB2 (vt_cmp op_lt rd_lt (ve_v 1) (VE.pureN (ve_callB call_lenX rd_len rfl m_len bt_len (va_p (ve_v 0) va_p0))) (nomark _))) (VE.pure2 (ve_idx (ve_v 0) (ve_v 1))) ve_int))))
abbrev s__law_tape : Stmt := top 6
def N__law_tape : List Str := ["_law_script", "_law_k", "_law_cell"]
def t__law_tape (sp__law_cell_at : SpD) : TS' :=
  (sSeq (sSet 2 (eCall [false, false] sp__law_cell_at (aP [(pV 0), (pV 1)])))
  (sRet (eNw (fP (plLst [(po2 mulD (poN absD [(pV 2)]) (poN intD [(po2 geD (poN absD [(pV 2)]) (po2 powD (pC (.int 10)) (pC (.int 18))))])), (po2 modD (po2 mulD (po2 addD (po2 addD (po2 modD (pV 2) (pC (.int 2147483647))) (po2 mulD (po2 mulD (pC (.int 7753)) (pV 1)) (pV 1))) (pC (.int 41))) (pC (.int 48271))) (pC (.int 2147483629))), (pC (.int 0))])))))
theorem nd__law_tape : N__law_tape.Nodup := by decide
theorem sc__law_tape : FnScope N__law_tape ["_law_script", "_law_k"] (defScope s__law_tape) := C8.fnScope_by (by decide +kernel)
theorem d__law_tape {P : Program} {w : World} {K : PySem.W.Frag} {mg : Str → Option Value} {base : Heap} {f : Addr} {k : Nat} (m_abs : mg "abs" = none) (m_int : mg "int" = none) {sp__law_cell_at : SpD} {k__law_cell_at : Nat} (ca__law_cell_at : Ca P w K mg base k__law_cell_at "_law_cell_at" 2 sp__law_cell_at) (hk__law_cell_at : k__law_cell_at ≤ k) :
    ∀ (cdv : Value) (A : Around) (outer : List Env) (s : Shared) (H : Hp) (E : XK) (G : Gd), RoomG k (A.deeper (PyProof.Rows.envOfC "_law_tape" (defScope s__law_tape) s.heap.objs.size f cdv)) → G.i0.length = 0 →
      VSs (cxOf C8.CX0 P w K mg base N__law_tape "_law_tape" (defScope s__law_tape) f cdv A outer s H E).nox G (defBody s__law_tape) (t__law_tape sp__law_cell_at) := by
  intro cdv A outer s H E G hr hG
  have hU : ∀ n : Nat, n ≤ 200 → (A.deeper (PyProof.Rows.envOfC "_law_tape" (defScope s__law_tape) s.heap.objs.size f cdv)).units + n < cLine := fun n hn => by have := hr.rm.un; omega
  exact (vss_cons (vs_set nd__law_tape rfl (by first | exact Or.inl rfl | exact Or.inr rfl) (ve_call [false, false] ca__law_cell_at hr hk__law_cell_at rfl (va_p (ve_v 0) (va_p (ve_v 1) va_p0))))
  (vss_one (vs_ret (VF.nw (VF.pLst (vf_lst (va_p (VE.pure2 (ve_mul (VE.pureN (ve_callB call_abs rd_abs rfl m_abs bt_abs (va_p (ve_v 2) va_p0))) (VE.pureN (ve_callTy call_int1 rd_intC rfl m_int bt_int (va_p (VE.pure2 (ve_cmp op_ge rd_ge (VE.pureN (ve_callB call_abs rd_abs rfl m_abs bt_abs (va_p (ve_v 2) va_p0))) (VE.pure2 (ve_pow ve_int ve_int)) (nomark _))) va_p0))))) (va_p (VE.pure2 (ve_mod (VE.pure2 (ve_mul (VE.pure2 (ve_add (VE.pure2 (ve_add (VE.pure2 (ve_mod (ve_v 2) ve_int)) (VE.pure2 (ve_mul (VE.pure2 (ve_mul ve_int (ve_v 1))) (ve_v 1))))) ve_int)) ve_int)) ve_int)) (va_p ve_int va_p0)))))))))
abbrev s__law_take : Stmt := top 7
def N__law_take : List Str := ["_law_tape_here", "_law_many_here", "_law_prime", "_law_once", "_law_found"]
def t__law_take (sp__law_take : SpD) : TS' :=
  (sSeq (sIf (cP (bB (po2 gtD (po2 ixD (pV 0) (pC (.int 0))) (pC (.int 0)))))
  (sSeq (sSet 4 (eP (po2 modD (po2 ixD (pV 0) (pC (.int 0))) (pV 1))))
  (sSeq (sSub (eP (po2 fdivD (po2 ixD (pV 0) (pC (.int 0))) (pV 1))) (eP (pV 0)) (eP (pC (.int 0))))
  (sRet (eP (pV 4)))))
  sNil)
  (sSeq (sSub (eP (po2 addD (po2 ixD (pV 0) (pC (.int 2))) (pC (.int 1)))) (eP (pV 0)) (eP (pC (.int 2))))
  (sSeq (sSet 2 (eP (po2 ixD (pFz (plLst [(pC (.int 2147483587)), (pC (.int 2147483579)), (pC (.int 2147483563)), (pC (.int 2147483549)), (pC (.int 2147483543)), (pC (.int 2147483497)), (pC (.int 2147483489))])) (po2 modD (po2 ixD (pV 0) (pC (.int 2))) (pC (.int 7))))))
  (sSeq (sSet 3 (eP (po2 modD (po2 mulD (po2 addD (po2 ixD (pV 0) (pC (.int 1))) (po2 mulD (pC (.int 39373)) (po2 ixD (pV 0) (pC (.int 2))))) (po2 addD (pC (.int 48271)) (po2 ixD (pV 0) (pC (.int 2))))) (pV 2))))
  (sSeq (sSub (eP (po2 modD (po2 addD (po2 mulD (pV 3) (po2 addD (po2 modD (pV 3) (pC (.int 40009))) (pC (.int 7)))) (po2 ixD (pV 0) (pC (.int 2)))) (pC (.int 2147483629)))) (eP (pV 0)) (eP (pC (.int 1))))
  (sSeq (sSet 4 (eP (po2 fdivD (po2 modD (po2 mulD (po2 ixD (pV 0) (pC (.int 1))) (po2 addD (po2 modD (po2 ixD (pV 0) (pC (.int 1))) (pC (.int 1009))) (pC (.int 3)))) (pC (.int 998244353))) (pC (.int 7)))))
  (sRet (eIf (cP (bB (po2 ltD (pV 1) (po2 powD (pC (.int 10)) (pC (.int 6)))))) (eP (po2 modD (pV 4) (pV 1))) (eo2 modD (eo2 addD (eP (po2 mulD (pV 4) (pC (.int 99991)))) (eCall [true, false] sp__law_take (aP [(pV 0), (pC (.int 99991))]))) (eP (pV 1)))))))))))
theorem nd__law_take : N__law_take.Nodup := by decide
theorem sc__law_take : FnScope N__law_take ["_law_tape_here", "_law_many_here"] (defScope s__law_take) := C8.fnScope_by (by decide +kernel)
theorem d__law_take {P : Program} {w : World} {K : PySem.W.Frag} {mg : Str → Option Value} {base : Heap} {f : Addr} {k : Nat} {sp__law_take : SpD} {k__law_take : Nat} (ca__law_take : Ca P w K mg base k__law_take "_law_take" 2 sp__law_take) (hk__law_take : k__law_take ≤ k) :
    ∀ (cdv : Value) (A : Around) (outer : List Env) (s : Shared) (H : Hp) (E : XK) (G : Gd), RoomG k (A.deeper (PyProof.Rows.envOfC "_law_take" (defScope s__law_take) s.heap.objs.size f cdv)) → G.i0.length = 1 →
      VSs (cxOf C8.CX0 P w K mg base N__law_take "_law_take" (defScope s__law_take) f cdv A outer s H E).nox G (defBody s__law_take) (t__law_take sp__law_take) := by
  intro cdv A outer s H E G hr hG
  have hU : ∀ n : Nat, n ≤ 200 → (A.deeper (PyProof.Rows.envOfC "_law_take" (defScope s__law_take) s.heap.objs.size f cdv)).units + n < cLine := fun n hn => by have := hr.rm.un; omega
  exact (vss_cons (vs_if (VT.pureB2 (vt_cmp op_gt rd_gt (VE.pure2 (ve_idx (ve_v 0) ve_int)) ve_int (nomark _))) (vss_cons (vs_set nd__law_take rfl (by first | exact Or.inl rfl | exact Or.inr rfl) (VE.pure2 (ve_mod (VE.pure2 (ve_idx (ve_v 0) ve_int)) (ve_v 1))))
  (vss_cons (vs_sub (VE.pure2 (ve_fdiv (VE.pure2 (ve_idx (ve_v 0) ve_int)) (ve_v 1))) (ve_v 0) ve_int)
  (vss_one (vs_ret (ve_v 4))))) vss_nil)
  (vss_cons (vs_sub (VE.pure2 (ve_add (VE.pure2 (ve_idx (ve_v 0) ve_int)) ve_int)) (ve_v 0) ve_int)
  (vss_cons (vs_set nd__law_take rfl (by first | exact Or.inl rfl | exact Or.inr rfl) (VE.pure2 (ve_idx (VF.pure (VF.pLst (vf_lst (va_p ve_int (va_p ve_int (va_p ve_int (va_p ve_int (va_p ve_int (va_p ve_int (va_p ve_int va_p0)))))))))) (VE.pure2 (ve_mod (VE.pure2 (ve_idx (ve_v 0) ve_int)) ve_int)))))
  (vss_cons (vs_set nd__law_take rfl (by first | exact Or.inl rfl | exact Or.inr rfl) (VE.pure2 (ve_mod (VE.pure2 (ve_mul (VE.pure2 (ve_add (VE.pure2 (ve_idx (ve_v 0) ve_int)) (VE.pure2 (ve_mul ve_int (VE.pure2 (ve_idx (ve_v 0) ve_int)))))) (VE.pure2 (ve_add ve_int (VE.pure2 (ve_idx (ve_v 0) ve_int)))))) (ve_v 2))))
  (vss_cons (vs_sub (VE.pure2 (ve_mod (VE.pure2 (ve_add (VE.pure2 (ve_mul (ve_v 3) (VE.pure2 (ve_add (VE.pure2 (ve_mod (ve_v 3) ve_int)) ve_int)))) (VE.pure2 (ve_idx (ve_v 0) ve_int)))) ve_int)) (ve_v 0) ve_int)
  (vss_cons (vs_set nd__law_take rfl (by first | exact Or.inl rfl | exact Or.inr rfl) (VE.pure2 (ve_fdiv (VE.pure2 (ve_mod (VE.pure2 (ve_mul (VE.pure2 (ve_idx (ve_v 0) ve_int)) (VE.pure2 (ve_add (VE.pure2 (ve_mod (VE.pure2 (ve_idx (ve_v 0) ve_int)) ve_int)) ve_int)))) ve_int)) ve_int)))
  (vss_one (vs_ret (ve_if (VT.pureB2 (vt_cmp op_lt rd_lt (ve_v 1) (VE.pure2 (ve_pow ve_int ve_int)) (nomark _))) (VE.pure2 (ve_mod (ve_v 4) (ve_v 1))) (ve_mod (ve_add (VE.pure2 (ve_mul (ve_v 4) ve_int)) (ve_call [true, false] ca__law_take hr hk__law_take rfl (va_p (ve_v 0) (va_p ve_int va_p0)))) (ve_v 1)))))))))))
abbrev s__law_claim : Stmt := top 8
def N__law_claim : List Str := ["_law_tape_here", "_law_many_here", "_law_deep", "_law_way", "_law_claims", "_law_k", "_law_one", "_law_turn"]
def t__law_claim (sp__law_take : SpD) (sp__law_claim : SpD) : TS' :=
  (sSeq (sSet 3 (eCall [true, false] sp__law_take (aP [(pV 0), (pC (.int 12))])))
  (sSeq (sIf (cP (bOr (bB (po2 eqD (pV 2) (pC (.int 0)))) (bB (po2 ltD (pV 3) (pC (.int 3))))))
  (sSeq (sSet 5 (eCall [true, false] sp__law_take (aP [(pV 0), (poN maxD [(pC (.int 1)), (pV 1)])])))
  (sRet (eIf (cP (bAn (bB (po2 gtD (pV 1) (pC (.int 0)))) (bB (po2 neD (pV 3) (pC (.int 3)))))) (eP (poTup [(pC (.str "name")), (pV 5)])) (eo2 ixD (eP (pFz (plLst [(poTup [(pC (.str "yes"))]), (poTup [(pC (.str "no"))])]))) (eCall [true, false] sp__law_take (aP [(pV 0), (pC (.int 2))]))))))
  sNil)
  (sSeq (sIf (cP (bB (po2 eqD (pV 3) (pC (.int 3)))))
  (sRet (eo2 ixD (eP (pFz (plLst [(poTup [(pC (.str "yes"))]), (poTup [(pC (.str "no"))]), (poTup [(pC (.str "and")), (poTup [])]), (poTup [(pC (.str "or")), (poTup [])]), (poTup [(pC (.str "least")), (pC (.int 0)), (poTup [])])]))) (eCall [true, false] sp__law_take (aP [(pV 0), (pC (.int 5))]))))
  sNil)
  (sSeq (sIf (cP (bB (po2 eqD (pV 3) (pC (.int 4)))))
  (sRet (tTupE (aCons (eP (pC (.str "not"))) (aCons (eCall [true, false, false] sp__law_claim (aP [(pV 0), (pV 1), (po2 subD (pV 2) (pC (.int 1)))])) (aP [])))))
  sNil)
  (sSeq (sIf (cP (bB (po2 eqD (pV 3) (pC (.int 5)))))
  (sSeq (sSet 6 (eCall [true, false, false] sp__law_claim (aP [(pV 0), (pV 1), (po2 subD (pV 2) (pC (.int 1)))])))
  (sRet (tTupE (aCons (eP (pC (.str "same"))) (aCons (eP (pV 6)) (aCons (eCall [true, false, false] sp__law_claim (aP [(pV 0), (pV 1), (po2 subD (pV 2) (pC (.int 1)))])) (aP [])))))))
  sNil)
  (sSeq (sSet 4 (eo1 tupC (eFz (fLc (iRg true (aCons (eo2 addD (eP (pC (.int 1))) (eCall [true, false] sp__law_take (aP [(pV 0), (pC (.int 4))]))) (aP []))) (.nm 7) tYs (eCall [true, false, false] sp__law_claim (aP [(pV 0), (pV 1), (po2 subD (pV 2) (pC (.int 1)))])) [7]))))
  (sSeq (sIf (cP (bB (po2 gtD (pV 3) (pC (.int 9)))))
  (sRet (tTupE (aCons (eP (pC (.str "least"))) (aCons (eCall [true, false] sp__law_take (aP [(pV 0), (po2 addD (poN lenD [(pV 4)]) (pC (.int 2)))])) (aP [(pV 4)])))))
  sNil)
  (sRet (eP (poTup [(po2 ixD (pFz (plLst [(pC (.str "and")), (pC (.str "or"))])) (po2 modD (pV 3) (pC (.int 2)))), (pV 4)]))))))))))
theorem nd__law_claim : N__law_claim.Nodup := by decide
theorem sc__law_claim : FnScope N__law_claim ["_law_tape_here", "_law_many_here", "_law_deep"] (defScope s__law_claim) := C8.fnScope_by (by decide +kernel)
theorem d__law_claim {P : Program} {w : World} {K : PySem.W.Frag} {mg : Str → Option Value} {base : Heap} {f : Addr} {k : Nat} (m_max : mg "max" = none) (m_range : mg "range" = none) (m_tuple : mg "tuple" = none) (m_len : mg "len" = none) {sp__law_take : SpD} {k__law_take : Nat} (ca__law_take : Ca P w K mg base k__law_take "_law_take" 2 sp__law_take) (hk__law_take : k__law_take ≤ k) {sp__law_claim : SpD} {k__law_claim : Nat} (ca__law_claim : Ca P w K mg base k__law_claim "_law_claim" 3 sp__law_claim) (hk__law_claim : k__law_claim ≤ k) :
    ∀ (cdv : Value) (A : Around) (outer : List Env) (s : Shared) (H : Hp) (E : XK) (G : Gd), RoomG k (A.deeper (PyProof.Rows.envOfC "_law_claim" (defScope s__law_claim) s.heap.objs.size f cdv)) → G.i0.length = 1 →
      VSs (cxOf C8.CX0 P w K mg base N__law_claim "_law_claim" (defScope s__law_claim) f cdv A outer s H E).nox G (defBody s__law_claim) (t__law_claim sp__law_take sp__law_claim) := by
  intro cdv A outer s H E G hr hG
  have hU : ∀ n : Nat, n ≤ 200 → (A.deeper (PyProof.Rows.envOfC "_law_claim" (defScope s__law_claim) s.heap.objs.size f cdv)).units + n < cLine := fun n hn => by have := hr.rm.un; omega
  exact (vss_cons (vs_set nd__law_claim rfl (by first | exact Or.inl rfl | exact Or.inr rfl) (ve_call [true, false] ca__law_take hr hk__law_take rfl (va_p (ve_v 0) (va_p ve_int va_p0))))
  (vss_cons (vs_if (VW.vt (VW.pOr (vw_or (VT.pureB2 (vt_cmp (op_eqX (hU 64 (by decide))) rd_eq (ve_v 2) ve_int (nomark _))) (vw_or1 (VT.pureB2 (vt_cmp op_lt rd_lt (ve_v 3) ve_int (nomark _))))))) (vss_cons (vs_set nd__law_claim rfl (by first | exact Or.inl rfl | exact Or.inr rfl) (ve_call [true, false] ca__law_take hr hk__law_take rfl (va_p (ve_v 0) (va_p (VE.pureN (ve_callB (call_maxX rfl) rd_max rfl m_max bt_max (va_p ve_int (va_p (ve_v 1) va_p0)))) va_p0))))
  (vss_one (vs_ret (ve_if (VW.vt (VW.pAn (vw_and (VT.pureB2 (vt_cmp op_gt rd_gt (ve_v 1) ve_int (nomark _))) (vw_and1 (VT.pureB2 (vt_cmp (op_neX (hU 64 (by decide))) rd_ne (ve_v 3) ve_int (nomark _))))))) (VE.pTup (ve_tup (va_p ve_str (va_p (ve_v 5) va_p0)))) (ve_idx (VF.pure (VF.pLst (vf_lst (va_p (VE.pTup (ve_tup (va_p ve_str va_p0))) (va_p (VE.pTup (ve_tup (va_p ve_str va_p0))) va_p0))))) (ve_call [true, false] ca__law_take hr hk__law_take rfl (va_p (ve_v 0) (va_p ve_int va_p0)))))))) vss_nil)
  (vss_cons (vs_if (VT.pureB2 (vt_cmp (op_eqX (hU 64 (by decide))) rd_eq (ve_v 3) ve_int (nomark _))) (vss_one (vs_ret (ve_idx (VF.pure (VF.pLst (vf_lst (va_p (VE.pTup (ve_tup (va_p ve_str va_p0))) (va_p (VE.pTup (ve_tup (va_p ve_str va_p0))) (va_p (VE.pTup (ve_tup (va_p ve_str (va_p (VE.pTup (ve_tup va_p0)) va_p0)))) (va_p (VE.pTup (ve_tup (va_p ve_str (va_p (VE.pTup (ve_tup va_p0)) va_p0)))) (va_p (VE.pTup (ve_tup (va_p ve_str (va_p ve_int (va_p (VE.pTup (ve_tup va_p0)) va_p0))))) va_p0)))))))) (ve_call [true, false] ca__law_take hr hk__law_take rfl (va_p (ve_v 0) (va_p ve_int va_p0)))))) vss_nil)
  (vss_cons (vs_if (VT.pureB2 (vt_cmp (op_eqX (hU 64 (by decide))) rd_eq (ve_v 3) ve_int (nomark _))) (vss_one (vs_ret (ve_tup (va_cons ve_str (va_cons (ve_call [true, false, false] ca__law_claim hr hk__law_claim rfl (va_p (ve_v 0) (va_p (ve_v 1) (va_p (VE.pure2 (ve_sub (ve_v 2) ve_int)) va_p0)))) va_p0))))) vss_nil)
  (vss_cons (vs_if (VT.pureB2 (vt_cmp (op_eqX (hU 64 (by decide))) rd_eq (ve_v 3) ve_int (nomark _))) (vss_cons (vs_set nd__law_claim rfl (by first | exact Or.inl rfl | exact Or.inr rfl) (ve_call [true, false, false] ca__law_claim hr hk__law_claim rfl (va_p (ve_v 0) (va_p (ve_v 1) (va_p (VE.pure2 (ve_sub (ve_v 2) ve_int)) va_p0)))))
  (vss_one (vs_ret (ve_tup (va_cons ve_str (va_cons (ve_v 6) (va_cons (ve_call [true, false, false] ca__law_claim hr hk__law_claim rfl (va_p (ve_v 0) (va_p (ve_v 1) (va_p (VE.pure2 (ve_sub (ve_v 2) ve_int)) va_p0)))) va_p0))))))) vss_nil)
  (vss_cons (vs_set nd__law_claim rfl (by first | exact Or.inl rfl | exact Or.inr rfl) (ve_tupleOf rfl m_tuple (VF.fz (vf_lc (own := [("_law_turn", 7)]) rfl nd__law_claim (vi_range1 rfl m_range (va_cons (ve_add ve_int (ve_call [true, false] ca__law_take hr hk__law_take rfl (va_p (ve_v 0) (va_p ve_int va_p0)))) va_p0)) (blkOk_by (show blkC N__law_claim (defScope s__law_claim) _ _ = true by decide +kernel)) (fun s H C cl fp => pg_name nd__law_claim rfl (by first | exact Or.inl rfl | exact Or.inr rfl) (.inr rfl)) (fun s H C cl fp G hG' => vts_nil) (fun s H C cl fp G hG' => (ve_call [true, false, false] ca__law_claim hr hk__law_claim rfl (va_p (ve_v 0) (va_p (ve_v 1) (va_p (VE.pure2 (ve_sub (ve_v 2) ve_int)) va_p0))))) (by decide)))))
  (vss_cons (vs_if (VT.pureB2 (vt_cmp op_gt rd_gt (ve_v 3) ve_int (nomark _))) (vss_one (vs_ret (ve_tup (va_cons ve_str (va_cons (ve_call [true, false] ca__law_take hr hk__law_take rfl (va_p (ve_v 0) (va_p (VE.pure2 (ve_add (VE.pureN (ve_callB call_lenX rd_len rfl m_len bt_len (va_p (ve_v 4) va_p0))) ve_int)) va_p0))) (va_p (ve_v 4) va_p0)))))) vss_nil)
  (vss_one (vs_ret (VE.pTup (ve_tup (va_p (VE.pure2 (ve_idx (VF.pure (VF.pLst (vf_lst (va_p ve_str (va_p ve_str va_p0))))) (VE.pure2 (ve_mod (ve_v 3) ve_int)))) (va_p (ve_v 4) va_p0)))))))))))))
abbrev s__law_any_claim : Stmt := top 9
def N__law_any_claim : List Str := ["_law_tape_here", "_law_many_here", "_law_pieces", "_law_turn", "_law_names", "_law_some", "_law_place", "_law_one"]
def t__law_any_claim (sp__law_take : SpD) (sp__law_claim : SpD) : TS' :=
  (sSeq (sIf (tOrr (cP (bB (po2 ltD (pV 1) (pC (.int 2))))) (tTb (eo2 gtD (eCall [true, false] sp__law_take (aP [(pV 0), (pC (.int 4))])) (eP (pC (.int 0))))))
  (sRet (eCall [true, false, false] sp__law_claim (aP [(pV 0), (pV 1), (pC (.int 3))])))
  sNil)
  (sSeq (sSet 2 (eNw (fP (plLst []))))
  (sSeq (sFor (iRg false (aCons (eo2 addD (eP (pC (.int 2))) (eCall [true, false] sp__law_take (aP [(pV 0), (pC (.int 4))]))) (aP []))) (gNm 3)
  (sSeq (sSet 4 (eFz (fLc (iRg true (aCons (eo2 addD (eP (pC (.int 2))) (eCall [true, false] sp__law_take (aP [(pV 0), (pC (.int 2))]))) (aP []))) (.nm 6) tYs (tTupE (aCons (eP (pC (.str "name"))) (aCons (eCall [true, false] sp__law_take (aP [(pV 0), (pV 1)])) (aP [])))) [6])))
  (sSeq (sSet 4 (eo1 tupC (eFz (fLc (iPq (pV 4)) (.nm 7) tYs (eIf (tTb (eo2 eqD (eCall [true, false] sp__law_take (aP [(pV 0), (pC (.int 3))])) (eP (pC (.int 0))))) (eP (poTup [(pC (.str "not")), (pV 7)])) (eP (pV 7))) [7]))))
  (sSeq (sSet 5 (eP (pFz (plLst [(poTup [(pC (.str "or")), (pV 4)]), (poTup [(pC (.str "and")), (pV 4)]), (poTup [(pC (.str "same")), (po2 ixD (pV 4) (pC (.int 0))), (po2 ixD (pV 4) (pC (.int 1)))]), (poTup [(pC (.str "least")), (pC (.int 2)), (pV 4)])]))))
  (sDrop (eMt "list" mApp (eP (pV 2)) (aCons (eo2 ixD (eP (pV 5)) (eCall [true, false] sp__law_take (aP [(pV 0), (pC (.int 4))]))) (aP []))))))))
  (sRet (tTupE (aCons (eo2 ixD (eP (pFz (plLst [(pC (.str "and")), (pC (.str "and")), (pC (.str "or"))]))) (eCall [true, false] sp__law_take (aP [(pV 0), (pC (.int 3))]))) (aP [(po1 tupC (pV 2))])))))))
theorem nd__law_any_claim : N__law_any_claim.Nodup := by decide
theorem sc__law_any_claim : FnScope N__law_any_claim ["_law_tape_here", "_law_many_here"] (defScope s__law_any_claim) := C8.fnScope_by (by decide +kernel)
theorem d__law_any_claim {P : Program} {w : World} {K : PySem.W.Frag} {mg : Str → Option Value} {base : Heap} {f : Addr} {k : Nat} (m_range : mg "range" = none) (m_tuple : mg "tuple" = none) {sp__law_take : SpD} {k__law_take : Nat} (ca__law_take : Ca P w K mg base k__law_take "_law_take" 2 sp__law_take) (hk__law_take : k__law_take ≤ k) {sp__law_claim : SpD} {k__law_claim : Nat} (ca__law_claim : Ca P w K mg base k__law_claim "_law_claim" 3 sp__law_claim) (hk__law_claim : k__law_claim ≤ k) :
    ∀ (cdv : Value) (A : Around) (outer : List Env) (s : Shared) (H : Hp) (E : XK) (G : Gd), RoomG k (A.deeper (PyProof.Rows.envOfC "_law_any_claim" (defScope s__law_any_claim) s.heap.objs.size f cdv)) → G.i0.length = 1 →
      VSs (cxOf C8.CX0 P w K mg base N__law_any_claim "_law_any_claim" (defScope s__law_any_claim) f cdv A outer s H E).nox G (defBody s__law_any_claim) (t__law_any_claim sp__law_take sp__law_claim) := by
  intro cdv A outer s H E G hr hG
  have hU : ∀ n : Nat, n ≤ 200 → (A.deeper (PyProof.Rows.envOfC "_law_any_claim" (defScope s__law_any_claim) s.heap.objs.size f cdv)).units + n < cLine := fun n hn => by have := hr.rm.un; omega
  exact (vss_cons (vs_if (VW.vt (vw_or (VT.pureB2 (vt_cmp op_lt rd_lt (ve_v 1) ve_int (nomark _))) (vw_or1 (vt_cmp op_gt rd_gt (ve_call [true, false] ca__law_take hr hk__law_take rfl (va_p (ve_v 0) (va_p ve_int va_p0))) ve_int (nomark _))))) (vss_one (vs_ret (ve_call [true, false, false] ca__law_claim hr hk__law_claim rfl (va_p (ve_v 0) (va_p (ve_v 1) (va_p ve_int va_p0)))))) vss_nil)
  (vss_cons (vs_set nd__law_any_claim rfl (by first | exact Or.inl rfl | exact Or.inr rfl) (VF.nw (VF.pLst (vf_lst va_p0))))
  (vss_cons (vs_for (bd := false) PassesOwn.never rfl (vi_range1 rfl m_range (va_cons (ve_add ve_int (ve_call [true, false] ca__law_take hr hk__law_take rfl (va_p (ve_v 0) (va_p ve_int va_p0)))) va_p0)) (vg_name nd__law_any_claim rfl (by first | exact Or.inl rfl | exact Or.inr rfl)) (vss_cons (vs_setLcF (own := [("_law_place", 6)]) rfl nd__law_any_claim rfl rfl rfl (vi_range1 rfl m_range (va_cons (ve_add ve_int (ve_call [true, false] ca__law_take hr hk__law_take rfl (va_p (ve_v 0) (va_p ve_int va_p0)))) va_p0)) (blkOk_by (show blkC N__law_any_claim (defScope s__law_any_claim) _ _ = true by decide +kernel)) (fun s H C cl fp => pg_name nd__law_any_claim rfl (by first | exact Or.inl rfl | exact Or.inr rfl) (.inr rfl)) (fun s H C cl fp G hG' => vts_nil) (fun s H C cl fp G hG' => (ve_tup (va_cons ve_str (va_cons (ve_call [true, false] ca__law_take hr hk__law_take rfl (va_p (ve_v 0) (va_p (ve_v 1) va_p0))) va_p0)))) (by decide))
  (vss_cons (vs_set nd__law_any_claim rfl (by first | exact Or.inl rfl | exact Or.inr rfl) (ve_tupleOf rfl m_tuple (VF.fz (vf_lc (own := [("_law_one", 7)]) rfl nd__law_any_claim (vi_pq (ve_v 4)) (blkOk_by (show blkC N__law_any_claim (defScope s__law_any_claim) _ _ = true by decide +kernel)) (fun s H C cl fp => pg_name nd__law_any_claim rfl (by first | exact Or.inl rfl | exact Or.inr rfl) (.inr rfl)) (fun s H C cl fp G hG' => vts_nil) (fun s H C cl fp G hG' => (ve_if (vt_cmp (op_eqX (hU 64 (by decide))) rd_eq (ve_call [true, false] ca__law_take hr hk__law_take rfl (va_p (ve_v 0) (va_p ve_int va_p0))) ve_int (nomark _)) (VE.pTup (ve_tup (va_p ve_str (va_p (ve_v 7) va_p0)))) (ve_v 7))) (by decide)))))
  (vss_cons (vs_set nd__law_any_claim rfl (by first | exact Or.inl rfl | exact Or.inr rfl) (VF.pure (VF.pLst (vf_lst (va_p (VE.pTup (ve_tup (va_p ve_str (va_p (ve_v 4) va_p0)))) (va_p (VE.pTup (ve_tup (va_p ve_str (va_p (ve_v 4) va_p0)))) (va_p (VE.pTup (ve_tup (va_p ve_str (va_p (VE.pure2 (ve_idx (ve_v 4) ve_int)) (va_p (VE.pure2 (ve_idx (ve_v 4) ve_int)) va_p0))))) (va_p (VE.pTup (ve_tup (va_p ve_str (va_p ve_int (va_p (ve_v 4) va_p0))))) va_p0))))))))
  (vss_one (vs_expr (ve_mt F.plainAttrs_list F.slot_list_append rfl mt_append rd_app (ve_v 2) (va_cons (ve_idx (ve_v 5) (ve_call [true, false] ca__law_take hr hk__law_take rfl (va_p (ve_v 0) (va_p ve_int va_p0)))) va_p0))))))))
  (vss_one (vs_ret (ve_tup (va_cons (ve_idx (VF.pure (VF.pLst (vf_lst (va_p ve_str (va_p ve_str (va_p ve_str va_p0)))))) (ve_call [true, false] ca__law_take hr hk__law_take rfl (va_p (ve_v 0) (va_p ve_int va_p0)))) (va_p (VE.pure1 (ve_tupleOf rfl m_tuple (ve_v 2))) va_p0))))))))
abbrev s__law_holds : Stmt := top 10
def N__law_holds : List Str := ["_law_claim_here", "_law_filling", "_law_word", "_law_held", "_law_one"]
def t__law_holds (sp__law_holds : SpD) : TS' :=
  (sSeq (sSet 2 (eP (po2 ixD (pV 0) (pC (.int 0)))))
  (sSeq (sIf (cP (bB (po2 inD (pV 2) (poTup [(pC (.str "yes")), (pC (.str "no"))]))))
  (sRet (eP (po2 eqD (pV 2) (pC (.str "yes")))))
  sNil)
  (sSeq (sIf (cP (bB (po2 eqD (pV 2) (pC (.str "name")))))
  (sRet (eP (po2 eqD (po2 ixD (pV 1) (po2 ixD (pV 0) (pC (.int 1)))) (pC (.int 1)))))
  sNil)
  (sSeq (sIf (cP (bB (po2 eqD (pV 2) (pC (.str "not")))))
  (sRet (eNt (eCall [false, false] sp__law_holds (aP [(po2 ixD (pV 0) (pC (.int 1))), (pV 1)]))))
  sNil)
  (sSeq (sIf (cP (bB (po2 eqD (pV 2) (pC (.str "same")))))
  (sRet (eo2 eqD (eCall [false, false] sp__law_holds (aP [(po2 ixD (pV 0) (pC (.int 1))), (pV 1)])) (eCall [false, false] sp__law_holds (aP [(po2 ixD (pV 0) (pC (.int 2))), (pV 1)]))))
  sNil)
  (sSeq (sSet 3 (eFz (fLc (iPq (po2 ixD (pV 0) (po1 negD (pC (.int 1))))) (.nm 4) tYs (eCall [false, false] sp__law_holds (aP [(pV 4), (pV 1)])) [4])))
  (sSeq (sIf (cP (bB (po2 eqD (pV 2) (pC (.str "least")))))
  (sRet (eP (po2 geD (poMt "list" countD (pV 3) [(pC (.bl true))]) (po2 ixD (pV 0) (pC (.int 1))))))
  sNil)
  (sRet (eP (poIf (bB (po2 eqD (pV 2) (pC (.str "and")))) (poN allD [(pV 3)]) (poN anyD [(pV 3)])))))))))))
theorem nd__law_holds : N__law_holds.Nodup := by decide
theorem sc__law_holds : FnScope N__law_holds ["_law_claim_here", "_law_filling"] (defScope s__law_holds) := C8.fnScope_by (by decide +kernel)
theorem d__law_holds {P : Program} {w : World} {K : PySem.W.Frag} {mg : Str → Option Value} {base : Heap} {f : Addr} {k : Nat} (m_all : mg "all" = none) (m_any : mg "any" = none) {sp__law_holds : SpD} {k__law_holds : Nat} (ca__law_holds : Ca P w K mg base k__law_holds "_law_holds" 2 sp__law_holds) (hk__law_holds : k__law_holds ≤ k) :
    ∀ (cdv : Value) (A : Around) (outer : List Env) (s : Shared) (H : Hp) (E : XK) (G : Gd), RoomG k (A.deeper (PyProof.Rows.envOfC "_law_holds" (defScope s__law_holds) s.heap.objs.size f cdv)) → G.i0.length = 0 →
      VSs (cxOf C8.CX0 P w K mg base N__law_holds "_law_holds" (defScope s__law_holds) f cdv A outer s H E).nox G (defBody s__law_holds) (t__law_holds sp__law_holds) := by
  intro cdv A outer s H E G hr hG
  have hU : ∀ n : Nat, n ≤ 200 → (A.deeper (PyProof.Rows.envOfC "_law_holds" (defScope s__law_holds) s.heap.objs.size f cdv)).units + n < cLine := fun n hn => by have := hr.rm.un; omega
  exact (vss_cons (vs_set nd__law_holds rfl (by first | exact Or.inl rfl | exact Or.inr rfl) (VE.pure2 (ve_idx (ve_v 0) ve_int)))
  (vss_cons (vs_if (VT.pureB2 (vt_cmp (op_inX (hU 65 (by decide))) rd_in (ve_v 2) (VE.pTup (ve_tup (va_p ve_str (va_p ve_str va_p0)))) rfl)) (vss_one (vs_ret (VE.pure2 (ve_cmp (op_eqX (hU 64 (by decide))) rd_eq (ve_v 2) ve_str (nomark _))))) vss_nil)
  (vss_cons (vs_if (VT.pureB2 (vt_cmp (op_eqX (hU 64 (by decide))) rd_eq (ve_v 2) ve_str (nomark _))) (vss_one (vs_ret (VE.pure2 (ve_cmp (op_eqX (hU 64 (by decide))) rd_eq (VE.pure2 (ve_idx (ve_v 1) (VE.pure2 (ve_idx (ve_v 0) ve_int)))) ve_int (nomark _))))) vss_nil)
  (vss_cons (vs_if (VT.pureB2 (vt_cmp (op_eqX (hU 64 (by decide))) rd_eq (ve_v 2) ve_str (nomark _))) (vss_one (vs_ret (ve_not (ve_call [false, false] ca__law_holds hr hk__law_holds rfl (va_p (VE.pure2 (ve_idx (ve_v 0) ve_int)) (va_p (ve_v 1) va_p0)))))) vss_nil)
  (vss_cons (vs_if (VT.pureB2 (vt_cmp (op_eqX (hU 64 (by decide))) rd_eq (ve_v 2) ve_str (nomark _))) (vss_one (vs_ret (ve_cmp (op_eqX (hU 64 (by decide))) rd_eq (ve_call [false, false] ca__law_holds hr hk__law_holds rfl (va_p (VE.pure2 (ve_idx (ve_v 0) ve_int)) (va_p (ve_v 1) va_p0))) (ve_call [false, false] ca__law_holds hr hk__law_holds rfl (va_p (VE.pure2 (ve_idx (ve_v 0) ve_int)) (va_p (ve_v 1) va_p0))) (nomark _)))) vss_nil)
  (vss_cons (vs_setLcF (own := [("_law_one", 4)]) rfl nd__law_holds rfl rfl rfl (vi_pq (VE.pure2 (ve_idx (ve_v 0) (VE.pure1 (ve_neg ve_int))))) (blkOk_by (show blkC N__law_holds (defScope s__law_holds) _ _ = true by decide +kernel)) (fun s H C cl fp => pg_name nd__law_holds rfl (by first | exact Or.inl rfl | exact Or.inr rfl) (.inr rfl)) (fun s H C cl fp G hG' => vts_nil) (fun s H C cl fp G hG' => (ve_call [false, false] ca__law_holds hr hk__law_holds rfl (va_p (ve_v 4) (va_p (ve_v 1) va_p0)))) (by decide))
  (vss_cons (vs_if (VT.pureB2 (vt_cmp (op_eqX (hU 64 (by decide))) rd_eq (ve_v 2) ve_str (nomark _))) (vss_one (vs_ret (VE.pure2 (ve_cmp op_ge rd_ge (VE.pMt (ve_mt F.plainAttrs_list F.slot_list_count rfl (mt_countD (hU 65 (by decide))) rd_count (ve_v 3) (va_p ve_bl va_p0))) (VE.pure2 (ve_idx (ve_v 0) ve_int)) (nomark _))))) vss_nil)
  (vss_one (vs_ret (VE.pIf (ve_if (VT.pureB2 (vt_cmp (op_eqX (hU 64 (by decide))) rd_eq (ve_v 2) ve_str (nomark _))) (VE.pureN (ve_callB (cr_all rfl) rd_all rfl m_all bt_all (va_p (ve_v 3) va_p0))) (VE.pureN (ve_callB (cr_any rfl) rd_any rfl m_any bt_any (va_p (ve_v 3) va_p0))))))))))))))
abbrev s__law_all_fillings : Stmt := top 11
def N__law_all_fillings : List Str := ["_law_many_here", "_law_found", "_law_k", "_law_one"]
def t__law_all_fillings  : TS' :=
  (sSeq (sSet 1 (eP (pFz (plLst [(poTup [])]))))
  (sSeq (sFor (iRg false (aP [(pV 0)])) (gNm 2)
  (sSet 1 (eFz (f2 catF (eFz (fLc (iPq (pV 1)) (.nm 3) tYs (eP (po2 addD (poTup [(pC (.int 0))]) (pV 3))) [3])) (eFz (fLc (iPq (pV 1)) (.nm 3) tYs (eP (po2 addD (poTup [(pC (.int 1))]) (pV 3))) [3]))))))
  (sRet (eP (pV 1)))))
theorem nd__law_all_fillings : N__law_all_fillings.Nodup := by decide
theorem sc__law_all_fillings : FnScope N__law_all_fillings ["_law_many_here"] (defScope s__law_all_fillings) := C8.fnScope_by (by decide +kernel)
theorem d__law_all_fillings {P : Program} {w : World} {K : PySem.W.Frag} {mg : Str → Option Value} {base : Heap} {f : Addr} {k : Nat} (m_range : mg "range" = none) :
    ∀ (cdv : Value) (A : Around) (outer : List Env) (s : Shared) (H : Hp) (E : XK) (G : Gd), RoomG k (A.deeper (PyProof.Rows.envOfC "_law_all_fillings" (defScope s__law_all_fillings) s.heap.objs.size f cdv)) → G.i0.length = 0 →
      VSs (cxOf C8.CX0 P w K mg base N__law_all_fillings "_law_all_fillings" (defScope s__law_all_fillings) f cdv A outer s H E).nox G (defBody s__law_all_fillings) (t__law_all_fillings ) := by
  intro cdv A outer s H E G hr hG
  have hU : ∀ n : Nat, n ≤ 200 → (A.deeper (PyProof.Rows.envOfC "_law_all_fillings" (defScope s__law_all_fillings) s.heap.objs.size f cdv)).units + n < cLine := fun n hn => by have := hr.rm.un; omega
  exact (vss_cons (vs_set nd__law_all_fillings rfl (by first | exact Or.inl rfl | exact Or.inr rfl) (VF.pure (VF.pLst (vf_lst (va_p (VE.pTup (ve_tup va_p0)) va_p0)))))
  (vss_cons (vs_for (bd := false) PassesOwn.never rfl (vi_range1 rfl m_range (va_p (ve_v 0) va_p0)) (vg_name nd__law_all_fillings rfl (by first | exact Or.inl rfl | exact Or.inr rfl)) (vss_one (vs_set nd__law_all_fillings rfl (by first | exact Or.inl rfl | exact Or.inr rfl) (VF.fz (vf_cat (VF.fz (vf_lc (own := [("_law_one", 3)]) rfl nd__law_all_fillings (vi_pq (ve_v 1)) (blkOk_by (show blkC N__law_all_fillings (defScope s__law_all_fillings) _ _ = true by decide +kernel)) (fun s H C cl fp => pg_name nd__law_all_fillings rfl (by first | exact Or.inl rfl | exact Or.inr rfl) (.inr rfl)) (fun s H C cl fp G hG' => vts_nil) (fun s H C cl fp G hG' => (VE.pure2 (ve_add (VE.pTup (ve_tup (va_p ve_int va_p0))) (ve_v 3)))) (by decide))) (VF.fz (vf_lc (own := [("_law_one", 3)]) rfl nd__law_all_fillings (vi_pq (ve_v 1)) (blkOk_by (show blkC N__law_all_fillings (defScope s__law_all_fillings) _ _ = true by decide +kernel)) (fun s H C cl fp => pg_name nd__law_all_fillings rfl (by first | exact Or.inl rfl | exact Or.inr rfl) (.inr rfl)) (fun s H C cl fp G hG' => vts_nil) (fun s H C cl fp G hG' => (VE.pure2 (ve_add (VE.pTup (ve_tup (va_p ve_int va_p0))) (ve_v 3)))) (by decide))))))))
  (vss_one (vs_ret (ve_v 1)))))
abbrev s__law_many : Stmt := top 12
def N__law_many : List Str := ["_law_tape_here", "_law_great"]
def t__law_many (sp__law_take : SpD) : TS' :=
  (sSeq (sSet 1 (eo2 eqD (eCall [true, false] sp__law_take (aP [(pV 0), (pC (.int 8))])) (eP (pC (.int 0)))))
  (sRet (eIf (cP (bTr (pV 1))) (eo2 addD (eP (pC (.int 7))) (eCall [true, false] sp__law_take (aP [(pV 0), (pC (.int 2))]))) (eCall [true, false] sp__law_take (aP [(pV 0), (pC (.int 7))])))))
theorem nd__law_many : N__law_many.Nodup := by decide
theorem sc__law_many : FnScope N__law_many ["_law_tape_here"] (defScope s__law_many) := C8.fnScope_by (by decide +kernel)
theorem d__law_many {P : Program} {w : World} {K : PySem.W.Frag} {mg : Str → Option Value} {base : Heap} {f : Addr} {k : Nat} {sp__law_take : SpD} {k__law_take : Nat} (ca__law_take : Ca P w K mg base k__law_take "_law_take" 2 sp__law_take) (hk__law_take : k__law_take ≤ k) :
    ∀ (cdv : Value) (A : Around) (outer : List Env) (s : Shared) (H : Hp) (E : XK) (G : Gd), RoomG k (A.deeper (PyProof.Rows.envOfC "_law_many" (defScope s__law_many) s.heap.objs.size f cdv)) → G.i0.length = 1 →
      VSs (cxOf C8.CX0 P w K mg base N__law_many "_law_many" (defScope s__law_many) f cdv A outer s H E).nox G (defBody s__law_many) (t__law_many sp__law_take) := by
  intro cdv A outer s H E G hr hG
  have hU : ∀ n : Nat, n ≤ 200 → (A.deeper (PyProof.Rows.envOfC "_law_many" (defScope s__law_many) s.heap.objs.size f cdv)).units + n < cLine := fun n hn => by have := hr.rm.un; omega
  exact (vss_cons (vs_set nd__law_many rfl (by first | exact Or.inl rfl | exact Or.inr rfl) (ve_cmp (op_eqX (hU 64 (by decide))) rd_eq (ve_call [true, false] ca__law_take hr hk__law_take rfl (va_p (ve_v 0) (va_p ve_int va_p0))) ve_int (nomark _)))
  (vss_one (vs_ret (ve_if (VT.pure (vt_val (ve_v 1))) (ve_add ve_int (ve_call [true, false] ca__law_take hr hk__law_take rfl (va_p (ve_v 0) (va_p ve_int va_p0)))) (ve_call [true, false] ca__law_take hr hk__law_take rfl (va_p (ve_v 0) (va_p ve_int va_p0)))))))
abbrev s__law_same : Stmt := top 13
def N__law_same : List Str := ["_law_found", "_law_due", "_law_one", "_law_other"]
def t__law_same (sp__law_same : SpD) : TS' :=
  (sSeq (sIf (cP (bTr (poN isiD [(pV 1), (poTup [(pC (.ty "list")), (pC (.ty "tuple"))])])))
  (sSeq (sIf (cP (bOr (bB (po2 neD (poN isiD [(pV 0), (pC (.ty "list"))]) (poN isiD [(pV 1), (pC (.ty "list"))]))) (bB (po2 neD (poN isiD [(pV 0), (pC (.ty "tuple"))]) (poN isiD [(pV 1), (pC (.ty "tuple"))])))))
  (sRet (eP (pC (.bl false))))
  sNil)
  (sSeq (sIf (cP (bB (po2 neD (poN lenD [(pV 0)]) (poN lenD [(pV 1)]))))
  (sRet (eP (pC (.bl false))))
  sNil)
  (sRet (eoN allD (aCons (eFz (fLc (iZp (aP [(pV 0), (pV 1)])) (.tp [2, 3]) tYs (eCall [false, false] sp__law_same (aP [(pV 2), (pV 3)])) [2, 3])) (aP []))))))
  sNil)
  (sSeq (sIf (cP (bOr (bB (po2 isD (pV 1) (pC .non))) (bTr (poN isiD [(pV 1), (pC (.ty "str"))]))))
  (sRet (eP (poAn (po2 eqD (pV 0) (pV 1)) (po2 eqD (poN isiD [(pV 0), (pC (.ty "str"))]) (poN isiD [(pV 1), (pC (.ty "str"))])))))
  sNil)
  (sSeq (sIf (cP (bTr (poN isiD [(pV 1), (pC (.ty "bool"))])))
  (sRet (eP (poAn (poN isiD [(pV 0), (pC (.ty "bool"))]) (po2 eqD (pV 0) (pV 1)))))
  sNil)
  (sRet (eP (poAn (poN isiD [(pV 0), (pC (.ty "int"))]) (poAn (poNt (poN isiD [(pV 0), (pC (.ty "bool"))])) (po2 eqD (pV 0) (pV 1)))))))))
theorem nd__law_same : N__law_same.Nodup := by decide
theorem sc__law_same : FnScope N__law_same ["_law_found", "_law_due"] (defScope s__law_same) := C8.fnScope_by (by decide +kernel)
theorem d__law_same {P : Program} {w : World} {K : PySem.W.Frag} {mg : Str → Option Value} {base : Heap} {f : Addr} {k : Nat} (m_list : mg "list" = none) (m_tuple : mg "tuple" = none) (m_isinstance : mg "isinstance" = none) (m_len : mg "len" = none) (m_zip : mg "zip" = none) (m_all : mg "all" = none) (m_str : mg "str" = none) (m_bool : mg "bool" = none) (m_int : mg "int" = none) {sp__law_same : SpD} {k__law_same : Nat} (ca__law_same : Ca P w K mg base k__law_same "_law_same" 2 sp__law_same) (hk__law_same : k__law_same ≤ k) :
    ∀ (cdv : Value) (A : Around) (outer : List Env) (s : Shared) (H : Hp) (E : XK) (G : Gd), RoomG k (A.deeper (PyProof.Rows.envOfC "_law_same" (defScope s__law_same) s.heap.objs.size f cdv)) → G.i0.length = 0 →
      VSs (cxOf C8.CX0 P w K mg base N__law_same "_law_same" (defScope s__law_same) f cdv A outer s H E).nox G (defBody s__law_same) (t__law_same sp__law_same) := by
  intro cdv A outer s H E G hr hG
  have hU : ∀ n : Nat, n ≤ 200 → (A.deeper (PyProof.Rows.envOfC "_law_same" (defScope s__law_same) s.heap.objs.size f cdv)).units + n < cLine := fun n hn => by have := hr.rm.un; omega
  exact (vss_cons (vs_if (VT.pure (vt_val (VE.pureN (ve_callB call_isiX rd_isi rfl m_isinstance bt_isinstance (va_p (ve_v 1) (va_p (VE.pTup (ve_tup (va_p (ve_ty rfl m_list bt_list) (va_p (ve_ty rfl m_tuple bt_tuple) va_p0)))) va_p0)))))) (vss_cons (vs_if (VW.vt (VW.pOr (vw_or (VT.pureB2 (vt_cmp (op_neX (hU 64 (by decide))) rd_ne (VE.pureN (ve_callB call_isiX rd_isi rfl m_isinstance bt_isinstance (va_p (ve_v 0) (va_p (ve_ty rfl m_list bt_list) va_p0)))) (VE.pureN (ve_callB call_isiX rd_isi rfl m_isinstance bt_isinstance (va_p (ve_v 1) (va_p (ve_ty rfl m_list bt_list) va_p0)))) (nomark _))) (vw_or1 (VT.pureB2 (vt_cmp (op_neX (hU 64 (by decide))) rd_ne (VE.pureN (ve_callB call_isiX rd_isi rfl m_isinstance bt_isinstance (va_p (ve_v 0) (va_p (ve_ty rfl m_tuple bt_tuple) va_p0)))) (VE.pureN (ve_callB call_isiX rd_isi rfl m_isinstance bt_isinstance (va_p (ve_v 1) (va_p (ve_ty rfl m_tuple bt_tuple) va_p0)))) (nomark _))))))) (vss_one (vs_ret ve_bl)) vss_nil)
  (vss_cons (vs_if (VT.pureB2 (vt_cmp (op_neX (hU 64 (by decide))) rd_ne (VE.pureN (ve_callB call_lenX rd_len rfl m_len bt_len (va_p (ve_v 0) va_p0))) (VE.pureN (ve_callB call_lenX rd_len rfl m_len bt_len (va_p (ve_v 1) va_p0))) (nomark _))) (vss_one (vs_ret ve_bl)) vss_nil)
  (vss_one (vs_ret (ve_callB (cr_all rfl) rd_all rfl m_all bt_all (va_cons (VF.fz (vf_lc (own := [("_law_one", 2), ("_law_other", 3)]) rfl nd__law_same (vi_zip rfl m_zip (va_p (ve_v 0) (va_p (ve_v 1) va_p0))) (blkOk_by (show blkC N__law_same (defScope s__law_same) _ _ = true by decide +kernel)) (fun s H C cl fp => pg_tup rfl (pgs_cons (pg_name nd__law_same rfl (by first | exact Or.inl rfl | exact Or.inr rfl) (.inr rfl)) (pgs_cons (pg_name nd__law_same rfl (by first | exact Or.inl rfl | exact Or.inr rfl) (.inr rfl)) pgs_nil))) (fun s H C cl fp G hG' => vts_nil) (fun s H C cl fp G hG' => (ve_call [false, false] ca__law_same hr hk__law_same rfl (va_p (ve_v 2) (va_p (ve_v 3) va_p0)))) (by decide))) va_p0)))))) vss_nil)
  (vss_cons (vs_if (VW.vt (VW.pOr (vw_or (VT.pureB2 (vt_cmp op_isX rd_is (ve_v 1) ve_non (nomark _))) (vw_or1 (VT.pure (vt_val (VE.pureN (ve_callB call_isiX rd_isi rfl m_isinstance bt_isinstance (va_p (ve_v 1) (va_p (ve_ty rfl m_str bt_str) va_p0)))))))))) (vss_one (vs_ret (VE.pAn (ve_and (VE.pure2 (ve_cmp (op_eqX (hU 64 (by decide))) rd_eq (ve_v 0) (ve_v 1) (nomark _))) (ve_one (VE.pure2 (ve_cmp (op_eqX (hU 64 (by decide))) rd_eq (VE.pureN (ve_callB call_isiX rd_isi rfl m_isinstance bt_isinstance (va_p (ve_v 0) (va_p (ve_ty rfl m_str bt_str) va_p0)))) (VE.pureN (ve_callB call_isiX rd_isi rfl m_isinstance bt_isinstance (va_p (ve_v 1) (va_p (ve_ty rfl m_str bt_str) va_p0)))) (nomark _)))))))) vss_nil)
  (vss_cons (vs_if (VT.pure (vt_val (VE.pureN (ve_callB call_isiX rd_isi rfl m_isinstance bt_isinstance (va_p (ve_v 1) (va_p (ve_ty rfl m_bool bt_bool) va_p0)))))) (vss_one (vs_ret (VE.pAn (ve_and (VE.pureN (ve_callB call_isiX rd_isi rfl m_isinstance bt_isinstance (va_p (ve_v 0) (va_p (ve_ty rfl m_bool bt_bool) va_p0)))) (ve_one (VE.pure2 (ve_cmp (op_eqX (hU 64 (by decide))) rd_eq (ve_v 0) (ve_v 1) (nomark _)))))))) vss_nil)
  (vss_one (vs_ret (VE.pAn (ve_and (VE.pureN (ve_callB call_isiX rd_isi rfl m_isinstance bt_isinstance (va_p (ve_v 0) (va_p (ve_ty rfl m_int bt_int) va_p0)))) (VE.pAn (ve_and (VE.pNt (ve_not (VE.pureN (ve_callB call_isiX rd_isi rfl m_isinstance bt_isinstance (va_p (ve_v 0) (va_p (ve_ty rfl m_bool bt_bool) va_p0)))))) (ve_one (VE.pure2 (ve_cmp (op_eqX (hU 64 (by decide))) rd_eq (ve_v 0) (ve_v 1) (nomark _)))))))))))))
abbrev s__law_right : Stmt := top 14
def N__law_right : List Str := ["_law_claim_here", "_law_filling", "_law_kept"]
def t__law_right (sp__law_same : SpD) (sp_holds : SpD) (sp__law_holds : SpD) : TS' :=
  (sSeq (sSet 2 (eP (poN reprD [(pV 0)])))
  (sRet (eAn (eCall [false, false] sp__law_same (aCons (eCall [false, false] sp_holds (aP [(pV 0), (pV 1)])) (aCons (eCall [false, false] sp__law_holds (aP [(pV 0), (pV 1)])) (aP [])))) (eP (po2 eqD (poN reprD [(pV 0)]) (pV 2))))))
theorem nd__law_right : N__law_right.Nodup := by decide
theorem sc__law_right : FnScope N__law_right ["_law_claim_here", "_law_filling"] (defScope s__law_right) := C8.fnScope_by (by decide +kernel)
theorem d__law_right {P : Program} {w : World} {K : PySem.W.Frag} {mg : Str → Option Value} {base : Heap} {f : Addr} {k : Nat} (m_repr : mg "repr" = none) {sp__law_same : SpD} {k__law_same : Nat} (ca__law_same : Ca P w K mg base k__law_same "_law_same" 2 sp__law_same) (hk__law_same : k__law_same ≤ k) {sp_holds : SpD} {k_holds : Nat} (ca_holds : Ca P w K mg base k_holds "holds" 2 sp_holds) (hk_holds : k_holds ≤ k) {sp__law_holds : SpD} {k__law_holds : Nat} (ca__law_holds : Ca P w K mg base k__law_holds "_law_holds" 2 sp__law_holds) (hk__law_holds : k__law_holds ≤ k) :
    ∀ (cdv : Value) (A : Around) (outer : List Env) (s : Shared) (H : Hp) (E : XK) (G : Gd), RoomG k (A.deeper (PyProof.Rows.envOfC "_law_right" (defScope s__law_right) s.heap.objs.size f cdv)) → G.i0.length = 0 →
      VSs (cxOf C8.CX0 P w K mg base N__law_right "_law_right" (defScope s__law_right) f cdv A outer s H E).nox G (defBody s__law_right) (t__law_right sp__law_same sp_holds sp__law_holds) := by
  intro cdv A outer s H E G hr hG
  have hU : ∀ n : Nat, n ≤ 200 → (A.deeper (PyProof.Rows.envOfC "_law_right" (defScope s__law_right) s.heap.objs.size f cdv)).units + n < cLine := fun n hn => by have := hr.rm.un; omega
  exact (vss_cons (vs_set nd__law_right rfl (by first | exact Or.inl rfl | exact Or.inr rfl) (VE.pureN (ve_callB (call_repr hr.gs (hU 200 (by decide))) rd_repr rfl m_repr bt_repr (va_p (ve_v 0) va_p0))))
  (vss_one (vs_ret (ve_and (ve_call [false, false] ca__law_same hr hk__law_same rfl (va_cons (ve_call [false, false] ca_holds hr hk_holds rfl (va_p (ve_v 0) (va_p (ve_v 1) va_p0))) (va_cons (ve_call [false, false] ca__law_holds hr hk__law_holds rfl (va_p (ve_v 0) (va_p (ve_v 1) va_p0))) va_p0))) (ve_one (VE.pure2 (ve_cmp (op_eqX (hU 64 (by decide))) rd_eq (VE.pureN (ve_callB (call_repr hr.gs (hU 200 (by decide))) rd_repr rfl m_repr bt_repr (va_p (ve_v 0) va_p0))) (ve_v 2) (nomark _))))))))
abbrev s_law : Stmt := top 15
def N_law : List Str := ["_law_script", "_law_turn", "_law_least", "_law_k", "_law_nots", "_law_many_here", "_law_some", "_law_tape_here", "_law_claim_here", "_law_place", "_law_filling", "_law_name"]
def t_law (sp_holds : SpD) (sp__law_same : SpD) (sp__law_tape : SpD) (sp__law_many : SpD) (sp__law_any_claim : SpD) (sp__law_all_fillings : SpD) (sp__law_right : SpD) (sp__law_take : SpD) : TS' :=
  (sSeq (sParT [4, 5] (aP [(poTup [(pC (.str "name")), (pC (.int 1))]), (pC (.int 40))]))
  (sSeq (sFor (iRg false (aP [(pC (.int 11))])) (gNm 1)
  (sSet 4 (eP (poTup [(pC (.str "not")), (pV 4)]))))
  (sSeq (sIf (tOrr (tTb (eo2 isntD (eCall [false, false] sp_holds (aP [(pV 4), (poTup [(pC (.int 0)), (pC (.int 0))])])) (eP (pC (.bl true))))) (tTb (eo2 isntD (eCall [false, false] sp_holds (aP [(pV 4), (poTup [(pC (.int 0)), (pC (.int 1))])])) (eP (pC (.bl false))))))
  (sRet (eP (pC (.bl false))))
  sNil)
  (sSeq (sFor (iPq (poTup [(pC (.int 0)), (pC (.int 1)), (pC (.int 20)), (pC (.int 21)), (pC (.int 40)), (pC (.int 41))])) (gNm 2)
  (sSeq (sSet 6 (eo1 tupC (eFz (fLc (iRg true (aP [(pV 5)])) (.nm 9) tYs (eP (poTup [(pC (.str "name")), (po2 modD (pV 9) (pC (.int 2)))])) [9]))))
  (sIf (tNt (tTr (eCall [false, false] sp__law_same (aCons (eCall [false, false] sp_holds (aP [(poTup [(pC (.str "least")), (pV 2), (pV 6)]), (poTup [(pC (.int 1)), (pC (.int 0))])])) (aP [(po2 ltD (pV 2) (pC (.int 21)))])))))
  (sRet (eP (pC (.bl false))))
  sNil)))
  (sSeq (sFor (iRg false (aP [(po2 addD (pC (.int 1)) (poN minD [(pC (.int 3)), (poN lenD [(pV 0)])]))])) (gNm 3)
  (sSeq (sSet 7 (eCall [false, false] sp__law_tape (aP [(pV 0), (pV 3)])))
  (sSeq (sSet 5 (eo2 modD (eCall [true] sp__law_many (aP [(pV 7)])) (eP (po2 ixD (pFz (plLst [(pC (.int 9)), (pC (.int 6))])) (poN intD [(po2 gtD (pV 3) (pC (.int 0)))])))))
  (sSeq (sFor (iSq (eFz (fLc (iRg true (aP [(pC (.int 3))])) (.nm 1) tYs (eCall [true, false] sp__law_any_claim (aP [(pV 7), (pV 5)])) [1]))) (gNm 8)
  (sIf (tNt (tTr (eoN allD (aCons (eFz (fLc (iSq (eSeal 0 (eCall [false] sp__law_all_fillings (aP [(pV 5)])))) (.nm 10) tYs (eCall [false, false] sp__law_right (aP [(pV 8), (pV 10)])) [10])) (aP [])))))
  (sRet (eP (pC (.bl false))))
  sNil))
  (sSeq (sSet 8 (eCall [true, false] sp__law_any_claim (aP [(pV 7), (pC (.int 30))])))
  (sFor (iRg false (aP [(pC (.int 8))])) (gNm 1)
  (sIf (tNt (tTr (eCall [false, false] sp__law_right (aCons (eP (pV 8)) (aCons (eo1 tupC (eFz (fLc (iRg true (aP [(pC (.int 30))])) (.nm 11) tYs (eCall [true, false] sp__law_take (aP [(pV 7), (pC (.int 2))])) [11]))) (aP []))))))
  (sRet (eP (pC (.bl false))))
  sNil)))))))
  (sRet (eP (pC (.bl true)))))))))
theorem nd_law : N_law.Nodup := by decide
theorem sc_law : FnScope N_law ["_law_script"] (defScope s_law) := C8.fnScope_by (by decide +kernel)
theorem d_law {P : Program} {w : World} {K : PySem.W.Frag} {mg : Str → Option Value} {base : Heap} {f : Addr} {k : Nat} (m_range : mg "range" = none) (m_tuple : mg "tuple" = none) (m_len : mg "len" = none) (m_min : mg "min" = none) (m_int : mg "int" = none) (m_all : mg "all" = none) {sp_holds : SpD} {k_holds : Nat} (ca_holds : Ca P w K mg base k_holds "holds" 2 sp_holds) (hk_holds : k_holds ≤ k) {sp__law_same : SpD} {k__law_same : Nat} (ca__law_same : Ca P w K mg base k__law_same "_law_same" 2 sp__law_same) (hk__law_same : k__law_same ≤ k) {sp__law_tape : SpD} {k__law_tape : Nat} (ca__law_tape : Ca P w K mg base k__law_tape "_law_tape" 2 sp__law_tape) (hk__law_tape : k__law_tape ≤ k) {sp__law_many : SpD} {k__law_many : Nat} (ca__law_many : Ca P w K mg base k__law_many "_law_many" 1 sp__law_many) (hk__law_many : k__law_many ≤ k) {sp__law_any_claim : SpD} {k__law_any_claim : Nat} (ca__law_any_claim : Ca P w K mg base k__law_any_claim "_law_any_claim" 2 sp__law_any_claim) (hk__law_any_claim : k__law_any_claim ≤ k) {sp__law_all_fillings : SpD} {k__law_all_fillings : Nat} (ca__law_all_fillings : Ca P w K mg base k__law_all_fillings "_law_all_fillings" 1 sp__law_all_fillings) (hk__law_all_fillings : k__law_all_fillings ≤ k) {sp__law_right : SpD} {k__law_right : Nat} (ca__law_right : Ca P w K mg base k__law_right "_law_right" 2 sp__law_right) (hk__law_right : k__law_right ≤ k) {sp__law_take : SpD} {k__law_take : Nat} (ca__law_take : Ca P w K mg base k__law_take "_law_take" 2 sp__law_take) (hk__law_take : k__law_take ≤ k) :
    ∀ (cdv : Value) (A : Around) (outer : List Env) (s : Shared) (H : Hp) (E : XK) (G : Gd), RoomG k (A.deeper (PyProof.Rows.envOfC "law" (defScope s_law) s.heap.objs.size f cdv)) → G.i0.length = 0 →
      VSs (cxOf C8.CX0 P w K mg base N_law "law" (defScope s_law) f cdv A outer s H E).nox G (defBody s_law) (t_law sp_holds sp__law_same sp__law_tape sp__law_many sp__law_any_claim sp__law_all_fillings sp__law_right sp__law_take) := by
  intro cdv A outer s H E G hr hG
  have hU : ∀ n : Nat, n ≤ 200 → (A.deeper (PyProof.Rows.envOfC "law" (defScope s_law) s.heap.objs.size f cdv)).units + n < cLine := fun n hn => by have := hr.rm.un; omega
  exact (vss_cons (vs_parT (is := [4, 5]) rfl (pgs_names nd_law rfl (by first | exact Or.inl rfl | exact Or.inr rfl) (pgs_names nd_law rfl (by first | exact Or.inl rfl | exact Or.inr rfl) pgs_names_nil)) (va_p (VE.pTup (ve_tup (va_p ve_str (va_p ve_int va_p0)))) (va_p ve_int va_p0)))
  (vss_cons (vs_for (bd := false) PassesOwn.never rfl (vi_range1 rfl m_range (va_p ve_int va_p0)) (vg_name nd_law rfl (by first | exact Or.inl rfl | exact Or.inr rfl)) (vss_one (vs_set nd_law rfl (by first | exact Or.inl rfl | exact Or.inr rfl) (VE.pTup (ve_tup (va_p ve_str (va_p (ve_v 4) va_p0)))))))
  (vss_cons (vs_if (VW.vt (vw_or (vt_cmp op_isntX rd_isnt (ve_call [false, false] ca_holds hr hk_holds rfl (va_p (ve_v 4) (va_p (VE.pTup (ve_tup (va_p ve_int (va_p ve_int va_p0)))) va_p0))) ve_bl (nomark _)) (vw_or1 (vt_cmp op_isntX rd_isnt (ve_call [false, false] ca_holds hr hk_holds rfl (va_p (ve_v 4) (va_p (VE.pTup (ve_tup (va_p ve_int (va_p ve_int va_p0)))) va_p0))) ve_bl (nomark _))))) (vss_one (vs_ret ve_bl)) vss_nil)
  (vss_cons (vs_for (bd := false) PassesOwn.never rfl (vi_pq (VE.pTup (ve_tup (va_p ve_int (va_p ve_int (va_p ve_int (va_p ve_int (va_p ve_int (va_p ve_int va_p0))))))))) (vg_name nd_law rfl (by first | exact Or.inl rfl | exact Or.inr rfl)) (vss_cons (vs_set nd_law rfl (by first | exact Or.inl rfl | exact Or.inr rfl) (ve_tupleOf rfl m_tuple (VF.fz (vf_lc (own := [("_law_place", 9)]) rfl nd_law (vi_range1 rfl m_range (va_p (ve_v 5) va_p0)) (blkOk_by (show blkC N_law (defScope s_law) _ _ = true by decide +kernel)) (fun s H C cl fp => pg_name nd_law rfl (by first | exact Or.inl rfl | exact Or.inr rfl) (.inr rfl)) (fun s H C cl fp G hG' => vts_nil) (fun s H C cl fp G hG' => (VE.pTup (ve_tup (va_p ve_str (va_p (VE.pure2 (ve_mod (ve_v 9) ve_int)) va_p0))))) (by decide)))))
  (vss_one (vs_if (vt_not (vt_val (ve_call [false, false] ca__law_same hr hk__law_same rfl (va_cons (ve_call [false, false] ca_holds hr hk_holds rfl (va_p (VE.pTup (ve_tup (va_p ve_str (va_p (ve_v 2) (va_p (ve_v 6) va_p0))))) (va_p (VE.pTup (ve_tup (va_p ve_int (va_p ve_int va_p0)))) va_p0))) (va_p (VE.pure2 (ve_cmp op_lt rd_lt (ve_v 2) ve_int (nomark _))) va_p0))))) (vss_one (vs_ret ve_bl)) vss_nil))))
  (vss_cons (vs_for (bd := false) PassesOwn.never rfl (vi_range1 rfl m_range (va_p (VE.pure2 (ve_add ve_int (VE.pureN (ve_callB (call_minX rfl) rd_min rfl m_min bt_min (va_p ve_int (va_p (VE.pureN (ve_callB call_lenX rd_len rfl m_len bt_len (va_p (ve_v 0) va_p0))) va_p0)))))) va_p0)) (vg_name nd_law rfl (by first | exact Or.inl rfl | exact Or.inr rfl)) (vss_cons (vs_set nd_law rfl (by first | exact Or.inl rfl | exact Or.inr rfl) (ve_call [false, false] ca__law_tape hr hk__law_tape rfl (va_p (ve_v 0) (va_p (ve_v 3) va_p0))))
  (vss_cons (vs_set nd_law rfl (by first | exact Or.inl rfl | exact Or.inr rfl) (ve_mod (ve_call [true] ca__law_many hr hk__law_many rfl (va_p (ve_v 7) va_p0)) (VE.pure2 (ve_idx (VF.pure (VF.pLst (vf_lst (va_p ve_int (va_p ve_int va_p0))))) (VE.pureN (ve_callTy call_int1 rd_intC rfl m_int bt_int (va_p (VE.pure2 (ve_cmp op_gt rd_gt (ve_v 3) ve_int (nomark _))) va_p0)))))))
  (vss_cons (vs_for (bd := false) PassesOwn.never rfl (vi_sq (VF.fz (vf_lc (own := [("_law_turn", 1)]) rfl nd_law (vi_range1 rfl m_range (va_p ve_int va_p0)) (blkOk_by (show blkC N_law (defScope s_law) _ _ = true by decide +kernel)) (fun s H C cl fp => pg_name nd_law rfl (by first | exact Or.inl rfl | exact Or.inr rfl) (.inr rfl)) (fun s H C cl fp G hG' => vts_nil) (fun s H C cl fp G hG' => (ve_call [true, false] ca__law_any_claim hr hk__law_any_claim rfl (va_p (ve_v 7) (va_p (ve_v 5) va_p0)))) (by decide)))) (vg_name nd_law rfl (by first | exact Or.inl rfl | exact Or.inr rfl)) (vss_one (vs_if (vt_not (vt_val (ve_callB (cr_all rfl) rd_all rfl m_all bt_all (va_cons (VF.fz (vf_lc (own := [("_law_filling", 10)]) rfl nd_law (vi_sq (VE.seal hG (ve_call [false] ca__law_all_fillings hr hk__law_all_fillings rfl (va_p (ve_v 5) va_p0)))) (blkOk_by (show blkC N_law (defScope s_law) _ _ = true by decide +kernel)) (fun s H C cl fp => pg_name nd_law rfl (by first | exact Or.inl rfl | exact Or.inr rfl) (.inr rfl)) (fun s H C cl fp G hG' => vts_nil) (fun s H C cl fp G hG' => (ve_call [false, false] ca__law_right hr hk__law_right rfl (va_p (ve_v 8) (va_p (ve_v 10) va_p0)))) (by decide))) va_p0)))) (vss_one (vs_ret ve_bl)) vss_nil)))
  (vss_cons (vs_set nd_law rfl (by first | exact Or.inl rfl | exact Or.inr rfl) (ve_call [true, false] ca__law_any_claim hr hk__law_any_claim rfl (va_p (ve_v 7) (va_p ve_int va_p0))))
  (vss_one (vs_for (bd := false) PassesOwn.never rfl (vi_range1 rfl m_range (va_p ve_int va_p0)) (vg_name nd_law rfl (by first | exact Or.inl rfl | exact Or.inr rfl)) (vss_one (vs_if (vt_not (vt_val (ve_call [false, false] ca__law_right hr hk__law_right rfl (va_cons (ve_v 8) (va_cons (ve_tupleOf rfl m_tuple (VF.fz (vf_lc (own := [("_law_name", 11)]) rfl nd_law (vi_range1 rfl m_range (va_p ve_int va_p0)) (blkOk_by (show blkC N_law (defScope s_law) _ _ = true by decide +kernel)) (fun s H C cl fp => pg_name nd_law rfl (by first | exact Or.inl rfl | exact Or.inr rfl) (.inr rfl)) (fun s H C cl fp G hG' => vts_nil) (fun s H C cl fp G hG' => (ve_call [true, false] ca__law_take hr hk__law_take rfl (va_p (ve_v 7) (va_p ve_int va_p0)))) (by decide)))) va_p0))))) (vss_one (vs_ret ve_bl)) vss_nil)))))))))
  (vss_one (vs_ret ve_bl)))))))
end Zk03
set_option Elab.async false
set_option linter.all false
set_option maxRecDepth 100000
set_option maxHeartbeats 1000000
open PySem PySem.Spec L2 RT RZ VL
namespace Zk03
def dd__law_cell_at : He.DefD := ⟨("_law_cell_at", none), "_law_cell_at", "_law_cell_at", defArgs s__law_cell_at, defBody s__law_cell_at, defScope s__law_cell_at, [], []⟩
def dd__law_tape : He.DefD := ⟨("_law_tape", none), "_law_tape", "_law_tape", defArgs s__law_tape, defBody s__law_tape, defScope s__law_tape, [], []⟩
def dd__law_take : He.DefD := ⟨("_law_take", none), "_law_take", "_law_take", defArgs s__law_take, defBody s__law_take, defScope s__law_take, [], []⟩
def dd__law_claim : He.DefD := ⟨("_law_claim", none), "_law_claim", "_law_claim", defArgs s__law_claim, defBody s__law_claim, defScope s__law_claim, [], []⟩
def dd__law_any_claim : He.DefD := ⟨("_law_any_claim", none), "_law_any_claim", "_law_any_claim", defArgs s__law_any_claim, defBody s__law_any_claim, defScope s__law_any_claim, [], []⟩
def dd_inner_claims : He.DefD := ⟨("inner_claims", none), "inner_claims", "inner_claims", defArgs s_inner_claims, defBody s_inner_claims, defScope s_inner_claims, [], []⟩
def dd_holds : He.DefD := ⟨("holds", none), "holds", "holds", defArgs s_holds, defBody s_holds, defScope s_holds, [], []⟩
def dd__law_holds : He.DefD := ⟨("_law_holds", none), "_law_holds", "_law_holds", defArgs s__law_holds, defBody s__law_holds, defScope s__law_holds, [], []⟩
def dd__law_all_fillings : He.DefD := ⟨("_law_all_fillings", none), "_law_all_fillings", "_law_all_fillings", defArgs s__law_all_fillings, defBody s__law_all_fillings, defScope s__law_all_fillings, [], []⟩
def dd__law_many : He.DefD := ⟨("_law_many", none), "_law_many", "_law_many", defArgs s__law_many, defBody s__law_many, defScope s__law_many, [], []⟩
def dd__law_same : He.DefD := ⟨("_law_same", none), "_law_same", "_law_same", defArgs s__law_same, defBody s__law_same, defScope s__law_same, [], []⟩
def dd__law_right : He.DefD := ⟨("_law_right", none), "_law_right", "_law_right", defArgs s__law_right, defBody s__law_right, defScope s__law_right, [], []⟩
def dd_law : He.DefD := ⟨("law", none), "law", "law", defArgs s_law, defBody s_law, defScope s_law, [], []⟩
def fn : List He.DefD := [dd__law_cell_at, dd__law_tape, dd__law_take, dd__law_claim, dd__law_any_claim, dd_inner_claims, dd_holds, dd__law_holds, dd__law_all_fillings, dd__law_many, dd__law_same, dd__law_right, dd_law]
def fa : List He.Fa := [.glo "_law_cell_at", .glo "_law_tape", .glo "_law_take", .glo "_law_claim", .glo "_law_any_claim", .glo "inner_claims", .glo "holds", .glo "_law_holds", .glo "_law_all_fillings", .glo "_law_many", .glo "_law_same", .glo "_law_right", .glo "law", .free "len", .free "abs", .free "int", .free "max", .free "range", .free "tuple", .free "list", .free "all", .free "any", .free "isinstance", .free "zip", .free "str", .free "bool", .free "repr", .free "min"]
def cs : List (Str × D) := [("PLAIN", c_PLAIN)]
theorem ok_law {P : Program} {w : World} {K : PySem.W.Frag} {mg : Str → Option Value} {h base : Heap} (X : K.In h) (G : h.Ns mainGlobals mg) (c : SaysV fa fn cs K) {fd : FuncData} (F : FunD K "law" "law" (defArgs s_law) (defBody s_law) (defScope s_law) [] [] (He.fAd K ("law", none)) fd) :
    FnG P w K mg base C8.CX0 23 (He.fAd K ("law", none)) fd ["_law_script"] (lP K 1 sp_law) := by
  have m_len := He.free_ok X G (c.d.fact 13 (f := .free "len") rfl)
  have m_abs := He.free_ok X G (c.d.fact 14 (f := .free "abs") rfl)
  have m_int := He.free_ok X G (c.d.fact 15 (f := .free "int") rfl)
  have m_max := He.free_ok X G (c.d.fact 16 (f := .free "max") rfl)
  have m_range := He.free_ok X G (c.d.fact 17 (f := .free "range") rfl)
  have m_tuple := He.free_ok X G (c.d.fact 18 (f := .free "tuple") rfl)
  have m_list := He.free_ok X G (c.d.fact 19 (f := .free "list") rfl)
  have m_all := He.free_ok X G (c.d.fact 20 (f := .free "all") rfl)
  have m_any := He.free_ok X G (c.d.fact 21 (f := .free "any") rfl)
  have m_isinstance := He.free_ok X G (c.d.fact 22 (f := .free "isinstance") rfl)
  have m_zip := He.free_ok X G (c.d.fact 23 (f := .free "zip") rfl)
  have m_str := He.free_ok X G (c.d.fact 24 (f := .free "str") rfl)
  have m_bool := He.free_ok X G (c.d.fact 25 (f := .free "bool") rfl)
  have m_repr := He.free_ok X G (c.d.fact 26 (f := .free "repr") rfl)
  have m_min := He.free_ok X G (c.d.fact 27 (f := .free "min") rfl)
  obtain ⟨u_PLAIN, hm_PLAIN, kv_PLAIN⟩ := c.con X G 0 (x := "PLAIN") (d := c_PLAIN) rfl
  obtain ⟨fd__law_cell_at, F__law_cell_at⟩ := c.d.def_ 0 (d := dd__law_cell_at) rfl
  have g__law_cell_at : mg "_law_cell_at" = some (.ref (He.fAd K ("_law_cell_at", none))) := He.glo_ok X G (c.d.fact 0 (f := .glo "_law_cell_at") rfl)
  have b__law_cell_at : Binds K fd__law_cell_at ["_law_script", "_law_k"] [] := FunD.bindsN F__law_cell_at fun _ _ _ _ _ _ us hl => match us, hl with | [_, _], _ => rfl
  have ca_cell : Ca P w K mg base 1 "_law_cell_at" 2 sp_cell := ca_of (k := 0) F__law_cell_at g__law_cell_at b__law_cell_at sc__law_cell_at (m0 := 0) (by rintro as M Q ⟨_, _, _,  rfl, _⟩; rfl) (d__law_cell_at m_len) (fun as M Q _ h => pure_cell as M Q h)
  obtain ⟨fd__law_tape, F__law_tape⟩ := c.d.def_ 1 (d := dd__law_tape) rfl
  have g__law_tape : mg "_law_tape" = some (.ref (He.fAd K ("_law_tape", none))) := He.glo_ok X G (c.d.fact 1 (f := .glo "_law_tape") rfl)
  have b__law_tape : Binds K fd__law_tape ["_law_script", "_law_k"] [] := FunD.bindsN F__law_tape fun _ _ _ _ _ _ us hl => match us, hl with | [_, _], _ => rfl
  have ca_tape : Ca P w K mg base 2 "_law_tape" 2 sp_tape := ca_of (k := 1) F__law_tape g__law_tape b__law_tape sc__law_tape (m0 := 0) (by rintro as M Q ⟨_, _, _,  rfl, _⟩; rfl) (d__law_tape m_abs m_int ca_cell (by omega)) (fun as M Q _ h => pure_tape as M Q h)
  obtain ⟨fd__law_take, F__law_take⟩ := c.d.def_ 2 (d := dd__law_take) rfl
  have g__law_take : mg "_law_take" = some (.ref (He.fAd K ("_law_take", none))) := He.glo_ok X G (c.d.fact 2 (f := .glo "_law_take") rfl)
  have b__law_take : Binds K fd__law_take ["_law_tape_here", "_law_many_here"] [] := FunD.bindsN F__law_take fun _ _ _ _ _ _ us hl => match us, hl with | [_, _], _ => rfl
  have bot__law_take : Ca P w K mg base 0 "_law_take" 2 (spB (fun _ => fun _ _ _ => False) 0) := ca_bot F__law_take g__law_take b__law_take 2
  have ca_take : Ca P w K mg base 1 "_law_take" 2 sp_take := ca_of (k := 0) F__law_take g__law_take b__law_take sc__law_take (m0 := 1) (by rintro as M Q ⟨_, _, _, _,  rfl, _⟩; rfl) (d__law_take bot__law_take (by omega)) (fun as M Q _ h => pure_take as M Q h)
  obtain ⟨fd__law_claim, F__law_claim⟩ := c.d.def_ 3 (d := dd__law_claim) rfl
  have g__law_claim : mg "_law_claim" = some (.ref (He.fAd K ("_law_claim", none))) := He.glo_ok X G (c.d.fact 3 (f := .glo "_law_claim") rfl)
  have b__law_claim : Binds K fd__law_claim ["_law_tape_here", "_law_many_here", "_law_deep"] [] := FunD.bindsN F__law_claim fun _ _ _ _ _ _ us hl => match us, hl with | [_, _, _], _ => rfl
  have ca_claims : ∀ d, Ca P w K mg base (1 + d) "_law_claim" 3 (spB sp_claim d) := fun d => by
    induction d with
    | zero => exact ca_bot F__law_claim g__law_claim b__law_claim 3
    | succ d ih => exact ca_of (k := 1 + d) F__law_claim g__law_claim b__law_claim sc__law_claim (m0 := 1) (by rintro as M Q ⟨_, _, _, _, _, _, rfl, _⟩; rfl) (d__law_claim m_max m_range m_tuple m_len ca_take (by omega) ih (by omega)) (fun as M Q _ h => pure_claim as M Q h)
  have ca_claim : Ca P w K mg base 5 "_law_claim" 3 (sp_claim 3) := (ca_claims 4).imp fun as M Q h => ⟨3, by decide, h⟩
  obtain ⟨fd__law_any_claim, F__law_any_claim⟩ := c.d.def_ 4 (d := dd__law_any_claim) rfl
  have g__law_any_claim : mg "_law_any_claim" = some (.ref (He.fAd K ("_law_any_claim", none))) := He.glo_ok X G (c.d.fact 4 (f := .glo "_law_any_claim") rfl)
  have b__law_any_claim : Binds K fd__law_any_claim ["_law_tape_here", "_law_many_here"] [] := FunD.bindsN F__law_any_claim fun _ _ _ _ _ _ us hl => match us, hl with | [_, _], _ => rfl
  have ca_any : Ca P w K mg base 6 "_law_any_claim" 2 sp_any := ca_of (k := 5) F__law_any_claim g__law_any_claim b__law_any_claim sc__law_any_claim (m0 := 1) (by rintro as M Q ⟨_, _, _, _,  rfl, _⟩; rfl) (d__law_any_claim m_range m_tuple ca_take (by omega) ca_claim (by omega)) (fun as M Q _ h => pure_any as M Q h)
  obtain ⟨fd_inner_claims, F_inner_claims⟩ := c.d.def_ 5 (d := dd_inner_claims) rfl
  have g_inner_claims : mg "inner_claims" = some (.ref (He.fAd K ("inner_claims", none))) := He.glo_ok X G (c.d.fact 5 (f := .glo "inner_claims") rfl)
  have b_inner_claims : Binds K fd_inner_claims ["claim"] [] := FunD.bindsN F_inner_claims fun _ _ _ _ _ _ us hl => match us, hl with | [_], _ => rfl
  have ca_inner : Ca P w K mg base 1 "inner_claims" 1 sp_inner := ca_of (k := 0) F_inner_claims g_inner_claims b_inner_claims sc_inner_claims (m0 := 0) (by rintro as M Q ⟨_, _,  rfl, _⟩; rfl) (d_inner_claims m_list hm_PLAIN kv_PLAIN) (fun as M Q _ h => pure_inner as M Q h)
  obtain ⟨fd_holds, F_holds⟩ := c.d.def_ 6 (d := dd_holds) rfl
  have g_holds : mg "holds" = some (.ref (He.fAd K ("holds", none))) := He.glo_ok X G (c.d.fact 6 (f := .glo "holds") rfl)
  have b_holds : Binds K fd_holds ["claim", "filling"] [] := FunD.bindsN F_holds fun _ _ _ _ _ _ us hl => match us, hl with | [_, _], _ => rfl
  have ca_holds : ∀ d, Ca P w K mg base (1 + d) "holds" 2 (spB sp_holds d) := fun d => by
    induction d with
    | zero => exact ca_bot F_holds g_holds b_holds 2
    | succ d ih => exact ca_of (k := 1 + d) F_holds g_holds b_holds sc_holds (m0 := 0) (by rintro as M Q ⟨_, _, _, _, _, rfl, _⟩; rfl) (d_holds m_all m_any hm_PLAIN kv_PLAIN ca_inner (by omega) ih (by omega)) (fun as M Q _ h => pure_holds as M Q h)
  obtain ⟨fd__law_holds, F__law_holds⟩ := c.d.def_ 7 (d := dd__law_holds) rfl
  have g__law_holds : mg "_law_holds" = some (.ref (He.fAd K ("_law_holds", none))) := He.glo_ok X G (c.d.fact 7 (f := .glo "_law_holds") rfl)
  have b__law_holds : Binds K fd__law_holds ["_law_claim_here", "_law_filling"] [] := FunD.bindsN F__law_holds fun _ _ _ _ _ _ us hl => match us, hl with | [_, _], _ => rfl
  have ca_lholds : ∀ d, Ca P w K mg base (1 + d) "_law_holds" 2 (spB sp_holds d) := fun d => by
    induction d with
    | zero => exact ca_bot F__law_holds g__law_holds b__law_holds 2
    | succ d ih => exact ca_of (k := 1 + d) F__law_holds g__law_holds b__law_holds sc__law_holds (m0 := 0) (by rintro as M Q ⟨_, _, _, _, _, rfl, _⟩; rfl) (d__law_holds m_all m_any ih (by omega)) (fun as M Q _ h => pure_lholds as M Q h)
  obtain ⟨fd__law_all_fillings, F__law_all_fillings⟩ := c.d.def_ 8 (d := dd__law_all_fillings) rfl
  have g__law_all_fillings : mg "_law_all_fillings" = some (.ref (He.fAd K ("_law_all_fillings", none))) := He.glo_ok X G (c.d.fact 8 (f := .glo "_law_all_fillings") rfl)
  have b__law_all_fillings : Binds K fd__law_all_fillings ["_law_many_here"] [] := FunD.bindsN F__law_all_fillings fun _ _ _ _ _ _ us hl => match us, hl with | [_], _ => rfl
  have ca_afs : Ca P w K mg base 1 "_law_all_fillings" 1 sp_afs := ca_of (k := 0) F__law_all_fillings g__law_all_fillings b__law_all_fillings sc__law_all_fillings (m0 := 0) (by rintro as M Q ⟨_, _,  rfl, _⟩; rfl) (d__law_all_fillings m_range) (fun as M Q _ h => pure_afs as M Q h)
  obtain ⟨fd__law_many, F__law_many⟩ := c.d.def_ 9 (d := dd__law_many) rfl
  have g__law_many : mg "_law_many" = some (.ref (He.fAd K ("_law_many", none))) := He.glo_ok X G (c.d.fact 9 (f := .glo "_law_many") rfl)
  have b__law_many : Binds K fd__law_many ["_law_tape_here"] [] := FunD.bindsN F__law_many fun _ _ _ _ _ _ us hl => match us, hl with | [_], _ => rfl
  have ca_many : Ca P w K mg base 2 "_law_many" 1 sp_many := ca_of (k := 1) F__law_many g__law_many b__law_many sc__law_many (m0 := 1) (by rintro as M Q ⟨_, _, _,  rfl, _⟩; rfl) (d__law_many ca_take (by omega)) (fun as M Q _ h => pure_many as M Q h)
  obtain ⟨fd__law_same, F__law_same⟩ := c.d.def_ 10 (d := dd__law_same) rfl
  have g__law_same : mg "_law_same" = some (.ref (He.fAd K ("_law_same", none))) := He.glo_ok X G (c.d.fact 10 (f := .glo "_law_same") rfl)
  have b__law_same : Binds K fd__law_same ["_law_found", "_law_due"] [] := FunD.bindsN F__law_same fun _ _ _ _ _ _ us hl => match us, hl with | [_, _], _ => rfl
  have bot__law_same : Ca P w K mg base 0 "_law_same" 2 (spB (fun _ => fun _ _ _ => False) 0) := ca_bot F__law_same g__law_same b__law_same 2
  have ca_same : Ca P w K mg base 1 "_law_same" 2 sp_sameB := ca_of (k := 0) F__law_same g__law_same b__law_same sc__law_same (m0 := 0) (by rintro as M Q ⟨_, _, _,  rfl, _⟩; rfl) (d__law_same m_list m_tuple m_isinstance m_len m_zip m_all m_str m_bool m_int bot__law_same (by omega)) (fun as M Q _ h => pure_sameB as M Q h)
  obtain ⟨fd__law_right, F__law_right⟩ := c.d.def_ 11 (d := dd__law_right) rfl
  have g__law_right : mg "_law_right" = some (.ref (He.fAd K ("_law_right", none))) := He.glo_ok X G (c.d.fact 11 (f := .glo "_law_right") rfl)
  have b__law_right : Binds K fd__law_right ["_law_claim_here", "_law_filling"] [] := FunD.bindsN F__law_right fun _ _ _ _ _ _ us hl => match us, hl with | [_, _], _ => rfl
  have ca_right : Ca P w K mg base 22 "_law_right" 2 (sp_right 3) := ca_of (k := 21) F__law_right g__law_right b__law_right sc__law_right (m0 := 0) (by rintro as M Q ⟨_, _, _,  rfl, _⟩; rfl) (d__law_right m_repr ca_same (by omega) (ca_holds 20) (by omega) (ca_lholds 20) (by omega)) (fun as M Q _ h => pure_right (d := 3) (D := 20) (by decide) (by decide) as M Q h)
  obtain ⟨fd_law, F_law⟩ := c.d.def_ 12 (d := dd_law) rfl
  have g_law : mg "law" = some (.ref (He.fAd K ("law", none))) := He.glo_ok X G (c.d.fact 12 (f := .glo "law") rfl)
  exact fg_of (k := 22) F sc_law (m0 := 0) (by rintro as M Q ⟨_, _,  rfl, _⟩; rfl) (d_law m_range m_tuple m_len m_min m_int m_all (ca_holds 20) (by omega) ca_same (by omega) ca_tape (by omega) ca_many (by omega) ca_any (by omega) ca_afs (by omega) ca_right (by omega) ca_take (by omega)) (fun as M Q _ h => pure_law3 as M Q h)
abbrev hk : PySem.W.Hook := hookV 4 fa fn cs
def ob (s : PySem.W.SharedT) : AlV := obsVG 4 fa fn cs (HandSHeadRun.getT s)
theorem ob_eq (s : PySem.W.SharedT) : ob s = hk.obs s.abs := obsVG_eq (HandSHeadRun.getT_eq s)
abbrev R : PySem.W.OpenRow := PySem.W.OpenLaw.row PySem.Challenge.rw_countforms_k03_what_holds
theorem run (w : World) : HandSHeadRun.RunEq R (PySem.W.view R.prog [15]) hk ob 20000 ["PLAIN", "inner_claims", "holds", "_law_cell_at", "_law_tape", "_law_take", "_law_claim", "_law_any_claim", "_law_holds", "_law_all_fillings", "_law_many", "_law_same", "_law_right"] w := by
  intro os
  kernel_rfl
end Zk03
open PySem PySem.W PySem.Calls PyProof.Rows
theorem PySem.Challenge.cw_countforms_k03_what_holds_holds : PySem.Challenge.rw_countforms_k03_what_holds.Holds := by
  w_on; o_law
  refine HandSHeadRun.head_any (r := OpenLaw.row PySem.Challenge.rw_countforms_k03_what_holds) (q := view (OpenLaw.row PySem.Challenge.rw_countforms_k03_what_holds).prog [15]) (H := Zk03.hk) (ob := Zk03.ob) (M := 20000) (loose := ["PLAIN", "inner_claims", "holds", "_law_cell_at", "_law_tape", "_law_take", "_law_claim", "_law_any_claim", "_law_holds", "_law_all_fillings", "_law_many", "_law_same", "_law_right"]) (d := HandSHeadRun.topDef (OpenLaw.row PySem.Challenge.rw_countforms_k03_what_holds).prog 15) (kwd := []) Zk03.ob_eq
    (by kernel_rfl) (fun s => by kernel_rfl) Zk03.run (by kernel_rfl) (by kernel_rfl) (by kernel_rfl) (by rfl) (by first | assumption | decide +kernel) (by decide +kernel) ⟨rfl, rfl, rfl, rfl, rfl, by decide +kernel⟩ ?hw ?hc
  case hw => w_witness2
  case hc =>
    refine VL.walk_g (l := PySem.Challenge.rw_countforms_k03_what_holds) (n := 63) (k := 23) (x := "_law_script") (CX := C8.CX0) rfl (by decide) (by kernel_rfl) ⟨rfl, by decide, by decide⟩ ?F (fun _ _ _ _ z => z)
    intro w mg fa h Y G hmg0
    obtain ⟨K, KX, c⟩ := Y
    have hmg : mg ("law" : PySem.Str) = some (.ref fa) := by
      have e : (HandSHeadRun.topDef (OpenLaw.row PySem.Challenge.rw_countforms_k03_what_holds).prog 15).name = ("law" : PySem.Str) := by kernel_rfl
      rw [← e]
      exact hmg0
    obtain ⟨fd, F⟩ := c.d.def_ 12 (d := Zk03.dd_law) rfl
    have e := hmg.symm.trans (He.glo_ok KX G (c.d.fact 12 (f := .glo "law") rfl))
    cases e
    have b := L2.FunD.bindsA (ps := ["_law_script"]) F fun _ _ _ _ _ _ us hl => match us, hl with | [_], _ => rfl
    exact ⟨K, fd, VL.lP K 1 VL.sp_law, KX, fun s v => b s [v] rfl, fun H a ns hl hO hS => VL.lawSp hl hO hS, fun base _ _ => Zk03.ok_law KX G c F⟩
