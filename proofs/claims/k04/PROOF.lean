import PyProof.Rows.All
import Wide.All
import OpenK.AllK
import Wide.FinOn
import HandS.ForMost
import HandS.ForExc
import HandS.Walk
import KE.KDictKeyed
import KE.SortData
import HandS.Wide
import HandS.WideBits
import HandS.TupAny
import HandS.TupMul
import HandS.Deep
import KE.DataIsa
import KE.GoesZip
import KE.GoesEnum
import HandS.Style
import HandS.Small
import HandS.ReCall
import KE.KDictPairs
import HandS.Set
import HandS.Strs
import PyProof.Rows.SetFrom
import HandS.More
import KE.DataMinKey
import HandS.SortKw
import HandS.FltList
import HandS.Defaults
import HandS.Ends
import HandS.Words
import HandS.WordsExc
import HandS.Head0
import HandS.Head1
import HandS.Head2
import HandS.HeadEnd
import HandS.HeadHook1
import HandS.HeadHook2
import HandS.HeadHook4
import KE.IntBitsLaws
import PySem.Challenge.RW_heirvalues_k04_whole_the_way_alone
section
set_option Elab.async false
set_option linter.all false
set_option autoImplicit false
set_option maxRecDepth 100000
set_option maxHeartbeats 4000000
/-! R0: data, how heaps hold them, environments, steps -/
namespace RL
open PySem PySem.Spec L2
open PyProof.Rows hiding St

abbrev D := PyData
/-- what an expression hands on: a value that stays, or an object that is ours alone -/
inductive R where
  | v (d : D) | o (d : D)
/-- a slot -/
inductive Sl where
  | val (d : D) | own (d : D) | bor (d : D)
abbrev En := List (Option Sl)
/-- an argument: a value, or an object lent -/
inductive Ag where
  | v (d : D) | b (d : D)
structure G where
  call : Str → List Ag → Option (R × List D)
  wh : Nat
def R.d : R → D
  | .v d => d
  | .o d => d

/-! ### keys -/
def keyK : D → Option Key
  | .int i => some (.inl i)
  | .str s => some (.inr s)
  | _ => none
mutual
def keyN : D → Option NestedKey
  | .none => some .none
  | .bool b => some (.num (if b then 1 else 0))
  | .int i => some (.num i)
  | .str s => some (.text s)
  | .tuple ds => (keyNs ds).map .tup
  | .list _ => none
  | .dict _ => none
def keyNs : List D → Option (List NestedKey)
  | [] => some []
  | d :: ds => (keyN d).bind fun k => (keyNs ds).map fun ks => k :: ks
end
def isTup : D → Bool
  | .tuple _ => true
  | _ => false
/-- the key of a dict whose keys are tuples -/
def keyT (d : D) : Option NestedKey := if isTup d then (keyN d).bind fun k => if k.depth ≤ 8 then some k else none else none

/-- a dict with tuple keys, by its entries -/
def NDict (P : Program) (w : World) (a : Addr) (xs : List (NestedKey × Addr × Value)) : Heap → Prop := fun h =>
  ∃ o es ep, h.get? a = some o ∧ o.ExactDict ∧ o.data = .dict es ep ∧ es.toList = xs.map (entryOfKey (nestedKind P w))

/-- what is known of the program: its written part, and how own instances hold their fields -/
structure KX where
  P : Program
  w : World
  K : PySem.W.Frag
  ot : Hp → D → Addr → List V → Prop

/-- a dict -/
def DctO : HO → Prop
  | .dK _ => True
  | .ext _ => True
  | _ => False
/-- F' knows all that F knows (a dict may be locked since) -/
def Up (F F' : Hp) : Prop := ∀ a o, F a = some o → F' a = some o ∨ (DctO o ∧ ∃ ob, F' a = some (.frz ob o))
theorem Up.refl (F : Hp) : Up F F := fun _ _ h => .inl h
theorem Up.trans {F F' F'' : Hp} (a : Up F F') (b : Up F' F'') : Up F F'' := fun x o h => by
  rcases a x o h with h1 | ⟨m, ob, h1⟩
  · exact b x o h1
  · rcases b x _ h1 with h2 | ⟨m2, _⟩
    · exact .inr ⟨m, ob, h2⟩
    · exact m2.elim
theorem Up.rd {F F' : Hp} (u : Up F F') {a : Addr} {o : HO} (h : Rd F a o) : Rd F' a o := by
  rcases h with h | ⟨ob, h⟩
  · rcases u a o h with h1 | ⟨_, ob, h1⟩
    · exact .inl h1
    · exact .inr ⟨ob, h1⟩
  · rcases u a _ h with h1 | ⟨m, _⟩
    · exact .inr ⟨ob, h1⟩
    · exact m.elim
theorem Up.lst {F F' : Hp} (u : Up F F') {a : Addr} {vs : List V} (h : F a = some (.lst vs)) : F' a = some (.lst vs) := by
  rcases u a _ h with h | ⟨m, _⟩
  · exact h
  · exact m.elim
theorem Up.l {K : PySem.W.Frag} {F F' : Hp} (u : Up F F') {a : Addr} {vs : List V} (h : SqL K F a vs) : SqL K F' a vs := by
  rcases h with h | h
  · exact .inl (u.rd h)
  · exact .inr h
theorem Up.t {K : PySem.W.Frag} {F F' : Hp} (u : Up F F') {a : Addr} {vs : List V} (h : SqT K F a vs) : SqT K F' a vs := by
  rcases h with h | h
  · exact .inl (u.rd h)
  · exact .inr h

def KX.Mono (k : KX) : Prop := ∀ F F' t a vs, Up F F' → k.ot F t a vs → k.ot F' t a vs

/-- the outer shape of a dict at a: its values, the addresses of its keys where they are tuples -/
def Shp (k : KX) (P : HO → Prop) (a : Addr) (kvs : List (D × D)) (vs : List V) (qs : Option (List Addr)) : Prop :=
  (∃ ks : List (Key × V), P (.dK ks) ∧ kvs.map (fun p => keyK p.1) = ks.map (fun p => some p.1) ∧ vs = ks.map (·.2) ∧ (ks.map (·.1)).Nodup ∧ qs = none) ∨
  (∃ xs : List (NestedKey × Addr × Value), P (.ext (NDict k.P k.w a xs)) ∧ xs ≠ [] ∧ (a == sysModules) = false ∧ xs.length ≤ sizeLine ∧ kvs.map (fun p => keyT p.1) = xs.map (fun x => some x.1) ∧ Vals vs (xs.map (·.2.2)) ∧ (xs.map (·.1)).Nodup ∧ qs = some (xs.map (·.2.1)))
/-- an instance of an own class, its fields behind its tag -/
def Ins (k : KX) (F : Hp) (a : Addr) (kvs : List (D × D)) (vs : List V) (qs : Option (List Addr)) : Prop :=
  ∃ t rest v0 fvs, kvs = (.none, t) :: rest ∧ vs = v0 :: fvs ∧ k.ot F t a fvs ∧ qs = none

/-- a tuple, its object without a dict of its own -/
def TupN (K : PySem.W.Frag) (F : Hp) (a : Addr) (vs : List V) : Prop := (∃ o, F a = some (.frz o (.tup vs)) ∧ o.dict = none) ∨
  ∃ (o : Obj) (its : Array Value) (n : Nat), K.lookup a = some o ∧ o.cls = .type "tuple" ∧ o.data = .seq its n ∧ its.size ≤ sizeLine ∧ Vals vs its.toList ∧ o.dict = none
theorem TupN.t {K : PySem.W.Frag} {F : Hp} {a : Addr} {vs : List V} (h : TupN K F a vs) : SqT K F a vs := by
  rcases h with ⟨o, h, _⟩ | ⟨o, its, n, h1, h2, h3, h4, h5, _⟩
  · exact .inl (.inr ⟨o, h⟩)
  · exact .inr ⟨o, its, n, h1, h2, h3, h4, h5⟩
theorem Up.n {K : PySem.W.Frag} {F F' : Hp} (u : Up F F') {a : Addr} {vs : List V} (h : TupN K F a vs) : TupN K F' a vs := by
  rcases h with ⟨o, h, hd⟩ | h
  · rcases u a _ h with h | ⟨m, _⟩
    · exact .inl ⟨o, h, hd⟩
    · exact m.elim
  · exact .inr h
mutual
/-- v stands for d, by what F knows -/
def Rep (k : KX) (F : Hp) : D → V → Prop
  | .none, v => v = .non
  | .bool b, v => v = .bl b
  | .int i, v => v = .int i
  | .str s, v => v = .str s
  | .list ds, v => ∃ a vs, v = .ref a ∧ F a = some (.lst vs) ∧ RepL k F ds vs
  | .tuple ds, v => ∃ a vs, v = .ref a ∧ TupN k.K F a vs ∧ RepL k F ds vs
  | .dict kvs, v => ∃ a vs qs, v = .ref a ∧ (Shp k (Rd F a) a kvs vs qs ∨ Ins k F a kvs vs qs) ∧ RepV k F kvs vs ∧ ∀ l, qs = some l → RepKs k F kvs l
def RepL (k : KX) (F : Hp) : List D → List V → Prop
  | [], vs => vs = []
  | d :: ds, vs => ∃ v r, vs = v :: r ∧ Rep k F d v ∧ RepL k F ds r
/-- the values of a dict -/
def RepV (k : KX) (F : Hp) : List (D × D) → List V → Prop
  | [], vs => vs = []
  | (_, d) :: r, vs => ∃ v s, vs = v :: s ∧ Rep k F d v ∧ RepV k F r s
/-- the keys of a dict, tuples -/
def RepKs (k : KX) (F : Hp) : List (D × D) → List Addr → Prop
  | [], qs => qs = []
  | (e, _) :: r, qs => ∃ q s, qs = q :: s ∧ Rep k F e (.ref q) ∧ RepKs k F r s
end
theorem rep_list (k : KX) (F : Hp) (ds : List D) (v : V) : Rep k F (.list ds) v = ∃ a vs, v = .ref a ∧ F a = some (.lst vs) ∧ RepL k F ds vs := rfl
theorem rep_tuple (k : KX) (F : Hp) (ds : List D) (v : V) : Rep k F (.tuple ds) v = ∃ a vs, v = .ref a ∧ TupN k.K F a vs ∧ RepL k F ds vs := rfl
theorem Shp.up {k : KX} {P P' : HO → Prop} (h : ∀ o, P o → P' o) {a : Addr} {kvs : List (D × D)} {vs : List V} {qs : Option (List Addr)} (s : Shp k P a kvs vs qs) : Shp k P' a kvs vs qs := by
  rcases s with ⟨ks, p, r⟩ | ⟨xs, p, r⟩
  · exact .inl ⟨ks, h _ p, r⟩
  · exact .inr ⟨xs, h _ p, r⟩

section
variable {k : KX} {F F' : Hp} (hm : k.Mono) (u : Up F F')
include hm u
mutual
theorem Rep.up : ∀ {d : D} {v : V}, Rep k F d v → Rep k F' d v
  | .none, _, h => h
  | .bool _, _, h => h
  | .int _, _, h => h
  | .str _, _, h => h
  | .list ds, v, h => by
    obtain ⟨a, vs, e, s, r⟩ := h
    exact ⟨a, vs, e, u.lst s, RepL.up r⟩
  | .tuple ds, v, h => by
    obtain ⟨a, vs, e, s, r⟩ := h
    exact ⟨a, vs, e, u.n s, RepL.up r⟩
  | .dict kvs, v, h => by
    obtain ⟨a, vs, qs, e, s, r, q⟩ := h
    refine ⟨a, vs, qs, e, ?_, RepV.up r, fun l hl => RepKs.up (q l hl)⟩
    rcases s with s | ⟨t, rest, v0, fvs, h1, h2, h3, h4⟩
    · exact .inl (s.up fun o => u.rd)
    · exact .inr ⟨t, rest, v0, fvs, h1, h2, hm F F' t a fvs u h3, h4⟩
theorem RepL.up : ∀ {ds : List D} {vs : List V}, RepL k F ds vs → RepL k F' ds vs
  | [], _, h => h
  | _ :: _, _, h => by
    obtain ⟨v, r, e, h1, h2⟩ := h
    exact ⟨v, r, e, Rep.up h1, RepL.up h2⟩
theorem RepV.up : ∀ {kvs : List (D × D)} {vs : List V}, RepV k F kvs vs → RepV k F' kvs vs
  | [], _, h => h
  | (_, _) :: _, _, h => by
    obtain ⟨v, r, e, h1, h2⟩ := h
    exact ⟨v, r, e, Rep.up h1, RepV.up h2⟩
theorem RepKs.up : ∀ {kvs : List (D × D)} {qs : List Addr}, RepKs k F kvs qs → RepKs k F' kvs qs
  | [], _, h => h
  | (_, _) :: _, _, h => by
    obtain ⟨v, r, e, h1, h2⟩ := h
    exact ⟨v, r, e, Rep.up h1, RepKs.up h2⟩
end
end

/-! ### lists -/
section
variable {k : KX} {F H : Hp}
theorem RepL.length : ∀ {ds : List D} {vs : List V}, RepL k F ds vs → ds.length = vs.length
  | [], _, h => by cases h; rfl
  | _ :: ds, _, h => by obtain ⟨v, r, rfl, _, h2⟩ := h; simp [RepL.length h2]
theorem RepL.get : ∀ {ds : List D} {vs : List V} {i : Nat} {d : D}, RepL k F ds vs → ds[i]? = some d → ∃ v, vs[i]? = some v ∧ Rep k F d v
  | [], _, _, _, _, e => by simp at e
  | _ :: _, _, 0, d, h, e => by
    obtain ⟨v, r, rfl, h1, _⟩ := h
    simp at e; subst e; exact ⟨v, rfl, h1⟩
  | _ :: ds, _, i + 1, d, h, e => by
    obtain ⟨v, r, rfl, _, h2⟩ := h
    obtain ⟨w, e1, e2⟩ := RepL.get (i := i) h2 (by simpa using e)
    exact ⟨w, by simpa using e1, e2⟩
theorem RepL.getV : ∀ {ds : List D} {vs : List V} {i : Nat} {v : V}, RepL k F ds vs → vs[i]? = some v → ∃ d, ds[i]? = some d ∧ Rep k F d v
  | [], _, _, _, h, e => by cases h; simp at e
  | d :: _, _, 0, v, h, e => by
    obtain ⟨w, r, rfl, h1, _⟩ := h
    simp at e; subst e; exact ⟨d, rfl, h1⟩
  | _ :: ds, _, i + 1, v, h, e => by
    obtain ⟨w, r, rfl, _, h2⟩ := h
    obtain ⟨d, e1, e2⟩ := RepL.getV (i := i) h2 (by simpa using e)
    exact ⟨d, by simpa using e1, e2⟩
theorem RepL.append : ∀ {ds es : List D} {vs ws : List V}, RepL k F ds vs → RepL k F es ws → RepL k F (ds ++ es) (vs ++ ws)
  | [], _, _, _, h, h' => by cases h; exact h'
  | _ :: _, _, _, _, h, h' => by
    obtain ⟨v, r, rfl, h1, h2⟩ := h
    exact ⟨v, _, rfl, h1, RepL.append h2 h'⟩
theorem RepL.take : ∀ {ds : List D} {vs : List V} (n : Nat), RepL k F ds vs → RepL k F (ds.take n) (vs.take n)
  | [], _, n, h => by cases h; cases n <;> rfl
  | _ :: _, _, 0, _ => rfl
  | _ :: _, _, n + 1, h => by
    obtain ⟨v, r, rfl, h1, h2⟩ := h
    exact ⟨v, _, rfl, h1, RepL.take n h2⟩
theorem RepL.drop : ∀ {ds : List D} {vs : List V} (n : Nat), RepL k F ds vs → RepL k F (ds.drop n) (vs.drop n)
  | [], _, n, h => by cases h; cases n <;> rfl
  | _ :: _, _, 0, h => h
  | _ :: _, _, n + 1, h => by
    obtain ⟨v, r, rfl, h1, h2⟩ := h
    exact RepL.drop n h2
theorem RepL.set : ∀ {ds : List D} {vs : List V} {d : D} {v : V} (i : Nat), Rep k F d v → RepL k F ds vs → RepL k F (ds.set i d) (vs.set i v)
  | [], _, _, _, _, _, h => by cases h; rfl
  | _ :: _, _, _, _, 0, hd, h => by
    obtain ⟨v, r, rfl, h1, h2⟩ := h
    exact ⟨_, _, rfl, hd, h2⟩
  | _ :: _, _, _, _, i + 1, hd, h => by
    obtain ⟨v, r, rfl, h1, h2⟩ := h
    exact ⟨_, _, rfl, h1, RepL.set i hd h2⟩
theorem RepL.eraseIdx : ∀ {ds : List D} {vs : List V} (i : Nat), RepL k F ds vs → RepL k F (ds.eraseIdx i) (vs.eraseIdx i)
  | [], _, _, h => by cases h; rfl
  | _ :: _, _, 0, h => by
    obtain ⟨v, r, rfl, h1, h2⟩ := h
    exact h2
  | _ :: _, _, i + 1, h => by
    obtain ⟨v, r, rfl, h1, h2⟩ := h
    exact ⟨_, _, rfl, h1, RepL.eraseIdx i h2⟩
theorem RepL.ints : ∀ {is : List Int} {vs : List V}, RepL k F (is.map .int) vs → vs = is.map V.int
  | [], _, h => h
  | _ :: is, _, h => by
    obtain ⟨v, r, rfl, h1, h2⟩ := h
    cases h1
    rw [RepL.ints h2]; rfl
theorem RepL.bools : ∀ {is : List Bool} {vs : List V}, RepL k F (is.map .bool) vs → vs = is.map V.bl
  | [], _, h => h
  | _ :: is, _, h => by
    obtain ⟨v, r, rfl, h1, h2⟩ := h
    cases h1
    rw [RepL.bools h2]; rfl
theorem RepL.strs : ∀ {is : List Str} {vs : List V}, RepL k F (is.map .str) vs → vs = is.map V.str
  | [], _, h => h
  | _ :: is, _, h => by
    obtain ⟨v, r, rfl, h1, h2⟩ := h
    cases h1
    rw [RepL.strs h2]; rfl
theorem RepL.of_ints : ∀ (is : List Int), RepL k F (is.map .int) (is.map V.int)
  | [] => rfl
  | _ :: is => ⟨_, _, rfl, rfl, RepL.of_ints is⟩
theorem RepL.of_strs : ∀ (is : List Str), RepL k F (is.map .str) (is.map V.str)
  | [] => rfl
  | _ :: is => ⟨_, _, rfl, rfl, RepL.of_strs is⟩
mutual
/-- as HandS tells data: where no dict is within -/
theorem Rep.dp : ∀ {d : D} {v : V}, d.canLay0 = true → Rep k F d v → Dp k.K F v d
  | .none, _, _, h => by cases h; exact .non
  | .bool _, _, _, h => by cases h; exact .bl _
  | .int _, _, _, h => by cases h; exact .int _
  | .str _, _, _, h => by cases h; exact .str _
  | .list ds, _, c, h => by
    obtain ⟨a, vs, rfl, s, r⟩ := h
    exact .lst (SqL.of s) (RepL.dp (by simpa [PyData.canLay0] using c) r)
  | .tuple ds, _, c, h => by
    obtain ⟨a, vs, rfl, s, r⟩ := h
    exact .tup s.t (RepL.dp (by simpa [PyData.canLay0] using c) r)
  | .dict _, _, c, _ => by simp [PyData.canLay0] at c
theorem RepL.dp : ∀ {ds : List D} {vs : List V}, PyData.canLayAll0 ds = true → RepL k F ds vs → DpAll k.K F vs ds
  | [], _, _, h => by cases h; exact .nil
  | d :: ds, _, c, h => by
    obtain ⟨v, r, rfl, h1, h2⟩ := h
    have c' : d.canLay0 = true ∧ PyData.canLayAll0 ds = true := by simpa [PyData.canLayAll0] using c
    exact .cons (Rep.dp c'.1 h1) (RepL.dp c'.2 h2)
end
end

/-! ### what is owned -/
/-- F knows part of what H knows -/
def OkF (F H : Hp) : Prop := ∀ a o, F a = some o → H a = some o
def OwnAt (k : KX) (F H : Hp) (a : Addr) (d : D) : Prop := F a = none ∧
  match d with
  | .list ds => ∃ vs, H a = some (.lst vs) ∧ RepL k F ds vs
  | .dict kvs => ∃ vs qs, Shp k (fun o => H a = some o) a kvs vs qs ∧ RepV k F kvs vs ∧ ∀ l, qs = some l → RepKs k F kvs l
  | _ => False
theorem OwnAt.there {k : KX} {F H : Hp} {a : Addr} {d : D} (h : OwnAt k F H a d) : ∃ o, H a = some o := by
  obtain ⟨_, h⟩ := h
  cases d with
  | list ds => obtain ⟨vs, h, _⟩ := h; exact ⟨_, h⟩
  | dict kvs =>
    obtain ⟨vs, qs, s, _⟩ := h
    rcases s with ⟨ks, p, _⟩ | ⟨xs, p, _⟩
    · exact ⟨_, p⟩
    · exact ⟨_, p⟩
  | none => exact h.elim
  | bool _ => exact h.elim
  | int _ => exact h.elim
  | str _ => exact h.elim
  | tuple _ => exact h.elim
theorem OwnAt.up {k : KX} (hm : k.Mono) {F H F' H' : Hp} {a : Addr} {d : D} (h : OwnAt k F H a d) (u : Up F F') (hF : F' a = none) (hH : ∀ o, H a = some o → H' a = some o) : OwnAt k F' H' a d := by
  obtain ⟨_, h⟩ := h
  refine ⟨hF, ?_⟩
  cases d with
  | list ds => obtain ⟨vs, h, r⟩ := h; exact ⟨vs, hH _ h, r.up hm u⟩
  | dict kvs =>
    obtain ⟨vs, qs, s, r, q⟩ := h
    exact ⟨vs, qs, s.up hH, r.up hm u, fun l hl => (q l hl).up hm u⟩
  | none => exact h.elim
  | bool _ => exact h.elim
  | int _ => exact h.elim
  | str _ => exact h.elim
  | tuple _ => exact h.elim
/-- known from now on -/
def fz (F H : Hp) (a : Addr) : Hp := fun b => if b = a then H b else F b
theorem fz_at {F H : Hp} {a : Addr} : fz F H a a = H a := by simp [fz]
theorem fz_ne {F H : Hp} {a b : Addr} (h : b ≠ a) : fz F H a b = F b := by simp [fz, h]
theorem fz_ok {F H : Hp} {a : Addr} (h : OkF F H) : OkF (fz F H a) H := fun b o e => by
  by_cases hb : b = a
  · subst hb; rw [fz_at] at e; exact e
  · rw [fz_ne hb] at e; exact h b o e
theorem fz_up {F H : Hp} {a : Addr} (h : F a = none) : Up F (fz F H a) := fun b o e => by
  by_cases hb : b = a
  · subst hb; rw [h] at e; cases e
  · exact .inl (by rw [fz_ne hb]; exact e)
theorem OwnAt.rep {k : KX} (hm : k.Mono) {F H : Hp} {a : Addr} {d : D} (h : OwnAt k F H a d) : Rep k (fz F H a) d (.ref a) := by
  obtain ⟨hF, h⟩ := h
  have u : Up F (fz F H a) := fz_up hF
  cases d with
  | list ds =>
    obtain ⟨vs, h, r⟩ := h
    exact ⟨a, vs, rfl, (by rw [fz_at]; exact h), r.up hm u⟩
  | dict kvs =>
    obtain ⟨vs, qs, s, r, q⟩ := h
    exact ⟨a, vs, qs, rfl, .inl (s.up fun o e => .inl (by rw [fz_at]; exact e)), r.up hm u, fun l hl => (q l hl).up hm u⟩
  | none => exact h.elim
  | bool _ => exact h.elim
  | int _ => exact h.elim
  | str _ => exact h.elim
  | tuple _ => exact h.elim
/-- a value that is looked at: it stays, or is ours -/
def PRep (k : KX) (F H : Hp) (d : D) (v : V) : Prop := Rep k F d v ∨ ∃ a, v = .ref a ∧ OwnAt k F H a d
def PRepL (k : KX) (F H : Hp) : List D → List V → Prop
  | [], vs => vs = []
  | d :: ds, vs => ∃ v r, vs = v :: r ∧ PRep k F H d v ∧ PRepL k F H ds r

/-! ### environments -/
def Sl.ours : Sl → Option D
  | .val _ => none
  | .own d => some d
  | .bor d => some d
structure ER (k : KX) (F H : Hp) (e : En) (σ : St) : Prop where
  mono : k.Mono
  ok : OkF F H
  len : e.length = σ.length
  val : ∀ (i : Nat) (d : D), e[i]? = some (some (.val d)) → ∃ v, σ[i]? = some (some v) ∧ Rep k F d v
  own : ∀ (i : Nat) (s : Sl) (d : D), e[i]? = some (some s) → s.ours = some d → ∃ a, σ[i]? = some (some (.ref a)) ∧ OwnAt k F H a d
  apart : ∀ (i j : Nat) (s t : Sl), i ≠ j → e[i]? = some (some s) → e[j]? = some (some t) → s.ours.isSome = true → t.ours.isSome = true → σ[i]? ≠ σ[j]?
/-- the addresses that are ours -/
def OA (e : En) (σ : St) (a : Addr) : Prop := ∃ (i : Nat) (s : Sl), e[i]? = some (some s) ∧ s.ours.isSome = true ∧ σ[i]? = some (some (.ref a))
structure Stp (O : Addr → Prop) (F H F' H' : Hp) : Prop where
  up : Up F F'
  kp : ∀ a o, H a = some o → F a = none → ¬ O a → H' a = some o ∧ F' a = none
/-- what is ours behind was ours, or is new -/
def Fl (O : Addr → Prop) (H : Hp) (O' : Addr → Prop) : Prop := ∀ a, O' a → O a ∨ H a = none
structure Pst (k : KX) (e : En) (σ : St) (F H : Hp) (e' : En) (σ' : St) (F' H' : Hp) : Prop where
  er : ER k F' H' e' σ'
  st : Stp (OA e σ) F H F' H'
  fl : Fl (OA e σ) H (OA e' σ')
  bo : ∀ (i : Nat) (d : D), e[i]? = some (some (.bor d)) → σ'[i]? = σ[i]? ∧ ∃ d', e'[i]? = some (some (.bor d'))
theorem Up.ne {F F' : Hp} (u : Up F F') {a : Addr} {o : HO} (h : F a = some o) : ∃ o', F' a = some o' := by
  rcases u a o h with h | ⟨_, ob, h⟩
  · exact ⟨_, h⟩
  · exact ⟨_, h⟩
theorem Stp.back {O : Addr → Prop} {F H F' H' : Hp} (s : Stp O F H F' H') (ok : OkF F' H') {a : Addr} (h : H' a = none) : O a ∨ H a = none := by
  cases e : H a with
  | none => exact .inr rfl
  | some o =>
    cases e2 : F a with
    | some o2 =>
      obtain ⟨o3, e3⟩ := s.up.ne e2
      rw [ok a o3 e3] at h; cases h
    | none =>
      by_cases ho : O a
      · exact .inl ho
      · rw [(s.kp a o e e2 ho).1] at h; cases h
theorem Stp.trans {O O1 : Addr → Prop} {F H F1 H1 F2 H2 : Hp} (s : Stp O F H F1 H1) (t : Stp O1 F1 H1 F2 H2) (f : Fl O H O1) : Stp O F H F2 H2 :=
  ⟨s.up.trans t.up, fun a o e e2 ho => by
    obtain ⟨h1, h2⟩ := s.kp a o e e2 ho
    refine t.kp a o h1 h2 fun h => ?_
    rcases f a h with h | h
    · exact ho h
    · rw [h] at e; cases e⟩
theorem Pst.refl {k : KX} {e : En} {σ : St} {F H : Hp} (h : ER k F H e σ) : Pst k e σ F H e σ F H :=
  ⟨h, ⟨Up.refl F, fun a o e1 e2 _ => ⟨e1, e2⟩⟩, fun a h => .inl h, fun i d h => ⟨rfl, d, h⟩⟩
theorem Pst.trans {k : KX} {e e1 e2 : En} {σ σ1 σ2 : St} {F F1 F2 H H1 H2 : Hp} (p : Pst k e σ F H e1 σ1 F1 H1) (q : Pst k e1 σ1 F1 H1 e2 σ2 F2 H2) : Pst k e σ F H e2 σ2 F2 H2 :=
  ⟨q.er, p.st.trans q.st p.fl, fun a h => by
    rcases q.fl a h with h | h
    · exact p.fl a h
    · exact p.st.back p.er.ok h, fun i d h => by
    obtain ⟨h1, d1, h2⟩ := p.bo i d h
    obtain ⟨h3, d2, h4⟩ := q.bo i d1 h2
    exact ⟨h3.trans h1, d2, h4⟩⟩
/-- what a result is, told from the state (e, σ, H) ahead and (e', σ', F', H') behind -/
def RR (k : KX) (e : En) (σ : St) (H : Hp) (e' : En) (σ' : St) (F' H' : Hp) (r : R) (v : V) : Prop :=
  match r with
  | .v d => Rep k F' d v
  | .o d => ∃ a, v = .ref a ∧ OwnAt k F' H' a d ∧ ¬ OA e' σ' a ∧ (OA e σ a ∨ H a = none)
theorem RR.ahead {k : KX} {e e1 e2 : En} {σ σ1 σ2 : St} {F F1 F2 H H1 H2 : Hp} {r : R} {v : V} (p : Pst k e σ F H e1 σ1 F1 H1) (q : RR k e1 σ1 H1 e2 σ2 F2 H2 r v) : RR k e σ H e2 σ2 F2 H2 r v := by
  cases r with
  | v d => exact q
  | o d =>
    obtain ⟨a, h1, h2, h3, h4⟩ := q
    refine ⟨a, h1, h2, h3, ?_⟩
    rcases h4 with h | h
    · exact p.fl a h
    · exact p.st.back p.er.ok h
/-- the result is kept for good -/
theorem RR.keep {k : KX} {e e1 : En} {σ σ1 : St} {F F1 H H1 : Hp} {r : R} {v : V} (p : Pst k e σ F H e1 σ1 F1 H1) (q : RR k e σ H e1 σ1 F1 H1 r v) :
    ∃ F2, Pst k e σ F H e1 σ1 F2 H1 ∧ Rep k F2 r.d v := by
  cases r with
  | v d => exact ⟨F1, p, q⟩
  | o d =>
    obtain ⟨a, rfl, ow, no, fr⟩ := q
    have u : Up F1 (fz F1 H1 a) := fz_up ow.1
    refine ⟨fz F1 H1 a, ⟨⟨p.er.mono, fz_ok p.er.ok, p.er.len, fun i d h => ?_, fun i s d h hs => ?_, p.er.apart⟩, ⟨p.st.up.trans u, fun b o h1 h2 h3 => ?_⟩, p.fl, p.bo⟩, ow.rep p.er.mono⟩
    · obtain ⟨v, h1, h2⟩ := p.er.val i d h
      exact ⟨v, h1, h2.up p.er.mono u⟩
    · obtain ⟨b, h1, h2⟩ := p.er.own i s d h hs
      have hb : b ≠ a := fun z => no ⟨i, s, h, by rw [hs]; rfl, by rw [← z]; exact h1⟩
      exact ⟨b, h1, h2.up p.er.mono u (by rw [fz_ne hb]; exact h2.1) fun o e => e⟩
    · obtain ⟨g1, g2⟩ := p.st.kp b o h1 h2 h3
      refine ⟨g1, ?_⟩
      have hb : b ≠ a := by
        rintro rfl
        rcases fr with z | z
        · exact h3 z
        · rw [z] at h1; cases h1
      rw [fz_ne hb]; exact g2
end RL
end
section
set_option Elab.async false
set_option linter.all false
set_option autoImplicit false
set_option maxRecDepth 100000
set_option maxHeartbeats 4000000
/-! R1: readings of mirrors; names, constants, lists of operands -/
namespace RL
open PySem PySem.Spec L2
open PyProof.Rows hiding St

abbrev EM := G → En → Option (R × En)
abbrev BM := G → En → Option (Bool × En)

/-! ### what an expression's mirror says -/
section
variable (k : KX) (g : G)
def tE (m : EM) : TE := fun σ H Q => ∃ F e r e', ER k F H e σ ∧ m g e = some (r, e') ∧ ∀ v F' H', Pst k e σ F H e' σ F' H' → RR k e σ H e' σ F' H' r v → Q v H'
/-- .. its value kept -/
def tK (m : EM) : TE := fun σ H Q => ∃ F e r e', ER k F H e σ ∧ m g e = some (r, e') ∧ ∀ v F' H', Pst k e σ F H e' σ F' H' → Rep k F' r.d v → Q v H'
def tT (m : BM) : TT := fun σ H Q => ∃ F e b e', ER k F H e σ ∧ m g e = some (b, e') ∧ ∀ F' H', Pst k e σ F H e' σ F' H' → Q b H'
end
theorem _root_.L2.PE.weak {X : Cx} {e : Expr} {t t' : TE} (h : PE X e t) (w : ∀ σ H Q, t' σ H Q → t σ H Q) : PE X e t' := ⟨fun pins s σ H Q I q => h.run pins s σ H Q I (w σ H Q q)⟩
theorem _root_.L2.PT.weak {X : Cx} {e : Expr} {t t' : TT} (h : PT X e t) (w : ∀ σ H Q, t' σ H Q → t σ H Q) : PT X e t' := ⟨fun pins s σ H Q I q => h.run pins s σ H Q I (w σ H Q q)⟩
theorem _root_.L2.PW.weak {X : Cx} {e : Expr} {t t' : TT} (h : PW X e t) (w : ∀ σ H Q, t' σ H Q → t σ H Q) : PW X e t' := ⟨fun wh pins s σ H Q I q => h.run wh pins s σ H Q I (w σ H Q q)⟩
theorem _root_.L2.PS.weak {X : Cx} {e : Stmt} {t t' : TS} (h : PS X e t) (w : ∀ D σ H, t' D σ H → t D σ H) : PS X e t' := ⟨fun pins s σ H D I q => h.run pins s σ H D I (w D σ H q)⟩
theorem _root_.L2.PSs.weak {X : Cx} {e : List Stmt} {t t' : TS} (h : PSs X e t) (w : ∀ D σ H, t' D σ H → t D σ H) : PSs X e t' := ⟨fun pins s σ H D I q => h.run pins s σ H D I (w D σ H q)⟩
theorem _root_.L2.PG.weak {X : Cx} {e : Expr} {t t' : TG} (h : PG X e t) (w : ∀ v σ H Q, t' v σ H Q → t v σ H Q) : PG X e t' := ⟨fun pins s σ H v u Q I r q => h.run pins s σ H v u Q I r (w v σ H Q q)⟩
theorem _root_.L2.PI.weak {X : Cx} {tg e : Expr} {t t' : TI} (h : PI X tg e t) (w : ∀ σ H Q, t' σ H Q → t σ H Q) : PI X tg e t' := ⟨fun pins s σ H Q I q => h.run pins s σ H Q I (w σ H Q q)⟩
theorem tK_of {X : Cx} {k : KX} {g : G} {e : Expr} {m : EM} (h : PE X e (tE k g m)) : PE X e (tK k g m) := h.weak fun σ H Q ⟨F, en, r, e', er, hm, q⟩ =>
  ⟨F, en, r, e', er, hm, fun v F' H' p rr => let ⟨F2, p2, rep⟩ := rr.keep p; q v F2 H' p2 rep⟩

/-! ### names, constants -/
def vrM (i : Nat) : EM := fun _ e =>
  match e[i]? with
  | some (some (.val d)) => some (.v d, e)
  | some (some (.own d)) => some (.v d, e.set i (some (.val d)))
  | _ => none
def cM (d : D) : EM := fun _ e => some (.v d, e)
theorem OA_set {e : En} {σ : L2.St} {i : Nat} {d : D} {a : Addr} (h : OA (e.set i (some (.val d))) σ a) : OA e σ a := by
  obtain ⟨j, s, h1, h2, h3⟩ := h
  by_cases hj : i = j
  · subst hj
    by_cases hl : i < e.length
    · rw [List.getElem?_set_self hl] at h1; cases h1; cases h2
    · rw [List.getElem?_eq_none (by simpa using hl)] at h1; cases h1
  · rw [List.getElem?_set_ne hj] at h1; exact ⟨j, s, h1, h2, h3⟩
/-- a slot of ours is kept from now on -/
theorem ER.fix {k : KX} {F H : Hp} {e : En} {σ : L2.St} {i : Nat} {d : D} (er : ER k F H e σ) (h : e[i]? = some (some (.own d))) :
    ∃ a, σ[i]? = some (some (.ref a)) ∧ Pst k e σ F H (e.set i (some (.val d))) σ (fz F H a) H ∧ Rep k (fz F H a) d (.ref a) := by
  obtain ⟨a, h1, ow⟩ := er.own i _ d h rfl
  have u : Up F (fz F H a) := fz_up ow.1
  have hi : i < e.length := (List.getElem?_eq_some_iff.mp h).1
  have rep := ow.rep er.mono
  refine ⟨a, h1, ⟨⟨er.mono, fz_ok er.ok, by simpa using er.len, fun j c hj => ?_, fun j s c hj hs => ?_, fun j l s t hjl hj hl hs ht => ?_⟩, ⟨u, fun b o e1 e2 ho => ⟨e1, ?_⟩⟩, fun b hb => .inl (OA_set hb), fun j c hj => ⟨rfl, c, ?_⟩⟩, rep⟩
  · by_cases e1 : i = j
    · subst e1
      rw [List.getElem?_set_self hi] at hj; cases hj
      exact ⟨_, h1, rep⟩
    · rw [List.getElem?_set_ne e1] at hj
      obtain ⟨v, q1, q2⟩ := er.val j c hj
      exact ⟨v, q1, q2.up er.mono u⟩
  · have e1 : i ≠ j := by
      rintro rfl
      rw [List.getElem?_set_self hi] at hj; cases hj; cases hs
    rw [List.getElem?_set_ne e1] at hj
    obtain ⟨b, q1, q2⟩ := er.own j s c hj hs
    have hb : b ≠ a := fun z => er.apart i j _ s e1 h hj rfl (by rw [hs]; rfl) (by rw [h1, q1, z])
    exact ⟨b, q1, q2.up er.mono u (by rw [fz_ne hb]; exact q2.1) fun _ z => z⟩
  · have n1 : i ≠ j := by
      rintro rfl
      rw [List.getElem?_set_self hi] at hj; cases hj; cases hs
    have n2 : i ≠ l := by
      rintro rfl
      rw [List.getElem?_set_self hi] at hl; cases hl; cases ht
    rw [List.getElem?_set_ne n1] at hj
    rw [List.getElem?_set_ne n2] at hl
    exact er.apart j l s t hjl hj hl hs ht
  · have hb : b ≠ a := by
      rintro rfl
      exact ho ⟨i, _, h, rfl, h1⟩
    rw [fz_ne hb]; exact e2
  · have e1 : i ≠ j := by
      rintro rfl
      rw [h] at hj; cases hj
    rw [List.getElem?_set_ne e1]; exact hj
section
variable {X : Cx} {k : KX} {g : G}
theorem pe_vrM {i : Nat} {x : Str} {pos : Pos} (hN : X.N[i]? = some x) (hv : Vis X.env.scope x) (hd : (x == ("__debug__" : Str)) = false) (hcd : (x == ("__classdict__" : Str)) = false) : PE X (.Name x pos) (tE k g (vrM i)) :=
  (pe_var hN hv hd hcd).weak fun σ H Q ⟨F, e, r, e', er, hm, q⟩ => by
    unfold vrM at hm
    split at hm
    · rename_i d h
      cases hm
      obtain ⟨v, h1, h2⟩ := er.val i d h
      exact ⟨v, h1, q v F H (Pst.refl er) h2⟩
    · rename_i d h
      cases hm
      obtain ⟨a, h1, p, rep⟩ := er.fix h
      exact ⟨_, h1, q _ _ H p rep⟩
    · cases hm
theorem tC_cM {d : D} {v : V} (hv : ∀ F, Rep k F d v) : ∀ σ H Q, tE k g (cM d) σ H Q → tC v σ H Q := fun σ H Q ⟨F, e, r, e', er, hm, q⟩ => by
  cases hm
  exact q v F H (Pst.refl er) (hv F)
theorem pe_cInt {i : Int} {j : Nat} {pos : Pos} : PE X (.Constant (.int i) j pos) (tE k g (cM (.int i))) := pe_int.weak (tC_cM fun _ => rfl)
theorem pe_cStr {i : Str} {j : Nat} {pos : Pos} : PE X (.Constant (.str i) j pos) (tE k g (cM (.str i))) := pe_str.weak (tC_cM fun _ => rfl)
theorem pe_cBool {i : Bool} {j : Nat} {pos : Pos} : PE X (.Constant (.bool i) j pos) (tE k g (cM (.bool i))) := pe_bl.weak (tC_cM fun _ => rfl)
theorem pe_cNone {j : Nat} {pos : Pos} : PE X (.Constant .none j pos) (tE k g (cM .none)) := pe_non.weak (tC_cM fun _ => rfl)
/-- a constant of the top -/
theorem pe_cGlob {x : Str} {d : D} {v : V} {u : Value} {pos : Pos} (hg : Gl X x) (hm : X.mg x = some u) (r : RelV v u) (hd : (x == ("__debug__" : Str)) = false) (hv : ∀ F, Rep k F d v) : PE X (.Name x pos) (tE k g (cM d)) :=
  (pe_glob hg hm r hd).weak (tC_cM hv)
end

/-! ### operands: a name is looked at behind the others -/
inductive Opd where
  | lz (i : Nat)
  | eg (m : EM)
def Sl.d : Sl → D
  | .val d => d
  | .own d => d
  | .bor d => d
def getI (e : En) (i : Nat) : Option D := match e[i]? with
  | some (some s) => some s.d
  | _ => none
theorem getI_some {e : En} {i : Nat} {d : D} (h : getI e i = some d) : ∃ s : Sl, e[i]? = some (some s) ∧ s.d = d := by
  unfold getI at h
  split at h
  · rename_i s hs
    exact ⟨s, hs, Option.some.inj h⟩
  · cases h
theorem getI_prep {k : KX} {F H : Hp} {e : En} {σ : L2.St} (er : ER k F H e σ) {i : Nat} {d : D} (h : getI e i = some d) : ∃ v, σ[i]? = some (some v) ∧ PRep k F H d v := by
  obtain ⟨s, hs, rfl⟩ := getI_some h
  cases s with
  | val d =>
    obtain ⟨v, q1, q2⟩ := er.val i d hs
    exact ⟨v, q1, .inl q2⟩
  | own d =>
    obtain ⟨a, q1, q2⟩ := er.own i _ d hs rfl
    exact ⟨_, q1, .inr ⟨a, rfl, q2⟩⟩
  | bor d =>
    obtain ⟨a, q1, q2⟩ := er.own i _ d hs rfl
    exact ⟨_, q1, .inr ⟨a, rfl, q2⟩⟩
/-- the operands, from the left: a name's slot stays a place -/
def runO (g : G) : List Opd → En → Option (List (Nat ⊕ D) × En)
  | [], e => some ([], e)
  | .lz i :: ps, e => (getI e i).bind fun _ => (runO g ps e).map fun p => (.inl i :: p.1, p.2)
  | .eg m :: ps, e => (m g e).bind fun r => (runO g ps r.2).map fun p => (.inr r.1.d :: p.1, p.2)
def getO (e : En) : Nat ⊕ D → Option D
  | .inl i => getI e i
  | .inr d => some d
def getOs (e : En) : List (Nat ⊕ D) → Option (List D)
  | [] => some []
  | x :: xs => (getO e x).bind fun d => (getOs e xs).map fun ds => d :: ds
def opsM (ps : List Opd) (g : G) (e : En) : Option (List D × En) := (runO g ps e).bind fun p => (getOs p.2 p.1).map fun ds => (ds, p.2)

/-- what stands for an operand behind phase one -/
def RepO (k : KX) (σ : L2.St) (F : Hp) : List (Nat ⊕ D) → List V → Prop
  | [], vs => vs = []
  | .inl i :: xs, vs => ∃ v r, vs = v :: r ∧ σ[i]? = some (some v) ∧ RepO k σ F xs r
  | .inr d :: xs, vs => ∃ v r, vs = v :: r ∧ Rep k F d v ∧ RepO k σ F xs r
theorem RepO.get {k : KX} {F H : Hp} {e : En} {σ : L2.St} (er : ER k F H e σ) : ∀ {xs : List (Nat ⊕ D)} {vs : List V} {ds : List D}, RepO k σ F xs vs → getOs e xs = some ds → PRepL k F H ds vs
  | [], _, _, h, hg => by cases hg; exact h
  | .inl i :: xs, _, ds, h, hg => by
    obtain ⟨v, r, rfl, h1, h2⟩ := h
    obtain ⟨d, hd, hr⟩ := Option.bind_eq_some_iff.mp hg
    obtain ⟨ds', h3, rfl⟩ := Option.map_eq_some_iff.mp hr
    obtain ⟨v', q1, q2⟩ := getI_prep er (i := i) hd
    rw [h1] at q1; cases q1
    exact ⟨v, r, rfl, q2, RepO.get er h2 h3⟩
  | .inr d :: xs, _, ds, h, hg => by
    obtain ⟨v, r, rfl, h1, h2⟩ := h
    obtain ⟨d', hd, hr⟩ := Option.bind_eq_some_iff.mp hg
    obtain ⟨ds', h3, rfl⟩ := Option.map_eq_some_iff.mp hr
    cases hd
    exact ⟨v, r, rfl, .inl h1, RepO.get er h2 h3⟩
def tO (k : KX) (g : G) : Opd → TE
  | .lz i => tVar i
  | .eg m => tK k g m
def tCs : List TE → TA
  | [] => tNil
  | t :: ts => tCons t (tCs ts)
theorem runO_run {k : KX} {g : G} : ∀ (ps : List Opd) {F H : Hp} {e e' : En} {σ : L2.St} {xs : List (Nat ⊕ D)} {Q : List V → Hp → Prop}, ER k F H e σ → runO g ps e = some (xs, e') →
    (∀ vs F' H', Pst k e σ F H e' σ F' H' → RepO k σ F' xs vs → Q vs H') → tCs (ps.map (tO k g)) σ H Q
  | [], F, H, e, e', σ, xs, Q, er, h, q => by
    cases h
    exact q [] F H (Pst.refl er) rfl
  | .lz i :: ps, F, H, e, e', σ, xs, Q, er, h, q => by
    obtain ⟨d, h0, h⟩ := Option.bind_eq_some_iff.mp h
    obtain ⟨⟨xs', e1⟩, h1, h2⟩ := Option.map_eq_some_iff.mp h
    cases h2
    obtain ⟨v, hv, _⟩ := getI_prep er h0
    exact ⟨v, hv, runO_run ps er h1 fun vs F' H' p r => q (v :: vs) F' H' p ⟨v, vs, rfl, hv, r⟩⟩
  | .eg m :: ps, F, H, e, e', σ, xs, Q, er, h, q => by
    obtain ⟨⟨r, e1⟩, h0, h⟩ := Option.bind_eq_some_iff.mp h
    obtain ⟨⟨xs', e2⟩, h1, h2⟩ := Option.map_eq_some_iff.mp h
    cases h2
    refine ⟨F, e, r, e1, er, h0, fun v F1 H1 p1 rep => ?_⟩
    exact runO_run ps p1.er h1 fun vs F' H' p r2 => q (v :: vs) F' H' (p1.trans p) ⟨v, vs, rfl, rep.up er.mono p.st.up, r2⟩
/-- the operands are run, then looked at -/
theorem opsM_run {k : KX} {g : G} {ps : List Opd} {F H : Hp} {e e' : En} {σ : L2.St} {ds : List D} {Q : List V → Hp → Prop} (er : ER k F H e σ) (h : opsM ps g e = some (ds, e'))
    (q : ∀ vs F' H', Pst k e σ F H e' σ F' H' → PRepL k F' H' ds vs → Q vs H') : tCs (ps.map (tO k g)) σ H Q := by
  unfold opsM at h
  obtain ⟨⟨xs, e1⟩, h1, hr⟩ := Option.bind_eq_some_iff.mp h
  obtain ⟨ds', h2, h3⟩ := Option.map_eq_some_iff.mp hr
  cases h3
  exact runO_run ps er h1 fun vs F' H' p r => q vs F' H' p (r.get p.er h2)

/-! ### values that are kept -/
def valsM : List EM → G → En → Option (List D × En)
  | [], _, e => some ([], e)
  | m :: ms, g, e => (m g e).bind fun r => (valsM ms g r.2).map fun p => (r.1.d :: p.1, p.2)
theorem valsM_run {k : KX} {g : G} : ∀ (ms : List EM) {F H : Hp} {e e' : En} {σ : L2.St} {ds : List D} {Q : List V → Hp → Prop}, ER k F H e σ → valsM ms g e = some (ds, e') →
    (∀ vs F' H', Pst k e σ F H e' σ F' H' → RepL k F' ds vs → Q vs H') → tCs (ms.map (tK k g)) σ H Q
  | [], F, H, e, e', σ, ds, Q, er, h, q => by
    cases h
    exact q [] F H (Pst.refl er) rfl
  | m :: ms, F, H, e, e', σ, ds, Q, er, h, q => by
    obtain ⟨⟨r, e1⟩, h0, h⟩ := Option.bind_eq_some_iff.mp h
    obtain ⟨⟨xs', e2⟩, h1, h2⟩ := Option.map_eq_some_iff.mp h
    cases h2
    refine ⟨F, e, r, e1, er, h0, fun v F1 H1 p1 rep => ?_⟩
    exact valsM_run ms p1.er h1 fun vs F' H' p r2 => q (v :: vs) F' H' (p1.trans p) ⟨v, vs, rfl, rep.up er.mono p.st.up, r2⟩

/-! ### an operation by values -/
/-- what an operation hands on: a value that stays, a new object that is ours -/
def RN (k : KX) (H F' H' : Hp) (r : R) (v : V) : Prop :=
  match r with
  | .v d => Rep k F' d v
  | .o d => ∃ a, v = .ref a ∧ OwnAt k F' H' a d ∧ H a = none
/-- the reading r of an operation is met by op -/
def OpS (k : KX) (r : List V → Hp → VK → Prop) (op : List D → Option R) : Prop := ∀ ds res vs F H Q, k.Mono → OkF F H → PRepL k F H ds vs → op ds = some res →
  (∀ v F' H', OkF F' H' → Stp (fun _ => False) F H F' H' → RN k H F' H' res v → Q v H') → r vs H Q
/-- the state behind a step that leaves what is ours -/
theorem ER.go {k : KX} {F H F' H' : Hp} {e : En} {σ : L2.St} (er : ER k F H e σ) (ok : OkF F' H') (st : Stp (fun _ => False) F H F' H') : Pst k e σ F H e σ F' H' := by
  have own : ∀ (i : Nat) (s : Sl) (d : D), e[i]? = some (some s) → s.ours = some d → ∃ a, σ[i]? = some (some (.ref a)) ∧ OwnAt k F' H' a d := fun i s d h hs => by
    obtain ⟨a, h1, h2⟩ := er.own i s d h hs
    obtain ⟨o, ho⟩ := h2.there
    obtain ⟨g1, g2⟩ := st.kp a o ho h2.1 (fun z => z)
    exact ⟨a, h1, h2.up er.mono st.up g2 fun o' ho' => (st.kp a o' ho' h2.1 (fun z => z)).1⟩
  refine ⟨⟨er.mono, ok, er.len, fun i d h => ?_, own, er.apart⟩, ⟨st.up, fun a o h1 h2 _ => st.kp a o h1 h2 fun z => z⟩, fun a h => .inl h, fun i d h => ⟨rfl, d, h⟩⟩
  obtain ⟨v, h1, h2⟩ := er.val i d h
  exact ⟨v, h1, h2.up er.mono st.up⟩
theorem RN.rr {k : KX} {F H F' H' : Hp} {e : En} {σ : L2.St} {r : R} {v : V} (er : ER k F H e σ) (h : RN k H F' H' r v) : RR k e σ H e σ F' H' r v := by
  cases r with
  | v d => exact h
  | o d =>
    obtain ⟨a, h1, h2, h3⟩ := h
    refine ⟨a, h1, h2, ?_, .inr h3⟩
    rintro ⟨i, s, q1, q2, q3⟩
    obtain ⟨d', hd'⟩ := Option.isSome_iff_exists.mp q2
    obtain ⟨b, q4, q5⟩ := er.own i s d' q1 hd'
    rw [q3] at q4; cases q4
    obtain ⟨o, ho⟩ := q5.there
    rw [ho] at h3; cases h3
/-- operands, then an operation -/
def opM (ps : List Opd) (op : List D → Option R) : EM := fun g e => (opsM ps g e).bind fun p => (op p.1).map fun r => (r, p.2)
theorem opM_run {k : KX} {g : G} {ps : List Opd} {op : List D → Option R} {r : List V → Hp → VK → Prop} (hr : OpS k r op) : ∀ σ H Q, tE k g (opM ps op) σ H Q → tCB r (tCs (ps.map (tO k g))) σ H Q := fun σ H Q ⟨F, e, res, e', er, hm, q⟩ => by
  unfold opM at hm
  obtain ⟨⟨ds, e1⟩, h1, hm⟩ := Option.bind_eq_some_iff.mp hm
  obtain ⟨res', h2, h3⟩ := Option.map_eq_some_iff.mp hm
  cases h3
  refine opsM_run er h1 fun vs F1 H1 p pr => hr ds res vs F1 H1 Q er.mono p.er.ok pr h2 fun v F2 H2 ok st rn => ?_
  have p2 := p.er.go ok st
  exact q v F2 H2 (p.trans p2) ((rn.rr p.er).ahead p)
/-- kept values, then an operation -/
def opV (ms : List EM) (op : List D → Option R) : EM := fun g e => (valsM ms g e).bind fun p => (op p.1).map fun r => (r, p.2)
def OpSV (k : KX) (r : List V → Hp → VK → Prop) (op : List D → Option R) : Prop := ∀ ds res vs F H Q, k.Mono → OkF F H → RepL k F ds vs → op ds = some res →
  (∀ v F' H', OkF F' H' → Stp (fun _ => False) F H F' H' → RN k H F' H' res v → Q v H') → r vs H Q
theorem opV_run {k : KX} {g : G} {ms : List EM} {op : List D → Option R} {r : List V → Hp → VK → Prop} (hr : OpSV k r op) : ∀ σ H Q, tE k g (opV ms op) σ H Q → tCB r (tCs (ms.map (tK k g))) σ H Q := fun σ H Q ⟨F, e, res, e', er, hm, q⟩ => by
  unfold opV at hm
  obtain ⟨⟨ds, e1⟩, h1, hm⟩ := Option.bind_eq_some_iff.mp hm
  obtain ⟨res', h2, h3⟩ := Option.map_eq_some_iff.mp hm
  cases h3
  refine valsM_run ms er h1 fun vs F1 H1 p pr => hr ds res vs F1 H1 Q er.mono p.er.ok pr h2 fun v F2 H2 ok st rn => ?_
  have p2 := p.er.go ok st
  exact q v F2 H2 (p.trans p2) ((rn.rr p.er).ahead p)
end RL
end
section
set_option Elab.async false
set_option linter.all false
set_option autoImplicit false
set_option maxRecDepth 100000
set_option maxHeartbeats 4000000
/-! R2: operations by values -/
namespace RL
open PySem PySem.Spec L2
open PyProof.Rows hiding St

/-! ### readings by operations -/
def rOf (k : KX) (op : List D → Option R) : List V → Hp → VK → Prop := fun vs H Q => ∃ F ds res, k.Mono ∧ OkF F H ∧ PRepL k F H ds vs ∧ op ds = some res ∧
  ∀ v F' H', OkF F' H' → Stp (fun _ => False) F H F' H' → RN k H F' H' res v → Q v H'
theorem opS_rOf {k : KX} {op : List D → Option R} : OpS k (rOf k op) op := fun ds res vs F H _ hm ok hr ho q => ⟨F, ds, res, hm, ok, hr, ho, q⟩
def rOf2 (k : KX) (op : D → D → Option R) : R2 := fun x y H Q => ∃ F d e res, k.Mono ∧ OkF F H ∧ PRep k F H d x ∧ PRep k F H e y ∧ op d e = some res ∧
  ∀ v F' H', OkF F' H' → Stp (fun _ => False) F H F' H' → RN k H F' H' res v → Q v H'
def rOf1 (k : KX) (op : D → Option R) : V → Hp → VK → Prop := fun x H Q => ∃ F d res, k.Mono ∧ OkF F H ∧ PRep k F H d x ∧ op d = some res ∧
  ∀ v F' H', OkF F' H' → Stp (fun _ => False) F H F' H' → RN k H F' H' res v → Q v H'
def op1L (op : D → Option R) : List D → Option R
  | [d] => op d
  | _ => none
def op2L (op : D → D → Option R) : List D → Option R
  | [d, e] => op d e
  | _ => none
theorem rOf_1 {k : KX} {op : D → Option R} {vs : List V} {H : Hp} {Q : VK} (h : rOf k (op1L op) vs H Q) : ∃ x, vs = [x] ∧ rOf1 k op x H Q := by
  obtain ⟨F, ds, res, hm, ok, hr, ho, q⟩ := h
  match ds, hr, ho with
  | [d], ⟨v, r, e, p, z⟩, ho => cases z; exact ⟨v, e, F, d, res, hm, ok, p, ho, q⟩
  | [], _, ho => cases ho
  | _ :: _ :: _, _, ho => cases ho
theorem rOf_2 {k : KX} {op : D → D → Option R} {vs : List V} {H : Hp} {Q : VK} (h : rOf k (op2L op) vs H Q) : ∃ x y, vs = [x, y] ∧ rOf2 k op x y H Q := by
  obtain ⟨F, ds, res, hm, ok, hr, ho, q⟩ := h
  match ds, hr, ho with
  | [d, e], ⟨v, r, e1, p, v2, r2, e2, p2, z⟩, ho => cases z; cases e2; exact ⟨v, v2, e1, F, d, e, res, hm, ok, p, p2, ho, q⟩
  | [], _, ho => cases ho
  | [_], _, ho => cases ho
  | _ :: _ :: _ :: _, _, ho => cases ho

/-! ### values looked at -/
section
variable {k : KX} {F H : Hp} {x : V}
theorem own_no {d : D} {a : Addr} (h : OwnAt k F H a d) : (∃ ds, d = .list ds) ∨ ∃ kvs, d = .dict kvs := by
  obtain ⟨_, h⟩ := h
  cases d <;> first | exact .inl ⟨_, rfl⟩ | exact .inr ⟨_, rfl⟩ | exact h.elim
theorem PRep.non (h : PRep k F H .none x) : x = .non := by
  rcases h with h | ⟨a, _, o⟩
  · exact h
  · rcases own_no o with ⟨_, e⟩ | ⟨_, e⟩ <;> cases e
theorem PRep.bl {b : Bool} (h : PRep k F H (.bool b) x) : x = .bl b := by
  rcases h with h | ⟨a, _, o⟩
  · exact h
  · rcases own_no o with ⟨_, e⟩ | ⟨_, e⟩ <;> cases e
theorem PRep.int {b : Int} (h : PRep k F H (.int b) x) : x = .int b := by
  rcases h with h | ⟨a, _, o⟩
  · exact h
  · rcases own_no o with ⟨_, e⟩ | ⟨_, e⟩ <;> cases e
theorem PRep.str {b : Str} (h : PRep k F H (.str b) x) : x = .str b := by
  rcases h with h | ⟨a, _, o⟩
  · exact h
  · rcases own_no o with ⟨_, e⟩ | ⟨_, e⟩ <;> cases e
theorem OkF.rd (ok : OkF F H) {a : Addr} {o : HO} (h : Rd F a o) : Rd H a o := by
  rcases h with h | ⟨ob, h⟩
  · exact .inl (ok a _ h)
  · exact .inr ⟨ob, ok a _ h⟩
theorem OkF.t (ok : OkF F H) {a : Addr} {vs : List V} (h : SqT k.K F a vs) : SqT k.K H a vs := by
  rcases h with h | h
  · exact .inl (ok.rd h)
  · exact .inr h
theorem PRep.tup (ok : OkF F H) {ds : List D} (h : PRep k F H (.tuple ds) x) : ∃ a vs, x = .ref a ∧ SqT k.K H a vs ∧ RepL k F ds vs ∧ Rep k F (.tuple ds) (.ref a) := by
  rcases h with h | ⟨a, _, o⟩
  · obtain ⟨a, vs, e, h1, h2⟩ := id h
    subst e
    exact ⟨a, vs, rfl, ok.t h1.t, h2, h⟩
  · rcases own_no o with ⟨_, e⟩ | ⟨_, e⟩ <;> cases e
theorem PRep.lst (ok : OkF F H) {ds : List D} (h : PRep k F H (.list ds) x) : ∃ a vs, x = .ref a ∧ H a = some (.lst vs) ∧ RepL k F ds vs := by
  rcases h with h | ⟨a, e, o⟩
  · obtain ⟨a, vs, e, h1, h2⟩ := h
    exact ⟨a, vs, e, ok a _ h1, h2⟩
  · obtain ⟨_, vs, h1, h2⟩ := o
    exact ⟨a, vs, e, h1, h2⟩
theorem PRep.seq (ok : OkF F H) {ds : List D} (h : PRep k F H (.list ds) x ∨ PRep k F H (.tuple ds) x) : ∃ a vs, x = .ref a ∧ (SqL k.K H a vs ∨ SqT k.K H a vs) ∧ RepL k F ds vs := by
  rcases h with h | h
  · obtain ⟨a, vs, e, h1, h2⟩ := h.lst ok
    exact ⟨a, vs, e, .inl (SqL.of h1), h2⟩
  · obtain ⟨a, vs, e, h1, h2, _⟩ := h.tup ok
    exact ⟨a, vs, e, .inr h1, h2⟩
theorem Stp.refl : Stp (fun _ => False) F H F H := ⟨Up.refl F, fun _ _ h1 h2 _ => ⟨h1, h2⟩⟩
/-- a new list, ours -/
theorem new_lst {Q : VK} {ds : List D} {vs : List V} {p : Addr} (hm : k.Mono) (ok : OkF F H) (hp : H p = none) (r : RepL k F ds vs)
    (q : ∀ v F' H', OkF F' H' → Stp (fun _ => False) F H F' H' → RN k H F' H' (.o (.list ds)) v → Q v H') : Q (.ref p) (upd H p (.lst vs)) := by
  have hF : F p = none := by
    cases e : F p with
    | none => rfl
    | some o => rw [ok p o e] at hp; cases hp
  refine q _ F _ (fun a o e => ?_) ⟨Up.refl F, fun a o h1 h2 _ => ⟨?_, h2⟩⟩ ⟨p, rfl, ⟨hF, vs, upd_same, r⟩, hp⟩
  · rw [upd_ne (ne_of_none (ok a o e) hp)]; exact ok a o e
  · rw [upd_ne (ne_of_none h1 hp)]; exact h1
theorem new_tup {Q : VK} {ds : List D} {vs : List V} {p : Addr} (hm : k.Mono) (ok : OkF F H) (hp : H p = none) (r : RepL k F ds vs)
    (q : ∀ v F' H', OkF F' H' → Stp (fun _ => False) F H F' H' → RN k H F' H' (.v (.tuple ds)) v → Q v H') {o : Obj} (hd : o.dict = none) : Q (.ref p) (upd H p (.frz o (.tup vs))) := by
  have hF : F p = none := by
    cases e : F p with
    | none => rfl
    | some o => rw [ok p o e] at hp; cases hp
  have u : Up F (upd F p (.frz o (.tup vs))) := fun a o e => .inl (by rw [upd_ne (ne_of_none e hF)]; exact e)
  refine q _ (upd F p (.frz o (.tup vs))) _ (fun a o e => ?_) ⟨u, fun a o h1 h2 _ => ⟨?_, ?_⟩⟩ ⟨p, vs, rfl, .inl ⟨o, upd_same, hd⟩, r.up hm u⟩
  · by_cases ha : a = p
    · subst ha; rw [upd_same] at e ⊢; exact e
    · rw [upd_ne ha] at e ⊢; exact ok a o e
  · rw [upd_ne (ne_of_none h1 hp)]; exact h1
  · rw [upd_ne (ne_of_none h1 hp)]; exact h2
end

/-! ### new tuples: what is known of their object -/
def tupO (us : List Value) : Obj := { cls := .type "tuple", data := .seq us.toArray }
/-- a new tuple of xs is handed on -/
def NewT (xs : List V) (H : Hp) (Q : VK) : Prop := ∀ (p : Addr) (o : Obj), H p = none → o.dict = none → Q (.ref p) (upd H p (.frz o (.tup xs)))
theorem laidT {X : Cx} {pins : List (Addr × Obj)} {σ : L2.St} {H : Hp} {s : Shared} {xs : List V} {us : List Value} {Q : VK} {n : Nat} (I : Inv X pins σ H s) (rv : Vals xs us) (hz : xs.length ≤ sizeLine) (q : NewT xs H Q) :
    EP X pins σ Q (.ref s.heap.objs.size) { s with heap := s.heap.push (tupO us), toks := n } := by
  have hg : (s.heap.push (tupO us)).get? s.heap.objs.size = some (tupO us) := Heap.get?_push_size _ rfl
  have new : ObjOk X.prog X.w (upd H s.heap.objs.size (.frz (tupO us) (.tup xs))) (s.heap.push (tupO us)) s.heap.objs.size (.frz (tupO us) (.tup xs)) := ⟨hg, hz, us, rv, IsTup.new _ _⟩
  exact ⟨.ref _, _, I.laid (fun _ _ e => Heap.get?_push_of_some _ e) (Nat.le_refl _) new, rfl, q _ _ (I.hok.fresh (Nat.le_refl _)) rfl⟩
def rCatZ (K : PySem.W.Frag) : R2 := fun x y H Q => ∃ a b xs ys, x = .ref a ∧ y = .ref b ∧ SqT K H a xs ∧ SqT K H b ys ∧ xs.length + ys.length ≤ sizeLine ∧
  (xs = [] → Q (.ref b) H) ∧ (ys = [] → Q (.ref a) H) ∧ NewT (xs ++ ys) H Q
theorem op_catZ {X : Cx} : OpR X (binaryOp .Add) (rCatZ X.K) := by
  intro pins s σ H x y v u Q I rx ry ⟨a, b, xs, ys, ex, ey, ha, hb, hl, c1, c2, c3⟩
  subst ex ey
  cases rx; cases ry
  obtain ⟨its, r1, p1, _⟩ := I.tuple ha
  obtain ⟨jts, r2, p2, _⟩ := I.tuple hb
  have n1 := r1.nil_iff
  have n2 := r2.nil_iff
  by_cases h0 : xs = []
  · have e0 : its = [] := n1.mpr h0
    subst e0
    exact cat_tup0 p1 p2 ⟨.ref b, H, I, rfl, c1 h0⟩
  · have hl2 : its.length + jts.length ≤ sizeLine := by rw [← r1.length, ← r2.length]; exact hl
    refine HT.cat_tup p1 p2 (fun z => h0 (n1.mp z)) (fun z => ⟨.ref a, H, I, rfl, c2 (n2.mp z)⟩) (fun z => ?_) hl2
    exact laidT I (r1.append r2) (by simpa using hl) c3
def rRepZ (K : PySem.W.Frag) : R2 := fun x y H Q => ∃ l j xs, x = .ref l ∧ y = .int j ∧ SqT K H l xs ∧ xs ≠ [] ∧ 2 ≤ j ∧ j ≤ 1000 ∧ xs.length ≤ 1000 ∧ NewT (List.replicate j.toNat xs).flatten H Q
theorem op_repZ {X : Cx} : OpR X (binaryOp .Mult) (rRepZ X.K) := by
  intro pins s σ H x y v u Q I rx ry ⟨l, j, xs, ex, ey, hT, hne, h1, h2, hx, q⟩
  subst ex ey
  cases rx
  obtain ⟨t, rfl⟩ := ry
  obtain ⟨its, r, ⟨⟨c, dd, dt, sl⟩, ho, hc, n, hd⟩, hs⟩ := I.tuple hT
  simp only at hc hd
  subst hc hd
  have hlen : its.length = xs.length := r.length.symm
  have hi : its.toArray.isEmpty = false := by
    cases its with
    | nil => exact absurd (r.nil_iff.mp rfl) hne
    | cons _ _ => rfl
  have hsz : its.toArray.size = xs.length := by rw [List.size_toArray, hlen]
  have hp : ((its.toArray.size : Nat) : Int) * j ≤ 1000000 := by
    have hp1 : ((xs.length : Nat) : Int) * j ≤ 1000 * j := Int.mul_le_mul_of_nonneg_right (by omega) (by omega)
    rw [hsz]; omega
  have hq : j.toNat * xs.length ≤ 1000 * 1000 := Nat.mul_le_mul (by omega) hx
  have flen : (List.replicate j.toNat its).flatten.length ≤ sizeLine := by rw [PyProof.Rows.lm_len_rep_flat, hlen, sizeLine_eq]; omega
  have k0 : (decide (j < -(2 ^ 63)) || decide (j ≥ 2 ^ 63)) = false := by simp; omega
  have k1 : (its.toArray.isEmpty || j == 1) = false := by rw [hi]; simp; omega
  have k2 : (decide (j ≤ 0) || its.toArray.isEmpty) = false := by rw [hi]; simp; omega
  have k4 : Builtin.Tuple.tupleTooMany (((its.toArray.size : Nat) : Int) * j) = false := by
    unfold Builtin.Tuple.tupleTooMany
    rw [sizeLine_eq]
    exact decide_eq_false (by omega)
  have hfin : EP X pins σ Q (.ref s.heap.objs.size) { s with heap := s.heap.push { cls := .type "tuple", data := .seq (List.foldl (fun x1 x2 => x1 ++ x2) #[] (List.replicate j.toNat its.toArray)) } } := by
    rw [size_rep]
    exact laidT (n := s.toks) I (r.rep j.toNat) (by rw [PyProof.Rows.lm_len_rep_flat, sizeLine_eq]; omega) q
  have hty : s.TypeIs (.ref l) "tuple" := ⟨_, ho, rfl⟩
  have hmul := fun (A' : Around) => call_meets (prog := X.prog) (w := X.w) (A := A') (E := X.xe) (s := s) F.slot_tuple_mul hty F.entry_tuple_mul (F.args_tuple_mul_2 _ _) (tuple_mulW l its.toArray n dd sl j t k0 k1 k2 (by omega) k4 (by rw [size_rep, List.size_toArray]; exact flen)) ⟨ho, hfin⟩
  exact wpAny_binaryOp_repeat_ref (T := "tuple") (U := "int") (by decide) ⟨_, ho, rfl⟩ (fun s' => typeIs_int s' j t) noFill_tuple_mul F.fills_int_mul F.slot_int_rmul repeat_tuple F.slot_int_index.lookup
    (call_meets F.slot_int_rmul (typeIs_int s j t) F.entry_int_rmul (F.args_int_rmul_2 _ _) (int_rmul_tuple j t l its.toArray n dd sl) ⟨ho, rfl, ⟨_, ho, rfl⟩, hmul _⟩)

/-! ### + - * // % -/
def opAdd : D → D → Option R
  | .int i, .int j => some (.v (.int (i + j)))
  | .str i, .str j => if i.length + j.length ≤ sizeLine then some (.v (.str (i ++ j))) else none
  | .list xs, .list ys => if xs.length + ys.length ≤ sizeLine then some (.o (.list (xs ++ ys))) else none
  | .tuple xs, .tuple ys => if xs.length + ys.length ≤ sizeLine then some (.v (.tuple (xs ++ ys))) else none
  | _, _ => none
def opSub : D → D → Option R
  | .int i, .int j => some (.v (.int (i - j)))
  | _, _ => none
def mulOk (i j : Int) : Bool := decide (Builtin.Int.intBits i + Builtin.Int.intBits j ≤ 134217728)
def opMul : D → D → Option R
  | .int i, .int j => if mulOk i j = true then some (.v (.int (i * j))) else none
  | .list xs, .int j => if j < 2 ^ 63 ∧ -(2 ^ 63) ≤ j ∧ xs.length * j.toNat ≤ sizeLine then some (.o (.list (List.replicate j.toNat xs).flatten)) else none
  | .tuple xs, .int j => if xs ≠ [] ∧ 2 ≤ j ∧ j ≤ 1000 ∧ xs.length ≤ 1000 then some (.v (.tuple (List.replicate j.toNat xs).flatten)) else none
  | _, _ => none
def opMod : D → D → Option R
  | .int i, .int j => if j = 0 then none else some (.v (.int (i.fmod j)))
  | _, _ => none
def opDiv : D → D → Option R
  | .int i, .int j => if j ≠ 0 ∧ j.natAbs.log2 < 9000 then some (.v (.int (i.fdiv j))) else none
  | _, _ => none
def opPow : D → D → Option R
  | .int i, .int j => if 0 ≤ j ∧ j ≤ 1000000 ∧ i.natAbs < 2 ^ 64 then some (.v (.int (i ^ j.toNat))) else none
  | _, _ => none
theorem RepL.rep {k : KX} {F : Hp} {ds : List D} {vs : List V} (h : RepL k F ds vs) : ∀ n : Nat, RepL k F (List.replicate n ds).flatten (List.replicate n vs).flatten
  | 0 => rfl
  | n + 1 => by
    rw [List.replicate_succ, List.replicate_succ, List.flatten_cons, List.flatten_cons]
    exact h.append (RepL.rep h n)
theorem RepL.nil_iff {k : KX} {F : Hp} {ds : List D} {vs : List V} (h : RepL k F ds vs) : ds = [] ↔ vs = [] := by
  have := h.length
  constructor
  · rintro rfl; exact List.eq_nil_of_length_eq_zero (by simpa using this.symm)
  · rintro rfl; exact List.eq_nil_of_length_eq_zero (by simpa using this)
section
variable {X : Cx} {k : KX} (hK : X.K = k.K) {n : Nat} (hr : Room n X.A)
include hK in
theorem o_add : OpR X (binaryOp .Add) (rOf2 k opAdd) := by
  intro pins s σ H x y v u Q I rx ry ⟨F, d, e, res, hm, ok, hx, hy, ho, q⟩
  unfold opAdd at ho
  split at ho
  · rename_i i j
    cases hx.int; cases hy.int; cases ho
    exact op_add pins s σ H _ _ v u Q I rx ry ⟨i, j, rfl, rfl, q _ F H ok Stp.refl rfl⟩
  · rename_i i j
    cases hx.str; cases hy.str
    obtain ⟨hl, ho⟩ := Option.ite_none_right_eq_some.mp ho
    cases ho
    exact op_add_str pins s σ H _ _ v u Q I rx ry ⟨i, j, rfl, rfl, hl, q _ F H ok Stp.refl rfl⟩
  · rename_i xs ys
    obtain ⟨a, vs, rfl, h1, h2⟩ := hx.lst ok
    obtain ⟨b, ws, rfl, h3, h4⟩ := hy.lst ok
    obtain ⟨hl, ho⟩ := Option.ite_none_right_eq_some.mp ho
    cases ho
    exact op_cat pins s σ H _ _ v u Q I rx ry ⟨a, b, vs, ws, rfl, rfl, h1, h3, by rw [← h2.length, ← h4.length]; exact hl, fun p hp => new_lst hm ok hp (h2.append h4) q⟩
  · rename_i xs ys
    obtain ⟨a, vs, rfl, h1, h2, ra⟩ := hx.tup ok
    obtain ⟨b, ws, rfl, h3, h4, rb⟩ := hy.tup ok
    obtain ⟨hl, ho⟩ := Option.ite_none_right_eq_some.mp ho
    cases ho
    rw [← hK] at h1 h3
    refine op_catZ pins s σ H _ _ v u Q I rx ry ⟨a, b, vs, ws, rfl, rfl, h1, h3, by rw [← h2.length, ← h4.length]; exact hl, fun e => ?_, fun e => ?_, fun p o hp hd => new_tup hm ok hp (h2.append h4) q hd⟩
    · have e1 : xs = [] := h2.nil_iff.mpr e
      subst e1
      exact q _ F H ok Stp.refl rb
    · have e1 : ys = [] := h4.nil_iff.mpr e
      subst e1
      refine q _ F H ok Stp.refl ?_
      rw [List.append_nil]; exact ra
  · cases ho
theorem o_sub : OpR X (binaryOp .Sub) (rOf2 k opSub) := by
  intro pins s σ H x y v u Q I rx ry ⟨F, d, e, res, hm, ok, hx, hy, ho, q⟩
  unfold opSub at ho
  split at ho
  · rename_i i j
    cases hx.int; cases hy.int; cases ho
    exact op_sub pins s σ H _ _ v u Q I rx ry ⟨i, j, rfl, rfl, q _ F H ok Stp.refl rfl⟩
  · cases ho
include hK in
theorem o_mul : OpR X (binaryOp .Mult) (rOf2 k opMul) := by
  intro pins s σ H x y v u Q I rx ry ⟨F, d, e, res, hm, ok, hx, hy, ho, q⟩
  unfold opMul at ho
  split at ho
  · rename_i i j
    cases hx.int; cases hy.int
    obtain ⟨hl, ho⟩ := Option.ite_none_right_eq_some.mp ho
    cases ho
    refine op_mulX pins s σ H _ _ v u Q I rx ry ⟨i, j, rfl, rfl, ?_, q _ F H ok Stp.refl rfl⟩
    have := of_decide_eq_true hl
    unfold CMulX
    omega
  · rename_i xs j
    obtain ⟨a, vs, rfl, h1, h2⟩ := hx.lst ok
    cases hy.int
    obtain ⟨hl, ho⟩ := Option.ite_none_right_eq_some.mp ho
    cases ho
    exact op_rep pins s σ H _ _ v u Q I rx ry ⟨a, j, vs, rfl, rfl, h1, hl.2.1, hl.1, by rw [← h2.length]; exact hl.2.2, fun p hp => new_lst hm ok hp (h2.rep _) q⟩
  · rename_i xs j
    obtain ⟨a, vs, rfl, h1, h2, _⟩ := hx.tup ok
    cases hy.int
    obtain ⟨hl, ho⟩ := Option.ite_none_right_eq_some.mp ho
    cases ho
    rw [← hK] at h1
    exact op_repZ pins s σ H _ _ v u Q I rx ry ⟨a, j, vs, rfl, rfl, h1, fun e => hl.1 (h2.nil_iff.mpr e), hl.2.1, hl.2.2.1, by rw [← h2.length]; exact hl.2.2.2, fun p o hp hd => new_tup hm ok hp (h2.rep _) q hd⟩
  · cases ho
theorem o_mod : OpR X (binaryOp .Mod) (rOf2 k opMod) := by
  intro pins s σ H x y v u Q I rx ry ⟨F, d, e, res, hm, ok, hx, hy, ho, q⟩
  unfold opMod at ho
  split at ho
  · rename_i i j
    cases hx.int; cases hy.int
    obtain ⟨hl, ho⟩ := Option.ite_none_left_eq_some.mp ho
    cases ho
    exact op_modN pins s σ H _ _ v u Q I rx ry ⟨i, j, rfl, rfl, hl, q _ F H ok Stp.refl rfl⟩
  · cases ho
theorem o_div : OpR X (binaryOp .FloorDiv) (rOf2 k opDiv) := by
  intro pins s σ H x y v u Q I rx ry ⟨F, d, e, res, hm, ok, hx, hy, ho, q⟩
  unfold opDiv at ho
  split at ho
  · rename_i i j
    cases hx.int; cases hy.int
    obtain ⟨hl, ho⟩ := Option.ite_none_right_eq_some.mp ho
    cases ho
    obtain ⟨t, rfl⟩ := rx
    obtain ⟨t', rfl⟩ := ry
    exact floordiv_int hl.1 ⟨.int _, H, I.tok _, ⟨_, rfl⟩, q _ F H ok Stp.refl rfl⟩ (.inl (PyProof.noPylong_of_log2 hl.2))
  · cases ho
theorem o_pow : OpR X (binaryOp .Pow) (rOf2 k opPow) := by
  intro pins s σ H x y v u Q I rx ry ⟨F, d, e, res, hm, ok, hx, hy, ho, q⟩
  unfold opPow at ho
  split at ho
  · rename_i i j
    cases hx.int; cases hy.int
    obtain ⟨hl, ho⟩ := Option.ite_none_right_eq_some.mp ho
    cases ho
    exact op_pow pins s σ H _ _ v u Q I rx ry ⟨i, j, rfl, rfl, hl, q _ F H ok Stp.refl rfl⟩
  · cases ho
def opNeg : D → Option R
  | .int i => some (.v (.int (-i)))
  | _ => none
theorem o_neg : UnR X (unaryOp .USub) (rOf1 k opNeg) := by
  intro pins s σ H x v Q I rx ⟨F, d, res, hm, ok, hx, ho, q⟩
  unfold opNeg at ho
  split at ho
  · rename_i i
    cases hx.int; cases ho
    exact un_neg pins s σ H _ v Q I rx ⟨i, rfl, q _ F H ok Stp.refl rfl⟩
  · cases ho
end
end RL
end
section
set_option Elab.async false
set_option linter.all false
set_option autoImplicit false
set_option maxRecDepth 100000
set_option maxHeartbeats 4000000
/-! R3: comparisons, places, lengths, types -/
namespace RL
open PySem PySem.Spec L2
open PyProof.Rows hiding St

theorem OkF.up {F H : Hp} (ok : OkF F H) : Up F H := fun a o h => .inl (ok a o h)
section
variable {k : KX} {F H : Hp}
theorem PRep.rep (hm : k.Mono) (ok : OkF F H) {d : D} {v : V} (h : PRep k F H d v) : Rep k H d v := by
  rcases h with h | ⟨a, e, hF, o⟩
  · exact h.up hm ok.up
  · subst e
    cases d with
    | list ds => obtain ⟨vs, h1, h2⟩ := o; exact ⟨a, vs, rfl, h1, h2.up hm ok.up⟩
    | dict kvs =>
      obtain ⟨vs, qs, s, r, q⟩ := o
      exact ⟨a, vs, qs, rfl, .inl (s.up fun o e => .inl e), r.up hm ok.up, fun l hl => (q l hl).up hm ok.up⟩
    | none => exact o.elim
    | bool _ => exact o.elim
    | int _ => exact o.elim
    | str _ => exact o.elim
    | tuple _ => exact o.elim
theorem PRep.dp (hm : k.Mono) (ok : OkF F H) {d : D} {v : V} (c : d.canLay0 = true) (h : PRep k F H d v) : Dp k.K H v d := (h.rep hm ok).dp c
end
theorem _root_.L2.Room.u64 {n : Nat} {A : Around} (hr : Room n A) : A.units + 64 < cLine := hr.units

/-! ### == -/
def opEq : D → D → Option R := fun d e => if SeqAt.shaped d = true ∧ SeqAt.shaped e = true then some (.v (.bool (PyData.eqv d e))) else none
def opNe : D → D → Option R := fun d e => if SeqAt.shaped d = true ∧ SeqAt.shaped e = true then some (.v (.bool (!PyData.eqv d e))) else none
section
variable {X : Cx} {k : KX} (hK : X.K = k.K) {n : Nat} (hr : Room n X.A)
theorem lay_of_shaped {d : D} (h : SeqAt.shaped d = true) : d.canLay0 = true := SeqAt.canLay_of_shaped h
include hK hr in
theorem o_eq : OpR X (compareOp .Eq) (rOf2 k opEq) := by
  intro pins s σ H x y v u Q I rx ry ⟨F, d, e, res, hm, ok, hx, hy, ho, q⟩
  obtain ⟨hl, ho⟩ := Option.ite_none_right_eq_some.mp ho
  cases ho
  have h1 := hx.dp hm ok (lay_of_shaped hl.1)
  have h2 := hy.dp hm ok (lay_of_shaped hl.2)
  rw [← hK] at h1 h2
  exact op_eqD hr.u64 pins s σ H _ _ v u Q I rx ry ⟨d, e, h1, h2, hl.1, hl.2, q _ F H ok Stp.refl rfl⟩
include hK hr in
theorem o_ne : OpR X (compareOp .NotEq) (rOf2 k opNe) := by
  intro pins s σ H x y v u Q I rx ry ⟨F, d, e, res, hm, ok, hx, hy, ho, q⟩
  obtain ⟨hl, ho⟩ := Option.ite_none_right_eq_some.mp ho
  cases ho
  have h1 := hx.dp hm ok (lay_of_shaped hl.1)
  have h2 := hy.dp hm ok (lay_of_shaped hl.2)
  rw [← hK] at h1 h2
  exact op_neD hr.u64 pins s σ H _ _ v u Q I rx ry ⟨d, e, h1, h2, hl.1, hl.2, q _ F H ok Stp.refl rfl⟩
end

/-! ### < -/
def sLt (a b : Str) : Bool := decide (a.cps.toList < b.cps.toList)
def opLt : D → D → Option R
  | .int i, .int j => some (.v (.bool (decide (i < j))))
  | .str a, .str b => some (.v (.bool (sLt a b)))
  | _, _ => none
def opLe : D → D → Option R
  | .int i, .int j => some (.v (.bool (decide (i ≤ j))))
  | .str a, .str b => some (.v (.bool (!sLt b a)))
  | _, _ => none
def opGt : D → D → Option R
  | .int i, .int j => some (.v (.bool (decide (j < i))))
  | .str a, .str b => some (.v (.bool (sLt b a)))
  | _, _ => none
def opGe : D → D → Option R
  | .int i, .int j => some (.v (.bool (decide (j ≤ i))))
  | .str a, .str b => some (.v (.bool (!sLt a b)))
  | _, _ => none
section
variable {X : Cx} {k : KX}
theorem o_lt : OpR X (compareOp .Lt) (rOf2 k opLt) := by
  intro pins s σ H x y v u Q I rx ry ⟨F, d, e, res, hm, ok, hx, hy, ho, q⟩
  unfold opLt at ho
  split at ho
  · cases hx.int; cases hy.int; cases ho
    exact op_lt pins s σ H _ _ v u Q I rx ry ⟨_, _, rfl, rfl, q _ F H ok Stp.refl rfl⟩
  · cases hx.str; cases hy.str; cases ho
    exact op_lt_str pins s σ H _ _ v u Q I rx ry ⟨_, _, rfl, rfl, q _ F H ok Stp.refl rfl⟩
  · cases ho
theorem o_le : OpR X (compareOp .LtE) (rOf2 k opLe) := by
  intro pins s σ H x y v u Q I rx ry ⟨F, d, e, res, hm, ok, hx, hy, ho, q⟩
  unfold opLe at ho
  split at ho
  · cases hx.int; cases hy.int; cases ho
    exact op_le pins s σ H _ _ v u Q I rx ry ⟨_, _, rfl, rfl, q _ F H ok Stp.refl rfl⟩
  · cases hx.str; cases hy.str; cases ho
    exact op_le_str pins s σ H _ _ v u Q I rx ry ⟨_, _, rfl, rfl, q _ F H ok Stp.refl rfl⟩
  · cases ho
theorem o_gt : OpR X (compareOp .Gt) (rOf2 k opGt) := by
  intro pins s σ H x y v u Q I rx ry ⟨F, d, e, res, hm, ok, hx, hy, ho, q⟩
  unfold opGt at ho
  split at ho
  · cases hx.int; cases hy.int; cases ho
    exact op_gt pins s σ H _ _ v u Q I rx ry ⟨_, _, rfl, rfl, q _ F H ok Stp.refl rfl⟩
  · cases hx.str; cases hy.str; cases ho
    exact op_gt_str pins s σ H _ _ v u Q I rx ry ⟨_, _, rfl, rfl, q _ F H ok Stp.refl rfl⟩
  · cases ho
theorem o_ge : OpR X (compareOp .GtE) (rOf2 k opGe) := by
  intro pins s σ H x y v u Q I rx ry ⟨F, d, e, res, hm, ok, hx, hy, ho, q⟩
  unfold opGe at ho
  split at ho
  · cases hx.int; cases hy.int; cases ho
    exact op_ge pins s σ H _ _ v u Q I rx ry ⟨_, _, rfl, rfl, q _ F H ok Stp.refl rfl⟩
  · cases hx.str; cases hy.str; cases ho
    exact op_ge_str pins s σ H _ _ v u Q I rx ry ⟨_, _, rfl, rfl, q _ F H ok Stp.refl rfl⟩
  · cases ho
/-! ### is None -/
def isNn : D → Bool
  | .none => true
  | _ => false
def opIsN : D → D → Option R
  | d, .none => some (.v (.bool (isNn d)))
  | _, _ => none
def opNotN : D → D → Option R
  | d, .none => some (.v (.bool (!isNn d)))
  | _, _ => none
theorem PRep.isN {F H : Hp} {d : D} {x : V} (h : PRep k F H d x) : decide (x = .non) = isNn d := by
  cases d with
  | none => cases h.non; rfl
  | bool b => cases h.bl; rfl
  | int b => cases h.int; rfl
  | str b => cases h.str; rfl
  | list ds => rcases h with ⟨a, vs, rfl, _⟩ | ⟨a, rfl, _⟩ <;> rfl
  | tuple ds => rcases h with ⟨a, vs, rfl, _⟩ | ⟨a, rfl, _⟩ <;> rfl
  | dict ds => rcases h with ⟨a, vs, qs, rfl, _⟩ | ⟨a, rfl, _⟩ <;> rfl
theorem o_isN : OpR X (compareOp .Is) (rOf2 k opIsN) := by
  intro pins s σ H x y v u Q I rx ry ⟨F, d, e, res, hm, ok, hx, hy, ho, q⟩
  unfold opIsN at ho
  split at ho
  · cases hy.non; cases ho
    have e := hx.isN
    refine op_isN pins s σ H _ _ v u Q I rx ry ⟨rfl, ?_⟩
    rw [e]
    exact q _ F H ok Stp.refl rfl
  · cases ho
theorem o_notN : OpR X (compareOp .IsNot) (rOf2 k opNotN) := by
  intro pins s σ H x y v u Q I rx ry ⟨F, d, e, res, hm, ok, hx, hy, ho, q⟩
  unfold opNotN at ho
  split at ho
  · cases hy.non; cases ho
    have e := hx.isN
    refine op_notN pins s σ H _ _ v u Q I rx ry ⟨rfl, ?_⟩
    rw [e]
    exact q _ F H ok Stp.refl rfl
  · cases ho
end

/-! ### xs[i] -/
def opIx : D → D → Option R
  | .list ds, .int i => (atI ds i).map .v
  | .tuple ds, .int i => (atI ds i).map .v
  | .str z, .int i => if z.length ≤ sizeLine then (atI z.cps.toList i).map fun c => .v (.str ⟨#[c]⟩) else none
  | _, _ => none
theorem RepL.atI {k : KX} {F : Hp} {ds : List D} {vs : List V} {i : Int} {d : D} (h : RepL k F ds vs) (e : L2.atI ds i = some d) : ∃ v, L2.atI vs i = some v ∧ Rep k F d v := by
  unfold L2.atI at e ⊢
  rw [← h.length]
  obtain ⟨j, h1, h2⟩ := Option.bind_eq_some_iff.mp e
  obtain ⟨v, h3, h4⟩ := h.get h2
  exact ⟨v, Option.bind_eq_some_iff.mpr ⟨j, h1, h3⟩, h4⟩
section
variable {X : Cx} {k : KX} (hK : X.K = k.K)
include hK in
theorem o_ix : IxR X (rOf2 k opIx) := by
  intro value slice pins s σ H x y v u Q I rx ry ⟨F, d, e, res, hm, ok, hx, hy, ho, q⟩ hs
  unfold opIx at ho
  split at ho
  · obtain ⟨a, vs, rfl, h1, h2⟩ := hx.lst ok
    cases hy.int
    obtain ⟨d, h3, rfl⟩ := Option.map_eq_some_iff.mp ho
    obtain ⟨w, h4, h5⟩ := h2.atI h3
    exact ix_list value slice pins s σ H _ _ v u Q I rx ry ⟨a, vs, _, w, rfl, rfl, SqL.of h1, h4, q w F H ok Stp.refl h5⟩ hs
  · obtain ⟨a, vs, rfl, h1, h2, _⟩ := hx.tup ok
    cases hy.int
    obtain ⟨d, h3, rfl⟩ := Option.map_eq_some_iff.mp ho
    obtain ⟨w, h4, h5⟩ := h2.atI h3
    exact ix_tup value slice pins s σ H _ _ v u Q I rx ry ⟨a, vs, _, w, rfl, rfl, (by rw [hK]; exact h1), h4, q w F H ok Stp.refl h5⟩ hs
  · cases hx.str; cases hy.int
    obtain ⟨hl, ho⟩ := Option.ite_none_right_eq_some.mp ho
    obtain ⟨c, h3, rfl⟩ := Option.map_eq_some_iff.mp ho
    exact ix_str value slice pins s σ H _ _ v u Q I rx ry ⟨_, _, c, rfl, rfl, hl, h3, q _ F H ok Stp.refl rfl⟩ hs
  · cases ho
end

/-! ### x in xs -/
def opIn : D → D → Option R
  | .str a, .str b => some (.v (.bool (match a.cps.toList with
    | [c] => decide (c ∈ b.cps.toList)
    | _ => !(Builtin.Str.occurrences b a 0 b.length 1).isEmpty)))
  | d, .list ds => if d.canLay0 = true ∧ d.depth ≤ 64 ∧ PyData.canLayAll0 ds = true then some (.v (.bool (ds.any fun z => PyData.eqv z d))) else none
  | d, .tuple ds => if d.canLay0 = true ∧ d.depth ≤ 64 ∧ PyData.canLayAll0 ds = true then some (.v (.bool (ds.any fun z => PyData.eqv z d))) else none
  | _, _ => none
def notR (o : Option R) : Option R := match o with
  | some (.v (.bool b)) => some (.v (.bool (!b)))
  | _ => none
def opNotIn (d e : D) : Option R := notR (opIn d e)
section
variable {X : Cx} {k : KX} (hK : X.K = k.K) {n : Nat} (hr : Room n X.A)
theorem shaped_of {d : D} (h1 : d.canLay0 = true) (h2 : d.depth ≤ 64) : SeqAt.shaped d = true := by
  unfold SeqAt.shaped
  rw [h1, decide_eq_true h2]; rfl
theorem _root_.L2.Room.u65 {n : Nat} {A : Around} (hr : Room n A) : A.units + 65 < cLine := by
  have := hr.un
  omega
theorem opIn_seq {d e : D} {res : R} (h : opIn d e = some res) : (∃ a b, d = .str a ∧ e = .str b) ∨ (∃ ds, (e = .list ds ∨ e = .tuple ds) ∧ d.canLay0 = true ∧ d.depth ≤ 64 ∧ PyData.canLayAll0 ds = true ∧ res = .v (.bool (ds.any fun z => PyData.eqv z d))) := by
  unfold opIn at h
  split at h
  · exact .inl ⟨_, _, rfl, rfl⟩
  · obtain ⟨hl, ho⟩ := Option.ite_none_right_eq_some.mp h
    cases ho
    exact .inr ⟨_, .inl rfl, hl.1, hl.2.1, hl.2.2, rfl⟩
  · obtain ⟨hl, ho⟩ := Option.ite_none_right_eq_some.mp h
    cases ho
    exact .inr ⟨_, .inr rfl, hl.1, hl.2.1, hl.2.2, rfl⟩
  · cases h
include hK hr in
theorem o_in : OpR X (compareOp .In) (rOf2 k opIn) := by
  intro pins s σ H x y v u Q I rx ry ⟨F, d, e, res, hm, ok, hx, hy, ho, q⟩
  rcases opIn_seq ho with ⟨a, b, rfl, rfl⟩ | ⟨ds, he, l1, l2, l3, rfl⟩
  · cases hx.str; cases hy.str
    unfold opIn at ho
    dsimp only at ho
    split at ho
    · rename_i c hc
      cases ho
      have ea : a = ⟨#[c]⟩ := by
        cases a with
        | mk cps => congr 1; apply Array.ext'; simpa using hc
      subst ea
      exact op_in_sign pins s σ H _ _ v u Q I rx ry ⟨c, b, rfl, rfl, q _ F H ok Stp.refl rfl⟩
    · cases ho
      exact op_in_str pins s σ H _ _ v u Q I rx ry ⟨a, b, rfl, rfl, q _ F H ok Stp.refl rfl⟩
  · have h1 := hx.dp hm ok l1
    rw [← hK] at h1
    obtain ⟨as, r1⟩ := Dp.reads I d x v h1 rx
    rcases he with rfl | rfl
    · have h2 := hy.dp hm ok (d := .list ds) (by simpa [PyData.canLay0] using l3)
      rw [← hK] at h2
      obtain ⟨bs, r2⟩ := Dp.reads I (.list ds) y u h2 ry
      exact SeqAt.in_list_reads r2 r1 l3 l1 (room_in_shaped (shaped_of l1 l2) hr.u65) ⟨.bl _, H, I, rfl, q _ F H ok Stp.refl rfl⟩
    · have h2 := hy.dp hm ok (d := .tuple ds) (by simpa [PyData.canLay0] using l3)
      rw [← hK] at h2
      obtain ⟨bs, r2⟩ := Dp.reads I (.tuple ds) y u h2 ry
      exact SeqAt.in_tuple_reads r2 r1 l3 l1 (room_in_shaped (shaped_of l1 l2) hr.u65) ⟨.bl _, H, I, rfl, q _ F H ok Stp.refl rfl⟩
include hK hr in
theorem o_notIn : OpR X (compareOp .NotIn) (rOf2 k opNotIn) := by
  intro pins s σ H x y v u Q I rx ry ⟨F, d, e, res, hm, ok, hx, hy, ho, q⟩
  unfold opNotIn notR at ho
  split at ho
  · rename_i b0 hi
    cases ho
    rcases opIn_seq hi with ⟨a, b, rfl, rfl⟩ | ⟨ds, he, l1, l2, l3, h0⟩
    · cases hx.str; cases hy.str
      unfold opIn at hi
      dsimp only at hi
      split at hi
      · rename_i c hc
        cases hi
        have ea : a = ⟨#[c]⟩ := by
          cases a with
          | mk cps => congr 1; apply Array.ext'; simpa using hc
        subst ea
        exact op_notIn_sign pins s σ H _ _ v u Q I rx ry ⟨c, b, rfl, rfl, q _ F H ok Stp.refl rfl⟩
      · cases hi
        exact op_notIn_str pins s σ H _ _ v u Q I rx ry ⟨a, b, rfl, rfl, q _ F H ok Stp.refl rfl⟩
    · cases h0
      have h1 := hx.dp hm ok l1
      rw [← hK] at h1
      obtain ⟨as, r1⟩ := Dp.reads I d x v h1 rx
      rcases he with rfl | rfl
      · have h2 := hy.dp hm ok (d := .list ds) (by simpa [PyData.canLay0] using l3)
        rw [← hK] at h2
        obtain ⟨bs, r2⟩ := Dp.reads I (.list ds) y u h2 ry
        exact SeqAt.notIn_list_reads r2 r1 l3 l1 (room_in_shaped (shaped_of l1 l2) hr.u65) ⟨.bl _, H, I, rfl, q _ F H ok Stp.refl rfl⟩
      · have h2 := hy.dp hm ok (d := .tuple ds) (by simpa [PyData.canLay0] using l3)
        rw [← hK] at h2
        obtain ⟨bs, r2⟩ := Dp.reads I (.tuple ds) y u h2 ry
        exact SeqAt.notIn_tuple_reads r2 r1 l3 l1 (room_in_shaped (shaped_of l1 l2) hr.u65) ⟨.bl _, H, I, rfl, q _ F H ok Stp.refl rfl⟩
  · cases ho
end

/-! ### slices -/
def opSl (d : D) (lo hi : Option Int) : Option R := match d with
  | .list ds => some (.o (.list ((ds.drop (HT.sIx ds.length 0 lo)).take (HT.sIx ds.length ds.length hi - HT.sIx ds.length 0 lo))))
  | .tuple ds => some (.v (.tuple ((ds.drop (HT.sIx ds.length 0 lo)).take (HT.sIx ds.length ds.length hi - HT.sIx ds.length 0 lo))))
  | .str z => if z.length ≤ sizeLine then some (.v (.str (cutS z lo hi))) else none
  | _ => none
def rSlO (k : KX) : V → Option Int → Option Int → Hp → VK → Prop := fun x lo hi H Q => ∃ F d res, k.Mono ∧ OkF F H ∧ PRep k F H d x ∧ opSl d lo hi = some res ∧
  ∀ v F' H', OkF F' H' → Stp (fun _ => False) F H F' H' → RN k H F' H' res v → Q v H'
section
variable {X : Cx} {k : KX} (hK : X.K = k.K)
theorem RepL.cut {F : Hp} {ds : List D} {vs : List V} (h : RepL k F ds vs) (lo hi : Option Int) :
    RepL k F ((ds.drop (HT.sIx ds.length 0 lo)).take (HT.sIx ds.length ds.length hi - HT.sIx ds.length 0 lo)) (cutV vs lo hi) := by
  unfold cutV
  rw [h.length]
  exact (h.drop _).take _
theorem cut_whole {ds : List D} {lo hi : Option Int} (h : HT.sIx ds.length 0 lo = 0 ∧ HT.sIx ds.length ds.length hi = ds.length) : (ds.drop (HT.sIx ds.length 0 lo)).take (HT.sIx ds.length ds.length hi - HT.sIx ds.length 0 lo) = ds := by
  rw [h.1, h.2]; simp
/-- t[lo:hi]; the whole of it is t itself -/
theorem sl_tupZ : SlR X (fun x lo hi H Q => ∃ a xs, x = .ref a ∧ SqT X.K H a xs ∧ (HT.sIx xs.length 0 lo = 0 ∧ HT.sIx xs.length xs.length hi = xs.length → Q (.ref a) H) ∧ NewT (cutV xs lo hi) H Q) := by
  intro pins s σ H x v vl vu lo hi sl Q I rx hs pl pu ⟨a, xs, ex, hx, c1, c2⟩
  subst ex
  cases rx
  obtain ⟨its, r, ht, hz⟩ := I.tuple hx
  have hlen : its.toArray.size = xs.length := by simp [r.length]
  refine ⟨_, _, PyProof.Rows.slot_tuple_getitem.lookup, ht.typeIs, ?_⟩
  by_cases hw : HT.sIx xs.length 0 lo = 0 ∧ HT.sIx xs.length xs.length hi = xs.length
  · exact getItem_tuple_whole ht hs pl pu (by rw [hlen]; exact hw) ⟨.ref a, H, I, rfl, c1 hw⟩
  · refine HT.getItem_tuple_cut ht hs pl pu (by rw [hlen]; exact hw) ?_ (by rw [hlen]; exact hz)
    rw [hlen]
    exact laidT (n := s.toks) I ((r.drop (HT.sIx xs.length 0 lo)).take _) (Nat.le_trans (cutV_length xs lo hi) hz) c2
include hK in
theorem o_sl : SlR X (rSlO k) := by
  intro pins s σ H x v vl vu lo hi sl Q I rx hs pl pu ⟨F, d, res, hm, ok, hx, ho, q⟩
  unfold opSl at ho
  split at ho
  · cases ho
    obtain ⟨a, vs, rfl, h1, h2⟩ := hx.lst ok
    exact sl_list pins s σ H _ v vl vu lo hi sl Q I rx hs pl pu ⟨a, vs, rfl, SqL.of h1, fun p hp => new_lst hm ok hp (h2.cut lo hi) q⟩
  · rename_i ds
    cases ho
    obtain ⟨a, vs, rfl, h1, h2, h3⟩ := hx.tup ok
    rw [← hK] at h1
    refine sl_tupZ pins s σ H _ v vl vu lo hi sl Q I rx hs pl pu ⟨a, vs, rfl, h1, fun hw => ?_, fun p o hp hd => new_tup hm ok hp (h2.cut lo hi) q hd⟩
    rw [← h2.length] at hw
    refine q _ F H ok Stp.refl ?_
    rw [cut_whole hw]
    exact h3
  · cases hx.str
    obtain ⟨hl, ho⟩ := Option.ite_none_right_eq_some.mp ho
    cases ho
    exact sl_str pins s σ H _ v vl vu lo hi sl Q I rx hs pl pu ⟨_, rfl, hl, q _ F H ok Stp.refl rfl⟩
  · cases ho
end

/-! ### built-ins -/
def opLen : D → Option R
  | .list ds => some (.v (.int ds.length))
  | .tuple ds => some (.v (.int ds.length))
  | .str z => if z.length ≤ sizeLine then some (.v (.int z.length)) else none
  | _ => none
def intsOf : List D → Option (List Int)
  | [] => some []
  | .int i :: r => (intsOf r).map fun l => i :: l
  | _ => none
def boolsOf : List D → Option (List Bool)
  | [] => some []
  | .bool i :: r => (boolsOf r).map fun l => i :: l
  | _ => none
def strsOf : List D → Option (List Str)
  | [] => some []
  | .str i :: r => (strsOf r).map fun l => i :: l
  | _ => none
theorem intsOf_eq : ∀ {ds : List D} {l : List Int}, intsOf ds = some l → ds = l.map .int
  | [], _, h => by cases h; rfl
  | .int i :: r, l, h => by
    obtain ⟨l', h1, rfl⟩ := Option.map_eq_some_iff.mp h
    rw [intsOf_eq h1]; rfl
  | .none :: _, _, h => by cases h
  | .bool _ :: _, _, h => by cases h
  | .str _ :: _, _, h => by cases h
  | .list _ :: _, _, h => by cases h
  | .tuple _ :: _, _, h => by cases h
  | .dict _ :: _, _, h => by cases h
theorem boolsOf_eq : ∀ {ds : List D} {l : List Bool}, boolsOf ds = some l → ds = l.map .bool
  | [], _, h => by cases h; rfl
  | .bool i :: r, l, h => by
    obtain ⟨l', h1, rfl⟩ := Option.map_eq_some_iff.mp h
    rw [boolsOf_eq h1]; rfl
  | .none :: _, _, h => by cases h
  | .int _ :: _, _, h => by cases h
  | .str _ :: _, _, h => by cases h
  | .list _ :: _, _, h => by cases h
  | .tuple _ :: _, _, h => by cases h
  | .dict _ :: _, _, h => by cases h
theorem strsOf_eq : ∀ {ds : List D} {l : List Str}, strsOf ds = some l → ds = l.map .str
  | [], _, h => by cases h; rfl
  | .str i :: r, l, h => by
    obtain ⟨l', h1, rfl⟩ := Option.map_eq_some_iff.mp h
    rw [strsOf_eq h1]; rfl
  | .none :: _, _, h => by cases h
  | .int _ :: _, _, h => by cases h
  | .bool _ :: _, _, h => by cases h
  | .list _ :: _, _, h => by cases h
  | .tuple _ :: _, _, h => by cases h
  | .dict _ :: _, _, h => by cases h
end RL
end
section
set_option Elab.async false
set_option linter.all false
set_option autoImplicit false
set_option maxRecDepth 100000
set_option maxHeartbeats 4000000
/-! R4: built-ins by values -/
namespace RL
open PySem PySem.Spec L2
open PyProof.Rows hiding St

def opAll : D → Option R
  | .list ds => (boolsOf ds).map fun bs => .v (.bool (bs.all id))
  | _ => none
def opAny : D → Option R
  | .list ds => (boolsOf ds).map fun bs => .v (.bool (bs.any id))
  | _ => none
def opSum : D → Option R
  | .list ds => (intsOf ds).map fun bs => .v (.int bs.sum)
  | _ => none
def opList : D → Option R
  | .list ds => some (.o (.list ds))
  | .tuple ds => some (.o (.list ds))
  | _ => none
def opTuple : D → Option R
  | .list ds => some (.v (.tuple ds))
  | .tuple ds => some (.v (.tuple ds))
  | _ => none
def opInt : D → Option R
  | .int i => some (.v (.int i))
  | .bool b => some (.v (.int (if b then 1 else 0)))
  | _ => none
def opBool : D → Option R
  | .int i => some (.v (.bool (i != 0)))
  | .bool b => some (.v (.bool b))
  | _ => none
def opAbs : D → Option R
  | .int i => some (.v (.int (if i < 0 then -i else i)))
  | _ => none
section
variable {X : Cx} {k : KX} (hK : X.K = k.K) (hc : X.calm = true)
theorem c_len (hK : X.K = k.K) : CallR X (.builtin "len") (rOf k (op1L opLen)) := by
  intro pins s σ H xs us Q I r h
  obtain ⟨x, rfl, F, d, res, hm, ok, hx, ho, q⟩ := rOf_1 h
  unfold opLen at ho
  split at ho
  · cases ho
    obtain ⟨a, vs, rfl, h1, h2⟩ := hx.lst ok
    rw [h2.length] at q
    exact call_len_seq pins s σ H _ us Q I r ⟨a, vs, rfl, .inl (SqL.of h1), q _ F H ok Stp.refl rfl⟩
  · cases ho
    obtain ⟨a, vs, rfl, h1, h2, _⟩ := hx.tup ok
    rw [h2.length] at q
    exact call_len_seq pins s σ H _ us Q I r ⟨a, vs, rfl, .inr (by rw [hK]; exact h1), q _ F H ok Stp.refl rfl⟩
  · cases hx.str
    obtain ⟨hl, ho⟩ := Option.ite_none_right_eq_some.mp ho
    cases ho
    exact call_len_str pins s σ H _ us Q I r ⟨_, rfl, hl, q _ F H ok Stp.refl rfl⟩
  · cases ho
include hc in
theorem c_all : CallR X (.builtin "all") (rOf k (op1L opAll)) := by
  intro pins s σ H xs us Q I r h
  obtain ⟨x, rfl, F, d, res, hm, ok, hx, ho, q⟩ := rOf_1 h
  unfold opAll at ho
  split at ho
  · obtain ⟨bs, h0, rfl⟩ := Option.map_eq_some_iff.mp ho
    obtain ⟨a, vs, rfl, h1, h2⟩ := hx.lst ok
    cases boolsOf_eq h0
    cases h2.bools
    exact cr_all hc pins s σ H _ us Q I r ⟨a, bs, rfl, SqL.of h1, q _ F H ok Stp.refl rfl⟩
  · cases ho
include hc in
theorem c_any : CallR X (.builtin "any") (rOf k (op1L opAny)) := by
  intro pins s σ H xs us Q I r h
  obtain ⟨x, rfl, F, d, res, hm, ok, hx, ho, q⟩ := rOf_1 h
  unfold opAny at ho
  split at ho
  · obtain ⟨bs, h0, rfl⟩ := Option.map_eq_some_iff.mp ho
    obtain ⟨a, vs, rfl, h1, h2⟩ := hx.lst ok
    cases boolsOf_eq h0
    cases h2.bools
    exact cr_any hc pins s σ H _ us Q I r ⟨a, bs, rfl, SqL.of h1, q _ F H ok Stp.refl rfl⟩
  · cases ho
include hc in
theorem c_sum : CallR X (.builtin "sum") (rOf k (op1L opSum)) := by
  intro pins s σ H xs us Q I r h
  obtain ⟨x, rfl, F, d, res, hm, ok, hx, ho, q⟩ := rOf_1 h
  unfold opSum at ho
  split at ho
  · obtain ⟨bs, h0, rfl⟩ := Option.map_eq_some_iff.mp ho
    obtain ⟨a, vs, rfl, h1, h2⟩ := hx.lst ok
    cases intsOf_eq h0
    cases h2.ints
    exact cr_sum hc pins s σ H _ us Q I r ⟨a, bs, rfl, SqL.of h1, q _ F H ok Stp.refl rfl⟩
  · cases ho
include hK in
theorem c_list : CallR X (.type "list") (rOf k (op1L opList)) := by
  intro pins s σ H xs us Q I r h
  obtain ⟨x, rfl, F, d, res, hm, ok, hx, ho, q⟩ := rOf_1 h
  unfold opList at ho
  split at ho
  · cases ho
    obtain ⟨a, vs, rfl, h1, h2⟩ := hx.lst ok
    exact call_list_of pins s σ H _ us Q I r ⟨a, vs, rfl, .inl (SqL.of h1), fun p hp => new_lst hm ok hp h2 q⟩
  · cases ho
    obtain ⟨a, vs, rfl, h1, h2, _⟩ := hx.tup ok
    exact call_list_of pins s σ H _ us Q I r ⟨a, vs, rfl, .inr (by rw [hK]; exact h1), fun p hp => new_lst hm ok hp h2 q⟩
  · cases ho
theorem call_tupZ : CallR X (.type "tuple") (fun xs H Q => ∃ p ys, xs = [.ref p] ∧ ((SqL X.K H p ys ∧ NewT ys H Q) ∨ (SqT X.K H p ys ∧ Q (.ref p) H))) := by
  intro pins s σ H xs us Q I r ⟨p, ys, e, h⟩
  subst e
  have e := Vals.ref1 r
  subst e
  rcases h with ⟨hq, q⟩ | ⟨hq, q⟩
  · obtain ⟨its, rv, pl, hz⟩ := I.list hq
    refine call_tuple_list pl.isList (fun h' kp => ?_) (by rw [List.size_toArray, ← rv.length]; exact hz)
    exact laidT (n := s.toks) (I.kept (t' := s.toks) kp) rv hz q
  · obtain ⟨its, _, pl, _⟩ := I.tuple hq
    exact call_tuple_same pl ⟨.ref p, H, I, rfl, q⟩
include hK in
theorem c_tuple : CallR X (.type "tuple") (rOf k (op1L opTuple)) := by
  intro pins s σ H xs us Q I r h
  obtain ⟨x, rfl, F, d, res, hm, ok, hx, ho, q⟩ := rOf_1 h
  unfold opTuple at ho
  split at ho
  · cases ho
    obtain ⟨a, vs, rfl, h1, h2⟩ := hx.lst ok
    exact call_tupZ pins s σ H _ us Q I r ⟨a, vs, rfl, .inl ⟨SqL.of h1, fun p o hp hd => new_tup hm ok hp h2 q hd⟩⟩
  · cases ho
    obtain ⟨a, vs, rfl, h1, h2, h3⟩ := hx.tup ok
    exact call_tupZ pins s σ H _ us Q I r ⟨a, vs, rfl, .inr ⟨by rw [hK]; exact h1, q _ F H ok Stp.refl h3⟩⟩
  · cases ho
theorem c_int : CallR X (.type "int") (rOf k (op1L opInt)) := by
  intro pins s σ H xs us Q I r h
  obtain ⟨x, rfl, F, d, res, hm, ok, hx, ho, q⟩ := rOf_1 h
  unfold opInt at ho
  split at ho
  · cases ho
    cases hx.int
    exact call_int1 pins s σ H _ us Q I r (.inl ⟨_, rfl, q _ F H ok Stp.refl rfl⟩)
  · cases ho
    cases hx.bl
    exact call_int1 pins s σ H _ us Q I r (.inr ⟨_, rfl, q _ F H ok Stp.refl rfl⟩)
  · cases ho
theorem c_bool : CallR X (.type "bool") (rOf k (op1L opBool)) := by
  intro pins s σ H xs us Q I r h
  obtain ⟨x, rfl, F, d, res, hm, ok, hx, ho, q⟩ := rOf_1 h
  unfold opBool at ho
  split at ho
  · cases ho
    cases hx.int
    exact call_bool1 pins s σ H _ us Q I r (.inl ⟨_, rfl, q _ F H ok Stp.refl rfl⟩)
  · cases ho
    cases hx.bl
    exact call_bool1 pins s σ H _ us Q I r (.inr ⟨_, rfl, q _ F H ok Stp.refl rfl⟩)
  · cases ho
theorem c_abs : CallR X (.builtin "abs") (rOf k (op1L opAbs)) := by
  intro pins s σ H xs us Q I r h
  obtain ⟨x, rfl, F, d, res, hm, ok, hx, ho, q⟩ := rOf_1 h
  unfold opAbs at ho
  split at ho
  · cases ho
    cases hx.int
    exact call_abs pins s σ H _ us Q I r ⟨_, rfl, q _ F H ok Stp.refl rfl⟩
  · cases ho
end

/-! ### isinstance(x, T), T a built-in class by its name -/
inductive Ty where
  | int | bool | str | list | tuple
def Ty.nm : Ty → String
  | .int => "int"
  | .bool => "bool"
  | .str => "str"
  | .list => "list"
  | .tuple => "tuple"
def isTy : Ty → D → Bool
  | .int, d => d.isInt
  | .bool, d => d.isBool
  | .str, d => d.isStr
  | .list, d => d.isList
  | .tuple, d => d.isTuple
def opIsi (t : Ty) : D → Option R := fun d => if d.canLay0 = true then some (.v (.bool (isTy t d))) else none
/-- isinstance's reading: the second argument is the class -/
def rIsiD (k : KX) (t : Ty) : List V → Hp → VK → Prop := fun vs H Q => ∃ x, vs = [x, .ty t.nm] ∧ rOf1 k (opIsi t) x H Q
section
variable {X : Cx} {k : KX} (hK : X.K = k.K)
include hK in
theorem c_isi (t : Ty) : CallR X (.builtin "isinstance") (rIsiD k t) := by
  intro pins s σ H xs us Q I r h
  obtain ⟨x, rfl, F, d, res, hm, ok, hx, ho, q⟩ := h
  obtain ⟨u1, u2, rfl, r1, r2⟩ := vals2 r
  cases (show u2 = Value.type t.nm from r2)
  obtain ⟨hl, ho⟩ := Option.ite_none_right_eq_some.mp ho
  cases ho
  have h1 := hx.dp hm ok hl
  rw [← hK] at h1
  obtain ⟨as, rd⟩ := Dp.reads I d x u1 h1 r1
  have fin : ∀ tk, EP X pins σ Q (.bool (isTy t d)) { s with toks := tk } := fun tk => ⟨.bl _, H, I.tok tk, rfl, q _ F H ok Stp.refl rfl⟩
  cases t with
  | int => exact W.isinstance_int_data rd fun tk _ => fin tk
  | bool => exact W.isinstance_bool_data rd fun tk _ => fin tk
  | str => exact W.isinstance_str_data rd fun tk _ => fin tk
  | list => exact W.isinstance_list_data rd fun tk _ => fin tk
  | tuple => exact W.isinstance_tuple_data rd fun tk _ => fin tk
end
end RL
end
section
set_option Elab.async false
set_option linter.all false
set_option autoImplicit false
set_option maxRecDepth 100000
set_option maxHeartbeats 4000000
/-! R5: expressions -/
namespace RL
open PySem PySem.Spec L2
open PyProof.Rows hiding St

/-! ### what is seen of a tree -/
def notStar : Expr → Bool
  | .Starred _ _ => false
  | _ => true
def notSet : Expr → Bool
  | .Set _ _ _ => false
  | _ => true
def notSlice : Expr → Bool
  | .Slice _ _ _ _ => false
  | _ => true
def isComp : Expr → Bool
  | .ListComp _ _ _ _ => true
  | .SetComp _ _ _ _ => true
  | .DictComp _ _ _ _ _ => true
  | _ => false
/-- its truth is asked of its value -/
def plainT : Expr → Bool
  | .UnaryOp .Not _ _ => false
  | .BoolOp _ _ _ => false
  | .IfExp _ _ _ _ => false
  | .Compare _ _ _ _ => false
  | _ => true
def notCall0 : Expr → Bool
  | .Call (.Name _ _) [] [] _ => false
  | _ => true
theorem star_eq {e : Expr} {es : List Expr} {env : Env} (h : notStar e = true) : starEach (e :: es) env = (false, eval e env) :: starEach es env := by
  cases e <;> first | rfl | cases h
theorem star_no {env : Env} {pos : Pos} : ∀ {es : List Expr}, es.all notStar = true → (backTo pos (starEach es env)).any (·.1) = false
  | [], _ => rfl
  | e :: es, h => by
    have h' : notStar e = true ∧ es.all notStar = true := by simpa using h
    rw [star_eq h'.1]
    show (false || (backTo pos (starEach es env)).any (·.1)) = false
    rw [star_no h'.2]; rfl
theorem star_all {env : Env} {pos : Pos} : ∀ {es : List Expr}, es.all notStar = true → (backTo pos (starEach es env)).all (fun x => !x.1) = true
  | [], _ => rfl
  | e :: es, h => by
    have h' : notStar e = true ∧ es.all notStar = true := by simpa using h
    rw [star_eq h'.1]
    show (true && (backTo pos (starEach es env)).all (fun x => !x.1)) = true
    rw [star_all h'.2]; rfl
theorem behind_no {op : CmpOp} {e : Expr} (h : notSet e = true) : behindInMarks op e = false := by
  cases e <;> first | rfl | cases h
theorem folded_no {e : Expr} {env : Env} (h : notSet e = true) (x : Value) : foldedSetIterable e env x = pure x := by
  cases e <;> first | rfl | cases h
theorem slice_no {e : Expr} (h : notSlice e = true) : ∀ o i, subscripted e false o i = operate [o, i] (getItem o i) := by
  intro o i
  cases e <;> first | rfl | cases h
theorem swaps_no {e : Expr} {t : Option Expr} {l : Nat} {env : Env} (h : isComp e = false) : swapsWith e t l env = pure false := by
  cases e <;> first | rfl | cases h
theorem plain_is {e : Expr} {env : Env} (h : plainT e = true) (whole : Sem Value) : isTrue e env whole = (do let v ← whole; standAt e.pos; holding [v] (truthy v)) := by
  cases e with
  | UnaryOp op x p => cases op <;> first | rfl | cases h
  | _ => first | rfl | cases h
theorem base_no {o : Expr} {m : Str} {env : Env} (h : notCall0 o = true) : attributeBase o m env (eval o env) = eval o env := by
  unfold attributeBase
  split
  · cases h
  · rfl

/-! ### argument lists -/
section
variable {X : Cx} {k : KX} {g : G}
inductive PEs (X : Cx) : List Expr → List TE → Prop
  | nil : PEs X [] []
  | cons {e es t ts} : PE X e t → PEs X es ts → PEs X (e :: es) (t :: ts)
theorem PEs.pa {es : List Expr} {ts : List TE} (h : PEs X es ts) (hs : es.all notStar = true) : PA X es (tCs ts) := by
  induction h with
  | nil => exact pa_nil
  | cons h1 _ ih =>
    have h' := (by simpa using hs : notStar _ = true ∧ _)
    exact pa_cons h1 (ih (by simpa using h'.2)) (star_eq h'.1)

/-! ### operators -/
def bin (pa pb : Opd) (f : D → D → Option R) : EM := opM [pa, pb] (op2L f)
theorem opM2_run {pa pb : Opd} {f : D → D → Option R} : ∀ σ H Q, tE k g (bin pa pb f) σ H Q → tOp (rOf2 k f) (tO k g pa) (tO k g pb) σ H Q := fun σ H Q ⟨F, e, res, e', er, hm, q⟩ => by
  unfold bin opM at hm
  obtain ⟨⟨ds, e1⟩, h1, hm⟩ := Option.bind_eq_some_iff.mp hm
  obtain ⟨res', h2, h3⟩ := Option.map_eq_some_iff.mp hm
  cases h3
  refine opsM_run (Q := fun vs H1 => match vs with | [x, y] => rOf2 k f x y H1 Q | _ => False) er h1 fun vs F1 H1 p pr => ?_
  obtain ⟨x, y, rfl, r2⟩ := rOf_2 (k := k) (op := f) (vs := vs) (H := H1) (Q := Q) ⟨F1, ds, res, er.mono, p.er.ok, pr, h2, fun v F2 H2 ok st rn => by
    have p2 := p.er.go ok st
    exact q v F2 H2 (p.trans p2) ((rn.rr p.er).ahead p)⟩
  exact r2
theorem peBin {op : Operator} {a b : Expr} {pa pb : Opd} {f : D → D → Option R} {pos : Pos} (ho : OpR X (binaryOp op) (rOf2 k f)) (ha : PE X a (tO k g pa)) (hb : PE X b (tO k g pb)) : PE X (.BinOp a op b pos) (tE k g (bin pa pb f)) :=
  (pe_op ho ha hb).weak opM2_run
theorem peCmp {op : CmpOp} {a b : Expr} {pa pb : Opd} {f : D → D → Option R} {pos : Pos} (ho : OpR X (compareOp op) (rOf2 k f)) (ha : PE X a (tO k g pa)) (hb : PE X b (tO k g pb)) (hs : notSet b = true) : PE X (.Compare a [op] [b] pos) (tE k g (bin pa pb f)) :=
  (pe_cmpR ho ha hb (behind_no hs)).weak opM2_run
theorem peIx {a b : Expr} {pa pb : Opd} {f : D → D → Option R} {pos : Pos} (ho : IxR X (rOf2 k f)) (ha : PE X a (tO k g pa)) (hb : PE X b (tO k g pb)) (hs : notSlice b = true) : PE X (.Subscript a b pos) (tE k g (bin pa pb f)) :=
  (pe_ix ho ha hb (slice_no hs)).weak opM2_run
def un (pa : Opd) (f : D → Option R) : EM := opM [pa] (op1L f)
theorem opM1_run {pa : Opd} {f : D → Option R} : ∀ σ H Q, tE k g (un pa f) σ H Q → tUn (rOf1 k f) (tO k g pa) σ H Q := fun σ H Q ⟨F, e, res, e', er, hm, q⟩ => by
  unfold un opM at hm
  obtain ⟨⟨ds, e1⟩, h1, hm⟩ := Option.bind_eq_some_iff.mp hm
  obtain ⟨res', h2, h3⟩ := Option.map_eq_some_iff.mp hm
  cases h3
  refine opsM_run (Q := fun vs H1 => match vs with | [x] => rOf1 k f x H1 Q | _ => False) er h1 fun vs F1 H1 p pr => ?_
  obtain ⟨x, rfl, r2⟩ := rOf_1 (k := k) (op := f) (vs := vs) (H := H1) (Q := Q) ⟨F1, ds, res, er.mono, p.er.ok, pr, h2, fun v F2 H2 ok st rn => by
    have p2 := p.er.go ok st
    exact q v F2 H2 (p.trans p2) ((rn.rr p.er).ahead p)⟩
  exact r2
theorem peUn {op : UnaryOp} {a : Expr} {pa : Opd} {f : D → Option R} {pos : Pos} (ho : UnR X (unaryOp op) (rOf1 k f)) (ha : PE X a (tO k g pa)) : PE X (.UnaryOp op a pos) (tE k g (un pa f)) :=
  (pe_un ho ha).weak opM1_run
/-- a built-in function called -/
theorem peCallB {x : Str} {id : String} {p pos : Pos} {e : Expr} {es : List Expr} {ps : List Opd} {op : List D → Option R} (hc : CallR X (.builtin id) (rOf k op)) (hg : Gl X x) (hm : X.mg x = none) (hv : bootBuiltins x = some (.builtin id))
    (ha : PEs X (e :: es) (ps.map (tO k g))) (hs : (e :: es).all notStar = true) (hn : x ≠ "__name__") (hdb : (x == ("__debug__" : Str)) = false) : PE X (.Call (.Name x p) (e :: es) [] pos) (tE k g (opM ps op)) := by
  have h' := (by simpa using hs : notStar e = true ∧ _)
  exact (pe_callB hc hg hm hv (ha.pa hs) hn hdb (star_eq h'.1) (star_no (by simpa using h'.2))).weak (opM_run opS_rOf)
theorem peCallTy {x : Str} {id : String} {p pos : Pos} {e : Expr} {es : List Expr} {ps : List Opd} {op : List D → Option R} (hc : CallR X (.type id) (rOf k op)) (hg : Gl X x) (hm : X.mg x = none) (hv : bootBuiltins x = some (.type id))
    (ha : PEs X (e :: es) (ps.map (tO k g))) (hs : (e :: es).all notStar = true) (hn : x ≠ "__name__") (hdb : (x == ("__debug__" : Str)) = false) : PE X (.Call (.Name x p) (e :: es) [] pos) (tE k g (opM ps op)) := by
  have h' := (by simpa using hs : notStar e = true ∧ _)
  exact (pe_callTy hc hg hm hv (ha.pa hs) hn hdb (star_eq h'.1) (star_no (by simpa using h'.2))).weak (opM_run opS_rOf)
/-- isinstance(e, T) -/
theorem peIsi {t : Ty} {p p2 pos : Pos} {e : Expr} {pa : Opd} {y : Str} (hc : CallR X (.builtin "isinstance") (rIsiD k t)) (hg : Gl X "isinstance") (hm : X.mg "isinstance" = none)
    (ha : PE X e (tO k g pa)) (hs : notStar e = true) (hy : Gl X y) (hym : X.mg y = none) (hyv : bootBuiltins y = some (.type t.nm)) (hn : y ≠ "__name__") (hdb : (y == ("__debug__" : Str)) = false) :
    PE X (.Call (.Name "isinstance" p) [e, .Name y p2] [] pos) (tE k g (un pa (opIsi t))) := by
  have hT : PE X (.Name y p2) (tC (.ty t.nm)) := pe_bltn hy hym hyv rfl hn hdb
  refine (pe_callB hc hg hm (by decide +kernel) (pa_cons ha (pa_cons hT pa_nil rfl) (star_eq hs)) (by decide) (by decide +kernel) (star_eq hs) rfl).weak fun σ H Q h => ?_
  have h2 := opM1_run σ H Q h
  obtain ⟨F, en, res, e', er, hm', q⟩ := h
  unfold un opM at hm'
  obtain ⟨⟨ds, e1⟩, h1, hm'⟩ := Option.bind_eq_some_iff.mp hm'
  obtain ⟨res', h3, h4⟩ := Option.map_eq_some_iff.mp hm'
  cases h4
  refine opsM_run (Q := fun vs H1 => match vs with | [x] => rIsiD k t [x, .ty t.nm] H1 Q | _ => False) er h1 fun vs F1 H1 p pr => ?_
  obtain ⟨x, rfl, r2⟩ := rOf_1 (k := k) (op := opIsi t) (vs := vs) (H := H1) (Q := Q) ⟨F1, ds, res, er.mono, p.er.ok, pr, h3, fun v F2 H2 ok st rn => by
    have p2 := p.er.go ok st
    exact q v F2 H2 (p.trans p2) ((rn.rr p.er).ahead p)⟩
  exact ⟨x, rfl, r2⟩

/-! ### displays -/
def opTup (ds : List D) : Option R := if ds.length ≤ sizeLine then some (.v (.tuple ds)) else none
def opLst (ds : List D) : Option R := if ds.length ≤ sizeLine then some (.o (.list ds)) else none
theorem pe_tupZ {es : List Expr} {t : TA} {j : Nat} {pos : Pos} (h : PA X es t) : PE X (.Tuple es j pos) (tCB (fun xs H1 Q => xs.length ≤ sizeLine ∧ NewT xs H1 Q) t) :=
  ⟨fun pins s σ H Q I hq => wpAny_Tuple_spliced (thn (h.run pos pins s σ H _ I hq) fun us s1 ⟨xs, H1, I1, r, z, q⟩ => ⟨by rw [← r.length]; exact z, laidT (n := s1.toks) I1 r z q⟩)⟩
theorem peTup {es : List Expr} {ms : List EM} {j : Nat} {pos : Pos} (h : PEs X es (ms.map (tK k g))) (hs : es.all notStar = true) : PE X (.Tuple es j pos) (tE k g (opV ms opTup)) :=
  (pe_tupZ (h.pa hs)).weak fun σ H Q h => opV_run (k := k) (g := g) (r := fun xs H1 Q => xs.length ≤ sizeLine ∧ NewT xs H1 Q) (fun ds res vs F H Q hm ok hr ho q => by
    obtain ⟨hl, ho⟩ := Option.ite_none_right_eq_some.mp ho
    cases ho
    exact ⟨by rw [← hr.length]; exact hl, fun p o hp hd => new_tup hm ok hp hr q hd⟩) σ H Q h
theorem peLst {es : List Expr} {ms : List EM} {pos : Pos} (h : PEs X es (ms.map (tK k g))) (hs : es.all notStar = true) : PE X (.List es pos) (tE k g (opV ms opLst)) :=
  (pe_lst (h.pa hs)).weak fun σ H Q h => opV_run (k := k) (g := g) (r := fun xs H1 Q => xs.length ≤ sizeLine ∧ ∀ p, H1 p = none → Q (.ref p) (upd H1 p (.lst xs))) (fun ds res vs F H Q hm ok hr ho q => by
    obtain ⟨hl, ho⟩ := Option.ite_none_right_eq_some.mp ho
    cases ho
    exact ⟨by rw [← hr.length]; exact hl, fun p hp => new_lst hm ok hp hr q⟩) σ H Q h

/-! ### tests -/
def tstM (m : EM) : BM := fun g e => (m g e).bind fun r => match r.1 with
  | .v (.bool b) => some (b, r.2)
  | _ => none
theorem tstM_some {m : EM} {g : G} {e e' : En} {b : Bool} (h : tstM m g e = some (b, e')) : m g e = some (.v (.bool b), e') := by
  unfold tstM at h
  obtain ⟨⟨r, e1⟩, h1, h⟩ := Option.bind_eq_some_iff.mp h
  cases r with
  | o d => cases h
  | v d => cases d <;> first | (cases h; exact h1) | cases h
theorem tB_run {m : EM} {t : TE} (h : ∀ σ H Q, tE k g m σ H Q → t σ H Q) : ∀ σ H Q, tT k g (tstM m) σ H Q → tB t σ H Q := fun σ H Q ⟨F, e, b, e', er, hm, q⟩ =>
  h σ H _ ⟨F, e, _, e', er, tstM_some hm, fun v F' H' p rr => by
    cases (show v = V.bl b from rr)
    exact ⟨b, rfl, q F' H' p⟩⟩
theorem tTest_run {m : EM} {t : TE} (h : ∀ σ H Q, tE k g m σ H Q → t σ H Q) : ∀ σ H Q, tT k g (tstM m) σ H Q → tTest t σ H Q := fun σ H Q ⟨F, e, b, e', er, hm, q⟩ =>
  h σ H _ ⟨F, e, _, e', er, tstM_some hm, fun v F' H' p rr => by
    cases (show v = V.bl b from rr)
    exact ⟨b, rfl, q F' H' p⟩⟩
/-- a value that is a bool, as a test -/
theorem ptVal {e : Expr} {m : EM} (h : PE X e (tE k g m)) (hp : plainT e = true) : PT X e (tT k g (tstM m)) :=
  (pt_val h (plain_is hp)).weak (tB_run fun _ _ _ h => h)
theorem ptCmp {op : CmpOp} {a b : Expr} {pa pb : Opd} {f : D → D → Option R} {pos : Pos} (ho : OpR X (compareOp op) (rOf2 k f)) (ha : PE X a (tO k g pa)) (hb : PE X b (tO k g pb)) (hs : notSet b = true) : PT X (.Compare a [op] [b] pos) (tT k g (tstM (bin pa pb f))) :=
  (pt_cmpR ho ha hb (behind_no hs)).weak (tTest_run opM2_run)
def notM (m : BM) : BM := fun g e => (m g e).map fun r => (!r.1, r.2)
theorem ptNot {a : Expr} {m : BM} {pos : Pos} (h : PT X a (tT k g m)) : PT X (.UnaryOp .Not a pos) (tT k g (notM m)) :=
  (pt_not h).weak fun σ H Q ⟨F, e, b, e', er, hm, q⟩ => by
    obtain ⟨⟨b0, e1⟩, h1, h2⟩ := Option.map_eq_some_iff.mp hm
    cases h2
    exact ⟨F, e, b0, e1, er, h1, q⟩
/-- the rest is asked if the first is so -/
def andM (m n : BM) : BM := fun g e => (m g e).bind fun r => if r.1 = true then n g r.2 else some (false, r.2)
def orM (m n : BM) : BM := fun g e => (m g e).bind fun r => if r.1 = true then some (true, r.2) else n g r.2
theorem pwAnd {a b : Expr} {rest : List Expr} {m n : BM} {pos : Pos} (ha : PT X a (tT k g m)) (hb : PW X (.BoolOp .And (b :: rest) pos) (tT k g n)) : PW X (.BoolOp .And (a :: b :: rest) pos) (tT k g (andM m n)) :=
  (pw_and ha hb).weak fun σ H Q ⟨F, e, b0, e', er, hm, q⟩ => by
    obtain ⟨⟨b1, e1⟩, h1, h2⟩ := Option.bind_eq_some_iff.mp hm
    refine ⟨F, e, b1, e1, er, h1, fun F1 H1 p1 => ?_⟩
    cases b1 with
    | true =>
      rw [if_pos rfl]
      exact ⟨F1, e1, b0, e', p1.er, by simpa using h2, fun F2 H2 p2 => q F2 H2 (p1.trans p2)⟩
    | false =>
      rw [if_neg Bool.false_ne_true]
      cases (by simpa using h2 : b0 = false ∧ e1 = e') with
      | intro h3 h4 => subst h3 h4; exact q F1 H1 p1
theorem pwOr {a b : Expr} {rest : List Expr} {m n : BM} {pos : Pos} (ha : PT X a (tT k g m)) (hb : PW X (.BoolOp .Or (b :: rest) pos) (tT k g n)) : PW X (.BoolOp .Or (a :: b :: rest) pos) (tT k g (orM m n)) :=
  (pw_or ha hb).weak fun σ H Q ⟨F, e, b0, e', er, hm, q⟩ => by
    obtain ⟨⟨b1, e1⟩, h1, h2⟩ := Option.bind_eq_some_iff.mp hm
    refine ⟨F, e, b1, e1, er, h1, fun F1 H1 p1 => ?_⟩
    cases b1 with
    | false =>
      rw [if_neg Bool.false_ne_true]
      exact ⟨F1, e1, b0, e', p1.er, by simpa using h2, fun F2 H2 p2 => q F2 H2 (p1.trans p2)⟩
    | true =>
      rw [if_pos rfl]
      cases (by simpa using h2 : b0 = true ∧ e1 = e') with
      | intro h3 h4 => subst h3 h4; exact q F1 H1 p1
theorem pw1And {a : Expr} {m : BM} {pos : Pos} (ha : PT X a (tT k g m)) : PW X (.BoolOp .And [a] pos) (tT k g m) := pw_and1 ha
theorem pw1Or {a : Expr} {m : BM} {pos : Pos} (ha : PT X a (tT k g m)) : PW X (.BoolOp .Or [a] pos) (tT k g m) := pw_or1 ha

/-! ### and, or, not as values: bools -/
def andV (m n : EM) : EM := fun g e => (m g e).bind fun r => match r.1 with
  | .v (.bool true) => n g r.2
  | .v (.bool false) => some (.v (.bool false), r.2)
  | _ => none
def orV (m n : EM) : EM := fun g e => (m g e).bind fun r => match r.1 with
  | .v (.bool true) => some (.v (.bool true), r.2)
  | .v (.bool false) => n g r.2
  | _ => none
theorem peAnd {a b : Expr} {rest : List Expr} {m n : EM} {pos : Pos} (ha : PE X a (tE k g m)) (hb : PE X (.BoolOp .And (b :: rest) pos) (tE k g n)) : PE X (.BoolOp .And (a :: b :: rest) pos) (tE k g (andV m n)) :=
  (pe_and ha hb).weak fun σ H Q ⟨F, e, r0, e', er, hm, q⟩ => by
    obtain ⟨⟨r1, e1⟩, h1, h2⟩ := Option.bind_eq_some_iff.mp hm
    refine ⟨F, e, r1, e1, er, h1, fun v F1 H1 p1 rr => ?_⟩
    dsimp only at h2
    split at h2
    · cases (show v = V.bl true from rr)
      exact ⟨true, rfl, by rw [if_pos rfl]; exact ⟨F1, e1, r0, e', p1.er, h2, fun v2 F2 H2 p2 rr2 => q v2 F2 H2 (p1.trans p2) (rr2.ahead p1)⟩⟩
    · cases (show v = V.bl false from rr)
      cases h2
      exact ⟨false, rfl, by rw [if_neg Bool.false_ne_true]; exact q _ F1 H1 p1 rfl⟩
    · cases h2
theorem peOr {a b : Expr} {rest : List Expr} {m n : EM} {pos : Pos} (ha : PE X a (tE k g m)) (hb : PE X (.BoolOp .Or (b :: rest) pos) (tE k g n)) : PE X (.BoolOp .Or (a :: b :: rest) pos) (tE k g (orV m n)) :=
  (pe_or ha hb).weak fun σ H Q ⟨F, e, r0, e', er, hm, q⟩ => by
    obtain ⟨⟨r1, e1⟩, h1, h2⟩ := Option.bind_eq_some_iff.mp hm
    refine ⟨F, e, r1, e1, er, h1, fun v F1 H1 p1 rr => ?_⟩
    dsimp only at h2
    split at h2
    · cases (show v = V.bl true from rr)
      cases h2
      exact ⟨true, rfl, by rw [if_pos rfl]; exact q _ F1 H1 p1 rfl⟩
    · cases (show v = V.bl false from rr)
      exact ⟨false, rfl, by rw [if_neg Bool.false_ne_true]; exact ⟨F1, e1, r0, e', p1.er, h2, fun v2 F2 H2 p2 rr2 => q v2 F2 H2 (p1.trans p2) (rr2.ahead p1)⟩⟩
    · cases h2
theorem peOne {op : BoolOp} {a : Expr} {m : EM} {pos : Pos} (ha : PE X a (tE k g m)) : PE X (.BoolOp op [a] pos) (tE k g m) := pe_one ha
def notV (m : EM) : EM := fun g e => (m g e).bind fun r => match r.1 with
  | .v (.bool b) => some (.v (.bool (!b)), r.2)
  | _ => none
theorem peNot {a : Expr} {m : EM} {pos : Pos} (ha : PE X a (tE k g m)) : PE X (.UnaryOp .Not a pos) (tE k g (notV m)) :=
  (pe_not ha).weak fun σ H Q ⟨F, e, r0, e', er, hm, q⟩ => by
    obtain ⟨⟨r1, e1⟩, h1, h2⟩ := Option.bind_eq_some_iff.mp hm
    refine ⟨F, e, r1, e1, er, h1, fun v F1 H1 p1 rr => ?_⟩
    dsimp only at h2
    split at h2
    · rename_i b
      cases (show v = V.bl b from rr)
      cases h2
      exact ⟨b, rfl, q _ F1 H1 p1 rfl⟩
    · cases h2
def ifM (t : BM) (m n : EM) : EM := fun g e => (t g e).bind fun r => if r.1 = true then m g r.2 else n g r.2
theorem peIf {c a b : Expr} {t : BM} {m n : EM} {pos : Pos} (hc : PT X c (tT k g t)) (ha : PE X a (tE k g m)) (hb : PE X b (tE k g n)) : PE X (.IfExp c a b pos) (tE k g (ifM t m n)) :=
  (pe_ifExp hc ha hb).weak fun σ H Q ⟨F, e, r0, e', er, hm, q⟩ => by
    obtain ⟨⟨b1, e1⟩, h1, h2⟩ := Option.bind_eq_some_iff.mp hm
    refine ⟨F, e, b1, e1, er, h1, fun F1 H1 p1 => ?_⟩
    cases b1 with
    | true =>
      rw [if_pos rfl]
      exact ⟨F1, e1, r0, e', p1.er, by simpa using h2, fun v F2 H2 p2 rr => q v F2 H2 (p1.trans p2) (rr.ahead p1)⟩
    | false =>
      rw [if_neg Bool.false_ne_true]
      exact ⟨F1, e1, r0, e', p1.er, by simpa using h2, fun v F2 H2 p2 rr => q v F2 H2 (p1.trans p2) (rr.ahead p1)⟩
end
end RL
end
section
set_option Elab.async false
set_option linter.all false
set_option autoImplicit false
set_option maxRecDepth 100000
set_option maxHeartbeats 4000000
/-! R6: slices, calls of the program's own defs -/
namespace RL
open PySem PySem.Spec L2
open PyProof.Rows hiding St

/-! ### slices -/
def optInt : Option EM → G → En → Option (Option Int × En)
  | none, _, e => some (none, e)
  | some m, g, e => (m g e).bind fun r => match r.1 with
    | .v (.int i) => some (some i, r.2)
    | _ => none
def slM (pa : Opd) (lo hi : Option EM) : EM := fun g e => (runO g [pa] e).bind fun p => (optInt lo g p.2).bind fun l => (optInt hi g l.2).bind fun u => (getOs u.2 p.1).bind fun ds => match ds with
  | [d] => (opSl d l.1 u.1).map fun r => (r, u.2)
  | _ => none
def tPO (k : KX) (g : G) (m : Option EM) : TO := fun σ H Q => ∃ F e o e', ER k F H e σ ∧ optInt m g e = some (o, e') ∧ ∀ F' H', Pst k e σ F H e' σ F' H' → Q o H'
section
variable {X : Cx} {k : KX} {g : G}
theorem _root_.L2.PO.weak {e : Option Expr} {t t' : TO} (h : PO X e t) (w : ∀ σ H Q, t' σ H Q → t σ H Q) : PO X e t' := ⟨fun pins s σ H Q I q => h.run pins s σ H Q I (w σ H Q q)⟩
theorem poNone : PO X none (tPO k g none) := po_none.weak fun σ H Q ⟨F, e, o, e', er, hm, q⟩ => by
  cases hm
  exact q F H (Pst.refl er)
theorem poSome {a : Expr} {m : EM} (h : PE X a (tE k g m)) : PO X (some a) (tPO k g (some m)) := (po_some h).weak fun σ H Q ⟨F, e, o, e', er, hm, q⟩ => by
  obtain ⟨⟨r, e1⟩, h1, h2⟩ := Option.bind_eq_some_iff.mp hm
  refine ⟨F, e, r, e1, er, h1, fun v F1 H1 p1 rr => ?_⟩
  cases r with
  | o d => cases h2
  | v d =>
    cases d <;> first | cases h2 | skip
    exact ⟨_, rr, q F1 H1 p1⟩
theorem RepO.up {σ : L2.St} {F F' : Hp} (hm : k.Mono) (u : Up F F') : ∀ {xs : List (Nat ⊕ D)} {vs : List V}, RepO k σ F xs vs → RepO k σ F' xs vs
  | [], _, h => h
  | .inl i :: xs, _, h => by
    obtain ⟨v, r, e, h1, h2⟩ := h
    exact ⟨v, r, e, h1, RepO.up hm u h2⟩
  | .inr d :: xs, _, h => by
    obtain ⟨v, r, e, h1, h2⟩ := h
    exact ⟨v, r, e, h1.up hm u, RepO.up hm u h2⟩
theorem PRepL.one {F H : Hp} {d : D} {vs : List V} (h : PRepL k F H [d] vs) : ∃ x, vs = [x] ∧ PRep k F H d x := by
  obtain ⟨v, r, e1, p, z⟩ := h
  cases z
  exact ⟨v, e1, p⟩
theorem peSl {e : Expr} {lo hi : Option Expr} {pa : Opd} {ml mh : Option EM} {p2 pos : Pos} (hs : SlR X (rSlO k)) (he : PE X e (tO k g pa)) (hl : PO X lo (tPO k g ml)) (hh : PO X hi (tPO k g mh)) :
    PE X (.Subscript e (.Slice lo hi none p2) pos) (tE k g (slM pa ml mh)) :=
  (pe_slice hs he hl hh).weak fun σ H Q ⟨F, en, res, e', er, hm, q⟩ => by
    obtain ⟨⟨xs, e1⟩, h1, hm⟩ := Option.bind_eq_some_iff.mp hm
    obtain ⟨⟨l, e2⟩, h2, hm⟩ := Option.bind_eq_some_iff.mp hm
    obtain ⟨⟨u, e3⟩, h3, hm⟩ := Option.bind_eq_some_iff.mp hm
    obtain ⟨ds, h4, hm⟩ := Option.bind_eq_some_iff.mp hm
    refine runO_run (Q := fun vs H1 => match vs with | [x] => tPO k g ml σ H1 fun l H2 => tPO k g mh σ H2 fun u H3 => rSlO k x l u H3 Q | _ => False) [pa] er h1 fun vs F1 H1 p1 ro => ?_
    have key : ∀ x, vs = [x] → tPO k g ml σ H1 fun l H2 => tPO k g mh σ H2 fun u H3 => rSlO k x l u H3 Q := fun x hx => by
      refine ⟨F1, e1, l, e2, p1.er, h2, fun F2 H2 p2 => ⟨F2, e2, u, e3, p2.er, h3, fun F3 H3 p3 => ?_⟩⟩
      have pr := (ro.up er.mono (p2.trans p3).st.up).get p3.er h4
      have p13 := (p1.trans p2).trans p3
      match ds, pr, hm with
      | [d], pr, hm =>
        obtain ⟨y, hy, pr⟩ := pr.one
        rw [hx] at hy
        cases hy
        obtain ⟨r, h5, h6⟩ := Option.map_eq_some_iff.mp hm
        cases h6
        refine ⟨F3, d, _, er.mono, p3.er.ok, pr, h5, fun v F4 H4 ok st rn => ?_⟩
        have p4 := p3.er.go ok st
        exact q v F4 H4 (p13.trans p4) ((rn.rr p3.er).ahead p13)
    have hlen : vs.length = 1 := by
      cases pa with
      | lz i =>
        obtain ⟨d, _, h⟩ := Option.bind_eq_some_iff.mp h1
        cases h
        obtain ⟨v, r, rfl, _, z⟩ := ro
        cases z; rfl
      | eg m =>
        obtain ⟨d, _, h⟩ := Option.bind_eq_some_iff.mp h1
        cases h
        obtain ⟨v, r, rfl, _, z⟩ := ro
        cases z; rfl
    match vs, hlen, key with
    | [x], _, key => exact key x rfl
end

/-! ### a def's promise -/
def ArgR (k : KX) (F H : Hp) : Ag → V → Prop
  | .v d, v => Rep k F d v
  | .b d, v => ∃ a, v = .ref a ∧ OwnAt k F H a d
def ArgsR (k : KX) (F H : Hp) : List Ag → List V → Prop
  | [], vs => vs = []
  | a :: as, vs => ∃ v r, vs = v :: r ∧ ArgR k F H a v ∧ ArgsR k F H as r
def Ag.lent : Ag → Bool
  | .v _ => false
  | .b _ => true
/-- the addresses that are lent -/
def BA (as : List Ag) (vs : List V) (a : Addr) : Prop := ∃ (i : Nat) (x : Ag), as[i]? = some x ∧ x.lent = true ∧ vs[i]? = some (.ref a)
/-- what the lent objects hold behind -/
def BsR (k : KX) (F H : Hp) : List Ag → List V → List D → Prop
  | [], _, bs => bs = []
  | _, [], bs => bs = []
  | .v _ :: as, _ :: vs, bs => BsR k F H as vs bs
  | .b _ :: as, v :: vs, bs => ∃ d r, bs = d :: r ∧ (∃ a, v = .ref a ∧ OwnAt k F H a d) ∧ BsR k F H as vs r
def spD (k : KX) (g : G) (x : Str) : Sp := fun vs H Q _ => ∃ F as r bs, k.Mono ∧ OkF F H ∧ ArgsR k F H as vs ∧
  (∀ (i j : Nat) (x y : Ag), i ≠ j → as[i]? = some x → as[j]? = some y → x.lent = true → y.lent = true → vs[i]? ≠ vs[j]?) ∧ g.call x as = some (r, bs) ∧
  ∀ v F' H', OkF F' H' → Stp (BA as vs) F H F' H' → RN k H F' H' r v → BsR k F' H' as vs bs → Q v H'

/-! ### a call -/
inductive ArM where
  | v (m : EM) | b (i : Nat)
def runA (g : G) : List ArM → En → Option (List (Nat ⊕ D) × En)
  | [], e => some ([], e)
  | .b i :: ps, e => (getI e i).bind fun _ => (runA g ps e).map fun p => (.inl i :: p.1, p.2)
  | .v m :: ps, e => (m g e).bind fun r => (runA g ps r.2).map fun p => (.inr r.1.d :: p.1, p.2)
def getB (e : En) : Nat ⊕ D → Option Ag
  | .inl i => match e[i]? with
    | some (some (.own d)) => some (.b d)
    | some (some (.bor d)) => some (.b d)
    | _ => none
  | .inr d => some (.v d)
def getBs (e : En) : List (Nat ⊕ D) → Option (List Ag)
  | [] => some []
  | x :: xs => (getB e x).bind fun d => (getBs e xs).map fun ds => d :: ds
/-- the slots that are lent -/
def lentOf : List (Nat ⊕ D) → List Nat
  | [] => []
  | .inl i :: xs => i :: lentOf xs
  | .inr _ :: xs => lentOf xs
def putS (d : D) : Option Sl → Option Sl
  | some (.own _) => some (.own d)
  | some (.bor _) => some (.bor d)
  | s => s
def putB : En → List (Nat × D) → En
  | e, [] => e
  | e, (i, d) :: r => putB (e.set i (putS d ((e[i]?).getD none))) r
def noDup : List Nat → Bool
  | [] => true
  | i :: is => !is.contains i && noDup is
def callM (x : Str) (ps : List ArM) : EM := fun g e => (runA g ps e).bind fun p => (getBs p.2 p.1).bind fun ags =>
  if noDup (lentOf p.1) = true then (g.call x ags).map fun r => (r.1, putB p.2 ((lentOf p.1).zip r.2)) else none
theorem noDup_nodup : ∀ {l : List Nat}, noDup l = true → l.Nodup
  | [], _ => List.nodup_nil
  | i :: is, h => by
    have h' : ¬ i ∈ is ∧ noDup is = true := by simpa [noDup] using h
    exact List.nodup_cons.mpr ⟨h'.1, noDup_nodup h'.2⟩
theorem putB_len : ∀ (ps : List (Nat × D)) (e : En), (putB e ps).length = e.length
  | [], _ => rfl
  | (i, d) :: r, e => by unfold putB; rw [putB_len r]; simp
theorem putB_out : ∀ {ps : List (Nat × D)} {e : En} {j : Nat}, j ∉ ps.map (·.1) → (putB e ps)[j]? = e[j]?
  | [], _, _, _ => rfl
  | (i, d) :: r, e, j, h => by
    have h' : ¬ j = i ∧ j ∉ r.map (·.1) := by simpa using h
    unfold putB
    rw [putB_out h'.2, List.getElem?_set_ne (fun z => h'.1 z.symm)]
theorem putB_in : ∀ {ps : List (Nat × D)} {e : En} {j : Nat} {d : D}, (ps.map (·.1)).Nodup → (j, d) ∈ ps → j < e.length → (putB e ps)[j]? = some (putS d ((e[j]?).getD none))
  | [], _, _, _, _, h, _ => by simp at h
  | (i, c) :: r, e, j, d, nd, h, hj => by
    rw [List.map_cons, List.nodup_cons] at nd
    unfold putB
    rcases List.mem_cons.mp h with h | h
    · cases h
      rw [putB_out nd.1, List.getElem?_set_self hj]
    · have hne : i ≠ j := by
        rintro rfl
        exact nd.1 (List.mem_map.mpr ⟨_, h, rfl⟩)
      rw [putB_in nd.2 h (by simpa using hj), List.getElem?_set_ne hne]
def tA (k : KX) (g : G) : ArM → TE
  | .b i => tVar i
  | .v m => tK k g m
theorem runA_run {k : KX} {g : G} : ∀ (ps : List ArM) {F H : Hp} {e e' : En} {σ : L2.St} {xs : List (Nat ⊕ D)} {Q : List V → Hp → Prop}, ER k F H e σ → runA g ps e = some (xs, e') →
    (∀ vs F' H', Pst k e σ F H e' σ F' H' → RepO k σ F' xs vs → Q vs H') → tCs (ps.map (tA k g)) σ H Q
  | [], F, H, e, e', σ, xs, Q, er, h, q => by
    cases h
    exact q [] F H (Pst.refl er) rfl
  | .b i :: ps, F, H, e, e', σ, xs, Q, er, h, q => by
    obtain ⟨d, h0, h⟩ := Option.bind_eq_some_iff.mp h
    obtain ⟨⟨xs', e1⟩, h1, h2⟩ := Option.map_eq_some_iff.mp h
    cases h2
    obtain ⟨v, hv, _⟩ := getI_prep er h0
    exact ⟨v, hv, runA_run ps er h1 fun vs F' H' p r => q (v :: vs) F' H' p ⟨v, vs, rfl, hv, r⟩⟩
  | .v m :: ps, F, H, e, e', σ, xs, Q, er, h, q => by
    obtain ⟨⟨r, e1⟩, h0, h⟩ := Option.bind_eq_some_iff.mp h
    obtain ⟨⟨xs', e2⟩, h1, h2⟩ := Option.map_eq_some_iff.mp h
    cases h2
    refine ⟨F, e, r, e1, er, h0, fun v F1 H1 p1 rep => ?_⟩
    exact runA_run ps p1.er h1 fun vs F' H' p r2 => q (v :: vs) F' H' (p1.trans p) ⟨v, vs, rfl, rep.up er.mono p.st.up, r2⟩
/-- the places that are lent stand for objects of ours -/
theorem getB_own {k : KX} {F H : Hp} {e : En} {σ : L2.St} (er : ER k F H e σ) {i : Nat} {a : Ag} (h : getB e (.inl i) = some a) :
    ∃ s d b, e[i]? = some (some s) ∧ s.ours = some d ∧ a = .b d ∧ σ[i]? = some (some (.ref b)) ∧ OwnAt k F H b d := by
  unfold getB at h
  dsimp only at h
  split at h
  · rename_i d hs
    cases h
    obtain ⟨b, h1, h2⟩ := er.own i _ d hs rfl
    exact ⟨_, d, b, hs, rfl, rfl, h1, h2⟩
  · rename_i d hs
    cases h
    obtain ⟨b, h1, h2⟩ := er.own i _ d hs rfl
    exact ⟨_, d, b, hs, rfl, rfl, h1, h2⟩
  · cases h
theorem getBs_args {k : KX} {F H : Hp} {e : En} {σ : L2.St} (er : ER k F H e σ) : ∀ {xs : List (Nat ⊕ D)} {vs : List V} {as : List Ag}, RepO k σ F xs vs → getBs e xs = some as → ArgsR k F H as vs
  | [], _, _, h, hg => by cases hg; exact h
  | .inl i :: xs, _, as, h, hg => by
    obtain ⟨v, r, rfl, h1, h2⟩ := h
    obtain ⟨d, hd, hr⟩ := Option.bind_eq_some_iff.mp hg
    obtain ⟨ds', h3, rfl⟩ := Option.map_eq_some_iff.mp hr
    obtain ⟨s, c, b, q1, q2, rfl, q4, q5⟩ := getB_own er hd
    rw [h1] at q4; cases q4
    exact ⟨_, r, rfl, ⟨b, rfl, q5⟩, getBs_args er h2 h3⟩
  | .inr d :: xs, _, as, h, hg => by
    obtain ⟨v, r, rfl, h1, h2⟩ := h
    obtain ⟨d', hd, hr⟩ := Option.bind_eq_some_iff.mp hg
    obtain ⟨ds', h3, rfl⟩ := Option.map_eq_some_iff.mp hr
    cases hd
    exact ⟨v, r, rfl, h1, getBs_args er h2 h3⟩
/-- a lent place of the arguments is a slot of ours -/
theorem lent_slot {k : KX} {F H : Hp} {e : En} {σ : L2.St} (er : ER k F H e σ) : ∀ {xs : List (Nat ⊕ D)} {vs : List V} {as : List Ag} {p : Nat} {x : Ag}, RepO k σ F xs vs → getBs e xs = some as → as[p]? = some x → x.lent = true →
    ∃ i, xs[p]? = some (.inl i) ∧ i ∈ lentOf xs ∧ (∃ s, e[i]? = some (some s) ∧ s.ours.isSome = true) ∧ ∃ a, σ[i]? = some (some (.ref a)) ∧ vs[p]? = some (.ref a)
  | [], _, _, _, _, _, hg, ha, _ => by cases hg; simp at ha
  | .inl i :: xs, _, as, p, x, h, hg, ha, hl => by
    obtain ⟨v, r, rfl, h1, h2⟩ := h
    obtain ⟨d, hd, hr⟩ := Option.bind_eq_some_iff.mp hg
    obtain ⟨ds', h3, rfl⟩ := Option.map_eq_some_iff.mp hr
    obtain ⟨s, c, b, q1, q2, rfl, q4, q5⟩ := getB_own er hd
    rw [h1] at q4; cases q4
    cases p with
    | zero => exact ⟨i, rfl, by simp [lentOf], ⟨s, q1, by rw [q2]; rfl⟩, b, h1, rfl⟩
    | succ p =>
      obtain ⟨j, z1, z2, z3, z4⟩ := lent_slot er h2 h3 (p := p) (by simpa using ha) hl
      exact ⟨j, by simpa using z1, by simp [lentOf, z2], z3, by simpa using z4⟩
  | .inr d :: xs, _, as, p, x, h, hg, ha, hl => by
    obtain ⟨v, r, rfl, h1, h2⟩ := h
    obtain ⟨d', hd, hr⟩ := Option.bind_eq_some_iff.mp hg
    obtain ⟨ds', h3, rfl⟩ := Option.map_eq_some_iff.mp hr
    cases hd
    cases p with
    | zero => simp at ha; subst ha; cases hl
    | succ p =>
      obtain ⟨j, z1, z2, z3, z4⟩ := lent_slot er h2 h3 (p := p) (by simpa using ha) hl
      exact ⟨j, by simpa using z1, by simpa [lentOf] using z2, z3, by simpa using z4⟩
theorem lent_inj : ∀ {xs : List (Nat ⊕ D)} {p q i : Nat}, (lentOf xs).Nodup → xs[p]? = some (.inl i) → xs[q]? = some (.inl i) → p = q
  | [], p, _, _, _, h, _ => by simp at h
  | x :: xs, 0, 0, _, _, _, _ => rfl
  | x :: xs, 0, q + 1, i, nd, h1, h2 => by
    simp at h1; subst h1
    have hm : ∀ {ys : List (Nat ⊕ D)} {q : Nat}, ys[q]? = some (.inl i) → i ∈ lentOf ys := by
      intro ys
      induction ys with
      | nil => intro q h; simp at h
      | cons y ys ih =>
        intro q h
        cases q with
        | zero => simp at h; subst h; simp [lentOf]
        | succ q =>
          have := ih (q := q) (by simpa using h)
          cases y <;> simp [lentOf, this]
    exact absurd (hm (q := q) (by simpa using h2)) (List.nodup_cons.mp nd).1
  | x :: xs, p + 1, 0, i, nd, h1, h2 => by
    simp at h2; subst h2
    have hm : ∀ {ys : List (Nat ⊕ D)} {q : Nat}, ys[q]? = some (.inl i) → i ∈ lentOf ys := by
      intro ys
      induction ys with
      | nil => intro q h; simp at h
      | cons y ys ih =>
        intro q h
        cases q with
        | zero => simp at h; subst h; simp [lentOf]
        | succ q =>
          have := ih (q := q) (by simpa using h)
          cases y <;> simp [lentOf, this]
    exact absurd (hm (q := p) (by simpa using h1)) (List.nodup_cons.mp nd).1
  | x :: xs, p + 1, q + 1, i, nd, h1, h2 => by
    have nd' : (lentOf xs).Nodup := by
      cases x with
      | inl j => exact (List.nodup_cons.mp nd).2
      | inr d => exact nd
    have e := lent_inj (xs := xs) (p := p) (q := q) (i := i) nd' (by simpa using h1) (by simpa using h2)
    rw [e]
/-- what the lent slots hold behind -/
theorem bs_slots {k : KX} {F H F' H' : Hp} {e : En} {σ : L2.St} (er : ER k F H e σ) : ∀ {xs : List (Nat ⊕ D)} {vs : List V} {as : List Ag} {bs : List D}, RepO k σ F xs vs → getBs e xs = some as → BsR k F' H' as vs bs →
    (lentOf xs).length = bs.length ∧ ∀ i d, (i, d) ∈ (lentOf xs).zip bs → ∃ a, σ[i]? = some (some (.ref a)) ∧ OwnAt k F' H' a d
  | [], _, _, bs, _, hg, hb => by
    cases hg
    have : bs = [] := by cases ‹List V› <;> exact hb
    subst this
    exact ⟨rfl, by simp [lentOf]⟩
  | .inl i :: xs, _, as, bs, h, hg, hb => by
    obtain ⟨v, r, rfl, h1, h2⟩ := h
    obtain ⟨d, hd, hr⟩ := Option.bind_eq_some_iff.mp hg
    obtain ⟨ds', h3, rfl⟩ := Option.map_eq_some_iff.mp hr
    obtain ⟨s, c, b, q1, q2, rfl, q4, q5⟩ := getB_own er hd
    obtain ⟨d, r', rfl, ⟨a, e1, ow⟩, hb⟩ := hb
    subst e1
    obtain ⟨z1, z2⟩ := bs_slots er h2 h3 hb
    refine ⟨by simp [lentOf, z1], fun j c' hj => ?_⟩
    simp only [lentOf, List.zip_cons_cons] at hj
    rcases List.mem_cons.mp hj with hj | hj
    · cases hj; exact ⟨a, h1, ow⟩
    · exact z2 j c' hj
  | .inr d :: xs, _, as, bs, h, hg, hb => by
    obtain ⟨v, r, rfl, h1, h2⟩ := h
    obtain ⟨d', hd, hr⟩ := Option.bind_eq_some_iff.mp hg
    obtain ⟨ds', h3, rfl⟩ := Option.map_eq_some_iff.mp hr
    cases hd
    exact bs_slots (xs := xs) er h2 h3 hb
end RL
end
section
set_option Elab.async false
set_option linter.all false
set_option autoImplicit false
set_option maxRecDepth 100000
set_option maxHeartbeats 4000000
/-! R7: a def's call; mutations of what is ours -/
namespace RL
open PySem PySem.Spec L2
open PyProof.Rows hiding St

/-- slots of ours have got new contents -/
theorem ER.putB {k : KX} {F H F' H' : Hp} {e : En} {σ : L2.St} {ps : List (Nat × D)} (er : ER k F H e σ) (ok : OkF F' H') (nd : (ps.map (·.1)).Nodup)
    (own : ∀ i d, (i, d) ∈ ps → (∃ s : Sl, e[i]? = some (some s) ∧ s.ours.isSome = true) ∧ ∃ a, σ[i]? = some (some (.ref a)) ∧ OwnAt k F' H' a d)
    (up : Up F F') (kp : ∀ a o, H a = some o → F a = none → (∀ i d, (i, d) ∈ ps → σ[i]? ≠ some (some (.ref a))) → H' a = some o ∧ F' a = none) : Pst k e σ F H (putB e ps) σ F' H' := by
  have at_ : ∀ {j : Nat} {s : Sl}, (RL.putB e ps)[j]? = some (some s) → (j ∉ ps.map (·.1) ∧ e[j]? = some (some s)) ∨
      (∃ d s0, (j, d) ∈ ps ∧ e[j]? = some (some s0) ∧ s0.ours.isSome = true ∧ s.ours = some d ∧ ((∃ x, s0 = .bor x) → s = .bor d)) := by
    intro j s h
    by_cases hj : j ∈ ps.map (·.1)
    · obtain ⟨⟨j', d⟩, hp, rfl⟩ := List.mem_map.mp hj
      obtain ⟨⟨s0, h1, h2⟩, _⟩ := own j' d hp
      have hl : j' < e.length := (List.getElem?_eq_some_iff.mp h1).1
      rw [putB_in nd hp hl, h1] at h
      refine .inr ⟨d, s0, hp, h1, h2, ?_, ?_⟩
      · cases s0 with
        | val c => cases h2
        | own c => cases h; rfl
        | bor c => cases h; rfl
      · rintro ⟨x, rfl⟩
        cases h; rfl
    · rw [putB_out hj] at h
      exact .inl ⟨hj, h⟩
  have there : ∀ {j : Nat} {s : Sl}, (RL.putB e ps)[j]? = some (some s) → s.ours.isSome = true → ∃ s0 : Sl, e[j]? = some (some s0) ∧ s0.ours.isSome = true := by
    intro j s h hs
    rcases at_ h with ⟨_, h1⟩ | ⟨d, s0, _, h1, h2, _⟩
    · exact ⟨s, h1, hs⟩
    · exact ⟨s0, h1, h2⟩
  refine ⟨⟨er.mono, ok, by rw [putB_len]; exact er.len, fun j d h => ?_, fun j s d h hs => ?_, fun i j s t hij h1 h2 hs ht => ?_⟩, ⟨up, fun a o h1 h2 ho => ?_⟩, fun a ha => ?_, fun j d h => ⟨rfl, ?_⟩⟩
  · rcases at_ h with ⟨_, h1⟩ | ⟨d', s0, _, h1, h2, h3, _⟩
    · obtain ⟨v, q1, q2⟩ := er.val j d h1
      exact ⟨v, q1, q2.up er.mono up⟩
    · cases h3
  · rcases at_ h with ⟨hj, h1⟩ | ⟨d', s0, hp, h1, h2, h3, _⟩
    · obtain ⟨a, q1, q2⟩ := er.own j s d h1 hs
      obtain ⟨o, ho⟩ := q2.there
      have ne : ∀ i d, (i, d) ∈ ps → σ[i]? ≠ some (some (.ref a)) := fun i d' hp z => by
        obtain ⟨⟨s1, z1, z2⟩, _⟩ := own i d' hp
        have hij : i ≠ j := by
          rintro rfl
          exact hj (List.mem_map.mpr ⟨_, hp, rfl⟩)
        exact er.apart i j s1 s hij z1 h1 z2 (by rw [hs]; rfl) (by rw [z, q1])
      obtain ⟨g1, g2⟩ := kp a o ho q2.1 ne
      exact ⟨a, q1, q2.up er.mono up g2 fun o' ho' => (kp a o' ho' q2.1 ne).1⟩
    · rw [h3] at hs; cases hs
      exact (own j _ hp).2
  · obtain ⟨s0, z1, z2⟩ := there h1 hs
    obtain ⟨t0, z3, z4⟩ := there h2 ht
    exact er.apart i j s0 t0 hij z1 z3 z2 z4
  · refine kp a o h1 h2 fun i d hp z => ho ?_
    obtain ⟨⟨s1, z1, z2⟩, _⟩ := own i d hp
    exact ⟨i, s1, z1, z2, z⟩
  · obtain ⟨j, s, h1, h2, h3⟩ := ha
    obtain ⟨s0, z1, z2⟩ := there h1 h2
    exact .inl ⟨j, s0, z1, z2, h3⟩
  · by_cases hj : j ∈ ps.map (·.1)
    · obtain ⟨⟨j', c⟩, hp, rfl⟩ := List.mem_map.mp hj
      have hl : j' < e.length := (List.getElem?_eq_some_iff.mp h).1
      exact ⟨c, by rw [putB_in nd hp hl, h]; rfl⟩
    · exact ⟨d, by rw [putB_out hj]; exact h⟩

section
variable {X : Cx} {k : KX} {g : G}
theorem zip_keys : ∀ {l : List Nat} {bs : List D}, l.length = bs.length → (l.zip bs).map (·.1) = l
  | [], [], _ => rfl
  | _ :: l, _ :: bs, h => by rw [List.zip_cons_cons, List.map_cons, zip_keys (by simpa using h)]
  | [], _ :: _, h => by cases h
  | _ :: _, [], h => by cases h
theorem call_run {x : Str} {ps : List ArM} : ∀ σ H Q, tE k g (callM x ps) σ H Q → tCall (spD k g x) [] E0 (tCs (ps.map (tA k g))) σ H Q := fun σ H Q ⟨F0, en, res, e', er, hm', q⟩ => by
  obtain ⟨⟨xs, e1⟩, h1, hm'⟩ := Option.bind_eq_some_iff.mp hm'
  obtain ⟨ags, h2, hm'⟩ := Option.bind_eq_some_iff.mp hm'
  obtain ⟨hn, hm'⟩ := Option.ite_none_right_eq_some.mp hm'
  obtain ⟨⟨r, bs⟩, h3, h4⟩ := Option.map_eq_some_iff.mp hm'
  cases h4
  refine runA_run ps er h1 fun vs F1 H1 p1 ro => ?_
  have nd := noDup_nodup hn
  show spD k g x (vs ++ []) H1 Q E0
  rw [List.append_nil]
  refine ⟨F1, ags, r, bs, er.mono, p1.er.ok, getBs_args p1.er ro h2, fun i j a b hij hi hj la lb z => ?_, h3, fun v F2 H2 ok st rn bsr => ?_⟩
  · obtain ⟨i', a1, a2, ⟨s, a3, a4⟩, c, a5, a6⟩ := lent_slot p1.er ro h2 hi la
    obtain ⟨j', b1, b2, ⟨t, b3, b4⟩, d, b5, b6⟩ := lent_slot p1.er ro h2 hj lb
    have hne : i' ≠ j' := by
      rintro rfl
      exact hij (lent_inj nd a1 b1)
    refine p1.er.apart i' j' s t hne a3 b3 a4 b4 ?_
    rw [a6, b6] at z
    cases z
    rw [a5, b5]
  · obtain ⟨hl, hb2⟩ := bs_slots p1.er ro h2 bsr
    have hnd : (((lentOf xs).zip bs).map (·.1)).Nodup := by rw [zip_keys hl]; exact nd
    have slot : ∀ {xs' : List (Nat ⊕ D)} {ags' : List Ag} {i : Nat}, getBs e1 xs' = some ags' → i ∈ lentOf xs' → ∃ s : Sl, e1[i]? = some (some s) ∧ s.ours.isSome = true := by
      intro xs'
      induction xs' with
      | nil => intro _ _ _ hi; simp [lentOf] at hi
      | cons y ys ih =>
        intro ags' i hg' hi
        obtain ⟨d, hd, hr'⟩ := Option.bind_eq_some_iff.mp hg'
        obtain ⟨ds', h3', _⟩ := Option.map_eq_some_iff.mp hr'
        cases y with
        | inl j =>
          rcases List.mem_cons.mp (show i ∈ j :: lentOf ys from hi) with rfl | hi
          · obtain ⟨s, c, b, q1, q2, _⟩ := getB_own p1.er hd
            exact ⟨s, q1, by rw [q2]; rfl⟩
          · exact ih h3' hi
        | inr d => exact ih h3' hi
    have p2 : Pst k e1 σ F1 H1 (putB e1 ((lentOf xs).zip bs)) σ F2 H2 := by
      refine p1.er.putB ok hnd (fun i d hp => ⟨slot h2 (List.of_mem_zip hp).1, hb2 i d hp⟩) st.up fun a o ha hF hno => st.kp a o ha hF ?_
      rintro ⟨i, b, hi, lb, hv⟩
      obtain ⟨i', a1, a2, _, c, a5, a6⟩ := lent_slot p1.er ro h2 hi lb
      rw [hv] at a6
      cases a6
      obtain ⟨pl, hpl⟩ : ∃ pl, (lentOf xs)[pl]? = some i' := List.mem_iff_getElem?.mp a2
      have hlt : pl < bs.length := by rw [← hl]; exact (List.getElem?_eq_some_iff.mp hpl).1
      have hmem : (i', bs[pl]) ∈ (lentOf xs).zip bs := by
        rw [List.mem_iff_getElem?]
        exact ⟨pl, by rw [List.getElem?_zip_eq_some]; exact ⟨hpl, List.getElem?_eq_getElem hlt⟩⟩
      exact hno i' _ hmem a5
    refine q v F2 H2 (p1.trans p2) ?_
    cases r with
    | v d => exact rn
    | o d =>
      obtain ⟨a, rfl, ow, hnone⟩ := rn
      refine RR.ahead p1 ⟨a, rfl, ow, ?_, .inr hnone⟩
      rintro ⟨i, s, q1, q2, q3⟩
      rcases p2.fl a ⟨i, s, q1, q2, q3⟩ with ⟨i0, s0, z1, z2, z3⟩ | z
      · obtain ⟨d0, hd0⟩ := Option.isSome_iff_exists.mp z2
        obtain ⟨b, z4, z5⟩ := p1.er.own i0 s0 d0 z1 hd0
        rw [z3] at z4; cases z4
        obtain ⟨o, ho⟩ := z5.there
        rw [ho] at hnone; cases hnone
      · -- new since, yet a slot of ours: the slots of ours stood before
        by_cases hj : i ∈ ((lentOf xs).zip bs).map (·.1)
        · obtain ⟨⟨i', c⟩, hp, rfl⟩ := List.mem_map.mp hj
          obtain ⟨s1, z1, z2⟩ := slot h2 (List.of_mem_zip hp).1
          obtain ⟨d0, hd0⟩ := Option.isSome_iff_exists.mp z2
          obtain ⟨b, z4, z5⟩ := p1.er.own _ s1 d0 z1 hd0
          rw [q3] at z4; cases z4
          obtain ⟨o, ho⟩ := z5.there
          rw [ho] at hnone; cases hnone
        · rw [putB_out hj] at q1
          obtain ⟨d0, hd0⟩ := Option.isSome_iff_exists.mp q2
          obtain ⟨b, z4, z5⟩ := p1.er.own _ s d0 q1 hd0
          rw [q3] at z4; cases z4
          obtain ⟨o, ho⟩ := z5.there
          rw [ho] at hnone; cases hnone
/-- a call of a def of the program -/
theorem peCall {x : Str} {p pos : Pos} {f : Addr} {fd : FuncData} {prs : List Str} {n : Nat} {e : Expr} {es : List Expr} {ps : List ArM} (F : FnOk X.prog X.w X.K X.mg X.base CX0 n f fd prs (spD k g x)) (hr : Room n X.A) (hg : Gl X x) (hm : X.mg x = some (.ref f))
    (hk : PySem.W.keepIn X.K (.ref f) = true) (hb : Binds X.K fd prs []) (ha : PEs X (e :: es) (ps.map (tA k g))) (hs : (e :: es).all notStar = true) (hdb : (x == ("__debug__" : Str)) = false) :
    PE X (.Call (.Name x p) (e :: es) [] pos) (tE k g (callM x ps)) := by
  have h' := (by simpa using hs : notStar e = true ∧ _)
  exact (pe_call F hr hg hm hk hb .nil pass0 (ha.pa hs) hdb (star_eq h'.1) (star_no (by simpa using h'.2))).weak call_run
theorem peCall0 {x : Str} {p pos : Pos} {f : Addr} {fd : FuncData} {prs : List Str} {n : Nat} (F : FnOk X.prog X.w X.K X.mg X.base CX0 n f fd prs (spD k g x)) (hr : Room n X.A) (hg : Gl X x) (hm : X.mg x = some (.ref f))
    (hk : PySem.W.keepIn X.K (.ref f) = true) (hb : Binds X.K fd prs []) (hdb : (x == ("__debug__" : Str)) = false) : PE X (.Call (.Name x p) [] [] pos) (tE k g (callM x [])) :=
  (pe_call0 F hr hg hm hk hb .nil pass0 hdb).weak fun σ H Q h => call_run (ps := []) σ H Q h
end
end RL
end
section
set_option Elab.async false
set_option linter.all false
set_option autoImplicit false
set_option maxRecDepth 100000
set_option maxHeartbeats 4000000
/-! R8: statements -/
namespace RL
open PySem PySem.Spec L2
open PyProof.Rows hiding St

inductive Fl_ where
  | nx | bk | ct | rt (r : R)
abbrev SM := G → En → Option (Fl_ × En)
/-- what is wanted behind a statement that ends so -/
def FEnd (k : KX) (D : Ends) (e : En) (σ : L2.St) (F H : Hp) (f : Fl_) (e' : En) : Prop := match f with
  | .nx => ∀ σ' F' H', Pst k e σ F H e' σ' F' H' → D.nx σ' H'
  | .bk => ∀ σ' F' H', Pst k e σ F H e' σ' F' H' → D.bk σ' H'
  | .ct => ∀ σ' F' H', Pst k e σ F H e' σ' F' H' → D.ct σ' H'
  | .rt r => ∀ v σ' F' H', Pst k e σ F H e' σ' F' H' → RR k e σ H e' σ' F' H' r v → D.rt v H'
theorem FEnd.ahead {k : KX} {D : Ends} {e e1 : En} {σ σ1 : L2.St} {F F1 H H1 : Hp} {f : Fl_} {e' : En} (h : FEnd k D e σ F H f e') (p : Pst k e σ F H e1 σ1 F1 H1) : FEnd k D e1 σ1 F1 H1 f e' := by
  cases f with
  | nx => exact fun σ' F' H' q => h σ' F' H' (p.trans q)
  | bk => exact fun σ' F' H' q => h σ' F' H' (p.trans q)
  | ct => exact fun σ' F' H' q => h σ' F' H' (p.trans q)
  | rt r => exact fun v σ' F' H' q rr => h v σ' F' H' (p.trans q) (rr.ahead p)
def tS (k : KX) (g : G) (m : SM) : TS := fun D σ H => ∃ F e f e', ER k F H e σ ∧ m g e = some (f, e') ∧ FEnd k D e σ F H f e'

/-! ### a slot is stored -/
def R.sl : R → Sl
  | .v d => .val d
  | .o d => .own d
def isBor : Option (Option Sl) → Bool
  | some (some (.bor _)) => true
  | _ => false
/-- a slot that is lent is not stored to -/
def putSl (e : En) (i : Nat) (r : R) : Option En := if isBor e[i]? = true ∨ ¬ i < e.length then none else some (e.set i (some r.sl))
theorem putSl_some {e e' : En} {i : Nat} {r : R} (h : putSl e i r = some e') : isBor e[i]? = false ∧ i < e.length ∧ e' = e.set i (some r.sl) := by
  unfold putSl at h
  split at h
  · cases h
  · rename_i hn
    cases h
    refine ⟨?_, ?_, rfl⟩
    · cases q : isBor e[i]? with
      | false => rfl
      | true => exact absurd (.inl q) hn
    · exact Decidable.byContradiction fun z => hn (.inr z)
/-- the store: from (e, σ) with a result v of r to the slot i -/
theorem Pst.store {k : KX} {e0 e e' : En} {σ0 σ : L2.St} {F0 H0 F H : Hp} {i : Nat} {r : R} {v : V} (p : Pst k e0 σ0 F0 H0 e σ F H) (rr : RR k e0 σ0 H0 e σ F H r v) (h : putSl e i r = some e') :
    Pst k e0 σ0 F0 H0 e' (σ.set i (some v)) F H := by
  obtain ⟨nb, hi, rfl⟩ := putSl_some h
  have er := p.er
  have hiσ : i < σ.length := by rw [← er.len]; exact hi
  have at_ : ∀ {j : Nat} {s : Sl}, (e.set i (some r.sl))[j]? = some (some s) → (j = i ∧ s = r.sl) ∨ (i ≠ j ∧ e[j]? = some (some s)) := by
    intro j s hj
    by_cases hij : i = j
    · subst hij
      rw [List.getElem?_set_self hi] at hj; cases hj
      exact .inl ⟨rfl, rfl⟩
    · rw [List.getElem?_set_ne hij] at hj
      exact .inr ⟨hij, hj⟩
  have newo : ∀ {d : D}, r.sl.ours = some d → r = .o d := by
    intro d hd
    cases r with
    | v c => cases hd
    | o c => cases hd; rfl
  refine ⟨⟨er.mono, er.ok, by simpa using er.len, fun j d hj => ?_, fun j s d hj hs => ?_, fun j l s t hjl hj hl hs ht => ?_⟩, p.st, fun a ha => ?_, fun j d hj => ?_⟩
  · rcases at_ hj with ⟨rfl, hs⟩ | ⟨hij, hj⟩
    · rw [List.getElem?_set_self hiσ]
      cases r with
      | v c => cases hs; exact ⟨v, rfl, rr⟩
      | o c => cases hs
    · rw [List.getElem?_set_ne hij]
      exact er.val j d hj
  · rcases at_ hj with ⟨rfl, rfl⟩ | ⟨hij, hj⟩
    · rw [List.getElem?_set_self hiσ]
      cases newo hs
      obtain ⟨a, rfl, ow, _, _⟩ := rr
      exact ⟨a, rfl, ow⟩
    · rw [List.getElem?_set_ne hij]
      exact er.own j s d hj hs
  · have key : ∀ {j l : Nat} {s t : Sl}, j = i → s = r.sl → i ≠ l → e[l]? = some (some t) → s.ours.isSome = true → t.ours.isSome = true → (σ.set i (some v))[j]? ≠ (σ.set i (some v))[l]? := by
      intro j l s t h1 h2 h3 h4 h5 h6
      subst h1 h2
      obtain ⟨d, hd⟩ := Option.isSome_iff_exists.mp h5
      cases newo hd
      obtain ⟨a, rfl, _, no, _⟩ := rr
      rw [List.getElem?_set_self hiσ, List.getElem?_set_ne h3]
      intro z
      exact no ⟨l, t, h4, h6, z.symm⟩
    rcases at_ hj with ⟨h1, h2⟩ | ⟨hij, hj⟩
    · rcases at_ hl with ⟨h3, h4⟩ | ⟨hil, hl⟩
      · exact absurd (h1.trans h3.symm) hjl
      · exact key h1 h2 hil hl hs ht
    · rcases at_ hl with ⟨h3, h4⟩ | ⟨hil, hl⟩
      · exact fun z => key h3 h4 hij hj ht hs z.symm
      · rw [List.getElem?_set_ne hij, List.getElem?_set_ne hil]
        exact er.apart j l s t hjl hj hl hs ht
  · obtain ⟨j, s, hj, hs, ha⟩ := ha
    rcases at_ hj with ⟨rfl, rfl⟩ | ⟨hij, hj⟩
    · rw [List.getElem?_set_self hiσ] at ha; cases ha
      obtain ⟨d, hd⟩ := Option.isSome_iff_exists.mp hs
      cases newo hd
      obtain ⟨b, e1, _, _, fr⟩ := rr
      cases e1
      exact fr
    · rw [List.getElem?_set_ne hij] at ha
      exact p.fl a ⟨j, s, hj, hs, ha⟩
  · obtain ⟨h1, d', h2⟩ := p.bo j d hj
    have hij : i ≠ j := by
      rintro rfl
      rw [h2] at nb; cases nb
    exact ⟨by rw [List.getElem?_set_ne hij]; exact h1, d', by rw [List.getElem?_set_ne hij]; exact h2⟩

/-! ### targets -/
abbrev TM := D → En → Option En
/-- a target: the slots sl alone change -/
def gT (k : KX) (t : TM) (sl : List Nat) : TG := fun v σ H Q => ∃ F e d e', ER k F H e σ ∧ Rep k F d v ∧ t d e = some e' ∧
  ∀ σ', Pst k e σ F H e' σ' F H → (∀ j, j ∉ sl → σ'[j]? = σ[j]?) → σ'.length = σ.length → Q σ' H
def tgName (i : Nat) : TM := fun d e => putSl e i (.v d)
def tgAll : List TM → List D → En → Option En
  | [], [], e => some e
  | t :: ts, d :: ds, e => (t d e).bind fun e1 => tgAll ts ds e1
  | _, _, _ => none
def tgTup (ts : List TM) : TM := fun d e => match d with
  | .tuple ds => tgAll ts ds e
  | _ => none
section
variable {X : Cx} {k : KX} {g : G}
theorem pgName {i : Nat} {x : Str} {pos : Pos} (hN : X.N.Nodup) (hi : X.N[i]? = some x) (hx : Loc X.env.scope x) (hf : X.fn x = true ∨ X.env.scope.names.lookup x = some .local) : PG X (.Name x pos) (gT k (tgName i) [i]) :=
  (pg_name hN hi hx hf).weak fun v σ H Q ⟨F, e, d, e', er, rep, h, q⟩ => by
    refine q _ ((Pst.refl er).store (r := .v d) rep h) (fun j hj => ?_) (by simp)
    rw [List.getElem?_set_ne (fun z => hj (by simp [z]))]
/-- targets in a row -/
inductive PGl (X : Cx) (k : KX) : List Expr → List TM → List Nat → Prop
  | nil : PGl X k [] [] []
  | cons {e es t ts sl sls} : PG X e (gT k t sl) → PGl X k es ts sls → PGl X k (e :: es) (t :: ts) (sl ++ sls)
def gTs (k : KX) (ts : List TM) (sl : List Nat) : TGs := fun vs σ H Q => ∃ F e ds e', ER k F H e σ ∧ RepL k F ds vs ∧ tgAll ts ds e = some e' ∧
  ∀ σ', Pst k e σ F H e' σ' F H → (∀ j, j ∉ sl → σ'[j]? = σ[j]?) → σ'.length = σ.length → Q σ' H
theorem assign_star {e : Expr} {es : List Expr} {env : Env} (h : notStar e = true) : assignEach (e :: es) env = (false, assign e env) :: assignEach es env := by
  cases e <;> first | rfl | cases h
theorem PGs.weak {ts : List Expr} {t t' : TGs} (h : PGs X ts t) (w : ∀ vs σ H Q, t' vs σ H Q → t vs σ H Q) : PGs X ts t' := ⟨fun pins s σ H vs us Q I r q => h.run pins s σ H vs us Q I r (w vs σ H Q q)⟩
theorem PGl.pgs {es : List Expr} {ts : List TM} {sl : List Nat} (h : PGl X k es ts sl) (hs : es.all notStar = true) : PGs X es (gTs k ts sl) := by
  induction h with
  | nil =>
    refine PGs.weak pgs_nil fun vs σ H Q ⟨F, e, ds, e', er, rep, h, q⟩ => ?_
    cases ds with
    | cons d ds => cases h
    | nil =>
      cases h
      cases rep
      exact ⟨rfl, q σ (Pst.refl er) (fun j _ => rfl) rfl⟩
  | @cons e es t ts sl sls h1 h2 ih =>
    have h' := (by simpa using hs : notStar e = true ∧ _)
    refine PGs.weak (pgs_cons h1 (ih (by simpa using h'.2)) (by rw [assign_star h'.1]; rfl)) fun vs σ H Q ⟨F, e, ds, e', er, rep, h, q⟩ => ?_
    cases ds with
    | nil => cases h
    | cons d ds =>
      obtain ⟨e1, h3, h4⟩ := Option.bind_eq_some_iff.mp h
      obtain ⟨v, r, rfl, r1, r2⟩ := rep
      refine ⟨v, r, rfl, F, e, d, e1, er, r1, h3, fun σ1 p1 c1 l1 => ⟨F, e1, ds, e', p1.er, r2, h4, fun σ2 p2 c2 l2 => q σ2 (p1.trans p2) (fun j hj => ?_) (l2.trans l1)⟩⟩
      have hj' : j ∉ sl ∧ j ∉ sls := by simpa using hj
      exact (c2 j hj'.2).trans (c1 j hj'.1)
theorem tgAll_len : ∀ {ts : List TM} {ds : List D} {e e' : En}, tgAll ts ds e = some e' → ds.length = ts.length
  | [], [], _, _, _ => rfl
  | _ :: ts, _ :: ds, _, _, h => by
    obtain ⟨e1, _, h2⟩ := Option.bind_eq_some_iff.mp h
    simp [tgAll_len h2]
  | [], _ :: _, _, _, h => by cases h
  | _ :: _, [], _, _, h => by cases h
theorem PGl.len {es : List Expr} {ts : List TM} {sl : List Nat} (h : PGl X k es ts sl) : es.length = ts.length := by
  induction h with
  | nil => rfl
  | cons _ _ ih => simp [ih]
theorem assign_len {env : Env} : ∀ {es : List Expr}, es.all notStar = true → (assignEach es env).length = es.length
  | [], _ => rfl
  | e :: es, h => by
    have h' := (by simpa using h : notStar e = true ∧ _)
    rw [assign_star h'.1, List.length_cons, assign_len (by simpa using h'.2), List.length_cons]
theorem assign_idx {env : Env} : ∀ {es : List Expr}, es.all notStar = true → (assignEach es env).findIdx? (·.1) = none
  | [], _ => rfl
  | e :: es, h => by
    have h' := (by simpa using h : notStar e = true ∧ _)
    rw [assign_star h'.1, List.findIdx?_cons]
    simp [assign_idx (env := env) (es := es) (by simpa using h'.2)]
theorem pgTup {es : List Expr} {ts : List TM} {sl : List Nat} {j : Nat} {pos : Pos} (hK : X.K = k.K) (hc : X.calm = true) (h : PGl X k es ts sl) (hs : es.all notStar = true) : PG X (.Tuple es j pos) (gT k (tgTup ts) sl) :=
  (pg_tup (n := es.length) hc (h.pgs hs) (assign_len hs) (assign_idx hs)).weak fun v σ H Q ⟨F, e, d, e', er, rep, hh, q⟩ => by
    unfold tgTup at hh
    split at hh
    · rename_i ds
      obtain ⟨a, vs, rfl, s, r⟩ := rep
      refine ⟨a, vs, rfl, by rw [hK]; exact er.ok.t s.t, ?_, F, e, ds, e', er, r, hh, q⟩
      rw [← r.length, tgAll_len hh, h.len]
    · cases hh

/-! ### small statements -/
def seqM (m n : SM) : SM := fun g e => (m g e).bind fun r => match r.1 with
  | .nx => n g r.2
  | f => some (f, r.2)
def nilM : SM := fun _ e => some (.nx, e)
theorem pssNil : PSs X [] (tS k g nilM) := pss_nil.weak fun D σ H ⟨F, e, f, e', er, hm, q⟩ => by
  cases hm
  exact q σ F H (Pst.refl er)
theorem seq_run {m n : SM} : ∀ D σ H, tS k g (seqM m n) D σ H → tS k g m { D with nx := tS k g n D } σ H := fun D σ H ⟨F, e, f, e', er, hm, q⟩ => by
  obtain ⟨⟨f1, e1⟩, h1, h2⟩ := Option.bind_eq_some_iff.mp hm
  refine ⟨F, e, f1, e1, er, h1, ?_⟩
  cases f1 with
  | nx => exact fun σ1 F1 H1 p1 => ⟨F1, e1, f, e', p1.er, h2, q.ahead p1⟩
  | bk => cases h2; exact q
  | ct => cases h2; exact q
  | rt r => cases h2; exact q
theorem pssCons {st : Stmt} {rest : List Stmt} {m n : SM} (h1 : PS X st (tS k g m)) (h2 : PSs X rest (tS k g n)) : PSs X (st :: rest) (tS k g (seqM m n)) := (pss_cons h1 h2).weak seq_run
def passM : SM := nilM
theorem psPass {pos : Pos} : PS X (.Pass pos) (tS k g nilM) := ps_pass.weak fun D σ H ⟨F, e, f, e', er, hm, q⟩ => by
  cases hm
  exact q σ F H (Pst.refl er)
def bkM : SM := fun _ e => some (.bk, e)
def ctM : SM := fun _ e => some (.ct, e)
theorem psBreak {pos : Pos} : PS X (.Break pos) (tS k g bkM) := ps_break.weak fun D σ H ⟨F, e, f, e', er, hm, q⟩ => by
  cases hm
  exact q σ F H (Pst.refl er)
theorem psCont {pos : Pos} : PS X (.Continue pos) (tS k g ctM) := ps_continue.weak fun D σ H ⟨F, e, f, e', er, hm, q⟩ => by
  cases hm
  exact q σ F H (Pst.refl er)
def retM (m : EM) : SM := fun g e => (m g e).map fun r => (.rt r.1, r.2)
theorem psRet {a : Expr} {m : EM} {pos : Pos} (h : PE X a (tE k g m)) : PS X (.Return (some a) pos) (tS k g (retM m)) := (ps_ret h).weak fun D σ H ⟨F, e, f, e', er, hm, q⟩ => by
  obtain ⟨⟨r, e1⟩, h1, h2⟩ := Option.map_eq_some_iff.mp hm
  cases h2
  exact ⟨F, e, r, e1, er, h1, fun v F' H' p rr => q v σ F' H' p rr⟩
def retN : SM := fun _ e => some (.rt (.v .none), e)
theorem psRetN {pos : Pos} : PS X (.Return none pos) (tS k g retN) := ps_retN.weak fun D σ H ⟨F, e, f, e', er, hm, q⟩ => by
  cases hm
  exact q .non σ F H (Pst.refl er) rfl
def exprM (m : EM) : SM := fun g e => (m g e).map fun r => (.nx, r.2)
theorem psExpr {a : Expr} {m : EM} {pos : Pos} (h : PE X a (tE k g m)) (hc : isComp a = false) : PS X (.Expr a pos) (tS k g (exprM m)) := (ps_expr h (swaps_no hc)).weak fun D σ H ⟨F, e, f, e', er, hm, q⟩ => by
  obtain ⟨⟨r, e1⟩, h1, h2⟩ := Option.map_eq_some_iff.mp hm
  cases h2
  exact ⟨F, e, r, e1, er, h1, fun v F' H' p rr => q σ F' H' p⟩
def ifS (c : BM) (m n : SM) : SM := fun g e => (c g e).bind fun r => if r.1 = true then m g r.2 else n g r.2
theorem psIf {c : Expr} {a b : List Stmt} {t : BM} {m n : SM} {pos : Pos} (hc : PT X c (tT k g t)) (ha : PSs X a (tS k g m)) (hb : PSs X b (tS k g n)) : PS X (.If c a b pos) (tS k g (ifS t m n)) :=
  (ps_if hc ha hb).weak fun D σ H ⟨F, e, f, e', er, hm, q⟩ => by
    obtain ⟨⟨b1, e1⟩, h1, h2⟩ := Option.bind_eq_some_iff.mp hm
    refine ⟨F, e, b1, e1, er, h1, fun F1 H1 p1 => ?_⟩
    cases b1 with
    | true =>
      rw [if_pos rfl]
      exact ⟨F1, e1, f, e', p1.er, by simpa using h2, q.ahead p1⟩
    | false =>
      rw [if_neg Bool.false_ne_true]
      exact ⟨F1, e1, f, e', p1.er, by simpa using h2, q.ahead p1⟩
/-- code that the mirror never comes to -/
def stuckM : SM := fun _ _ => none
theorem psStuck {st : Stmt} : PS X st (tS k g stuckM) := ps_never.weak fun D σ H ⟨F, e, f, e', er, hm, q⟩ => by cases hm

/-! ### name = value; a, b = value -/
def setM (i : Nat) (m : EM) : SM := fun g e => (m g e).bind fun r => (putSl r.2 i r.1).map fun e2 => (.nx, e2)
theorem psSet {i : Nat} {x : Str} {a : Expr} {m : EM} {p pos : Pos} (hN : X.N.Nodup) (hi : X.N[i]? = some x) (hx : Loc X.env.scope x) (hf : X.fn x = true ∨ X.env.scope.names.lookup x = some .local) (h : PE X a (tE k g m))
    (hc : swapsWith a (some (.Name x p)) pos.line X.env = pure false) : PS X (.Assign [.Name x p] a pos) (tS k g (setM i m)) :=
  (ps_set hN hi hx h hc hf).weak fun D σ H ⟨F, e, f, e', er, hm, q⟩ => by
    obtain ⟨⟨r, e1⟩, h1, h2⟩ := Option.bind_eq_some_iff.mp hm
    obtain ⟨e2, h3, h4⟩ := Option.map_eq_some_iff.mp h2
    cases h4
    exact ⟨F, e, r, e1, er, h1, fun v F' H' p rr => q _ F' H' (p.store rr h3)⟩
def asgM (t : TM) (m : EM) : SM := fun g e => (m g e).bind fun r => (t r.1.d r.2).map fun e2 => (.nx, e2)
theorem psAsg {tg a : Expr} {t : TM} {sl : List Nat} {m : EM} {pos : Pos} (h : PE X a (tK k g m)) (hg : PG X tg (gT k t sl)) (hs : swapsWithSole [tg] a pos.line X.env = pure false) (hw : swappedStores [tg] a X.env = pure none)
    (h1 : notStar tg = true) : PS X (.Assign [tg] a pos) (tS k g (asgM t m)) :=
  (ps_asg h hg hs hw (by rw [assign_star h1]; rfl)).weak fun D σ H ⟨F, e, f, e', er, hm, q⟩ => by
    obtain ⟨⟨r, e1⟩, h1, h2⟩ := Option.bind_eq_some_iff.mp hm
    obtain ⟨e2, h3, h4⟩ := Option.map_eq_some_iff.mp h2
    cases h4
    exact ⟨F, e, r, e1, er, h1, fun v F' H' p rep => ⟨F', e1, r.d, _, p.er, rep, h3, fun σ' p2 _ _ => q σ' F' H' (p.trans p2)⟩⟩
end
end RL
end
section
set_option Elab.async false
set_option linter.all false
set_option autoImplicit false
set_option maxRecDepth 100000
set_option maxHeartbeats 4000000
/-! R9: loops, comprehensions -/
namespace RL
open PySem PySem.Spec L2
open PyProof.Rows hiding St

/-- J walks the items ds, told at F1 and whatever is known since -/
structure WlkD (k : KX) (J : It) (ds : List D) (F1 : Hp) : Prop where
  go : ∀ i F H, i < ds.length → Up F1 F → OkF F H → J.go i H
  st : ∀ F H, Up F1 F → OkF F H → J.stop ds.length H
  yl : ∀ i F H x H', i < ds.length → Up F1 F → OkF F H → J.yld i H x H' → ∃ F' d, ds[i]? = some d ∧ OkF F' H' ∧ Stp (fun _ => False) F H F' H' ∧ Rep k F' d x
abbrev IM := G → En → Option (List D × En)
def tI (k : KX) (g : G) (it : IM) : TI := fun σ H R => ∃ F e ds e', ER k F H e σ ∧ it g e = some (ds, e') ∧ ∀ J F1 H1, Pst k e σ F H e' σ F1 H1 → WlkD k J ds F1 → R J H1

/-! ### for -/
def forL (t : TM) (body : SM) (g : G) : List D → En → Option (Fl_ × En)
  | [], e => some (.nx, e)
  | d :: ds, e => (t d e).bind fun e1 => (body g e1).bind fun r => match r.1 with
    | .nx => forL t body g ds r.2
    | .ct => forL t body g ds r.2
    | .bk => some (.nx, r.2)
    | .rt x => some (.rt x, r.2)
def forM (it : IM) (t : TM) (body : SM) : SM := fun g e => (it g e).bind fun p => forL t body g p.1 p.2
/-- the end of a loop: it goes on, or hands back -/
def LEnd (k : KX) (D : Ends) (e : En) (σ : L2.St) (F H : Hp) (f : Fl_) (e' : En) : Prop := match f with
  | .nx => ∀ σ' F' H', Pst k e σ F H e' σ' F' H' → D.nx σ' H'
  | .rt r => ∀ v σ' F' H', Pst k e σ F H e' σ' F' H' → RR k e σ H e' σ' F' H' r v → D.rt v H'
  | _ => True
theorem LEnd.ahead {k : KX} {D : Ends} {e e1 : En} {σ σ1 : L2.St} {F F1 H H1 : Hp} {f : Fl_} {e' : En} (h : LEnd k D e σ F H f e') (p : Pst k e σ F H e1 σ1 F1 H1) : LEnd k D e1 σ1 F1 H1 f e' := by
  cases f with
  | nx => exact fun σ' F' H' q => h σ' F' H' (p.trans q)
  | bk => trivial
  | ct => trivial
  | rt r => exact fun v σ' F' H' q rr => h v σ' F' H' (p.trans q) (rr.ahead p)
theorem FEnd.l {k : KX} {D : Ends} {e : En} {σ : L2.St} {F H : Hp} {f : Fl_} {e' : En} (h : FEnd k D e σ F H f e') : LEnd k D e σ F H f e' := by
  cases f <;> first | exact h | trivial
section
variable {X : Cx} {k : KX} {g : G}
theorem for_run {it : IM} {t : TM} {body : SM} {sl : List Nat} : ∀ D σ H, tS k g (forM it t body) D σ H → tFor (tI k g it) (gT k t sl) (tS k g body) D σ H := fun D σ H ⟨F, e, f, e', er, hm, q⟩ => by
  obtain ⟨⟨ds, e1⟩, h1, h2⟩ := Option.bind_eq_some_iff.mp hm
  refine ⟨F, e, ds, e1, er, h1, fun J F1 H1 p1 wl => ?_⟩
  refine ⟨fun i m σ' H' => ∃ F' en, ER k F' H' en σ' ∧ Up F1 F' ∧ i ≤ ds.length ∧ m = ds.length - i ∧ forL t body g (ds.drop i) en = some (f, e') ∧ LEnd k D en σ' F' H' f e',
    ⟨ds.length, F1, e1, p1.er, Up.refl _, Nat.zero_le _, by simp, h2, (q.ahead p1).l⟩, ?_⟩
  rintro i m σ2 H2 ⟨F2, en, er2, u2, hi, rfl, hl, le⟩
  by_cases hlt : i < ds.length
  · refine .inr ⟨wl.go i F2 H2 hlt u2 er2.ok, fun σ' H' => ∃ F' en', ER k F' H' en' σ' ∧ Up F1 F' ∧ forL t body g (ds.drop (i + 1)) en' = some (f, e') ∧ LEnd k D en' σ' F' H' f e',
      fun σ' H' ⟨F', en', z1, z2, z3, z4⟩ => ⟨ds.length - (i + 1), by omega, F', en', z1, z2, hlt, rfl, z3, z4⟩, fun x H3 y => ?_⟩
    obtain ⟨F3, d, hd, ok3, st3, rep⟩ := wl.yl i F2 H2 x H3 hlt u2 er2.ok y
    have p3 := er2.go ok3 st3
    have hdrop : ds.drop i = d :: ds.drop (i + 1) := by
      rw [List.drop_eq_getElem_cons hlt]
      rw [List.getElem?_eq_getElem hlt] at hd
      cases hd; rfl
    rw [hdrop] at hl
    obtain ⟨e4, h4, hl⟩ := Option.bind_eq_some_iff.mp hl
    obtain ⟨⟨fb, e5⟩, h5, hl⟩ := Option.bind_eq_some_iff.mp hl
    refine ⟨F3, en, d, e4, p3.er, rep, h4, fun σ4 p4 _ _ => ?_⟩
    have p34 := p3.trans p4
    refine ⟨F3, e4, fb, e5, p4.er, h5, ?_⟩
    cases fb with
    | nx => exact fun σ5 F5 H5 p5 => ⟨F5, e5, p5.er, u2.trans (p34.trans p5).st.up, hl, le.ahead (p34.trans p5)⟩
    | ct => exact fun σ5 F5 H5 p5 => ⟨F5, e5, p5.er, u2.trans (p34.trans p5).st.up, hl, le.ahead (p34.trans p5)⟩
    | bk =>
      cases hl
      exact fun σ5 F5 H5 p5 => le σ5 F5 H5 (p34.trans p5)
    | rt r =>
      cases hl
      exact fun v σ5 F5 H5 p5 rr => le v σ5 F5 H5 (p34.trans p5) (rr.ahead p34)
  · have e0 : i = ds.length := by omega
    subst e0
    rw [List.drop_length] at hl
    cases hl
    exact .inl ⟨wl.st F2 H2 u2 er2.ok, le σ2 F2 H2 (Pst.refl er2)⟩
theorem psFor {tg iter : Expr} {body : List Stmt} {it : IM} {t : TM} {m : SM} {sl : List Nat} {pos : Pos} (hx : X.xe = fun _ _ => False) (hc : X.calm = true) (hi : PI X tg iter (tI k g it)) (hg : PG X tg (gT k t sl)) (hb : PSs X body (tS k g m)) (hs : notSet iter = true) :
    PS X (.For tg iter body [] pos) (tS k g (forM it t m)) :=
  (ps_for (by rw [hx]; exact PassesOwn.never) hc hi hg hb (folded_no hs)).weak for_run

/-! ### while -/
def whL (c : BM) (body : SM) (g : G) : Nat → En → Option (Fl_ × En)
  | 0, _ => none
  | n + 1, e => (c g e).bind fun r => if r.1 = true then (body g r.2).bind fun s => match s.1 with
      | .nx => whL c body g n s.2
      | .ct => whL c body g n s.2
      | .bk => some (.nx, s.2)
      | .rt x => some (.rt x, s.2)
    else some (.nx, r.2)
def whM (c : BM) (body : SM) : SM := fun g e => whL c body g g.wh e
theorem wh_run {c : BM} {body : SM} : ∀ D σ H, tS k g (whM c body) D σ H → tWhile (tT k g c) (tS k g body) D σ H := fun D σ H ⟨F, e, f, e', er, hm, q⟩ => by
  refine ⟨fun n σ' H' => ∃ F' en, ER k F' H' en σ' ∧ whL c body g n en = some (f, e') ∧ LEnd k D en σ' F' H' f e', ⟨g.wh, F, e, er, hm, q.l⟩, ?_⟩
  rintro n σ1 H1 ⟨F1, e1, er1, hl, le⟩
  cases n with
  | zero => cases hl
  | succ n =>
    obtain ⟨⟨b, e2⟩, h2, hl⟩ := Option.bind_eq_some_iff.mp hl
    refine ⟨F1, e1, b, e2, er1, h2, fun F2 H2 p2 => ?_⟩
    cases b with
    | false =>
      rw [if_neg Bool.false_ne_true]
      have hl : some (Fl_.nx, e2) = some (f, e') := hl
      cases hl
      exact le σ1 F2 H2 p2
    | true =>
      rw [if_pos rfl]
      have hl : ((body g e2).bind fun s => match s.1 with
        | .nx => whL c body g n s.2
        | .ct => whL c body g n s.2
        | .bk => some (.nx, s.2)
        | .rt x => some (.rt x, s.2)) = some (f, e') := hl
      obtain ⟨⟨fb, e3⟩, h3, hl⟩ := Option.bind_eq_some_iff.mp hl
      refine ⟨fun σ' H' => ∃ F' en', ER k F' H' en' σ' ∧ whL c body g n en' = some (f, e') ∧ LEnd k D en' σ' F' H' f e', fun σ' H' z => ⟨n, Nat.lt_succ_self n, z⟩, F2, e2, fb, e3, p2.er, h3, ?_⟩
      cases fb with
      | nx => exact fun σ3 F3 H3 p3 => ⟨F3, e3, p3.er, hl, le.ahead (p2.trans p3)⟩
      | ct => exact fun σ3 F3 H3 p3 => ⟨F3, e3, p3.er, hl, le.ahead (p2.trans p3)⟩
      | bk =>
        cases hl
        exact fun σ3 F3 H3 p3 => le σ3 F3 H3 (p2.trans p3)
      | rt r =>
        cases hl
        exact fun v σ3 F3 H3 p3 rr => le v σ3 F3 H3 (p2.trans p3) (rr.ahead p2)
theorem psWhile {c : Expr} {body : List Stmt} {t : BM} {m : SM} {pos : Pos} (hx : X.xe = fun _ _ => False) (hc : PT X c (tT k g t)) (hb : PSs X body (tS k g m)) : PS X (.While c body [] pos) (tS k g (whM t m)) :=
  (ps_while (by rw [hx]; exact PassesOwn.never) hc hb).weak wh_run

/-! ### comprehensions -/
/-- the slots of the block's own names forgotten -/
def wipeE (e : En) : List Nat → En
  | [] => e
  | v :: vs => (wipeE e vs).set v none
/-- .. and told again -/
def backE (e0 : En) (e : En) : List Nat → En
  | [] => e
  | v :: vs => (backE e0 e vs).set v ((e0[v]?).getD none)
def calmSl (e : En) (sl : List Nat) : Bool := sl.all fun i => match e[i]? with
  | some (some (.own _)) => false
  | some (some (.bor _)) => false
  | _ => true
def compL (t : TM) (c : BM) (m : EM) (sl : List Nat) (g : G) : List D → En → Option (List D × En)
  | [], e => some ([], e)
  | d :: ds, e => (t d e).bind fun e1 => (c g e1).bind fun b => if b.1 = true then
      (m g b.2).bind fun r => (compL t c m sl g ds (wipeE r.2 sl)).map fun p => (r.1.d :: p.1, p.2)
    else compL t c m sl g ds (wipeE b.2 sl)
def compM (it : IM) (t : TM) (c : BM) (m : EM) (sl : List Nat) : EM := fun g e => (it g e).bind fun p =>
  if p.1.length < sizeLine ∧ calmSl p.2 sl = true then (compL t c m sl g p.1 (wipeE p.2 sl)).map fun r => (.o (.list r.1), backE p.2 r.2 sl) else none
theorem wipeE_len (e : En) : ∀ vs : List Nat, (wipeE e vs).length = e.length
  | [] => rfl
  | v :: vs => by unfold wipeE; rw [List.length_set, wipeE_len e vs]
theorem wipeE_out {e : En} {i : Nat} : ∀ {vs : List Nat}, i ∉ vs → (wipeE e vs)[i]? = e[i]?
  | [], _ => rfl
  | v :: vs, h => by
    have h' : ¬ i = v ∧ i ∉ vs := by simpa using h
    unfold wipeE
    rw [List.getElem?_set_ne (fun z => h'.1 z.symm), wipeE_out h'.2]
theorem wipeE_some {e : En} {i : Nat} {s : Sl} : ∀ {vs : List Nat}, (wipeE e vs)[i]? = some (some s) → e[i]? = some (some s) ∧ i ∉ vs
  | [], h => ⟨h, by simp⟩
  | v :: vs, h => by
    unfold wipeE at h
    by_cases hi : v = i
    · subst hi
      by_cases hv : v < (wipeE e vs).length
      · rw [List.getElem?_set_self hv] at h; cases h
      · rw [List.getElem?_eq_none (by simpa using hv)] at h; cases h
    · rw [List.getElem?_set_ne hi] at h
      obtain ⟨h1, h2⟩ := wipeE_some h
      exact ⟨h1, by simp only [List.mem_cons, not_or]; exact ⟨fun z => hi z.symm, h2⟩⟩
theorem backE_len (e0 e : En) : ∀ vs : List Nat, (backE e0 e vs).length = e.length
  | [] => rfl
  | v :: vs => by unfold backE; rw [List.length_set, backE_len e0 e vs]
theorem backE_out {e0 e : En} {i : Nat} : ∀ {vs : List Nat}, i ∉ vs → (backE e0 e vs)[i]? = e[i]?
  | [], _ => rfl
  | v :: vs, h => by
    have h' : ¬ i = v ∧ i ∉ vs := by simpa using h
    unfold backE
    rw [List.getElem?_set_ne (fun z => h'.1 z.symm), backE_out h'.2]
theorem backE_in {e0 e : En} {i : Nat} {s : Sl} : ∀ {vs : List Nat}, i ∈ vs → (backE e0 e vs)[i]? = some (some s) → e0[i]? = some (some s)
  | [], h, _ => by simp at h
  | v :: vs, h, hs => by
    unfold backE at hs
    by_cases hi : v = i
    · subst hi
      by_cases hv : v < (backE e0 e vs).length
      · rw [List.getElem?_set_self hv] at hs
        cases q : e0[v]? with
        | none => rw [q] at hs; cases hs
        | some o => rw [q] at hs; simpa using hs
      · rw [List.getElem?_eq_none (by simpa using hv)] at hs; cases hs
    · rw [List.getElem?_set_ne hi] at hs
      rcases List.mem_cons.mp h with rfl | h
      · exact absurd rfl hi
      · exact backE_in h hs
theorem wipe_out' {σ : L2.St} {i : Nat} : ∀ {vs : List Nat}, i ∉ vs → (wipe σ vs)[i]? = σ[i]?
  | [], _ => rfl
  | v :: vs, h => by
    have h' : ¬ i = v ∧ i ∉ vs := by simpa using h
    unfold wipe
    rw [List.getElem?_set_ne (fun z => h'.1 z.symm), wipe_out' h'.2]
theorem ER.wipe {F H : Hp} {e : En} {σ : L2.St} (er : ER k F H e σ) (vs : List Nat) : ER k F H (wipeE e vs) (L2.wipe σ vs) := by
  refine ⟨er.mono, er.ok, by rw [wipeE_len, L2.wipe_length]; exact er.len, fun i d h => ?_, fun i s d h hs => ?_, fun i j s t hij hi hj hs ht => ?_⟩
  · obtain ⟨h1, h2⟩ := wipeE_some h
    rw [wipe_out' h2]
    exact er.val i d h1
  · obtain ⟨h1, h2⟩ := wipeE_some h
    rw [wipe_out' h2]
    exact er.own i s d h1 hs
  · obtain ⟨h1, h2⟩ := wipeE_some hi
    obtain ⟨h3, h4⟩ := wipeE_some hj
    rw [wipe_out' h2, wipe_out' h4]
    exact er.apart i j s t hij h1 h3 hs ht
theorem OA.wipe {e : En} {σ : L2.St} {vs : List Nat} {a : Addr} (h : OA (wipeE e vs) (L2.wipe σ vs) a) : OA e σ a := by
  obtain ⟨i, s, h1, h2, h3⟩ := h
  obtain ⟨z1, z2⟩ := wipeE_some h1
  rw [wipe_out' z2] at h3
  exact ⟨i, s, z1, h2, h3⟩
/-- in a block some slots were stored to; they are forgotten -/
theorem Pst.wiped {e e' : En} {σ σ' : L2.St} {F H F' H' : Hp} {vs : List Nat} (p : Pst k e (L2.wipe σ vs) F H e' σ' F' H') (hw : L2.wipe σ' vs = L2.wipe σ vs) (hb : ∀ i ∈ vs, ∀ d, e[i]? ≠ some (some (.bor d))) : Pst k e (L2.wipe σ vs) F H (wipeE e' vs) (L2.wipe σ vs) F' H' := by
  have er := p.er.wipe vs
  rw [hw] at er
  refine ⟨er, p.st, fun a h => ?_, fun i d h => ⟨rfl, ?_⟩⟩
  · have : OA (wipeE e' vs) (L2.wipe σ' vs) a := by rw [hw]; exact h
    exact p.fl a this.wipe
  · obtain ⟨_, d', h2⟩ := p.bo i d h
    have hi : i ∉ vs := fun z => hb i z d h
    exact ⟨d', by rw [wipeE_out hi]; exact h2⟩
end
end RL
end
section
set_option Elab.async false
set_option linter.all false
set_option autoImplicit false
set_option maxRecDepth 100000
set_option maxHeartbeats 4000000
/-! R10: list comprehensions -/
namespace RL
open PySem PySem.Spec L2
open PyProof.Rows hiding St

/-- the heap without the list that is being made -/
def hid (a : Addr) (H : Hp) : Hp := fun b => if b = a then none else H b
theorem hid_at {a : Addr} {H : Hp} : hid a H a = none := by simp [hid]
theorem hid_ne {a b : Addr} {H : Hp} (h : b ≠ a) : hid a H b = H b := by simp [hid, h]
theorem hid_some {a b : Addr} {H : Hp} {o : HO} (h : hid a H b = some o) : b ≠ a ∧ H b = some o := by
  unfold hid at h
  split at h
  · cases h
  · exact ⟨by assumption, h⟩
theorem hid_upd {a : Addr} {H : Hp} {o : HO} : hid a (upd H a o) = hid a H := by
  funext b
  unfold hid
  split
  · rfl
  · rename_i h; rw [upd_ne h]
theorem hid_none {a : Addr} {H : Hp} (h : H a = none) : hid a H = H := by
  funext b
  unfold hid
  split
  · rename_i e; rw [e, h]
  · rfl
section
variable {X : Cx} {k : KX} {g : G}
theorem ER.unhid {F H : Hp} {e : En} {σ : L2.St} {a : Addr} (er : ER k F (hid a H) e σ) : ER k F H e σ := by
  refine ⟨er.mono, fun b o h => (hid_some (er.ok b o h)).2, er.len, er.val, fun i s d h hs => ?_, er.apart⟩
  obtain ⟨b, h1, h2⟩ := er.own i s d h hs
  obtain ⟨o, ho⟩ := h2.there
  exact ⟨b, h1, h2.up er.mono (Up.refl F) h2.1 fun o' ho' => (hid_some ho').2⟩
theorem ER.hidF {F H : Hp} {e : En} {σ : L2.St} {a : Addr} (er : ER k F (hid a H) e σ) : F a = none := by
  cases q : F a with
  | none => rfl
  | some o => exact absurd rfl (hid_some (er.ok a o q)).1
theorem ER.hidO {F H : Hp} {e : En} {σ : L2.St} {a : Addr} (er : ER k F (hid a H) e σ) : ¬ OA e σ a := by
  rintro ⟨i, s, h1, h2, h3⟩
  obtain ⟨d, hd⟩ := Option.isSome_iff_exists.mp h2
  obtain ⟨b, h4, h5⟩ := er.own i s d h1 hd
  rw [h3] at h4; cases h4
  obtain ⟨o, ho⟩ := h5.there
  exact (hid_some ho).1 rfl
/-- what another does leaves the list that is being made -/
theorem Pst.hid {F H F' H' : Hp} {e e' : En} {σ σ' : L2.St} {a : Addr} {o : HO} (p : Pst k e σ F H e' σ' F' H') (hF : F a = none) (hO : ¬ OA e σ a) (hH : H a = some o) :
    Pst k e σ F (RL.hid a H) e' σ' F' (RL.hid a H') ∧ H' a = some o := by
  obtain ⟨g1, g2⟩ := p.st.kp a o hH hF hO
  have no : ¬ OA e' σ' a := fun z => by
    rcases p.fl a z with z | z
    · exact hO z
    · rw [hH] at z; cases z
  have er := p.er
  refine ⟨⟨⟨er.mono, fun b u h => ?_, er.len, er.val, fun i s d h hs => ?_, er.apart⟩, ⟨p.st.up, fun b u h1 h2 h3 => ?_⟩, fun b h => ?_, p.bo⟩, g1⟩
  · have hb : b ≠ a := fun z => by rw [z, g2] at h; cases h
    rw [hid_ne hb]; exact er.ok b u h
  · obtain ⟨b, h1, h2⟩ := er.own i s d h hs
    have hb : b ≠ a := fun z => no ⟨i, s, h, by rw [hs]; rfl, by rw [← z]; exact h1⟩
    refine ⟨b, h1, h2.1, ?_⟩
    obtain ⟨_, h2⟩ := h2
    cases d with
    | list ds => obtain ⟨vs, q1, q2⟩ := h2; exact ⟨vs, by rw [hid_ne hb]; exact q1, q2⟩
    | dict kvs =>
      obtain ⟨vs, qs, q1, q2⟩ := h2
      exact ⟨vs, qs, q1.up fun o ho => by rw [hid_ne hb]; exact ho, q2⟩
    | none => exact h2
    | bool _ => exact h2
    | int _ => exact h2
    | str _ => exact h2
    | tuple _ => exact h2
  · obtain ⟨n1, n2⟩ := hid_some h1
    obtain ⟨q1, q2⟩ := p.st.kp b u n2 h2 h3
    exact ⟨by rw [hid_ne n1]; exact q1, q2⟩
  · rcases p.fl b h with z | z
    · exact .inl z
    · by_cases hb : b = a
      · subst hb; exact .inr hid_at
      · exact .inr (by rw [hid_ne hb]; exact z)
theorem wipe_eq {σ σ' : L2.St} {vs : List Nat} (h : ∀ j, j ∉ vs → σ'[j]? = σ[j]?) (hl : σ'.length = σ.length) : L2.wipe σ' vs = L2.wipe σ vs := by
  have wn : ∀ {τ : L2.St} {i : Nat} {us : List Nat}, i ∈ us → i < τ.length → (L2.wipe τ us)[i]? = some none := by
    intro τ i us
    induction us with
    | nil => intro h; simp at h
    | cons u us ih =>
      intro hi hlt
      unfold L2.wipe
      by_cases hu : u = i
      · subst hu
        rw [List.getElem?_set_self (by rw [L2.wipe_length]; exact hlt)]
      · rw [List.getElem?_set_ne hu]
        rcases List.mem_cons.mp hi with z | z
        · exact absurd z.symm hu
        · exact ih z hlt
  apply List.ext_getElem?
  intro i
  by_cases hi : i ∈ vs
  · by_cases hlt : i < σ.length
    · rw [wn hi hlt, wn hi (by rw [hl]; exact hlt)]
    · rw [List.getElem?_eq_none (by rw [L2.wipe_length]; omega), List.getElem?_eq_none (by rw [L2.wipe_length]; omega)]
  · rw [wipe_out' hi, wipe_out' hi, h i hi]
theorem wipe_wipe (σ : L2.St) (vs : List Nat) : L2.wipe (L2.wipe σ vs) vs = L2.wipe σ vs := wipe_eq (fun j hj => wipe_out' hj) (L2.wipe_length σ vs)
theorem calm_no {e : En} {sl : List Nat} (h : calmSl e sl = true) {i : Nat} (hi : i ∈ sl) {s : Sl} (hs : e[i]? = some (some s)) : ∃ d, s = .val d := by
  have := List.all_eq_true.mp h i hi
  rw [hs] at this
  cases s with
  | val d => exact ⟨d, rfl⟩
  | own d => cases this
  | bor d => cases this
/-- behind the block -/
theorem Pst.back {F1 H1 F' H' : Hp} {e1 ef : En} {σ : L2.St} {vs : List Nat} {D : Addr} (er1 : ER k F1 H1 e1 σ) (cs : calmSl e1 vs = true) (p : Pst k (wipeE e1 vs) (L2.wipe σ vs) F1 H1 ef (L2.wipe σ vs) F' (RL.hid D H')) (hD : H1 D = none) :
    Pst k e1 σ F1 H1 (backE e1 ef vs) σ F' H' := by
  have er := p.er.unhid
  have at_ : ∀ {i : Nat} {s : Sl}, (backE e1 ef vs)[i]? = some (some s) → (i ∈ vs ∧ e1[i]? = some (some s) ∧ ∃ d, s = .val d) ∨ (i ∉ vs ∧ ef[i]? = some (some s)) := by
    intro i s h
    by_cases hi : i ∈ vs
    · have := backE_in hi h
      exact .inl ⟨hi, this, calm_no cs hi this⟩
    · rw [backE_out hi] at h
      exact .inr ⟨hi, h⟩
  refine ⟨⟨er1.mono, er.ok, ?_, fun i d h => ?_, fun i s d h hs => ?_, fun i j s t hij hi hj hs ht => ?_⟩, ⟨p.st.up, fun a o h1 h2 h3 => ?_⟩, fun a h => ?_, fun i d h => ⟨rfl, ?_⟩⟩
  · rw [backE_len, er.len, L2.wipe_length]
  · rcases at_ h with ⟨_, h1, _⟩ | ⟨hi, h1⟩
    · obtain ⟨v, q1, q2⟩ := er1.val i d h1
      exact ⟨v, q1, q2.up er1.mono p.st.up⟩
    · obtain ⟨v, q1, q2⟩ := er.val i d h1
      rw [wipe_out' hi] at q1
      exact ⟨v, q1, q2⟩
  · rcases at_ h with ⟨_, _, c, rfl⟩ | ⟨hi, h1⟩
    · cases hs
    · obtain ⟨v, q1, q2⟩ := er.own i s d h1 hs
      rw [wipe_out' hi] at q1
      exact ⟨v, q1, q2⟩
  · rcases at_ hi with ⟨_, _, c, rfl⟩ | ⟨hi', h1⟩
    · cases hs
    · rcases at_ hj with ⟨_, _, c, rfl⟩ | ⟨hj', h2⟩
      · cases ht
      · have := er.apart i j s t hij h1 h2 hs ht
        rw [wipe_out' hi', wipe_out' hj'] at this
        exact this
  · obtain ⟨q1, q2⟩ := p.st.kp a o h1 h2 fun z => h3 z.wipe
    exact ⟨(hid_some q1).2, q2⟩
  · obtain ⟨i, s, h1, h2, h3⟩ := h
    rcases at_ h1 with ⟨_, _, c, rfl⟩ | ⟨hi, h1⟩
    · cases h2
    · rcases p.fl a ⟨i, s, h1, h2, by rw [wipe_out' hi]; exact h3⟩ with z | z
      · exact .inl z.wipe
      · exact .inr z
  · have hi : i ∉ vs := fun z => by
      obtain ⟨c, hc⟩ := calm_no cs z h
      cases hc
    obtain ⟨_, d', q⟩ := p.bo i d (by rw [wipeE_out hi]; exact h)
    exact ⟨d', by rw [backE_out hi]; exact q⟩
theorem lc_run {it : IM} {t : TM} {c : BM} {m : EM} {sl vs : List Nat} (hsl : ∀ j ∈ sl, j ∈ vs) : ∀ σ H Q, tE k g (compM it t c m vs) σ H Q → tLc (tI k g it) (gT k t sl) (tT k g c) (tK k g m) vs σ H Q := fun σ H Q ⟨F, e, res, e', er, hm, q⟩ => by
  obtain ⟨⟨ds, e1⟩, h1, hm⟩ := Option.bind_eq_some_iff.mp hm
  obtain ⟨⟨hlen, cs⟩, hm⟩ := Option.ite_none_right_eq_some.mp hm
  obtain ⟨⟨lf, ef⟩, h2, h3⟩ := Option.map_eq_some_iff.mp hm
  cases h3
  have hlen : ds.length < sizeLine := hlen
  refine ⟨F, e, ds, e1, er, h1, fun J F1 H1 p1 wl D hD => ?_⟩
  refine ⟨fun i n H2 => ∃ F2 en acc vacc l, ER k F2 (RL.hid D H2) en (L2.wipe σ vs) ∧ Up F1 F2 ∧ H2 D = some (.lst vacc) ∧ RepL k F2 acc vacc ∧ acc.length ≤ i ∧ i ≤ ds.length ∧ n = ds.length - i ∧
      (∀ j ∈ vs, ∀ d, en[j]? ≠ some (some (.bor d))) ∧ compL t c m vs g (ds.drop i) en = some (l, ef) ∧
      ∀ F' H' v', Pst k en (L2.wipe σ vs) F2 (RL.hid D H2) ef (L2.wipe σ vs) F' (RL.hid D H') → H' D = some (.lst v') → RepL k F' (acc ++ l) v' → Q (.ref D) H', ⟨ds.length, ?_⟩, ?_⟩
  · refine ⟨F1, wipeE e1 vs, [], [], lf, ?_, Up.refl _, upd_same, rfl, Nat.le_refl _, Nat.zero_le _, by simp, fun j hj d z => ?_, h2, fun F' H' v' p hv rv => ?_⟩
    · rw [hid_upd, hid_none hD]; exact p1.er.wipe vs
    · obtain ⟨z1, z2⟩ := wipeE_some z
      exact z2 hj
    · rw [hid_upd, hid_none hD] at p
      have p2 := Pst.back p1.er cs p hD
      refine q _ F' H' (p1.trans p2) (RR.ahead p1 ⟨D, rfl, ⟨p.er.hidF, v', hv, rv⟩, ?_, .inr hD⟩)
      rintro ⟨i, s, z1, z2, z3⟩
      rcases p2.fl D ⟨i, s, z1, z2, z3⟩ with z | z
      · obtain ⟨i0, s0, y1, y2, y3⟩ := z
        obtain ⟨d0, hd0⟩ := Option.isSome_iff_exists.mp y2
        obtain ⟨b, y4, y5⟩ := p1.er.own i0 s0 d0 y1 hd0
        rw [y3] at y4; cases y4
        obtain ⟨o, ho⟩ := y5.there
        rw [ho] at hD; cases hD
      · by_cases hi : i ∈ vs
        · have hb := backE_in hi z1
          obtain ⟨d, rfl⟩ := calm_no cs hi hb
          cases z2
        · rw [backE_out hi] at z1
          exact p.er.hidO ⟨i, s, z1, z2, by rw [wipe_out' hi]; exact z3⟩
  · rintro i n H2 ⟨F2, en, acc, vacc, l, er2, u2, hD2, ra, hai, hi, rfl, nb, hl, cont⟩
    by_cases hlt : i < ds.length
    · refine .inr ⟨wl.go i F2 H2 hlt u2 er2.unhid.ok, fun H' => ∃ F2 en acc vacc l, ER k F2 (RL.hid D H') en (L2.wipe σ vs) ∧ Up F1 F2 ∧ H' D = some (.lst vacc) ∧ RepL k F2 acc vacc ∧ acc.length ≤ i + 1 ∧
        (∀ j ∈ vs, ∀ d, en[j]? ≠ some (some (.bor d))) ∧ compL t c m vs g (ds.drop (i + 1)) en = some (l, ef) ∧
        ∀ F' H'' v', Pst k en (L2.wipe σ vs) F2 (RL.hid D H') ef (L2.wipe σ vs) F' (RL.hid D H'') → H'' D = some (.lst v') → RepL k F' (acc ++ l) v' → Q (.ref D) H'',
        fun H' ⟨F', en', acc', va', l', z1, z2, z3, z4, z5, z6, z7, z8⟩ => ⟨ds.length - (i + 1), by omega, F', en', acc', va', l', z1, z2, z3, z4, z5, hlt, rfl, z6, z7, z8⟩, fun x H3 y => ?_⟩
      have erU := er2.unhid
      obtain ⟨F3, d, hd, ok3, st3, rep⟩ := wl.yl i F2 H2 x H3 hlt u2 erU.ok y
      have p3 := erU.go ok3 st3
      have hdrop : ds.drop i = d :: ds.drop (i + 1) := by
        rw [List.drop_eq_getElem_cons hlt]
        rw [List.getElem?_eq_getElem hlt] at hd
        cases hd; rfl
      rw [hdrop] at hl
      obtain ⟨e4, h4, hl⟩ := Option.bind_eq_some_iff.mp hl
      obtain ⟨⟨b, e5⟩, h5, hl⟩ := Option.bind_eq_some_iff.mp hl
      refine ⟨F3, en, d, e4, p3.er, rep, h4, fun σ4 p4 c4 l4 => ?_⟩
      have hw : L2.wipe σ4 vs = L2.wipe σ vs := (wipe_eq (fun j hj => c4 j fun z => hj (hsl j z)) l4).trans (wipe_wipe σ vs)
      refine ⟨hw, F3, e4, b, e5, p4.er, h5, fun F5 H5 p5 => ?_⟩
      · have p35 := (p3.trans p4).trans p5
        cases b with
        | true =>
          refine iteT ?_
          obtain ⟨⟨r, e6⟩, h6, hl⟩ := Option.bind_eq_some_iff.mp hl
          obtain ⟨⟨l', ef'⟩, h7, h8⟩ := Option.map_eq_some_iff.mp hl
          cases h8
          refine ⟨F5, e5, r, e6, p5.er, h6, fun y F6 H6 p6 ry => ?_⟩
          have p36 := p35.trans p6
          obtain ⟨ph, hD6⟩ := p36.hid er2.hidF er2.hidO hD2
          have pw := ph.wiped hw nb
          refine ⟨vacc, hD6, by rw [← ra.length]; omega, F6, wipeE e6 vs, acc ++ [r.d], vacc ++ [y], l', ?_, u2.trans p36.st.up, upd_same, (ra.up er.mono p36.st.up).append ⟨y, [], rfl, ry, rfl⟩, by simp; omega, fun j hj d z => (wipeE_some z).2 hj, h7, fun F' H'' v' p hv rv => ?_⟩
          · rw [hid_upd]; exact pw.er
          · rw [hid_upd] at p
            refine cont F' H'' v' (pw.trans p) hv ?_
            rw [List.append_assoc] at rv
            exact rv
        | false =>
          refine iteF ?_
          obtain ⟨ph, hD5⟩ := p35.hid er2.hidF er2.hidO hD2
          have pw := ph.wiped hw nb
          exact ⟨F5, wipeE e5 vs, acc, vacc, l, pw.er, u2.trans p35.st.up, hD5, ra.up er.mono p35.st.up, by omega, fun j hj d z => (wipeE_some z).2 hj, hl, fun F' H'' v' p hv rv => cont F' H'' v' (pw.trans p) hv rv⟩
    · have e0 : i = ds.length := by omega
      subst e0
      rw [List.drop_length] at hl
      cases hl
      refine .inl ⟨wl.st F2 H2 u2 er2.unhid.ok, cont F2 H2 vacc (Pst.refl er2) hD2 (by rw [List.append_nil]; exact ra)⟩

/-! ### the rules -/
def trueM : BM := fun _ e => some (true, e)
theorem ptsNil : PTs X [] (tT k g trueM) := ⟨fun pins s σ H Q I ⟨F, e, b, e', er, hm, q⟩ => by
  cases hm
  exact pts_nil.run pins s σ H Q I (q F H (Pst.refl er))⟩
theorem ptsOne {c : Expr} {m : BM} (h : PT X c (tT k g m)) : PTs X [c] (tT k g m) := pts_one h
theorem peLc {elt tg iter : Expr} {ifs : List Expr} {scope : Scope} {own : List (Str × Nat)} {pos : Pos} {it : IM} {t : TM} {c : BM} {m : EM} {sl : List Nat} (hc : X.calm = true) (hN : X.N.Nodup) (hi : PI X tg iter (tI k g it)) (ok : BlkOk X.N X.env.scope scope own)
    (hg : ∀ (s : Shared) (H : Hp) (C : Addr) (cl : List (Str × Addr)) (fp : List Addr), PG (X.blk s H scope (compEnvC scope cl C X.env) fp) tg (gT k t sl)) (ht : ∀ (s : Shared) (H : Hp) (C : Addr) (cl : List (Str × Addr)) (fp : List Addr), PTs (X.blk s H scope (compEnvC scope cl C X.env) fp) ifs (tT k g c))
    (he : ∀ (s : Shared) (H : Hp) (C : Addr) (cl : List (Str × Addr)) (fp : List Addr), PE (X.blk s H scope (compEnvC scope cl C X.env) fp) elt (tK k g m)) (hs : notSet iter = true) (hsl : ∀ j ∈ sl, j ∈ own.map (·.2)) :
    PE X (.ListComp elt [⟨tg, iter, ifs, 0⟩] scope pos) (tE k g (compM it t c m (own.map (·.2)))) :=
  (pe_lc hc hN hi ok hg ht he (folded_no hs)).weak (lc_run hsl)
/-- name = [..] -/
theorem psSetLc {i : Nat} {y : Str} {py : Pos} {elt tg iter : Expr} {ifs : List Expr} {scope : Scope} {own : List (Str × Nat)} {pos spos : Pos} {it : IM} {t : TM} {c : BM} {m : EM} {sl : List Nat} (hc : X.calm = true) (hN : X.N.Nodup) (hy : X.N[i]? = some y) (hyl : X.env.scope.names.lookup y = some .local)
    (hsw : swapsWith (.ListComp elt [⟨tg, iter, ifs, 0⟩] scope pos) (some (.Name y py)) spos.line X.env = pure true) (hi : PI X tg iter (tI k g it)) (ok : BlkOk X.N X.env.scope scope own)
    (hg : ∀ (s : Shared) (H : Hp) (C : Addr) (cl : List (Str × Addr)) (fp : List Addr), PG (X.blk s H scope (compEnvC scope cl C X.env) fp) tg (gT k t sl)) (ht : ∀ (s : Shared) (H : Hp) (C : Addr) (cl : List (Str × Addr)) (fp : List Addr), PTs (X.blk s H scope (compEnvC scope cl C X.env) fp) ifs (tT k g c))
    (he : ∀ (s : Shared) (H : Hp) (C : Addr) (cl : List (Str × Addr)) (fp : List Addr), PE (X.blk s H scope (compEnvC scope cl C X.env) fp) elt (tK k g m)) (hs : notSet iter = true) (hsl : ∀ j ∈ sl, j ∈ own.map (·.2)) :
    PS X (.Assign [.Name y py] (.ListComp elt [⟨tg, iter, ifs, 0⟩] scope pos) spos) (tS k g (setM i (compM it t c m (own.map (·.2))))) :=
  (ps_setLc hc hN hy hyl hsw hi ok hg ht he (folded_no hs)).weak fun D σ H ⟨F, e, f, e', er, hm, q⟩ => by
    obtain ⟨⟨r, e1⟩, h1, h2⟩ := Option.bind_eq_some_iff.mp hm
    obtain ⟨e2, h3, h4⟩ := Option.map_eq_some_iff.mp h2
    cases h4
    exact lc_run hsl σ H (fun x H1 => gName i x σ H1 D.nx) ⟨F, e, r, e1, er, h1, fun v F' H' p rr => q _ F' H' (p.store rr h3)⟩
end
end RL
end
section
set_option Elab.async false
set_option linter.all false
set_option autoImplicit false
set_option maxRecDepth 100000
set_option maxHeartbeats 4000000
/-! R11: what is walked -/
namespace RL
open PySem PySem.Spec L2
open PyProof.Rows hiding St

/-! ### sources -/
inductive Src where
  | l (a : Addr) | t (a : Addr) | x (z : Str)
def Src.fp : Src → List Addr
  | .l a => [a]
  | .t a => [a]
  | .x _ => []
def signs (z : Str) : List D := z.cps.toList.map fun c => .str ⟨#[c]⟩
def signsV (z : Str) : List V := z.cps.toList.map fun c => .str ⟨#[c]⟩
def Src.has (K : PySem.W.Frag) (H : Hp) : Src → List V → Prop
  | .l a, xs => H a = some (.lst xs)
  | .t a, xs => SqT K H a xs
  | .x z, xs => xs = signsV z
def Src.val : Src → V
  | .l a => .ref a
  | .t a => .ref a
  | .x z => .str z
def Src.J (K : PySem.W.Frag) : Src → It
  | .l a => Itl K a
  | .t a => Itt K a
  | .x z => Its z
/-- the state of an iterator -/
def Src.at (it : Addr) (i : Nat) (h : Heap) : Src → Prop
  | .l a => h.IsListIter it a i
  | .t a => h.IsTupleIter it a i
  | .x z => ∃ t, h.IsStrIter it (strIterType z) z t i
def seqOf : D → Option (List D)
  | .list ds => some ds
  | .tuple ds => some ds
  | .str z => some (signs z)
  | _ => none
theorem RepL.signs {k : KX} {F : Hp} : ∀ (cs : List Nat), RepL k F (cs.map fun c => .str ⟨#[c]⟩) (cs.map fun c => V.str ⟨#[c]⟩)
  | [] => rfl
  | _ :: cs => ⟨_, _, rfl, rfl, RepL.signs cs⟩
theorem signsV_len (z : Str) : (signsV z).length = z.cps.size := by simp [signsV]
theorem Rep.src {k : KX} {F : Hp} {d : D} {v : V} {ds : List D} (h : Rep k F d v) (hi : seqOf d = some ds) :
    ∃ (S : Src) (xs : List V), v = S.val ∧ RepL k F ds xs ∧ ∀ F' H', Up F F' → OkF F' H' → S.has k.K H' xs := by
  cases d <;> first | cases hi | skip
  · cases h
    exact ⟨.x _, _, rfl, RepL.signs _, fun _ _ _ _ => rfl⟩
  · obtain ⟨a, vs, rfl, h1, h2⟩ := h
    exact ⟨.l a, vs, rfl, h2, fun F' H' u ok => ok _ _ (u.lst h1)⟩
  · obtain ⟨a, vs, rfl, h1, h2⟩ := h
    exact ⟨.t a, vs, rfl, h2, fun F' H' u ok => ok.t (u.n h1).t⟩
theorem vals_getV : ∀ {xs : List V} {us : List Value} {i : Nat} {u : Value}, Vals xs us → us[i]? = some u → ∃ x, xs[i]? = some x ∧ RelV x u
  | _, _, _, _, .nil, h => by simp at h
  | _, _, 0, _, .cons r _, h => by simp at h; subst h; exact ⟨_, rfl, r⟩
  | _, _, i + 1, _, .cons _ t, h => by
    obtain ⟨x, h1, h2⟩ := vals_getV (i := i) t (by simpa using h)
    exact ⟨x, by simpa using h1, h2⟩
section
variable {X : Cx} {pins : List (Addr × Obj)} {σ : L2.St} {H : Hp} {s : Shared}
theorem Src.inj (I : Inv X pins σ H s) {S : Src} {xs ys : List V} (h : S.has X.K H xs) (h' : S.has X.K H ys) : xs = ys := by
  cases S with
  | l a =>
    have h : H a = _ := h
    have h' : H a = _ := h'
    rw [h] at h'
    cases h'; rfl
  | t a => exact I.tuple_inj h h'
  | x z => exact Eq.trans h (Eq.symm h')
/-- what is drawn from a source, as it stands -/
theorem Src.draws (I : Inv X pins σ H s) (hc : X.calm = true) {S : Src} {xs : List V} (h : S.has X.K H xs) {it : Addr} (hne : ∀ a ∈ S.fp, a ≠ it) {i : Nat} (st : S.at it i s.heap) :
    ∃ P St, Draws X.prog X.w X.A.in1 it (it :: S.fp) xs.length P St ∧ St i s.heap ∧ (∀ j h, St j h → S.at it j h) ∧ ∀ j v, P j v → ∃ x, xs[j]? = some x ∧ RelV x v := by
  have hh : X.A.in1.handled = none := I.ok.hd hc
  cases S with
  | l a =>
    obtain ⟨its, rv, p, _⟩ := I.list (SqL.of h)
    have e : its.toArray.size = xs.length := by simp [rv.length]
    have D1 := Draws.list (prog := X.prog) (w := X.w) hh it a (hne a (by simp [Src.fp])) its.toArray
    rw [e] at D1
    refine ⟨_, _, D1, ⟨st, p.isList⟩, fun j h q => q.1, fun j v q => ?_⟩
    exact vals_getV rv (by simpa using q)
  | t a =>
    obtain ⟨its, rv, p, _⟩ := I.tuple h
    have e : its.toArray.size = xs.length := by simp [rv.length]
    have D1 := Draws.tuple (prog := X.prog) (w := X.w) hh it a (hne a (by simp [Src.fp])) its.toArray
    rw [e] at D1
    refine ⟨_, _, D1, ⟨st, p⟩, fun j h q => q.1, fun j v q => ?_⟩
    exact vals_getV rv (by simpa using q)
  | x z =>
    obtain ⟨t, st⟩ := st
    have e : xs = signsV z := h
    subst e
    have D1 := Draws.text (prog := X.prog) (w := X.w) hh it z t
    rw [← signsV_len] at D1
    refine ⟨_, _, D1, st, fun j h q => ⟨t, q⟩, fun j v q => ?_⟩
    obtain ⟨c, u, hc', rfl⟩ := q
    exact ⟨.str ⟨#[c]⟩, by simp [signsV, hc'], u, rfl⟩
/-- it begins -/
theorem Src.begins (I : Inv X pins σ H s) {S : Src} {xs : List V} (h : S.has X.K H xs) {v : Value} (r : RelV S.val v) :
    ∃ o Hh, Begins v o Hh ∧ Hh s.heap ∧ (∀ (h' : Heap) (it : Addr), h'.get? it = some o → S.at it 0 h') ∧ ∀ a ∈ S.fp, a < s.heap.objs.size := by
  cases S with
  | l a =>
    cases r
    obtain ⟨its, rv, p, _⟩ := I.list (SqL.of h)
    exact ⟨_, _, begins_list a its.toArray, p.isList, fun h' it e => ⟨_, e, rfl, rfl⟩, fun b hb => by simp [Src.fp] at hb; subst hb; exact p.lt⟩
  | t a =>
    cases r
    obtain ⟨its, rv, p, _⟩ := I.tuple h
    obtain ⟨o, ho, _⟩ := id p
    exact ⟨_, _, begins_tuple a its.toArray, p, fun h' it e => ⟨_, e, rfl, rfl⟩, fun b hb => by simp [Src.fp] at hb; subst hb; exact Heap.lt_size ho⟩
  | x z =>
    obtain ⟨t, rfl⟩ := r
    exact ⟨_, _, begins_text z t, trivial, fun h' it e => ⟨t, _, e, rfl, rfl⟩, fun b hb => by simp [Src.fp] at hb⟩
theorem Src.at_up {S : Src} {it : Addr} {i : Nat} {h h' : Heap} (st : S.at it i h) (hk : ∀ o, h.get? it = some o → h'.get? it = some o) : S.at it i h' := by
  cases S with
  | l a => exact st.at hk
  | t a => exact st.at hk
  | x z => obtain ⟨t, o, ho, r⟩ := st; exact ⟨t, o, hk o ho, r⟩
theorem Src.at_there {S : Src} {it : Addr} {i : Nat} {h : Heap} (st : S.at it i h) : ∃ o, h.get? it = some o ∧ ∀ v, o.data ≠ .cell v := by
  cases S with
  | l a => obtain ⟨o, e, c, d⟩ := st; exact ⟨o, e, fun v z => by rw [d] at z; cases z⟩
  | t a => obtain ⟨o, e, c, d⟩ := st; exact ⟨o, e, fun v z => by rw [d] at z; cases z⟩
  | x z => obtain ⟨t, o, e, c, d⟩ := st; exact ⟨o, e, fun v z => by rw [d] at z; cases z⟩
end

/-! ### a list, a tuple, a str; a dict by its keys -/
def iAny (K : PySem.W.Frag) (te : TE) : TI := fun σ H R => te σ H fun v H1 => (∃ (S : Src) (xs : List V), v = S.val ∧ S.has K H1 xs ∧ R (S.J K) H1) ∨
  (∃ d o kvs, v = .ref d ∧ H1 d = some (.frz o (.dK kvs)) ∧ R (Itk d o kvs) H1) ∨
  ∃ d kvs, v = .ref d ∧ H1 d = some (.dK kvs) ∧ ∀ o, R (Itk d o kvs) (upd H1 d (.frz o (.dK kvs)))
theorem pi_any {X : Cx} {tg e : Expr} {te : TE} (he : PE X e te) : PI X tg e (iAny X.K te) := by
  refine ⟨fun pins s σ H R I h => ?_⟩
  refine thn (he.run pins s σ H _ I h) fun v s1 ⟨y, H1, I1, r1, q⟩ => ?_
  have keys : ∀ {H1 : Hp} {d : Addr} {o : Obj} {kvs : List (Key × V)}, Inv X pins σ H1 s1 → H1 d = some (.frz o (.dK kvs)) → R (Itk d o kvs) H1 →
      wpAny (model X.prog X.w) X.A (pyIter (.ref d)) (PIE X pins σ tg R) X.xe s1 := by
    intro H1 d o kvs I1 hd q
    obtain ⟨hs, hgd, hx, es, ep, vs, hdt, hsz, kv, hm⟩ := I1.frzK hd
    have st0 : ∀ (c : Heap), c.get? s1.heap.objs.size = some { cls := .type "dict_keyiterator", data := .fields #[.ref d, .int 0 0, .int es.size 0, .int ep 0] } → c.IsKeyIter s1.heap.objs.size d 0 kvs.length ep := fun c hc => ⟨_, hc, rfl, by rw [hsz]; rfl⟩
    exact iter_keys hs hgd hx hdt (pi_one (tk := s1.toks) I1 _ (turn_keys _ hdt) (st0 _ (Heap.get?_push_size _ rfl)) q)
  rcases q with ⟨S, xs, rfl, hS, q⟩ | ⟨d, o, kvs, rfl, hd, q⟩ | ⟨d, kvs, rfl, hd, q⟩
  · cases S with
    | l a =>
      cases r1
      obtain ⟨its, rv, p, _⟩ := I1.list (SqL.of hS)
      exact wpAny_pyIter_list p.isList (pi_one (tk := s1.toks) I1 _ (turn_list a _) ⟨_, Heap.get?_push_size _ rfl, rfl, rfl⟩ q)
    | t a =>
      cases r1
      obtain ⟨its, rv, p, _⟩ := I1.tuple hS
      exact wpAny_pyIter_tuple (show s1.heap.IsTuple a its.toArray from p) (pi_one (tk := s1.toks) I1 _ (turn_tuple a _) ⟨_, Heap.get?_push_size _ rfl, rfl, rfl⟩ q)
    | x z =>
      obtain ⟨t, rfl⟩ := r1
      have ty : strIterType z = "str_ascii_iterator" ∨ strIterType z = "str_iterator" := by
        unfold strIterType
        split
        · exact .inl rfl
        · exact .inr rfl
      exact wpAny_pyIter_strU (pi_one (tk := s1.toks) I1 _ (turn_str _ z t _ ty) ⟨_, Heap.get?_push_size _ rfl, rfl, rfl⟩ q)
  · cases r1
    exact keys I1 hd q
  · cases r1
    obtain ⟨o, I2⟩ := I1.lock hd trivial
    exact keys I2 upd_same (q o)
def keyD : Key → D
  | .inl i => .int i
  | .inr s => .str s
theorem keyK_keyD {d : D} {x : Key} (h : keyK d = some x) : d = keyD x := by
  cases d <;> first | (cases h; rfl) | cases h
theorem rep_keyD {k : KX} {F : Hp} (x : Key) : Rep k F (keyD x) (kV x) := by
  cases x <;> rfl
/-- the keys of a dict of ints and strs -/
def dKeys (kvs : List (D × D)) : Option (List D) := if (kvs.all fun p => (keyK p.1).isSome) = true then some (kvs.map (·.1)) else none
def itemsOf : D → Option (List D)
  | .dict kvs => dKeys kvs
  | d => seqOf d
/-- a dict whose keys are ints and strs -/
theorem Rep.dK {k : KX} {F : Hp} {kvs : List (D × D)} {v : V} (h : Rep k F (.dict kvs) v) (hk : (kvs.all fun p => (keyK p.1).isSome) = true) :
    ∃ a ks, v = .ref a ∧ Rd F a (.dK ks) ∧ kvs.map (fun p => keyK p.1) = ks.map (fun p => some p.1) ∧ RepV k F kvs (ks.map (·.2)) ∧ (ks.map (·.1)).Nodup := by
  obtain ⟨a, vs, qs, rfl, s, r, q⟩ := h
  rcases s with (⟨ks, h1, h2, rfl, h4, _⟩ | ⟨xs, h1, h2, h3, h4, h5, _⟩) | ⟨t, rest, v0, fvs, e1, _⟩
  · exact ⟨a, ks, rfl, h1, h2, r, h4⟩
  · exfalso
    cases kvs with
    | nil =>
      cases xs with
      | nil => exact h2 rfl
      | cons y ys => cases h5
    | cons p ps =>
      have hk1 : (keyK p.1).isSome = true := by
        have := hk
        simp at this
        simpa using this.1
      cases xs with
      | nil => cases h5
      | cons y ys =>
        have h6 : keyT p.1 = some y.1 := by
          simp at h5
          exact h5.1
        obtain ⟨pk, pv⟩ := p
        cases pk <;> first | cases h6 | cases hk1
  · exfalso
    subst e1
    simp [keyK] at hk
/-- the lock of a dict that is known -/
theorem lock_pst {k : KX} {F H : Hp} {e : En} {σ : L2.St} {d : Addr} {ks : List (Key × V)} (er : ER k F H e σ) (h : F d = some (.dK ks)) (o : Obj) :
    Pst k e σ F H e σ (upd F d (.frz o (.dK ks))) (upd H d (.frz o (.dK ks))) := by
  refine er.go (fun a u hu => ?_) ⟨fun a u hu => ?_, fun a u h1 h2 _ => ?_⟩
  · by_cases ha : a = d
    · subst ha; rw [upd_same] at hu ⊢; exact hu
    · rw [upd_ne ha] at hu ⊢; exact er.ok a u hu
  · by_cases ha : a = d
    · subst ha
      rw [h] at hu; cases hu
      exact .inr ⟨trivial, o, upd_same⟩
    · exact .inl (by rw [upd_ne ha]; exact hu)
  · have ha : a ≠ d := fun z => by rw [z, h] at h2; cases h2
    rw [upd_ne ha, upd_ne ha]
    exact ⟨h1, h2⟩
def itM (m : EM) : IM := fun g e => (m g e).bind fun r => (itemsOf r.1.d).map fun ds => (ds, r.2)
theorem seq_walk {k : KX} {F1 : Hp} {S : Src} {ds : List D} {xs : List V} (r : RepL k F1 ds xs) (hm : k.Mono) (hS : ∀ F' H', Up F1 F' → OkF F' H' → S.has k.K H' xs) : WlkD k (S.J k.K) ds F1 := by
  have stay : ∀ {F H : Hp} {i : Nat} {x : V}, Up F1 F → OkF F H → xs[i]? = some x → ∃ F' d, ds[i]? = some d ∧ OkF F' H ∧ Stp (fun _ => False) F H F' H ∧ Rep k F' d x := by
    intro F H i x u ok hx
    obtain ⟨d, h1, h2⟩ := r.getV hx
    exact ⟨F, d, h1, ok, Stp.refl, h2.up hm u⟩
  have len := r.length
  cases S with
  | l a =>
    refine ⟨fun i F H hi u ok => ⟨xs, xs[i], SqL.of (hS F H u ok), by simp⟩, fun F H u ok => ⟨xs, SqL.of (hS F H u ok), by omega⟩, fun i F H x H' hi u ok y => ?_⟩
    obtain ⟨rfl, y⟩ := y
    exact stay u ok (y xs (SqL.of (hS F _ u ok)))
  | t a =>
    refine ⟨fun i F H hi u ok => ⟨xs, xs[i], hS F H u ok, by simp⟩, fun F H u ok => ⟨xs, hS F H u ok, by omega⟩, fun i F H x H' hi u ok y => ?_⟩
    obtain ⟨rfl, y⟩ := y
    exact stay u ok (y xs (hS F _ u ok))
  | x z =>
    have e : xs = signsV z := hS F1 F1 (Up.refl _) (fun _ _ h => h)
    subst e
    rw [signsV_len] at len
    refine ⟨fun i F H hi u ok => by rw [len] at hi; exact hi, fun F H u ok => by rw [len]; exact Nat.le_refl _, fun i F H x H' hi u ok y => ?_⟩
    obtain ⟨rfl, c, hc, rfl⟩ := y
    exact stay u ok (by simp [signsV, hc])
theorem keys_walk {k : KX} {F1 : Hp} {d : Addr} {o : Obj} {kvs : List (D × D)} {ks : List (Key × V)} (hF : F1 d = some (.frz o (.dK ks))) (hk : kvs.map (fun p => keyK p.1) = ks.map (fun p => some p.1)) : WlkD k (Itk d o ks) (kvs.map (·.1)) F1 := by
  have len : kvs.length = ks.length := by simpa using congrArg List.length hk
  have stay : ∀ {F H : Hp}, Up F1 F → OkF F H → H d = some (.frz o (.dK ks)) := by
    intro F H u ok
    rcases u d _ hF with h | ⟨h, _⟩
    · exact ok _ _ h
    · exact h.elim
  refine ⟨fun i F H hi u ok => ⟨stay u ok, by simpa [len] using hi⟩, fun F H u ok => ⟨stay u ok, by simp [len]⟩, fun i F H x H' hi u ok y => ?_⟩
  obtain ⟨rfl, key, v, h1, rfl⟩ := y
  have hi' : i < kvs.length := by simpa using hi
  have h2 : (kvs.map (fun p => keyK p.1))[i]? = some (some key) := by rw [hk]; simp [h1]
  rw [List.getElem?_map, List.getElem?_eq_getElem hi'] at h2
  have h3 := keyK_keyD (Option.some.inj h2)
  refine ⟨F, keyD key, ?_, ok, Stp.refl, rep_keyD key⟩
  rw [List.getElem?_map, List.getElem?_eq_getElem hi', ← h3]; rfl
section
variable {X : Cx} {k : KX} {g : G}
theorem piSeq {tg e : Expr} {m : EM} (hK : X.K = k.K) (he : PE X e (tE k g m)) : PI X tg e (tI k g (itM m)) :=
  (pi_any (tK_of he)).weak fun σ H R ⟨F, en, ds, e', er, hm, q⟩ => by
    obtain ⟨⟨r, e1⟩, h1, h2⟩ := Option.bind_eq_some_iff.mp hm
    obtain ⟨ds', h3, h4⟩ := Option.map_eq_some_iff.mp h2
    cases h4
    refine ⟨F, en, r, e1, er, h1, fun v F1 H1 p1 rep => ?_⟩
    have h3 : itemsOf r.d = some ds := h3
    unfold itemsOf at h3
    split at h3
    · rename_i kvs hd
      rw [hd] at rep
      obtain ⟨hk, h3⟩ := Option.ite_none_right_eq_some.mp h3
      cases h3
      obtain ⟨a, ks, rfl, rd, hks, rv, nd⟩ := rep.dK hk
      rcases rd with rd | ⟨o, rd⟩
      · refine .inr (.inr ⟨a, ks, rfl, p1.er.ok _ _ rd, fun o => ?_⟩)
        have p2 := lock_pst p1.er rd o
        exact q _ _ _ (p1.trans p2) (keys_walk upd_same hks)
      · exact .inr (.inl ⟨a, o, ks, rfl, p1.er.ok _ _ rd, q _ F1 H1 p1 (keys_walk rd hks)⟩)
    · obtain ⟨S, xs, e1, r1, hS⟩ := rep.src h3
      refine .inl ⟨S, xs, e1, by rw [hK]; exact hS F1 H1 (Up.refl _) p1.er.ok, ?_⟩
      rw [hK]
      exact q _ F1 H1 p1 (seq_walk r1 er.mono hS)
end
end RL
end
section
set_option Elab.async false
set_option linter.all false
set_option autoImplicit false
set_option maxRecDepth 100000
set_option maxHeartbeats 4000000
/-! R12: enumerate, zip over sources; range -/
namespace RL
open PySem PySem.Spec L2
open PyProof.Rows hiding St

/-! ### enumerate -/
def ItE (K : PySem.W.Frag) (S : Src) : It :=
  ⟨fun i H => ∃ xs, S.has K H xs ∧ i < xs.length, fun i H v H' => ∃ T x, v = .ref T ∧ H T = none ∧ ∃ o : Obj, o.dict = none ∧ H' = upd H T (.frz o (.tup [.int (i : Nat), x])) ∧ ∀ xs, S.has K H xs → xs[i]? = some x, fun i H => ∃ xs, S.has K H xs ∧ xs.length = i⟩
theorem turn_enumS {P : Program} {w : World} {K : PySem.W.Frag} {elts : List Expr} {kk : Nat} {tpos : Pos} {S : Src} {e it : Addr} (hne : e ≠ it) (h1 : ∀ a ∈ S.fp, a ≠ it) (h2 : ∀ a ∈ S.fp, a ≠ e) :
    Turn P w K (.Tuple elts kk tpos) (ItE K S) [e, it] e (fun i h => (∃ old, IsEnum h e it ((i : Nat) : Int) old) ∧ S.at it i h) where
  mem := by simp
  obj := fun i h st b hb => by
    obtain ⟨⟨old, he⟩, hi⟩ := st
    rcases (by simpa using hb : b = e ∨ b = it) with z | z
    · rw [z]; exact ⟨_, he, fun v q => nomatch q⟩
    · rw [z]; exact Src.at_there hi
  keep := fun i h h' st k => ⟨⟨st.1.choose, k e (by simp) _ st.1.choose_spec⟩, Src.at_up st.2 fun o q => k it (by simp) o q⟩
  item := by
    intro X hP hw hK hc i pins s σ H E I hf st hg
    subst hP hw hK
    obtain ⟨⟨old, he⟩, hit⟩ := st
    obtain ⟨xs, hq, hlt⟩ := hg
    obtain ⟨Pv, St, D1, st1, stb, pv⟩ := Src.draws I hc hq h1 hit
    have hel : e < s.heap.objs.size := Heap.lt_size he
    have hil : it < s.heap.objs.size := by obtain ⟨_, q, _⟩ := Src.at_there hit; exact Heap.lt_size q
    refine wpAny_pyNext_enum_itemD D1 he st1 hlt hne (fun z => ?_) fun u h' tk hu ho hit' hT hsz hk => ?_
    · rcases List.mem_cons.mp z with z | z
      · exact hne z
      · exact h2 e z rfl
    obtain ⟨x, hx, ru⟩ := pv i u hu
    refine ⟨_, rfl, wpAny_letOwnedTupleGo_enum (s := { s with heap := h', toks := tk + 1 }) ho fun h'' he' sb => ?_⟩
    have hT2 := (sb.2 _ (Nat.ne_of_gt hel)).trans hT
    have new : ObjOk X.prog X.w (upd H s.heap.objs.size (.frz (tupO [.int i tk, u]) (.tup [.int (i : Nat), x]))) h'' s.heap.objs.size (.frz (tupO [.int i tk, u]) (.tup [.int (i : Nat), x])) :=
      ⟨hT2, (by decide : 2 ≤ sizeLine), [.int i tk, u], .cons ⟨_, rfl⟩ (.cons ru .nil), ⟨_, hT2, rfl, _, rfl⟩⟩
    have I1 := I.turnedNew (t' := tk + 1) (ch := [e, it]) (fun b ob hb q => (sb.2 b (fun z => hb (by simp [z]))).trans (hk b ob (fun z => hb (by simp [z])) (fun z => hb (by simp [z])) q)) hf (Nat.le_refl _) new
    refine ⟨.ref s.heap.objs.size, _, I1, rfl, ⟨_, x, rfl, I.hok.fresh (Nat.le_refl _), _, rfl, rfl, fun ys hy => by rw [Src.inj I hy hq]; exact hx⟩, ⟨⟨u, ?_⟩, Src.at_up (stb _ _ hit') fun o q => (sb.2 it (Ne.symm hne)).trans q⟩, fun b hb => ?_⟩
    · rw [show ((i + 1 : Nat) : Int) = (i : Int) + 1 by omega]; exact he'
    · have hb' : b < s.heap.objs.size := by
        rcases (by simpa using hb : b = e ∨ b = it) with z | z
        · rw [z]; exact hel
        · rw [z]; exact hil
      rw [upd_ne (Nat.ne_of_lt hb')]
      exact (hf b hb).1
  done := by
    intro X hP hw hK hc i pins s σ H E I hf st hg
    subst hP hw hK
    obtain ⟨⟨old, he⟩, hit⟩ := st
    obtain ⟨xs, hq, rfl⟩ := hg
    obtain ⟨Pv, St, D1, st1, _, _⟩ := Src.draws I hc hq h1 hit
    obtain ⟨f0, f1, f2, f3, f4, f5⟩ := hf it (by simp)
    exact wpAny_pyNext_enum_endD D1 he st1 fun h' eb => ⟨rfl, I.turned (t' := s.toks) (fun b o hb q => eb b o hb q) f0 f1 f3 f4 f5⟩
  self := fun A i s Q E st h => wpAny_pyIter_enum st.1.choose_spec h
theorem meets_enumS {v : Value} {o : Obj} {Hh : Heap → Prop} (B : Begins v o Hh) : Meets (Builtin.«enumerate.__new__» ⟨[.type "enumerate", v], []⟩) (fun _ R s => Hh s.heap ∧
    R (.ok (.ret (.ref (s.heap.push o).objs.size))) { s with heap := (s.heap.push o).push { cls := .type "enumerate", data := .fields #[.none, .bool false, .ref s.heap.objs.size, rawInt 0, .none, .none] } }) :=
  .of_wp fun prog w A R s h => by
    obtain ⟨hp, g, d, tk, os⟩ := s
    obtain ⟨h1, h⟩ := h
    have hsub := sub_enumerate
    have q1 : ∀ {A' : Around} {E Q : Value → Shared → Prop}, Q (.ref hp.objs.size) ⟨hp.push o, g, d, tk, os⟩ → wpAny (model prog w) A' (pyIter v) Q E ⟨hp, g, d, tk, os⟩ := fun q => B.iter prog w _ _ ⟨hp, g, d, tk, os⟩ _ h1 q
    wp_walk using q1
    refine wpAny_stack_any fun st => wpAny_pure ?_
    split
    · rename_i c _ _ _ _ _
      cases (c == Value.type "enumerate") <;> (wp_walk using q1; exact ⟨_, rfl, h⟩)
    · wp_walk using q1
      exact ⟨_, rfl, h⟩
theorem enumS_begins {prog : Program} {w : World} {A : Around} {E : Value → Shared → Prop} {s : Shared} {v : Value} {o : Obj} {Hh : Heap → Prop} {Q : Value → Shared → Prop} (B : Begins v o Hh) (h1 : Hh s.heap)
    (h : ∀ h', IsEnum h' (s.heap.objs.size + 1) s.heap.objs.size 0 .none → h'.get? s.heap.objs.size = some o → (∀ b o, s.heap.get? b = some o → h'.get? b = some o) → Q (.ref (s.heap.objs.size + 1)) { s with heap := h' }) :
    wpAny (model prog w) A (call (.type "enumerate") [v]) Q E s := by
  refine callType_new F.called_enumerate (by decide) (F.typeCall_enumerate_1 _) (F.newCall_enumerate_1 _) (fun obj => F.args_object_init_2 obj _) F.entry_enumerate_new (meets_enumS B) ⟨h1, ?_⟩
  have hz : (s.heap.push o).objs.size = s.heap.objs.size + 1 := Heap.size_push ..
  show _ ∧ _
  rw [hz]
  have he : IsEnum ((s.heap.push o).push { cls := .type "enumerate", data := .fields #[.none, .bool false, .ref s.heap.objs.size, rawInt 0, .none, .none] }) (s.heap.objs.size + 1) s.heap.objs.size 0 .none := by
    have := Heap.get?_push_size (s.heap.push o) (o := { cls := .type "enumerate", data := .fields #[.none, .bool false, .ref s.heap.objs.size, rawInt 0, .none, .none] }) rfl
    rw [hz] at this; exact this
  exact ⟨⟨_, he, rfl⟩, h _ he (Heap.get?_push_of_some _ (Heap.get?_push_size _ B.free)) fun b o x => Heap.get?_push_of_some _ (Heap.get?_push_of_some _ x)⟩
def iEnumS (K : PySem.W.Frag) (ta : TA) : TI := fun σ H R => ta σ H fun vs H1 => ∃ (S : Src) (xs : List V), vs = [S.val] ∧ S.has K H1 xs ∧ R (ItE K S) H1
theorem fpAll {X : Cx} {pins : List (Addr × Obj)} {σ : L2.St} {H : Hp} {s : Shared} (I : Inv X pins σ H s) {l : List Addr} (h : ∀ b ∈ l, s.heap.objs.size ≤ b) : ∀ b ∈ l, FpOk X pins H b := fun b hb => I.fpOk (h b hb) (I.hok.fresh (h b hb))
theorem pi_enumS {X : Cx} {e : Expr} {ta : TA} {p pos tpos : Pos} {elts : List Expr} {kk : Nat} (hg : Gl X "enumerate") (hm : X.mg "enumerate" = none) (ha : PA X [e] ta) (hs : notStar e = true) :
    PI X (.Tuple elts kk tpos) (.Call (.Name "enumerate" p) [e] [] pos) (iEnumS X.K ta) := by
  refine ⟨fun pins s σ H R I h => ?_⟩
  refine Call_ (ld_blt I hg hm boot_enumerate (PyProof.Rows.callWith_type1 (thn (ha.run pos pins s σ H _ I h) fun us s1 ⟨vs, H1, I1, r1, q1⟩ => ?_) (star_eq hs) rfl))
  obtain ⟨S, xs, rfl, hq, q⟩ := q1
  obtain ⟨u, rfl, ru⟩ := Vals.one r1
  obtain ⟨o, Hh, B, hh, st0, fl⟩ := Src.begins I1 hq ru
  refine enumS_begins B hh fun h' he hit hk => wpAny_pyIter_enum he ?_
  have I2 : Inv X pins σ H1 { s1 with heap := h' } := I1.kept (t' := s1.toks) hk
  exact ⟨s1.heap.objs.size + 1, [s1.heap.objs.size + 1, s1.heap.objs.size], _, _, H1, rfl, I2, turn_enumS (e := s1.heap.objs.size + 1) (Nat.succ_ne_self _) (fun a hf => Nat.ne_of_lt (fl a hf)) (fun a hf => Nat.ne_of_lt (Nat.lt_succ_of_lt (fl a hf))), ⟨⟨.none, he⟩, st0 _ _ hit⟩,
    fpAll I1 fun b hb => by
      rcases (by simpa using hb : b = s1.heap.objs.size + 1 ∨ b = s1.heap.objs.size) with z | z
      · rw [z]; exact Nat.le_succ _
      · rw [z]; exact Nat.le_refl _, q⟩
/-- a new pair -/
theorem pair_stp {k : KX} {F H : Hp} {T : Addr} {d1 d2 : D} {x y : V} {o : Obj} (hd : o.dict = none) (hm : k.Mono) (ok : OkF F H) (hT : H T = none) (r1 : Rep k F d1 x) (r2 : Rep k F d2 y) :
    ∃ F', OkF F' (upd H T (.frz o (.tup [x, y]))) ∧ Stp (fun _ => False) F H F' (upd H T (.frz o (.tup [x, y]))) ∧ Rep k F' (.tuple [d1, d2]) (.ref T) :=
  new_tup (Q := fun v H' => ∃ F', OkF F' H' ∧ Stp (fun _ => False) F H F' H' ∧ Rep k F' (.tuple [d1, d2]) v) hm ok hT (ds := [d1, d2]) ⟨x, [y], rfl, r1, y, [], rfl, r2, rfl⟩ (fun v F' H' ok' st rn => ⟨F', ok', st, rn⟩) hd
def numbered (i : Nat) : List D → List D
  | [] => []
  | d :: ds => .tuple [.int i, d] :: numbered (i + 1) ds
theorem numbered_get : ∀ {ds : List D} {i j : Nat} {d : D}, ds[j]? = some d → (numbered i ds)[j]? = some (.tuple [.int ((i + j : Nat) : Int), d])
  | [], _, _, _, h => by simp at h
  | e :: ds, i, 0, d, h => by simp at h; subst h; rfl
  | e :: ds, i, j + 1, d, h => by
    have := numbered_get (ds := ds) (i := i + 1) (j := j) (by simpa using h)
    rw [show i + (j + 1) = i + 1 + j by omega]
    simpa [numbered] using this
theorem numbered_len : ∀ (ds : List D) (i : Nat), (numbered i ds).length = ds.length
  | [], _ => rfl
  | _ :: ds, i => by simp [numbered, numbered_len ds]
theorem enum_walk {k : KX} {F1 : Hp} {S : Src} {ds : List D} {xs : List V} (r : RepL k F1 ds xs) (hm : k.Mono) (hS : ∀ F' H', Up F1 F' → OkF F' H' → S.has k.K H' xs) : WlkD k (ItE k.K S) (numbered 0 ds) F1 := by
  have len := r.length
  refine ⟨fun i F H hi u ok => ⟨xs, hS F H u ok, by rw [numbered_len] at hi; omega⟩, fun F H u ok => ⟨xs, hS F H u ok, by rw [numbered_len, len]⟩, fun i F H v H' hi u ok y => ?_⟩
  obtain ⟨T, x, rfl, hT, o, hd, rfl, y⟩ := y
  obtain ⟨d, h1, h2⟩ := r.getV (y xs (hS F _ u ok))
  obtain ⟨F', a1, a2, a3⟩ := pair_stp (d1 := .int (i : Nat)) hd hm ok hT rfl (h2.up hm u)
  exact ⟨F', _, by simpa using numbered_get (i := 0) h1, a1, a2, a3⟩
def enumM (m : EM) : IM := fun g e => (m g e).bind fun r => (seqOf r.1.d).map fun ds => (numbered 0 ds, r.2)

/-! ### zip -/
def ItZ (K : PySem.W.Frag) (S S2 : Src) : It :=
  ⟨fun i H => ∃ xs ys, S.has K H xs ∧ S2.has K H ys ∧ i < xs.length ∧ i < ys.length,
    fun i H v H' => ∃ T x y, v = .ref T ∧ H T = none ∧ ∃ o : Obj, o.dict = none ∧ H' = upd H T (.frz o (.tup [x, y])) ∧ (∀ xs, S.has K H xs → xs[i]? = some x) ∧ ∀ ys, S2.has K H ys → ys[i]? = some y,
    fun i H => ∃ xs ys, S.has K H xs ∧ S2.has K H ys ∧ i = min xs.length ys.length⟩
theorem turn_zipS {P : Program} {w : World} {K : PySem.W.Frag} {elts : List Expr} {kk : Nat} {tpos : Pos} {S S2 : Src} {z TI TO i1 i2 : Addr} (Z : ZipSep2 z TI TO i1 i2 (i1 :: S.fp) (i2 :: S2.fp)) (h1 : ∀ a ∈ S.fp, a ≠ i1) (h2 : ∀ a ∈ S2.fp, a ≠ i2) :
    Turn P w K (.Tuple elts kk tpos) (ItZ K S S2) [z, TI, TO, i1, i2] z (fun i h => IsZip h z TI TO .none ∧ IsTupOf2 h TI (.ref i1) (.ref i2) ∧ (∃ x y, IsTupOf2 h TO x y) ∧ S.at i1 i h ∧ S2.at i2 i h) where
  mem := by simp
  obj := fun i h st c hc => by
    obtain ⟨hz, hTI, ⟨x, y, hTO⟩, q1, q2⟩ := st
    rcases (by simpa using hc : c = z ∨ c = TI ∨ c = TO ∨ c = i1 ∨ c = i2) with q | q | q | q | q
    · rw [q]; exact ⟨_, hz, fun v q => nomatch q⟩
    · rw [q]; exact ⟨_, hTI, fun v q => nomatch q⟩
    · rw [q]; exact ⟨_, hTO, fun v q => nomatch q⟩
    · rw [q]; exact Src.at_there q1
    · rw [q]; exact Src.at_there q2
  keep := fun i h h' st k => by
    obtain ⟨hz, hTI, ⟨x, y, hTO⟩, q1, q2⟩ := st
    exact ⟨k z (by simp) _ hz, k TI (by simp) _ hTI, ⟨x, y, k TO (by simp) _ hTO⟩, Src.at_up q1 fun o q => k i1 (by simp) o q, Src.at_up q2 fun o q => k i2 (by simp) o q⟩
  item := by
    intro X hP hw hK hc i pins s σ H E I hf st hg
    subst hP hw hK
    obtain ⟨hz, hTI, ⟨x0, y0, hTO⟩, q1, q2⟩ := st
    obtain ⟨xs, ys, hqx, hqy, lx, ly⟩ := hg
    obtain ⟨Pv, Sv, D1, st1, sb1, pv1⟩ := Src.draws I hc hqx h1 q1
    obtain ⟨Pw, Sw, D2, st2, sb2, pv2⟩ := Src.draws I hc hqy h2 q2
    have hzl : z < s.heap.objs.size := Heap.lt_size hz
    refine wpAny_pyNext_zipD2_item Z D1 D2 hz hTI hTO st1 st2 lx ly fun u u2 h' tk hu hu2 z' TO' h1' h2' hT hsz hk => ?_
    obtain ⟨x, hx, ru⟩ := pv1 i u hu
    obtain ⟨y, hy, ru2⟩ := pv2 i u2 hu2
    refine ⟨_, rfl, wpAny_letOwnedTupleGo_zip (s := { s with heap := h', toks := tk }) z' fun h'' z'' sb => ?_⟩
    have hT2 := (sb.2 _ (Nat.ne_of_gt hzl)).trans hT
    have new : ObjOk X.prog X.w (upd H s.heap.objs.size (.frz (tupO [u, u2]) (.tup [x, y]))) h'' s.heap.objs.size (.frz (tupO [u, u2]) (.tup [x, y])) :=
      ⟨hT2, (by decide : 2 ≤ sizeLine), [u, u2], .cons ru (.cons ru2 .nil), ⟨_, hT2, rfl, _, rfl⟩⟩
    have I1 := I.turnedNew (t' := tk) (ch := [z, TI, TO, i1, i2]) (fun c o hb q => (sb.2 c (fun q' => hb (by simp [q']))).trans (hk c o (fun q' => hb (by simp [q'])) (fun q' => hb (by simp [q'])) (fun q' => hb (by simp [q'])) (fun q' => hb (by simp [q'])) q)) hf (Nat.le_refl _) new
    refine ⟨.ref s.heap.objs.size, _, I1, rfl, ⟨_, x, y, rfl, I.hok.fresh (Nat.le_refl _), _, rfl, rfl, fun l hl => by rw [Src.inj I hl hqx]; exact hx, fun l hl => by rw [Src.inj I hl hqy]; exact hy⟩, ⟨z'', ?_, ⟨u, u2, ?_⟩, ?_, ?_⟩, fun c hcm => ?_⟩
    · have TITO := Z.TITO
      have TIi2 := Z.TIi2
      exact (sb.2 _ Z.TIz).trans (hk _ _ Z.TIz TITO Z.TIi1 TIi2 hTI)
    · exact (sb.2 _ Z.TOz).trans TO'
    · exact Src.at_up (sb1 _ _ h1') fun o q => (sb.2 _ (Ne.symm Z.zi1)).trans q
    · exact Src.at_up (sb2 _ _ h2') fun o q => (sb.2 _ (Ne.symm Z.zi2)).trans q
    · have hlt : c < s.heap.objs.size := by
        rcases (by simpa using hcm : c = z ∨ c = TI ∨ c = TO ∨ c = i1 ∨ c = i2) with q | q | q | q | q
        · rw [q]; exact hzl
        · rw [q]; exact Heap.lt_size hTI
        · rw [q]; exact Heap.lt_size hTO
        · rw [q]; obtain ⟨_, e1, _⟩ := Src.at_there q1; exact Heap.lt_size e1
        · rw [q]; obtain ⟨_, e2, _⟩ := Src.at_there q2; exact Heap.lt_size e2
      rw [upd_ne (Nat.ne_of_lt hlt)]
      exact (hf c hcm).1
  done := by
    intro X hP hw hK hc i pins s σ H E I hf st hg
    subst hP hw hK
    obtain ⟨hz, hTI, ⟨x0, y0, hTO⟩, q1, q2⟩ := st
    obtain ⟨xs, ys, hqx, hqy, hend⟩ := hg
    obtain ⟨Pv, Sv, D1, st1, sb1, pv1⟩ := Src.draws I hc hqx h1 q1
    obtain ⟨Pw, Sw, D2, st2, sb2, pv2⟩ := Src.draws I hc hqy h2 q2
    exact wpAny_pyNext_zipD2_end Z D1 D2 hz hTI hTO st1 st2 (by omega) (by omega) (by omega) fun h' tk hk => ⟨rfl, I.turnedL (t' := tk) (ch := [z, TI, TO, i1, i2]) (fun c o hb q =>
      hk c o (fun q' => hb (by simp [q'])) (fun q' => hb (by simp [q'])) (fun q' => hb (by simp [q'])) (fun q' => hb (by simp [q'])) q) hf⟩
  self := fun A i s Q E st h => wpAny_pyIter_zip st.1 h
def iZipS (K : PySem.W.Frag) (ta : TA) : TI := fun σ H R => ta σ H fun vs H1 => ∃ (S S2 : Src) (xs ys : List V), vs = [S.val, S2.val] ∧ S.has K H1 xs ∧ S2.has K H1 ys ∧ R (ItZ K S S2) H1
theorem pi_zipS {X : Cx} {e e2 : Expr} {ta : TA} {p pos tpos : Pos} {elts : List Expr} {kk : Nat} (hg : Gl X "zip") (hm : X.mg "zip" = none) (ha : PA X [e, e2] ta) (hs : notStar e = true) (hs2 : notStar e2 = true) :
    PI X (.Tuple elts kk tpos) (.Call (.Name "zip" p) [e, e2] [] pos) (iZipS X.K ta) := by
  refine ⟨fun pins s σ H R I h => ?_⟩
  refine Call_ (ld_blt I hg hm PyProof.Rows.boot_zip (PyProof.Rows.callWith_type1 (thn (ha.run pos pins s σ H _ I h) fun us s1 ⟨vs, H1, I1, r1, q1⟩ => ?_) (star_eq hs) (star_no (by simp [hs2]))))
  obtain ⟨S, S2, xs, ys, rfl, hq, hq2, q⟩ := q1
  obtain ⟨u, u2, rfl, ru, ru2⟩ := Vals.two r1
  obtain ⟨o, Hh, B, hh, st0, fl⟩ := Src.begins I1 hq ru
  obtain ⟨o2, Hh2, B2, hh2, st02, fl2⟩ := Src.begins I1 hq2 ru2
  refine zip_begins2 B B2 hh hh2 fun h' hz hTI hTO h1 h2 hsz hk => wpAny_pyIter_zip hz ?_
  have I2 : Inv X pins σ H1 { s1 with heap := h' } := I1.kept (t' := s1.toks) hk
  exact ⟨s1.heap.objs.size + 4, [s1.heap.objs.size + 4, s1.heap.objs.size + 2, s1.heap.objs.size + 3, s1.heap.objs.size, s1.heap.objs.size + 1], _, _, H1, rfl, I2, turn_zipS (zip_sep2 fl fl2) (fun a hf => Nat.ne_of_lt (fl a hf)) (fun a hf => Nat.ne_of_lt (Nat.lt_succ_of_lt (fl2 a hf))),
    ⟨hz, hTI, ⟨_, _, hTO⟩, st0 _ _ h1, st02 _ _ h2⟩, fpAll I1 fun b hb => by
      rcases (by simpa using hb : b = s1.heap.objs.size + 4 ∨ b = s1.heap.objs.size + 2 ∨ b = s1.heap.objs.size + 3 ∨ b = s1.heap.objs.size ∨ b = s1.heap.objs.size + 1) with z | z | z | z | z
      · rw [z]; exact Nat.le_add_right _ _
      · rw [z]; exact Nat.le_add_right _ _
      · rw [z]; exact Nat.le_add_right _ _
      · rw [z]; exact Nat.le_refl _
      · rw [z]; exact Nat.le_add_right _ _, q⟩
def pairs : List D → List D → List D
  | d :: ds, e :: es => .tuple [d, e] :: pairs ds es
  | _, _ => []
theorem pairs_len : ∀ (ds es : List D), (pairs ds es).length = min ds.length es.length
  | [], _ => by simp [pairs]
  | _ :: _, [] => by simp [pairs]
  | _ :: ds, _ :: es => by simp [pairs, pairs_len ds es]
theorem pairs_get : ∀ {ds es : List D} {i : Nat} {d e : D}, ds[i]? = some d → es[i]? = some e → (pairs ds es)[i]? = some (.tuple [d, e])
  | [], _, _, _, _, h, _ => by simp at h
  | _ :: _, [], _, _, _, _, h => by simp at h
  | _ :: _, _ :: _, 0, _, _, h, h' => by simp at h h'; subst h h'; rfl
  | _ :: ds, _ :: es, i + 1, _, _, h, h' => by
    have := pairs_get (ds := ds) (es := es) (i := i) (by simpa using h) (by simpa using h')
    simpa [pairs] using this
theorem zip_walk {k : KX} {F1 : Hp} {S S2 : Src} {ds es : List D} {xs ys : List V} (r : RepL k F1 ds xs) (r2 : RepL k F1 es ys) (hm : k.Mono) (hS : ∀ F' H', Up F1 F' → OkF F' H' → S.has k.K H' xs) (hS2 : ∀ F' H', Up F1 F' → OkF F' H' → S2.has k.K H' ys) :
    WlkD k (ItZ k.K S S2) (pairs ds es) F1 := by
  have len := r.length
  have len2 := r2.length
  refine ⟨fun i F H hi u ok => ⟨xs, ys, hS F H u ok, hS2 F H u ok, by rw [pairs_len] at hi; omega, by rw [pairs_len] at hi; omega⟩, fun F H u ok => ⟨xs, ys, hS F H u ok, hS2 F H u ok, by rw [pairs_len, len, len2]⟩, fun i F H v H' hi u ok y => ?_⟩
  obtain ⟨T, x, y, rfl, hT, o, hd, rfl, y1, y2⟩ := y
  obtain ⟨d, h1, h2⟩ := r.getV (y1 xs (hS F _ u ok))
  obtain ⟨e, h3, h4⟩ := r2.getV (y2 ys (hS2 F _ u ok))
  obtain ⟨F', a1, a2, a3⟩ := pair_stp hd hm ok hT (h2.up hm u) (h4.up hm u)
  exact ⟨F', _, pairs_get h1 h3, a1, a2, a3⟩
def zipOf : List D → Option (List D)
  | [d, e] => (seqOf d).bind fun ds => (seqOf e).map fun es => pairs ds es
  | _ => none
def zipM (ms : List EM) : IM := fun g e => (valsM ms g e).bind fun p => (zipOf p.1).map fun ds => (ds, p.2)

/-! ### range -/
def intsD (lo : Int) : Nat → List D
  | 0 => []
  | n + 1 => .int lo :: intsD (lo + 1) n
theorem ints_len : ∀ (n : Nat) (lo : Int), (intsD lo n).length = n
  | 0, _ => rfl
  | n + 1, lo => by simp [intsD, ints_len n]
theorem ints_get : ∀ {n : Nat} {lo : Int} {i : Nat}, i < n → (intsD lo n)[i]? = some (.int (lo + (i : Nat)))
  | 0, _, _, h => by omega
  | n + 1, lo, 0, _ => by simp [intsD]
  | n + 1, lo, i + 1, h => by
    have := ints_get (n := n) (lo := lo + 1) (i := i) (by omega)
    rw [show lo + ((i + 1 : Nat) : Int) = lo + 1 + (i : Nat) by omega]
    simpa [intsD] using this
/-- within 2 ^ 62 (so written that the kernel stops at a letter) -/
def inR : Int → Bool
  | .ofNat m => Nat.ble m 4611686018427387903
  | .negSucc m => Nat.ble m 4611686018427387903
theorem inR_is {j : Int} (h : inR j = true) : -(2 ^ 62) ≤ j ∧ j < 2 ^ 62 := by
  cases j with
  | ofNat m => 
    have h1 : m ≤ 4611686018427387903 := Nat.le_of_ble_eq_true h
    have h2 : Int.ofNat m = (m : Int) := rfl
    omega
  | negSucc m => 
    have h1 : m ≤ 4611686018427387903 := Nat.le_of_ble_eq_true h
    omega
def rngOf : List D → Option (List D)
  | [.int j] => if inR j = true then some (intsD 0 j.toNat) else none
  | [.int i, .int j] => if inR i = true ∧ inR j = true then some (intsD i (j - i).toNat) else none
  | _ => none
def rngM (ms : List EM) : IM := fun g e => (valsM ms g e).bind fun p => (rngOf p.1).map fun ds => (ds, p.2)
theorem rng_walk {k : KX} {F1 : Hp} {lo : Int} {n : Nat} : WlkD k (Itr lo n) (intsD lo n) F1 := by
  refine ⟨fun i F H hi u ok => by rw [ints_len] at hi; exact hi, fun F H u ok => by rw [ints_len]; exact Nat.le_refl _, fun i F H v H' hi u ok y => ?_⟩
  obtain ⟨rfl, rfl⟩ := y
  rw [ints_len] at hi
  exact ⟨F, _, ints_get hi, ok, Stp.refl, rfl⟩
section
variable {X : Cx} {k : KX} {g : G}
theorem piEnum {e : Expr} {m : EM} {p pos tpos : Pos} {elts : List Expr} {kk : Nat} (hK : X.K = k.K) (hg : Gl X "enumerate") (hm : X.mg "enumerate" = none) (ha : PE X e (tE k g m)) (hs : notStar e = true) :
    PI X (.Tuple elts kk tpos) (.Call (.Name "enumerate" p) [e] [] pos) (tI k g (enumM m)) :=
  (pi_enumS hg hm (pa_cons (tK_of ha) pa_nil (star_eq hs)) hs).weak fun σ H R ⟨F, en, ds, e', er, hm, q⟩ => by
    obtain ⟨⟨r, e1⟩, h1, h2⟩ := Option.bind_eq_some_iff.mp hm
    obtain ⟨ds', h3, h4⟩ := Option.map_eq_some_iff.mp h2
    cases h4
    refine ⟨F, en, r, e1, er, h1, fun v F1 H1 p1 rep => ?_⟩
    obtain ⟨S, xs, e1, r1, hS⟩ := rep.src h3
    refine ⟨S, xs, by rw [e1], by rw [hK]; exact hS F1 H1 (Up.refl _) p1.er.ok, ?_⟩
    rw [hK]
    exact q _ F1 H1 p1 (enum_walk r1 er.mono hS)
theorem piZip {e e2 : Expr} {m m2 : EM} {p pos tpos : Pos} {elts : List Expr} {kk : Nat} (hK : X.K = k.K) (hg : Gl X "zip") (hm : X.mg "zip" = none) (ha : PE X e (tE k g m)) (ha2 : PE X e2 (tE k g m2)) (hs : notStar e = true) (hs2 : notStar e2 = true) :
    PI X (.Tuple elts kk tpos) (.Call (.Name "zip" p) [e, e2] [] pos) (tI k g (zipM [m, m2])) :=
  (pi_zipS hg hm (pa_cons (tK_of ha) (pa_cons (tK_of ha2) pa_nil (star_eq hs2)) (star_eq hs)) hs hs2).weak fun σ H R ⟨F, en, ds, e', er, hm, q⟩ => by
    obtain ⟨⟨rs, e1⟩, h1, h2⟩ := Option.bind_eq_some_iff.mp hm
    obtain ⟨ds', h3, h4⟩ := Option.map_eq_some_iff.mp h2
    cases h4
    refine valsM_run (k := k) [m, m2] er h1 fun vs F1 H1 p1 rep => ?_
    have h3 : zipOf rs = some ds := h3
    unfold zipOf at h3
    split at h3
    · obtain ⟨ds1, h5, h6⟩ := Option.bind_eq_some_iff.mp h3
      obtain ⟨ds2, h7, h8⟩ := Option.map_eq_some_iff.mp h6
      subst h8
      obtain ⟨v1, r', rfl, rep1, v2, r'', rfl, rep2, z⟩ := rep
      cases z
      obtain ⟨S, xs, e1, r1, hS⟩ := rep1.src h5
      obtain ⟨S2, ys, e2, r2, hS2⟩ := rep2.src h7
      refine ⟨S, S2, xs, ys, by rw [e1, e2], by rw [hK]; exact hS F1 H1 (Up.refl _) p1.er.ok, by rw [hK]; exact hS2 F1 H1 (Up.refl _) p1.er.ok, ?_⟩
      rw [hK]
      exact q _ F1 H1 p1 (zip_walk r1 r2 er.mono hS hS2)
    · cases h3
theorem piRng1 {tg e : Expr} {m : EM} {p pos : Pos} (hg : Gl X "range") (hm : X.mg "range" = none) (ha : PE X e (tE k g m)) (hs : notStar e = true) :
    PI X tg (.Call (.Name "range" p) [e] [] pos) (tI k g (rngM [m])) :=
  (pi_range1 hg hm (pa_cons (tK_of ha) pa_nil (star_eq hs)) (star_eq hs)).weak fun σ H R ⟨F, en, ds, e', er, hm, q⟩ => by
    obtain ⟨⟨rs, e1⟩, h1, h2⟩ := Option.bind_eq_some_iff.mp hm
    obtain ⟨ds', h3, h4⟩ := Option.map_eq_some_iff.mp h2
    cases h4
    refine valsM_run (k := k) [m] er h1 fun vs F1 H1 p1 rep => ?_
    have hl : rs.length = 1 := by
      obtain ⟨r, h5, h6⟩ := Option.bind_eq_some_iff.mp h1
      obtain ⟨y, h7, h8⟩ := Option.map_eq_some_iff.mp h6
      cases h7; cases h8; rfl
    have h3 : rngOf rs = some ds := h3
    unfold rngOf at h3
    split at h3
    · rename_i j _
      obtain ⟨hb, h3⟩ := Option.ite_none_right_eq_some.mp h3
      cases h3
      obtain ⟨v1, r', rfl, rep1, z⟩ := rep
      cases rep1; cases z
      exact ⟨j, rfl, (inR_is hb).1, (inR_is hb).2, q _ F1 H1 p1 rng_walk⟩
    · cases hl
    · cases h3
theorem piRng2 {tg e e2 : Expr} {m m2 : EM} {p pos : Pos} (hg : Gl X "range") (hm : X.mg "range" = none) (ha : PE X e (tE k g m)) (ha2 : PE X e2 (tE k g m2)) (hs : notStar e = true) (hs2 : notStar e2 = true) :
    PI X tg (.Call (.Name "range" p) [e, e2] [] pos) (tI k g (rngM [m, m2])) :=
  (pi_range2 hg hm (pa_cons (tK_of ha) (pa_cons (tK_of ha2) pa_nil (star_eq hs2)) (star_eq hs)) (by rw [star_eq hs, star_eq hs2]; rfl) (star_eq hs2)).weak fun σ H R ⟨F, en, ds, e', er, hm, q⟩ => by
    obtain ⟨⟨rs, e1⟩, h1, h2⟩ := Option.bind_eq_some_iff.mp hm
    obtain ⟨ds', h3, h4⟩ := Option.map_eq_some_iff.mp h2
    cases h4
    refine valsM_run (k := k) [m, m2] er h1 fun vs F1 H1 p1 rep => ?_
    have hl : rs.length = 2 := by
      obtain ⟨r, h5, h6⟩ := Option.bind_eq_some_iff.mp h1
      obtain ⟨y, h7, h8⟩ := Option.map_eq_some_iff.mp h6
      obtain ⟨r', h9, h10⟩ := Option.bind_eq_some_iff.mp h7
      obtain ⟨y', h11, h12⟩ := Option.map_eq_some_iff.mp h10
      cases h11; cases h12; cases h8; rfl
    have h3 : rngOf rs = some ds := h3
    unfold rngOf at h3
    split at h3
    · cases hl
    · rename_i i j _
      obtain ⟨hb, h3⟩ := Option.ite_none_right_eq_some.mp h3
      cases h3
      obtain ⟨v1, r', rfl, rep1, v2, r'', rfl, rep2, z⟩ := rep
      cases rep1; cases rep2; cases z
      exact ⟨i, j, rfl, ⟨(inR_is hb.1).1, (inR_is hb.1).2, inR_is hb.2⟩, q _ F1 H1 p1 rng_walk⟩
    · cases h3
end
end RL
end
section
set_option Elab.async false
set_option linter.all false
set_option autoImplicit false
set_option maxRecDepth 100000
set_option maxHeartbeats 4000000
/-! R13: more statements -/
namespace RL
open PySem PySem.Spec L2
open PyProof.Rows hiding St

/-! ### results held while others are made -/
def rsM : List EM → G → En → Option (List R × En)
  | [], _, e => some ([], e)
  | m :: ms, g, e => (m g e).bind fun r => (rsM ms g r.2).map fun p => (r.1 :: p.1, p.2)
/-- the address of a result that is ours -/
def R.own : R → Bool
  | .v _ => false
  | .o _ => true
/-- each is a result, no two are one object -/
def RRs (k : KX) (e0 : En) (σ0 : L2.St) (H0 : Hp) (e : En) (σ : L2.St) (F H : Hp) : List R → List V → Prop
  | [], vs => vs = []
  | r :: rs, vs => ∃ v ws, vs = v :: ws ∧ RR k e0 σ0 H0 e σ F H r v ∧ RRs k e0 σ0 H0 e σ F H rs ws ∧ (r.own = true → ∀ (j : Nat) (s : R) (w : V), rs[j]? = some s → ws[j]? = some w → s.own = true → w ≠ v)
theorem RRs.len {k : KX} {e0 e : En} {σ0 σ : L2.St} {H0 F H : Hp} : ∀ {rs : List R} {vs : List V}, RRs k e0 σ0 H0 e σ F H rs vs → rs.length = vs.length
  | [], _, h => by cases h; rfl
  | _ :: rs, _, h => by
    obtain ⟨v, ws, rfl, _, h2, _⟩ := h
    simp [RRs.len h2]
/-- a result that is held stands through what else is done -/
theorem RR.held {k : KX} {e0 e e' : En} {σ0 σ σ' : L2.St} {H0 F H F' H' : Hp} {r : R} {v : V} (rr : RR k e0 σ0 H0 e σ F H r v) (p : Pst k e σ F H e' σ' F' H') : RR k e0 σ0 H0 e' σ' F' H' r v := by
  cases r with
  | v d => exact Rep.up p.er.mono p.st.up rr
  | o d =>
    obtain ⟨a, rfl, ow, no, fr⟩ := rr
    obtain ⟨o, ho⟩ := ow.there
    obtain ⟨g1, g2⟩ := p.st.kp a o ho ow.1 no
    refine ⟨a, rfl, ow.up p.er.mono p.st.up g2 fun o' ho' => (p.st.kp a o' ho' ow.1 no).1, fun z => ?_, fr⟩
    rcases p.fl a z with z | z
    · exact no z
    · rw [ho] at z; cases z
theorem RRs.ahead {k : KX} {e0 e1 e : En} {σ0 σ1 σ : L2.St} {F0 H0 F1 H1 F H : Hp} (p : Pst k e0 σ0 F0 H0 e1 σ1 F1 H1) : ∀ {rs : List R} {vs : List V}, RRs k e1 σ1 H1 e σ F H rs vs → RRs k e0 σ0 H0 e σ F H rs vs
  | [], _, h => h
  | _ :: _, _, h => by
    obtain ⟨w, ws, rfl, a1, a2, a3⟩ := h
    exact ⟨w, ws, rfl, a1.ahead p, RRs.ahead p a2, a3⟩
theorem RRs.nth {k : KX} {e0 e : En} {σ0 σ : L2.St} {H0 F H : Hp} : ∀ {rs : List R} {vs : List V} {j : Nat} {r : R} {v : V}, RRs k e0 σ0 H0 e σ F H rs vs → rs[j]? = some r → vs[j]? = some v → RR k e0 σ0 H0 e σ F H r v
  | [], _, _, _, _, _, h, _ => by simp at h
  | _ :: _, _, 0, _, _, h, h1, h2 => by
    obtain ⟨w, ws, rfl, a1, _⟩ := h
    simp at h1 h2; subst h1 h2; exact a1
  | _ :: rs, _, j + 1, _, _, h, h1, h2 => by
    obtain ⟨w, ws, rfl, _, a2, _⟩ := h
    exact RRs.nth (rs := rs) (j := j) a2 (by simpa using h1) (by simpa using h2)
theorem rsM_run {k : KX} {g : G} : ∀ (ms : List EM) {F H : Hp} {e e' : En} {σ : L2.St} {rs : List R} {Q : List V → Hp → Prop}, ER k F H e σ → rsM ms g e = some (rs, e') →
    (∀ vs F' H', Pst k e σ F H e' σ F' H' → RRs k e σ H e' σ F' H' rs vs → Q vs H') → tCs (ms.map (tE k g)) σ H Q
  | [], F, H, e, e', σ, rs, Q, er, h, q => by
    cases h
    exact q [] F H (Pst.refl er) rfl
  | m :: ms, F, H, e, e', σ, rs, Q, er, h, q => by
    obtain ⟨⟨r, e1⟩, h0, h⟩ := Option.bind_eq_some_iff.mp h
    obtain ⟨⟨xs', e2⟩, h1, h2⟩ := Option.map_eq_some_iff.mp h
    cases h2
    refine ⟨F, e, r, e1, er, h0, fun v F1 H1 p1 rr => ?_⟩
    refine rsM_run ms p1.er h1 fun vs F' H' p r2 => q (v :: vs) F' H' (p1.trans p) ⟨v, vs, rfl, rr.held p, RRs.ahead p1 r2, fun ho j s w hs hw hso => ?_⟩
    · have rs2 := RRs.nth r2 hs hw
      cases s with
      | v d => cases hso
      | o d =>
        cases r with
        | v d => cases ho
        | o d0 =>
          obtain ⟨a, rfl, ow, no, fr⟩ := rr
          obtain ⟨b, rfl, ow2, no2, fr2⟩ := rs2
          obtain ⟨o, hoo⟩ := ow.there
          intro z
          cases z
          rcases fr2 with fr2 | fr2
          · exact no fr2
          · rw [hoo] at fr2; cases fr2
/-- the stores, from the left -/
def putAll : En → List Nat → List R → Option En
  | e, [], [] => some e
  | e, i :: is, r :: rs => (putSl e i r).bind fun e1 => putAll e1 is rs
  | _, _, _ => none
def setAll : L2.St → List Nat → List V → L2.St
  | σ, i :: is, v :: vs => setAll (σ.set i (some v)) is vs
  | σ, _, _ => σ
theorem RR.stored {k : KX} {e0 e e' : En} {σ0 σ : L2.St} {H0 F H : Hp} {i : Nat} {r s : R} {v w : V} (rr : RR k e0 σ0 H0 e σ F H s w) (h : putSl e i r = some e') (hl : e.length = σ.length) (hn : r.own = true → s.own = true → w ≠ v) : RR k e0 σ0 H0 e' (σ.set i (some v)) F H s w := by
  cases s with
  | v d => exact rr
  | o d =>
    obtain ⟨a, rfl, ow, no, fr⟩ := rr
    obtain ⟨nb, hi, rfl⟩ := putSl_some h
    refine ⟨a, rfl, ow, ?_, fr⟩
    rintro ⟨j, t, q1, q2, q3⟩
    by_cases hij : i = j
    · subst hij
      rw [List.getElem?_set_self hi] at q1; cases q1
      rw [List.getElem?_set_self (by rw [← hl]; exact hi)] at q3; cases q3
      cases r with
      | v c => cases q2
      | o c => exact hn rfl rfl rfl
    · rw [List.getElem?_set_ne hij] at q1 q3
      exact no ⟨j, t, q1, q2, q3⟩
theorem RRs.stored {k : KX} {e0 e e' : En} {σ0 σ : L2.St} {H0 F H : Hp} {i : Nat} {r : R} {v : V} (h : putSl e i r = some e') (hl : e.length = σ.length) : ∀ {rs : List R} {vs : List V}, RRs k e0 σ0 H0 e σ F H rs vs →
    (r.own = true → ∀ (j : Nat) (s : R) (w : V), rs[j]? = some s → vs[j]? = some w → s.own = true → w ≠ v) → RRs k e0 σ0 H0 e' (σ.set i (some v)) F H rs vs
  | [], _, h1, _ => h1
  | s :: rs, _, h1, h2 => by
    obtain ⟨w, ws, rfl, a1, a2, a3⟩ := h1
    exact ⟨w, ws, rfl, a1.stored h hl fun ho hs => h2 ho 0 s w rfl rfl hs, RRs.stored h hl a2 fun ho j t u ht hu hto => h2 ho (j + 1) t u (by simpa using ht) (by simpa using hu) hto, a3⟩
theorem putAll_pst {k : KX} : ∀ {is : List Nat} {rs : List R} {vs : List V} {e0 e e' : En} {σ0 σ : L2.St} {F0 H0 F H : Hp}, Pst k e0 σ0 F0 H0 e σ F H → RRs k e0 σ0 H0 e σ F H rs vs → putAll e is rs = some e' →
    Pst k e0 σ0 F0 H0 e' (setAll σ is vs) F H
  | [], [], vs, _, _, _, _, _, _, _, _, _, p, r, h => by
    cases h
    cases r
    exact p
  | i :: is, r :: rs, _, e0, e, e', σ0, σ, F0, H0, F, H, p, rr, h => by
    obtain ⟨v, ws, rfl, a1, a2, a3⟩ := rr
    obtain ⟨e1, h1, h2⟩ := Option.bind_eq_some_iff.mp h
    show Pst k e0 σ0 F0 H0 e' (setAll (σ.set i (some v)) is ws) F H
    exact putAll_pst (p.store a1 h1) (a2.stored h1 p.er.len a3) h2
  | [], _ :: _, _, _, _, _, _, _, _, _, _, _, _, _, h => by cases h
  | _ :: _, [], _, _, _, _, _, _, _, _, _, _, _, _, h => by cases h
def parM (is : List Nat) (ms : List EM) : SM := fun g e => (rsM ms g e).bind fun p => (putAll p.2 is p.1).map fun e2 => (.nx, e2)
theorem putAll_len : ∀ {is : List Nat} {rs : List R} {e e' : En}, putAll e is rs = some e' → rs.length = is.length
  | [], [], _, _, _ => rfl
  | _ :: is, _ :: rs, _, _, h => by
    obtain ⟨e1, _, h2⟩ := Option.bind_eq_some_iff.mp h
    simp [putAll_len h2]
  | [], _ :: _, _, _, h => by cases h
  | _ :: _, [], _, _, h => by cases h

/-! ### what the compiler's swap says -/
def swapN (ts : List Expr) (sc : Scope) : List Str :=
  let line := (ts.head?.map (·.pos.line)).getD 0
  ts.filterMap fun
    | .Name id pos => if sc.names.lookup id == some .local && pos.line == line then some id else none
    | _ => none
def swapD (ts vs : List Expr) (sc : Scope) : Option (Option (List Str)) :=
  if (!(ts.length == 2 || ts.length == 3) || vs.length != ts.length) = true then some none else
  if (vs.any fun | .Starred .. => true | _ => false) = true then some none else
  if ((swapN ts sc).length != ts.length || (swapN ts sc).eraseDups.length != (swapN ts sc).length) = true then some none else
  if vs.all (foldedForSure 8) = true then some none else
  if vs.all (constantsAlone 8) = true then none else some (some (swapN ts sc))
theorem swapD_is {ts vs : List Expr} {sc : Scope} {env : Env} {o : Option (List Str)} {j1 j2 : Nat} {p1 p2 : Pos} (hs : env.scope = sc) (hk : sc.kind = .function) (h : swapD ts vs sc = some o) : swappedStores [.Tuple ts j1 p1] (.Tuple vs j2 p2) env = pure o := by
  subst hs
  have e1 : env.blockKind = .function := by
    unfold Env.blockKind
    rw [hk]; rfl
  have e2 : (env.blockKind != .function) = false := by rw [e1]; rfl
  unfold swappedStores
  simp only [e2, Bool.or_false, Env.kindOf]
  unfold swapD at h
  by_cases c1 : (!(ts.length == 2 || ts.length == 3) || vs.length != ts.length) = true
  · rw [if_pos c1] at h
    cases h
    exact if_pos c1
  · rw [if_neg c1] at h
    refine (if_neg c1).trans ?_
    by_cases c2 : (vs.any fun | .Starred .. => true | _ => false) = true
    · rw [if_pos c2] at h
      cases h
      exact if_pos c2
    · rw [if_neg c2] at h
      refine (if_neg c2).trans ?_
      by_cases c3 : ((swapN ts env.scope).length != ts.length || (swapN ts env.scope).eraseDups.length != (swapN ts env.scope).length) = true
      · rw [if_pos c3] at h
        cases h
        exact if_pos c3
      · rw [if_neg c3] at h
        refine (if_neg c3).trans ?_
        by_cases c4 : vs.all (foldedForSure 8) = true
        · rw [if_pos c4] at h
          cases h
          exact if_pos c4
        · rw [if_neg c4] at h
          refine (if_neg c4).trans ?_
          by_cases c5 : vs.all (constantsAlone 8) = true
          · rw [if_pos c5] at h
            cases h
          · rw [if_neg c5] at h
            cases h
            exact if_neg c5
section
variable {X : Cx} {k : KX} {g : G}
theorem psPar2 {i j : Nat} {x y : Str} {a b : Expr} {ma mb : EM} {px py pt pos : Pos} {kt k2 pt2} (hc : X.calm = true) (hN : X.N.Nodup) (hi : X.N[i]? = some x) (hj : X.N[j]? = some y) (hij : i ≠ j)
    (hx : X.env.scope.names.lookup x = some .local) (hy : X.env.scope.names.lookup y = some .local) (ha : PE X a (tE k g ma)) (hb : PE X b (tE k g mb)) (hsa : notStar a = true) (hsb : notStar b = true)
    (hw : swappedStores [.Tuple [.Name x px, .Name y py] kt pt] (.Tuple [a, b] k2 pt2) X.env = pure (some [x, y])) :
    PS X (.Assign [.Tuple [.Name x px, .Name y py] kt pt] (.Tuple [a, b] k2 pt2) pos) (tS k g (parM [i, j] [ma, mb])) :=
  (ps_par hc hN hi hj hij hx hy (pa_cons ha (pa_cons hb pa_nil (star_eq hsb)) (star_eq hsa)) hw rfl).weak fun D σ H ⟨F, e, f, e', er, hm, q⟩ => by
    obtain ⟨⟨rs, e1⟩, h1, h2⟩ := Option.bind_eq_some_iff.mp hm
    obtain ⟨e2, h3, h4⟩ := Option.map_eq_some_iff.mp h2
    cases h4
    refine rsM_run (k := k) [ma, mb] er h1 fun vs F1 H1 p rr => ?_
    have hl := rr.len.symm.trans (putAll_len h3)
    have p2 := putAll_pst p rr h3
    match vs, hl, p2 with
    | [v, w], _, p2 => exact ⟨v, w, rfl, q _ F1 H1 p2⟩
theorem psPar3 {i j l : Nat} {x y z : Str} {a b c : Expr} {ma mb mc : EM} {px py pz pt pos : Pos} {kt k2 pt2} (hc : X.calm = true) (hN : X.N.Nodup) (hi : X.N[i]? = some x) (hj : X.N[j]? = some y) (hl : X.N[l]? = some z) (hij : i ≠ j) (hil : i ≠ l) (hjl : j ≠ l)
    (hx : X.env.scope.names.lookup x = some .local) (hy : X.env.scope.names.lookup y = some .local) (hz : X.env.scope.names.lookup z = some .local) (ha : PE X a (tE k g ma)) (hb : PE X b (tE k g mb)) (hcc : PE X c (tE k g mc)) (hsa : notStar a = true) (hsb : notStar b = true) (hsc : notStar c = true)
    (hw : swappedStores [.Tuple [.Name x px, .Name y py, .Name z pz] kt pt] (.Tuple [a, b, c] k2 pt2) X.env = pure (some [x, y, z])) :
    PS X (.Assign [.Tuple [.Name x px, .Name y py, .Name z pz] kt pt] (.Tuple [a, b, c] k2 pt2) pos) (tS k g (parM [i, j, l] [ma, mb, mc])) :=
  (ps_par3 hc hN hi hj hl hij hil hjl hx hy hz (pa_cons ha (pa_cons hb (pa_cons hcc pa_nil (star_eq hsc)) (star_eq hsb)) (star_eq hsa)) hw rfl).weak fun D σ H ⟨F, e, f, e', er, hm, q⟩ => by
    obtain ⟨⟨rs, e1⟩, h1, h2⟩ := Option.bind_eq_some_iff.mp hm
    obtain ⟨e2, h3, h4⟩ := Option.map_eq_some_iff.mp h2
    cases h4
    refine rsM_run (k := k) [ma, mb, mc] er h1 fun vs F1 H1 p rr => ?_
    have hl := rr.len.symm.trans (putAll_len h3)
    have p2 := putAll_pst p rr h3
    match vs, hl, p2 with
    | [u, v, w], _, p2 => exact ⟨u, v, w, rfl, q _ F1 H1 p2⟩
theorem swap_none {tg a : Expr} {env : Env} (h : (match tg with | .Tuple _ _ _ => false | .List _ _ => false | _ => true) = true) : swappedStores [tg] a env = pure none := by
  cases tg <;> first | (cases h; done) | (unfold swappedStores; rfl)
theorem swap_noneV {ts : List Expr} {a : Expr} {j : Nat} {p : Pos} {env : Env} (h : (match a with | .Tuple _ _ _ => false | _ => true) = true) : swappedStores [.Tuple ts j p] a env = pure none := by
  cases a <;> first | (cases h; done) | (unfold swappedStores; rfl)
theorem swaps_sole {tg a : Expr} {l : Nat} {env : Env} (h : (match tg with | .Name _ _ => isComp a | _ => false) = false) : swapsWithSole [tg] a l env = pure false := by
  show swapsWith a (some tg) l env = pure false
  cases hc : isComp a with
  | false => exact swaps_no hc
  | true =>
    cases tg <;> first | (rw [hc] at h; cases h; done) | (cases a <;> first | (cases hc; done) | rfl)

/-! ### return name: what is ours goes out -/
def mvM (i : Nat) : EM := fun _ e => match e[i]? with
  | some (some (.val d)) => some (.v d, e)
  | some (some (.own d)) => some (.o d, e.set i none)
  | _ => none
theorem ER.drop {F H : Hp} {e : En} {σ : L2.St} {i : Nat} {d : D} (er : ER k F H e σ) (h : e[i]? = some (some (.own d))) : Pst k e σ F H (e.set i none) σ F H := by
  have at_ : ∀ {j : Nat} {s : Sl}, (e.set i none)[j]? = some (some s) → i ≠ j ∧ e[j]? = some (some s) := by
    intro j s hj
    by_cases hij : i = j
    · subst hij
      by_cases hl : i < e.length
      · rw [List.getElem?_set_self hl] at hj; cases hj
      · rw [List.getElem?_eq_none (by simpa using hl)] at hj; cases hj
    · rw [List.getElem?_set_ne hij] at hj
      exact ⟨hij, hj⟩
  refine ⟨⟨er.mono, er.ok, by simpa using er.len, fun j d hj => er.val j d (at_ hj).2, fun j s d hj hs => er.own j s d (at_ hj).2 hs, fun j l s t n hj hl => er.apart j l s t n (at_ hj).2 (at_ hl).2⟩, ⟨Up.refl F, fun a o h1 h2 _ => ⟨h1, h2⟩⟩, fun a ha => ?_, fun j c hj => ⟨rfl, c, ?_⟩⟩
  · obtain ⟨j, s, q1, q2, q3⟩ := ha
    exact .inl ⟨j, s, (at_ q1).2, q2, q3⟩
  · have hij : i ≠ j := by
      rintro rfl
      rw [h] at hj; cases hj
    rw [List.getElem?_set_ne hij]; exact hj
theorem pe_mvM {i : Nat} {x : Str} {pos : Pos} (hN : X.N[i]? = some x) (hv : Vis X.env.scope x) (hd : (x == ("__debug__" : Str)) = false) (hcd : (x == ("__classdict__" : Str)) = false) : PE X (.Name x pos) (tE k g (mvM i)) :=
  (pe_var hN hv hd hcd).weak fun σ H Q ⟨F, e, r, e', er, hm, q⟩ => by
    unfold mvM at hm
    split at hm
    · rename_i d h
      cases hm
      obtain ⟨v, h1, h2⟩ := er.val i d h
      exact ⟨v, h1, q v F H (Pst.refl er) h2⟩
    · rename_i d h
      cases hm
      obtain ⟨a, h1, h2⟩ := er.own i _ d h rfl
      refine ⟨_, h1, q _ F H (er.drop h) ⟨a, rfl, h2, ?_, .inl ⟨i, _, h, rfl, h1⟩⟩⟩
      rintro ⟨j, s, q1, q2, q3⟩
      have hij : i ≠ j := by
        rintro rfl
        have hl := (List.getElem?_eq_some_iff.mp h).1
        rw [List.getElem?_set_self hl] at q1; cases q1
      rw [List.getElem?_set_ne hij] at q1
      exact er.apart i j _ s hij h q1 rfl q2 (by rw [h1, q3])
    · cases hm

/-! ### a op b op c -/
def chM (ma mb mc : EM) (f f' : D → D → Option R) : EM := fun g e => (ma g e).bind fun x => (mb g x.2).bind fun y => match f x.1.d y.1.d with
  | some (.v (.bool true)) => (mc g y.2).bind fun z => match f' y.1.d z.1.d with
    | some (.v (.bool b)) => some (.v (.bool b), z.2)
    | _ => none
  | some (.v (.bool false)) => some (.v (.bool false), y.2)
  | _ => none
theorem ch_run {ma mb mc : EM} {f f' : D → D → Option R} : ∀ σ H Q, tE k g (chM ma mb mc f f') σ H Q → tChain (rOf2 k f) (rOf2 k f') (tK k g ma) (tK k g mb) (tK k g mc) σ H Q := fun σ H Q ⟨F, e, r, e', er, hm, q⟩ => by
  obtain ⟨⟨x, e1⟩, h1, hm⟩ := Option.bind_eq_some_iff.mp hm
  obtain ⟨⟨y, e2⟩, h2, hm⟩ := Option.bind_eq_some_iff.mp hm
  refine ⟨F, e, x, e1, er, h1, fun vx F1 H1 p1 rx => ⟨F1, e1, y, e2, p1.er, h2, fun vy F2 H2 p2 ry => ?_⟩⟩
  have p12 := p1.trans p2
  have rx2 := rx.up er.mono p2.st.up
  dsimp only at hm
  split at hm
  · rename_i hf
    obtain ⟨⟨z, e3⟩, h3, hm⟩ := Option.bind_eq_some_iff.mp hm
    refine ⟨F2, x.d, y.d, _, er.mono, p2.er.ok, .inl rx2, .inl ry, hf, fun v F3 H3 ok3 st3 rn => ⟨true, rn, ?_⟩⟩
    rw [if_pos rfl]
    have p3 := p2.er.go ok3 st3
    refine ⟨F3, e2, z, e3, p3.er, h3, fun vz F4 H4 p4 rz => ?_⟩
    have p34 := p3.trans p4
    dsimp only at hm
    split at hm
    · rename_i b hf'
      cases hm
      refine ⟨F4, y.d, z.d, _, er.mono, p4.er.ok, .inl (ry.up er.mono p34.st.up), .inl rz, hf', fun v F5 H5 ok5 st5 rn => ?_⟩
      have p5 := p4.er.go ok5 st5
      exact q v F5 H5 (p12.trans (p34.trans p5)) rn
    · cases hm
  · rename_i hf
    cases hm
    refine ⟨F2, x.d, y.d, _, er.mono, p2.er.ok, .inl rx2, .inl ry, hf, fun v F3 H3 ok3 st3 rn => ⟨false, rn, ?_⟩⟩
    rw [if_neg Bool.false_ne_true]
    have p3 := p2.er.go ok3 st3
    exact q _ F3 H3 (p12.trans p3) rfl
  · cases hm
theorem peCh {op op' : CmpOp} {a b c : Expr} {ma mb mc : EM} {f f' : D → D → Option R} {pos : Pos} (ho : OpR X (compareOp op) (rOf2 k f)) (ho' : OpR X (compareOp op') (rOf2 k f')) (ha : PE X a (tE k g ma)) (hb : PE X b (tE k g mb)) (hc : PE X c (tE k g mc)) (hm : lastMarks [op, op'] [b, c] = false) :
    PE X (.Compare a [op, op'] [b, c] pos) (tE k g (chM ma mb mc f f')) :=
  (pe_chain ho ho' (tK_of ha) (tK_of hb) (tK_of hc) hm).weak ch_run
theorem ptCh {op op' : CmpOp} {a b c : Expr} {ma mb mc : EM} {f f' : D → D → Option R} {pos : Pos} (ho : OpR X (compareOp op) (rOf2 k f)) (ho' : OpR X (compareOp op') (rOf2 k f')) (ha : PE X a (tE k g ma)) (hb : PE X b (tE k g mb)) (hc : PE X c (tE k g mc)) (hm : lastMarks [op, op'] [b, c] = false) :
    PT X (.Compare a [op, op'] [b, c] pos) (tT k g (tstM (chM ma mb mc f f'))) :=
  (pt_chain ho ho' (tK_of ha) (tK_of hb) (tK_of hc) hm).weak (tTest_run ch_run)
end
end RL
end
section
set_option Elab.async false
set_option linter.all false
set_option autoImplicit false
set_option maxRecDepth 100000
set_option maxHeartbeats 4000000
/-! RT: dicts whose keys are tuples -/
namespace RL
open PySem PySem.Spec L2
open PyProof.Rows hiding St

/-! ### as data -/
def tFind (kvs : List (D × D)) (x : NestedKey) : Option D := (kvs.find? fun p => decide (keyT p.1 = some x)).map (·.2)
def tHas (kvs : List (D × D)) (x : NestedKey) : Bool := kvs.any fun p => decide (keyT p.1 = some x)
def tPut (kvs : List (D × D)) (y : D) (x : NestedKey) (d : D) : List (D × D) := if tHas kvs x = true then kvs.map (fun p => if keyT p.1 = some x then (p.1, d) else p) else kvs ++ [(y, d)]
def allT (kvs : List (D × D)) : Bool := kvs.all fun p => (keyT p.1).isSome
def keyOfT (y : D) (kvs : List (D × D)) : Option NestedKey := if allT kvs = true then keyT y else none
theorem keyOfT_some {d : D} {kvs : List (D × D)} {q : NestedKey} (h : keyOfT d kvs = some q) : allT kvs = true ∧ keyT d = some q := Option.ite_none_right_eq_some.mp h
theorem keyT_is {d : D} {q : NestedKey} (h : keyT d = some q) : ∃ ds, d = .tuple ds ∧ keyN d = some q ∧ q.depth ≤ 8 := by
  unfold keyT at h
  obtain ⟨ht, h⟩ := Option.ite_none_right_eq_some.mp h
  obtain ⟨q', h1, h2⟩ := Option.bind_eq_some_iff.mp h
  obtain ⟨h3, h4⟩ := Option.ite_none_right_eq_some.mp h2
  cases h4
  cases d with
  | tuple ds => exact ⟨ds, rfl, h1, h3⟩
  | _ => cases ht

/-! ### what stands in the heap -/
section
variable {X : Cx} {k : KX} {F H : Hp} {pins : List (Addr × Obj)} {σ : L2.St} {s : Shared}
theorem tup_plain (I : Inv X pins σ H s) {a : Addr} {vs : List V} (h : TupN X.K H a vs) : ∃ its : List Value, Vals vs its ∧ PlainSeq "tuple" s.heap a its.toArray := by
  rcases h with ⟨o, h, hd⟩ | ⟨o, its, n, h1, h2, h3, h4, h5, h6⟩
  · obtain ⟨ho, hz, its, rv, o', ho', hc', n, hd'⟩ := I.hok a _ h
    rw [ho] at ho'; cases ho'
    exact ⟨its, rv, o, n, ho, hc', hd, hd'⟩
  · exact ⟨its.toList, h5, o, n, I.kIn a o h1, h2, h6, by simpa using h3⟩
theorem tupN_ok (hK : X.K = k.K) (ok : OkF F H) {a : Addr} {vs : List V} (h : TupN k.K F a vs) : TupN X.K H a vs := by
  rw [hK]
  rcases h with ⟨o, h, hd⟩ | h
  · exact .inl ⟨o, ok _ _ h, hd⟩
  · exact .inr h
mutual
theorem nest_is (hK : X.K = k.K) (ok : OkF F H) (I : Inv X pins σ H s) : ∀ (d : D) {q : NestedKey} {v : V} {u : Value}, keyN d = some q → Rep k F d v → RelV v u → NestedIs s.heap q u
  | .none, q, v, u, hq, r, x => by cases hq; cases r; cases x; exact .none
  | .bool b, q, v, u, hq, r, x => by cases hq; cases r; cases x; exact .bool rfl
  | .int i, q, v, u, hq, r, x => by
    cases hq; cases r
    obtain ⟨t, rfl⟩ := x
    exact .int i t
  | .str a, q, v, u, hq, r, x => by
    cases hq; cases r
    obtain ⟨t, rfl⟩ := x
    exact .text a t
  | .tuple ds, q, v, u, hq, r, x => by
    obtain ⟨ks, hks, rfl⟩ := Option.map_eq_some_iff.mp (show (keyNs ds).map NestedKey.tup = some q from hq)
    obtain ⟨a, vs, rfl, t, rs⟩ := r
    cases x
    obtain ⟨its, rv, o, n, e1, e2, e3, e4⟩ := tup_plain I (tupN_ok hK ok t)
    exact .tup e1 e2 e4 (nests_is hK ok I ds hks rs rv)
  | .list _, q, v, u, hq, r, x => by cases hq
  | .dict _, q, v, u, hq, r, x => by cases hq
theorem nests_is (hK : X.K = k.K) (ok : OkF F H) (I : Inv X pins σ H s) : ∀ (ds : List D) {qs : List NestedKey} {vs : List V} {us : List Value}, keyNs ds = some qs → RepL k F ds vs → Vals vs us → NestedAll s.heap qs us
  | [], qs, vs, us, hq, r, x => by cases hq; cases r; cases x; exact .nil
  | d :: ds, qs, vs, us, hq, r, x => by
    obtain ⟨q, h1, h2⟩ := Option.bind_eq_some_iff.mp (show (keyN d).bind (fun q => (keyNs ds).map fun qs => q :: qs) = some qs from hq)
    obtain ⟨qs', h3, rfl⟩ := Option.map_eq_some_iff.mp h2
    obtain ⟨v, r', rfl, r1, r2⟩ := r
    cases x with
    | cons x1 x2 => exact .cons (nest_is hK ok I d h1 r1 x1) (nests_is hK ok I ds h3 r2 x2)
end
/-- the key of a tuple -/
theorem keyT_at (hK : X.K = k.K) (ok : OkF F H) (I : Inv X pins σ H s) {d : D} {q : NestedKey} {v : V} {u : Value} (hq : keyT d = some q) (r : Rep k F d v) (x : RelV v u) : ∃ b, v = .ref b ∧ u = .ref b ∧ (nestedKind X.prog X.w).is s.heap q b := by
  obtain ⟨ds, rfl, h1, h2⟩ := keyT_is hq
  obtain ⟨b, vs, rfl, t, rs⟩ := id r
  cases x
  exact ⟨b, rfl, rfl, nest_is hK ok I _ h1 r rfl, h2⟩
/-- the entries of a dict with tuple keys -/
structure Ents (k : KX) (F : Hp) (P : HO → Prop) (a : Addr) (kvs : List (D × D)) (xs : List (NestedKey × Addr × Value)) (vs : List V) : Prop where
  at_ : (xs = [] ∧ P (.dK [])) ∨ (xs ≠ [] ∧ P (.ext (NDict k.P k.w a xs)) ∧ (a == sysModules) = false)
  len : xs.length ≤ sizeLine
  key : kvs.map (fun p => keyT p.1) = xs.map fun x => some x.1
  val : Vals vs (xs.map (·.2.2))
  nd : (xs.map (·.1)).Nodup
  rv : RepV k F kvs vs
  rk : RepKs k F kvs (xs.map (·.2.1))
theorem Ents.up {P P' : HO → Prop} {a : Addr} {kvs : List (D × D)} {xs : List (NestedKey × Addr × Value)} {vs : List V} (e : Ents k F P a kvs xs vs) (h : ∀ o, P o → P' o) : Ents k F P' a kvs xs vs :=
  ⟨by rcases e.at_ with ⟨h1, h2⟩ | ⟨h1, h2, h3⟩
      · exact .inl ⟨h1, h _ h2⟩
      · exact .inr ⟨h1, h _ h2, h3⟩, e.len, e.key, e.val, e.nd, e.rv, e.rk⟩
theorem Shp.ents {P : HO → Prop} {a : Addr} {kvs : List (D × D)} {vs : List V} {qs : Option (List Addr)} (s : Shp k P a kvs vs qs) (r : RepV k F kvs vs) (q : ∀ l, qs = some l → RepKs k F kvs l) (ht : allT kvs = true) : ∃ xs, Ents k F P a kvs xs vs := by
  rcases s with ⟨ks, h1, h2, rfl, h4, _⟩ | ⟨xs, h1, h2, h3, h4, h5, h6, h7, h8⟩
  · cases kvs with
    | nil =>
      cases ks with
      | nil => exact ⟨[], .inl ⟨rfl, h1⟩, Nat.zero_le _, rfl, .nil, List.nodup_nil, r, rfl⟩
      | cons p ps => cases h2
    | cons p ps =>
      exfalso
      cases ks with
      | nil => cases h2
      | cons y ys =>
        have h6 : keyK p.1 = some y.1 := by
          simp at h2
          exact h2.1
        have h0 : (keyT p.1).isSome = true := by
          have := ht
          simp [allT] at this
          simpa using this.1
        obtain ⟨pk, pv⟩ := p
        cases pk <;> first | cases h6 | cases h0
  · exact ⟨xs, .inr ⟨h2, h1, h3⟩, h4, h5, h6, h7, r, q _ h8⟩
theorem Ents.shp {P : HO → Prop} {a : Addr} {kvs : List (D × D)} {xs : List (NestedKey × Addr × Value)} {vs : List V} (e : Ents k F P a kvs xs vs) : ∃ qs, Shp k P a kvs vs qs ∧ RepV k F kvs vs ∧ ∀ l, qs = some l → RepKs k F kvs l := by
  rcases e.at_ with ⟨rfl, h2⟩ | ⟨h1, h2, h3⟩
  · have hk := e.key
    have hv := e.val
    cases kvs with
    | cons p ps => cases hk
    | nil =>
      cases hv
      exact ⟨none, .inl ⟨[], h2, rfl, rfl, List.nodup_nil, rfl⟩, e.rv, fun l z => nomatch z⟩
  · exact ⟨_, .inr ⟨xs, h2, h1, h3, e.len, e.key, e.val, e.nd, rfl⟩, e.rv, fun l z => by cases z; exact e.rk⟩
theorem PRep.ents {kvs : List (D × D)} {v : V} (ok : OkF F H) (h : PRep k F H (.dict kvs) v) (ht : allT kvs = true) : ∃ a xs vs, v = .ref a ∧ Ents k F (Rd H a) a kvs xs vs := by
  rcases h with h | ⟨a, rfl, ow⟩
  · obtain ⟨a, vs, qs, rfl, s, r, q⟩ := h
    rcases s with s | ⟨t, rest, v0, fvs, h1, _⟩
    · obtain ⟨xs, e⟩ := s.ents r q ht
      exact ⟨a, xs, vs, rfl, e.up fun o h => ok.rd h⟩
    · exfalso
      subst h1
      simp [allT, keyT, isTup] at ht
  · obtain ⟨_, vs, qs, s, r, q⟩ := ow
    obtain ⟨xs, e⟩ := s.ents r q ht
    exact ⟨a, xs, vs, rfl, e.up fun o h => .inl h⟩
theorem OwnAt.ents {kvs : List (D × D)} {a : Addr} (h : OwnAt k F H a (.dict kvs)) (ht : allT kvs = true) : ∃ xs vs, Ents k F (fun o => H a = some o) a kvs xs vs := by
  obtain ⟨_, vs, qs, s, r, q⟩ := h
  obtain ⟨xs, e⟩ := s.ents r q ht
  exact ⟨xs, vs, e⟩
theorem Ents.own {kvs : List (D × D)} {a : Addr} {xs : List (NestedKey × Addr × Value)} {vs : List V} (hF : F a = none) (e : Ents k F (fun o => H a = some o) a kvs xs vs) : OwnAt k F H a (.dict kvs) := by
  obtain ⟨qs, h1, h2, h3⟩ := e.shp
  exact ⟨hF, vs, qs, h1, h2, h3⟩
theorem dictOf_nil {P : Program} {w : World} {h : Heap} {a : Addr} (d : h.DictOf (mixKind P w) a []) : h.DictOfH (nestedKind P w) a [] := by
  obtain ⟨o, es, ep, h1, h2, h3, h4, h5, h6⟩ := d
  refine ⟨o, es, ep, h1, h2, h3, ?_, (fun x hx => by cases hx), List.nodup_nil⟩
  generalize es.toList = l at h5
  cases h5
  rfl
theorem keys_is (hK : X.K = k.K) (ok : OkF F H) (I : Inv X pins σ H s) : ∀ {kvs : List (D × D)} {xs : List (NestedKey × Addr × Value)}, kvs.map (fun p => keyT p.1) = xs.map (fun x => some x.1) → RepKs k F kvs (xs.map (·.2.1)) → ∀ x ∈ xs, (nestedKind X.prog X.w).is s.heap x.1 x.2.1
  | _, [], _, _ => fun x hx => nomatch hx
  | [], _ :: _, hk, _ => by cases hk
  | (pk, pd) :: ps, y :: ys, hk, hr => by
    simp only [List.map_cons, List.cons.injEq] at hk
    obtain ⟨q, r, e1, r1, r2⟩ := hr
    simp only [List.map_cons, List.cons.injEq] at e1
    obtain ⟨rfl, rfl⟩ := e1
    intro x hx
    rcases List.mem_cons.mp hx with rfl | hx
    · obtain ⟨b, e2, e3, e4⟩ := keyT_at hK ok I hk.1 r1 rfl
      cases e2
      exact e4
    · exact keys_is hK ok I hk.2 r2 x hx
/-- the dict of the heap -/
theorem Ents.heap (hp : X.prog = k.P ∧ X.w = k.w) (hK : X.K = k.K) (ok : OkF F H) (I : Inv X pins σ H s) {a : Addr} {kvs : List (D × D)} {xs : List (NestedKey × Addr × Value)} {vs : List V} (e : Ents k F (Rd H a) a kvs xs vs) :
    (a == sysModules) = false ∧ s.heap.DictOfH (nestedKind X.prog X.w) a xs := by
  rcases e.at_ with ⟨rfl, h2⟩ | ⟨h1, h2, h3⟩
  · obtain ⟨_, hs, vs', kv, dd⟩ := dk_rd I.hok h2
    cases kv
    exact ⟨hs, dictOf_nil dd⟩
  · refine ⟨h3, ?_⟩
    obtain ⟨⟨o, es, ep, g1, g2, g3, g4⟩, _, _⟩ := (h2.ok I.hok : ObjOk X.prog X.w H s.heap a (.ext (NDict k.P k.w a xs)))
    rw [← hp.1, ← hp.2] at g4
    refine ⟨o, es, ep, g1, g2, g3, g4, ?_, e.nd⟩
    exact keys_is hK ok I e.key e.rk
/-- what stands at a key -/
theorem Ents.find {P : HO → Prop} {a : Addr} : ∀ {kvs : List (D × D)} {xs : List (NestedKey × Addr × Value)} {vs : List V} (q : NestedKey), kvs.map (fun p => keyT p.1) = xs.map (fun x => some x.1) → Vals vs (xs.map (·.2.2)) → RepV k F kvs vs →
    (∃ d v p, tFind kvs q = some d ∧ atKey xs q = some p ∧ Rep k F d v ∧ RelV v p.2) ∨ (tFind kvs q = none ∧ atKey xs q = none)
  | [], [], _, q, _, _, _ => .inr ⟨rfl, rfl⟩
  | [], _ :: _, _, _, h, _, _ => by cases h
  | _ :: _, [], _, _, h, _, _ => by cases h
  | (y, d) :: kvs, x :: xs, vs, q, hk, hv, hr => by
    obtain ⟨v, r, rfl, r1, r2⟩ := hr
    simp only [List.map_cons, List.cons.injEq] at hk
    cases hv with
    | cons v1 v2 =>
      by_cases hq : x.1 = q
      · refine .inl ⟨d, v, x.2, ?_, ?_, r1, v1⟩
        · unfold tFind
          rw [List.find?_cons, show decide (keyT y = some q) = true by rw [hk.1, hq]; simp]
          rfl
        · simp [atKey, hq]
      · have e1 : tFind ((y, d) :: kvs) q = tFind kvs q := by
          unfold tFind
          rw [List.find?_cons, show decide (keyT y = some q) = false by rw [hk.1]; simpa using hq]
        have e2 : atKey (x :: xs) q = atKey xs q := by
          unfold atKey
          rw [List.find?_cons, show decide (x.1 = q) = false by simpa using hq]
        rw [e1, e2]
        exact Ents.find (P := P) (a := a) q hk.2 v2 r2
theorem tHas_is {kvs : List (D × D)} {xs : List (NestedKey × Addr × Value)} (q : NestedKey) (hk : kvs.map (fun p => keyT p.1) = xs.map fun x => some x.1) : tHas kvs q = (atKey xs q).isSome := by
  induction kvs generalizing xs with
  | nil =>
    cases xs with
    | nil => rfl
    | cons _ _ => cases hk
  | cons p ps ih =>
    cases xs with
    | nil => cases hk
    | cons y ys =>
      simp only [List.map_cons, List.cons.injEq] at hk
      have := ih hk.2
      unfold tHas at this ⊢
      rw [List.any_cons, this, hk.1]
      unfold atKey
      rw [List.find?_cons]
      by_cases hq : y.1 = q
      · simp [hq]
      · simp [hq]
theorem repKs_snoc : ∀ {kvs : List (D × D)} {l : List Addr} {y d : D} {b : Addr}, RepKs k F kvs l → Rep k F y (.ref b) → RepKs k F (kvs ++ [(y, d)]) (l ++ [b])
  | [], _, _, _, _, h, r => by cases h; exact ⟨_, _, rfl, r, rfl⟩
  | (_, _) :: _, _, _, _, _, h, r => by
    obtain ⟨w, s, rfl, r1, r2⟩ := h
    exact ⟨w, _, rfl, r1, repKs_snoc r2 r⟩
theorem repV_snoc : ∀ {kvs : List (D × D)} {vs : List V} {x d : D} {v : V}, RepV k F kvs vs → Rep k F d v → RepV k F (kvs ++ [(x, d)]) (vs ++ [v])
  | [], _, _, _, _, h, r => by cases h; exact ⟨_, _, rfl, r, rfl⟩
  | (_, _) :: _, _, _, _, _, h, r => by
    obtain ⟨w, s, rfl, r1, r2⟩ := h
    exact ⟨w, _, rfl, r1, repV_snoc r2 r⟩
theorem vals_snoc : ∀ {vs : List V} {us : List Value} {v : V} {u : Value}, Vals vs us → RelV v u → Vals (vs ++ [v]) (us ++ [u])
  | _, _, _, _, .nil, r => .cons r .nil
  | _, _, _, _, .cons x t, r => .cons x (vals_snoc t r)
/-- a key is set -/
theorem Ents.put {a b : Addr} {y d : D} {q : NestedKey} {v : V} {u : Value} : ∀ {kvs : List (D × D)} {xs : List (NestedKey × Addr × Value)} {vs : List V}, kvs.map (fun p => keyT p.1) = xs.map (fun x => some x.1) → Vals vs (xs.map (·.2.2)) → RepV k F kvs vs → RepKs k F kvs (xs.map (·.2.1)) →
    keyT y = some q → Rep k F y (.ref b) → Rep k F d v → RelV v u →
    ∃ vs', (tPut kvs y q d).map (fun p => keyT p.1) = (storedH xs q b u).map (fun x => some x.1) ∧ Vals vs' ((storedH xs q b u).map (·.2.2)) ∧ RepV k F (tPut kvs y q d) vs' ∧ RepKs k F (tPut kvs y q d) ((storedH xs q b u).map (·.2.1)) := by
  intro kvs xs vs hk hv hr hks hy ry rd ru
  unfold tPut storedH
  rw [tHas_is q hk]
  split
  · rename_i hsome
    clear ry hy hsome
    induction kvs generalizing xs vs with
    | nil =>
      cases xs with
      | nil => cases hv; exact ⟨[], rfl, .nil, rfl, rfl⟩
      | cons _ _ => cases hk
    | cons p ps ih =>
      cases xs with
      | nil => cases hk
      | cons z zs =>
        obtain ⟨pk, pd⟩ := p
        simp only [List.map_cons, List.cons.injEq] at hk
        obtain ⟨w, r, rfl, r1, r2⟩ := hr
        obtain ⟨c, t, e1, t1, t2⟩ := hks
        simp only [List.map_cons, List.cons.injEq] at e1
        obtain ⟨rfl, rfl⟩ := e1
        cases hv with
        | cons v1 v2 =>
          obtain ⟨vs', g1, g2, g3, g4⟩ := ih hk.2 v2 r2 t2
          by_cases hq : z.1 = q
          · refine ⟨v :: vs', ?_, ?_, ?_, ?_⟩
            · simp only [List.map_cons, putAt, if_pos hq]
              rw [if_pos (by rw [hk.1, hq])]
              rw [g1, hk.1]
            · simp only [List.map_cons, putAt, if_pos hq]
              exact .cons ru g2
            · rw [List.map_cons, if_pos (by rw [hk.1, hq])]
              exact ⟨_, _, rfl, rd, g3⟩
            · simp only [List.map_cons, putAt, if_pos hq]
              rw [if_pos (by rw [hk.1, hq])]
              exact ⟨_, _, rfl, t1, g4⟩
          · have hn : ¬ keyT pk = some q := by rw [hk.1]; simpa using hq
            refine ⟨w :: vs', ?_, ?_, ?_, ?_⟩
            · simp only [List.map_cons, putAt, if_neg hq, if_neg hn]
              rw [g1, hk.1]
            · simp only [List.map_cons, putAt, if_neg hq]
              exact .cons v1 g2
            · rw [List.map_cons, if_neg hn]
              exact ⟨_, _, rfl, r1, g3⟩
            · simp only [List.map_cons, putAt, if_neg hq, if_neg hn]
              exact ⟨_, _, rfl, t1, g4⟩
  · refine ⟨vs ++ [v], ?_, ?_, repV_snoc hr rd, ?_⟩
    · rw [List.map_append, List.map_append, hk]
      simp [hy]
    · rw [List.map_append]
      exact vals_snoc hv ru
    · rw [List.map_append]
      exact repKs_snoc hks ry
theorem stored_nodup {xs : List (NestedKey × Addr × Value)} {q : NestedKey} {b : Addr} {u : Value} (h : (xs.map (·.1)).Nodup) : ((storedH xs q b u).map (·.1)).Nodup := by
  unfold storedH
  split
  · rw [keys_map_putAt]; exact h
  · rename_i hn
    rw [List.map_append, List.nodup_append]
    refine ⟨h, by simp, fun x hx z hz => ?_⟩
    have hz' : z = q := by simpa using hz
    subst hz'
    rintro rfl
    obtain ⟨p, hp, e⟩ := List.mem_map.mp hx
    refine hn ?_
    unfold atKey
    rw [Option.isSome_map, List.find?_isSome]
    exact ⟨p, hp, by simpa using e⟩
theorem stored_len {xs : List (NestedKey × Addr × Value)} {q : NestedKey} {b : Addr} {u : Value} : (storedH xs q b u).length ≤ xs.length + 1 ∧ storedH xs q b u ≠ [] := by
  unfold storedH
  split
  · rename_i h
    refine ⟨by simp, fun z => ?_⟩
    have : xs = [] := by simpa using z
    subst this
    simp [atKey] at h
  · exact ⟨by simp, by simp⟩
theorem ndict_of {P : Program} {w : World} {h : Heap} {a : Addr} {xs : List (NestedKey × Addr × Value)} (d : h.DictOfH (nestedKind P w) a xs) : NDict P w a xs h := by
  obtain ⟨o, es, ep, h1, h2, h3, h4, _⟩ := d
  exact ⟨o, es, ep, h1, h2, h3, h4⟩
theorem ndict_obj {P : Program} {w : World} {H' : Hp} {h : Heap} {a : Addr} {xs : List (NestedKey × Addr × Value)} (d : NDict P w a xs h) : ObjOk P w H' h a (.ext (NDict P w a xs)) := by
  obtain ⟨o, es, ep, h1, h2⟩ := id d
  exact ⟨d, ⟨o, h1⟩, fun g1 g2 ⟨o', es', ep', e1, e2⟩ kp => ⟨o', es', ep', kp _ e1, e2⟩⟩
end
end RL
end
section
set_option Elab.async false
set_option linter.all false
set_option autoImplicit false
set_option maxRecDepth 100000
set_option maxHeartbeats 4000000
/-! R14: what is ours is changed; dicts -/
namespace RL
open PySem PySem.Spec L2
open PyProof.Rows hiding St

/-! ### dicts with int and str keys, as data -/
def dHas (kvs : List (D × D)) (x : Key) : Bool := kvs.any fun p => decide (keyK p.1 = some x)
def dFind (kvs : List (D × D)) (x : Key) : Option D := (kvs.find? fun p => decide (keyK p.1 = some x)).map (·.2)
def dPut (kvs : List (D × D)) (x : Key) (d : D) : List (D × D) := if dHas kvs x = true then kvs.map (fun p => if keyK p.1 = some x then (p.1, d) else p) else kvs ++ [(keyD x, d)]
def dDrop (kvs : List (D × D)) (x : Key) : List (D × D) := kvs.filter fun p => decide (keyK p.1 ≠ some x)
def allK (kvs : List (D × D)) : Bool := kvs.all fun p => (keyK p.1).isSome
/-- the same keys in one order -/
def SameK (kvs : List (D × D)) (ks : List (Key × V)) : Prop := kvs.map (fun p => keyK p.1) = ks.map (fun p => some p.1)
theorem SameK.cons {p : D × D} {kvs : List (D × D)} {q : Key × V} {ks : List (Key × V)} (h : SameK (p :: kvs) (q :: ks)) : keyK p.1 = some q.1 ∧ SameK kvs ks := by
  have h' : keyK p.1 :: kvs.map (fun p => keyK p.1) = some q.1 :: ks.map (fun p => some p.1) := h
  injection h' with h1 h2
  exact ⟨h1, h2⟩
section
variable {k : KX} {F : Hp}
theorem same_ind {P : List (D × D) → List (Key × V) → Prop} (h0 : P [] []) (h1 : ∀ p kvs q ks, keyK p.1 = some q.1 → Rep k F p.2 q.2 → SameK kvs ks → RepV k F kvs (ks.map (·.2)) → P kvs ks → P (p :: kvs) (q :: ks)) :
    ∀ {kvs : List (D × D)} {ks : List (Key × V)}, SameK kvs ks → RepV k F kvs (ks.map (·.2)) → P kvs ks
  | [], [], _, _ => h0
  | (d, e) :: kvs, q :: ks, hs, hr => by
    obtain ⟨v, r, e1, r1, r2⟩ := hr
    have e1' : q.2 :: ks.map (·.2) = v :: r := e1
    injection e1' with e2 e3
    subst e2 e3
    exact h1 (d, e) kvs q ks hs.cons.1 r1 hs.cons.2 r2 (same_ind h0 h1 hs.cons.2 r2)
  | [], _ :: _, hs, _ => by cases hs
  | _ :: _, [], hs, _ => by cases hs
theorem dHas_is {kvs : List (D × D)} {ks : List (Key × V)} (x : Key) (hs : SameK kvs ks) (hr : RepV k F kvs (ks.map (·.2))) : dHas kvs x = ks.any fun p => decide (p.1 = x) :=
  same_ind (k := k) (F := F) (P := fun kvs ks => dHas kvs x = ks.any fun p => decide (p.1 = x)) rfl (fun p kvs q ks e _ _ _ ih => by
    unfold dHas at ih ⊢
    rw [List.any_cons, List.any_cons, ih, e]
    simp) hs hr
theorem dFind_is {kvs : List (D × D)} {ks : List (Key × V)} (x : Key) (hs : SameK kvs ks) (hr : RepV k F kvs (ks.map (·.2))) :
    (∃ d v, dFind kvs x = some d ∧ valV ks x = some v ∧ Rep k F d v) ∨ (dFind kvs x = none ∧ valV ks x = none) :=
  same_ind (k := k) (F := F) (P := fun kvs ks => (∃ d v, dFind kvs x = some d ∧ valV ks x = some v ∧ Rep k F d v) ∨ (dFind kvs x = none ∧ valV ks x = none)) (.inr ⟨rfl, rfl⟩) (fun p kvs q ks e r _ _ ih => by
    by_cases hq : q.1 = x
    · refine .inl ⟨p.2, q.2, ?_, valV_pos hq, r⟩
      unfold dFind
      rw [List.find?_cons, e, hq]
      simp
    · have e1 : dFind (p :: kvs) x = dFind kvs x := by
        unfold dFind
        rw [List.find?_cons, e]
        simp [hq]
      rw [e1, valV_neg hq]
      exact ih) hs hr
theorem SameK.snoc {kvs : List (D × D)} {ks : List (Key × V)} (x : Key) (d : D) (v : V) (hs : SameK kvs ks) : SameK (kvs ++ [(keyD x, d)]) (ks ++ [(x, v)]) := by
  unfold SameK at hs ⊢
  rw [List.map_append, List.map_append, hs]
  cases x <;> rfl
theorem RepV.snoc : ∀ {kvs : List (D × D)} {vs : List V} {x d : D} {v : V}, RepV k F kvs vs → Rep k F d v → RepV k F (kvs ++ [(x, d)]) (vs ++ [v])
  | [], _, _, _, _, h, r => by cases h; exact ⟨_, _, rfl, r, rfl⟩
  | (_, _) :: _, _, _, _, _, h, r => by
    obtain ⟨w, s, rfl, r1, r2⟩ := h
    exact ⟨w, _, rfl, r1, RepV.snoc r2 r⟩
theorem dPut_is {kvs : List (D × D)} {ks : List (Key × V)} (x : Key) {d : D} {v : V} (hs : SameK kvs ks) (hr : RepV k F kvs (ks.map (·.2))) (r : Rep k F d v) :
    SameK (dPut kvs x d) (putK ks x v) ∧ RepV k F (dPut kvs x d) ((putK ks x v).map (·.2)) := by
  unfold dPut putK
  rw [dHas_is x hs hr]
  split
  · refine same_ind (k := k) (F := F) (P := fun kvs ks => SameK (kvs.map fun p => if keyK p.1 = some x then (p.1, d) else p) (ks.map fun kv => if kv.1 = x then (kv.1, v) else kv) ∧ RepV k F (kvs.map fun p => if keyK p.1 = some x then (p.1, d) else p) ((ks.map fun kv => if kv.1 = x then (kv.1, v) else kv).map (·.2))) ⟨rfl, rfl⟩ (fun p kvs q ks e rq _ _ ih => ?_) hs hr
    by_cases hq : q.1 = x
    · rw [List.map_cons, List.map_cons, if_pos (by rw [e, hq]), if_pos hq]
      refine ⟨?_, _, _, rfl, r, ih.2⟩
      show keyK p.1 :: _ = some q.1 :: _
      rw [e]; exact congrArg _ ih.1
    · rw [List.map_cons, List.map_cons, if_neg (by rw [e]; simpa using hq), if_neg hq]
      refine ⟨?_, _, _, rfl, rq, ih.2⟩
      show keyK p.1 :: _ = some q.1 :: _
      rw [e]; exact congrArg _ ih.1
  · refine ⟨hs.snoc x d v, ?_⟩
    rw [List.map_append]
    exact hr.snoc r
theorem dDrop_is {kvs : List (D × D)} {ks : List (Key × V)} (x : Key) (hs : SameK kvs ks) (hr : RepV k F kvs (ks.map (·.2))) : SameK (dDrop kvs x) (dropK ks x) ∧ RepV k F (dDrop kvs x) ((dropK ks x).map (·.2)) :=
  same_ind (k := k) (F := F) (P := fun kvs ks => SameK (dDrop kvs x) (dropK ks x) ∧ RepV k F (dDrop kvs x) ((dropK ks x).map (·.2))) ⟨rfl, rfl⟩ (fun p kvs q ks e rq _ _ ih => by
    unfold dDrop dropK at ih ⊢
    by_cases hq : q.1 = x
    · rw [List.filter_cons_of_neg (by rw [e, hq]; simp), List.filter_cons_of_neg (by simp [hq])]
      exact ih
    · rw [List.filter_cons_of_pos (by rw [e]; simpa using hq), List.filter_cons_of_pos (by simpa using hq)]
      refine ⟨?_, _, _, rfl, rq, ih.2⟩
      show keyK p.1 :: _ = some q.1 :: _
      rw [e]; exact congrArg _ ih.1) hs hr
theorem putK_nodup {ks : List (Key × V)} (x : Key) (v : V) (h : (ks.map (·.1)).Nodup) : ((putK ks x v).map (·.1)).Nodup := by
  unfold putK
  split
  · have e : (ks.map fun kv => if kv.1 = x then (kv.1, v) else kv).map (·.1) = ks.map (·.1) := by
      rw [List.map_map]
      apply List.map_congr_left
      intro p _
      show (if p.1 = x then (p.1, v) else p).1 = p.1
      split <;> rfl
    rw [e]; exact h
  · rename_i hn
    rw [List.map_append, List.nodup_append]
    refine ⟨h, by simp, fun a ha b hb => ?_⟩
    have hb' : b = x := by simpa using hb
    subst hb'
    rintro rfl
    obtain ⟨p, hp, rfl⟩ := List.mem_map.mp ha
    exact hn (List.any_eq_true.mpr ⟨p, hp, by simp⟩)
theorem dropK_nodup {ks : List (Key × V)} (x : Key) (h : (ks.map (·.1)).Nodup) : ((dropK ks x).map (·.1)).Nodup := by
  unfold dropK
  exact (List.Sublist.map _ List.filter_sublist).nodup h
theorem Shp.dK {P : HO → Prop} {a : Addr} {kvs : List (D × D)} {vs : List V} {qs : Option (List Addr)} (s : Shp k P a kvs vs qs) (r : RepV k F kvs vs) (hk : allK kvs = true) :
    ∃ ks, P (.dK ks) ∧ SameK kvs ks ∧ RepV k F kvs (ks.map (·.2)) ∧ (ks.map (·.1)).Nodup := by
  rcases s with ⟨ks, h1, h2, rfl, h4, _⟩ | ⟨xs, h1, h2, h3, h4, h5, _⟩
  · exact ⟨ks, h1, h2, r, h4⟩
  · exfalso
    cases kvs with
    | nil =>
      cases xs with
      | nil => exact h2 rfl
      | cons y ys => cases h5
    | cons p ps =>
      have hk1 : (keyK p.1).isSome = true := by
        have h0 := hk
        simp [allK] at h0
        simpa using h0.1
      cases xs with
      | nil => cases h5
      | cons y ys =>
        have h6 : keyT p.1 = some y.1 := by
          simp at h5
          exact h5.1
        obtain ⟨pk, pv⟩ := p
        cases pk <;> first | cases h6 | cases hk1
/-- a dict that is looked at -/
theorem PRep.dK {H : Hp} {kvs : List (D × D)} {v : V} (ok : OkF F H) (h : PRep k F H (.dict kvs) v) (hk : allK kvs = true) :
    ∃ a ks, v = .ref a ∧ Rd H a (.dK ks) ∧ SameK kvs ks ∧ RepV k F kvs (ks.map (·.2)) ∧ (ks.map (·.1)).Nodup := by
  rcases h with h | ⟨a, rfl, ow⟩
  · obtain ⟨a, ks, e, rd, h1, h2, h3⟩ := h.dK hk
    exact ⟨a, ks, e, ok.rd rd, h1, h2, h3⟩
  · obtain ⟨_, vs, qs, s, r, _⟩ := ow
    obtain ⟨ks, h1, h2⟩ := s.dK r hk
    exact ⟨a, ks, rfl, .inl h1, h2⟩
theorem OwnAt.dK {H : Hp} {kvs : List (D × D)} {a : Addr} (h : OwnAt k F H a (.dict kvs)) (hk : allK kvs = true) : ∃ ks, H a = some (.dK ks) ∧ SameK kvs ks ∧ RepV k F kvs (ks.map (·.2)) ∧ (ks.map (·.1)).Nodup := by
  obtain ⟨_, vs, qs, s, r, _⟩ := h
  exact s.dK r hk
theorem OwnAt.ofK {H : Hp} {kvs : List (D × D)} {a : Addr} {ks : List (Key × V)} (hF : F a = none) (h : H a = some (.dK ks)) (hs : SameK kvs ks) (hr : RepV k F kvs (ks.map (·.2))) (nd : (ks.map (·.1)).Nodup) : OwnAt k F H a (.dict kvs) :=
  ⟨hF, _, none, .inl ⟨ks, h, hs, rfl, nd, rfl⟩, hr, fun _ z => nomatch z⟩
end

/-! ### looking -/
def keyOf (d : D) (kvs : List (D × D)) : Option Key := if allK kvs = true then keyK d else none
def opIn2 (x y : D) : Option R := match y with
  | .dict kvs => (match keyOf x kvs with
    | some q => some (.v (.bool (dHas kvs q)))
    | none => (keyOfT x kvs).map fun q => .v (.bool (tHas kvs q)))
  | _ => opIn x y
def opNotIn2 (x y : D) : Option R := match y with
  | .dict kvs => (match keyOf x kvs with
    | some q => some (.v (.bool (!dHas kvs q)))
    | none => (keyOfT x kvs).map fun q => .v (.bool (!tHas kvs q)))
  | _ => opNotIn x y
def opIx2 (x y : D) : Option R := match x with
  | .dict kvs => (match keyOf y kvs with
    | some q => (dFind kvs q).map .v
    | none => (keyOfT y kvs).bind fun q => (tFind kvs q).map .v)
  | _ => opIx x y
def opLen2 (x : D) : Option R := match x with
  | .dict kvs => if allK kvs = true then some (.v (.int kvs.length)) else none
  | _ => opLen x
/-- d.get(k, x) -/
def opGet : D → List D → Option R
  | .dict kvs, [y, z] => (match keyOf y kvs with
    | some q => some (.v ((dFind kvs q).getD z))
    | none => (keyOfT y kvs).map fun q => .v ((tFind kvs q).getD z))
  | .dict kvs, [y] => (keyOf y kvs).map fun q => .v ((dFind kvs q).getD .none)
  | _, _ => none
theorem PRep.tupv {k : KX} {F H : Hp} {ds : List D} {v : V} (h : PRep k F H (.tuple ds) v) : Rep k F (.tuple ds) v := by
  rcases h with h | ⟨a, _, _, h⟩
  · exact h
  · exact h.elim
theorem keyOf_some {d : D} {kvs : List (D × D)} {q : Key} (h : keyOf d kvs = some q) : allK kvs = true ∧ d = keyD q := by
  obtain ⟨h1, h2⟩ := Option.ite_none_right_eq_some.mp h
  exact ⟨h1, keyK_keyD h2⟩
theorem PRep.key {k : KX} {F H : Hp} {q : Key} {v : V} (h : PRep k F H (keyD q) v) : v = kV q := by
  cases q with
  | inl i => exact PRep.int h
  | inr s => exact PRep.str h
section
variable {X : Cx} {k : KX} (hK : X.K = k.K) (hpw : X.prog = k.P ∧ X.w = k.w) {n : Nat} (hr : Room n X.A)
include hr
theorem unit1 : X.A.units + 1 < cLine := by have := hr.u64; omega
theorem unit9 : (nestedKind X.prog X.w).room X.A.in1 := by
  have := hr.u64
  show X.A.units + 1 + 8 < cLine
  omega
theorem unit9' : (nestedKind X.prog X.w).room X.A.in1 := unit9 hr
include hK hpw
theorem o_in2 : OpR X (compareOp .In) (rOf2 k opIn2) := by
  intro pins s σ H x y v u Q I rx ry ⟨F, d, e, res, hm, ok, hx, hy, ho, q⟩
  unfold opIn2 at ho
  split at ho
  · rename_i kvs
    split at ho
    · rename_i c hc
      cases ho
      obtain ⟨ha, rfl⟩ := keyOf_some hc
      obtain ⟨a, ks, rfl, rd, h1, h2, h3⟩ := hy.dK ok ha
      cases hx.key
      cases ry
      refine d_in (unit1 hr) I (.inl ⟨ks, c, rd, rfl, rfl⟩) rx fun s' I' => ⟨.bl _, H, I', rfl, ?_⟩
      rw [dHas_is c h1 h2, valV_any] at q
      exact q _ F H ok Stp.refl rfl
    · obtain ⟨c, hc, hres⟩ := Option.map_eq_some_iff.mp ho
      subst hres
      obtain ⟨ha, hk⟩ := keyOfT_some hc
      obtain ⟨ds, rfl, _⟩ := keyT_is hk
      obtain ⟨a, xs, vs, rfl, e⟩ := hy.ents ok ha
      obtain ⟨b, rfl, rfl, hkey⟩ := keyT_at hK ok I hk hx.tupv rx
      cases ry
      obtain ⟨hs, dd⟩ := e.heap hpw hK ok I
      refine wpAny_in_heap (unit9 hr) hkey hs dd ⟨.bl _, H, I.tok _, rfl, ?_⟩
      rw [tHas_is c e.key] at q
      exact q _ F H ok Stp.refl rfl
  · exact o_in hK hr pins s σ H x y v u Q I rx ry ⟨F, d, _, res, hm, ok, hx, hy, ho, q⟩
theorem o_notIn2 : OpR X (compareOp .NotIn) (rOf2 k opNotIn2) := by
  intro pins s σ H x y v u Q I rx ry ⟨F, d, e, res, hm, ok, hx, hy, ho, q⟩
  unfold opNotIn2 at ho
  split at ho
  · rename_i kvs
    split at ho
    · rename_i c hc
      cases ho
      obtain ⟨ha, rfl⟩ := keyOf_some hc
      obtain ⟨a, ks, rfl, rd, h1, h2, h3⟩ := hy.dK ok ha
      cases hx.key
      cases ry
      refine d_notIn (unit1 hr) I (.inl ⟨ks, c, rd, rfl, rfl⟩) rx fun s' I' => ⟨.bl _, H, I', rfl, ?_⟩
      rw [dHas_is c h1 h2, valV_any] at q
      exact q _ F H ok Stp.refl rfl
    · obtain ⟨c, hc, hres⟩ := Option.map_eq_some_iff.mp ho
      subst hres
      obtain ⟨ha, hk⟩ := keyOfT_some hc
      obtain ⟨ds, rfl, _⟩ := keyT_is hk
      obtain ⟨a, xs, vs, rfl, e⟩ := hy.ents ok ha
      obtain ⟨b, rfl, rfl, hkey⟩ := keyT_at hK ok I hk hx.tupv rx
      cases ry
      obtain ⟨hs, dd⟩ := e.heap hpw hK ok I
      refine wpAny_notIn_heap (unit9 hr) hkey hs dd ⟨.bl _, H, I.tok _, rfl, ?_⟩
      rw [tHas_is c e.key] at q
      exact q _ F H ok Stp.refl rfl
  · exact o_notIn hK hr pins s σ H x y v u Q I rx ry ⟨F, d, _, res, hm, ok, hx, hy, ho, q⟩
theorem o_ix2 : IxR X (rOf2 k opIx2) := by
  intro value slice pins s σ H x y v u Q I rx ry ⟨F, d, e, res, hm, ok, hx, hy, ho, q⟩ hs
  unfold opIx2 at ho
  split at ho
  · rename_i kvs
    split at ho
    · rename_i c hc
      obtain ⟨w, hw, hres⟩ := Option.map_eq_some_iff.mp ho
      subst hres
      obtain ⟨ha, rfl⟩ := keyOf_some hc
      obtain ⟨a, ks, rfl, rd, h1, h2, h3⟩ := hx.dK ok ha
      cases hy.key
      cases rx
      rcases dFind_is c h1 h2 with ⟨d', v', e1, e2, r'⟩ | ⟨e1, _⟩
      · rw [hw] at e1; cases e1
        have g : DGet H a (kV c) (some v') := .inl ⟨ks, c, rd, rfl, e2.symm⟩
        exact tail_any (dict_typeIs I g) PySem.F.slot_dict_getitem.lookup (d_getItem (unit1 hr) I g ry fun w' s' I' rw' => ⟨v', H, I', rw', q v' F H ok Stp.refl r'⟩) hs
      · rw [hw] at e1; cases e1
    · obtain ⟨c, hc, ho⟩ := Option.bind_eq_some_iff.mp ho
      obtain ⟨w, hw, hres⟩ := Option.map_eq_some_iff.mp ho
      subst hres
      obtain ⟨ha, hk⟩ := keyOfT_some hc
      obtain ⟨ds, rfl, _⟩ := keyT_is hk
      obtain ⟨a, xs, vs, rfl, e⟩ := hx.ents ok ha
      obtain ⟨b, rfl, rfl, hkey⟩ := keyT_at hK ok I hk hy.tupv ry
      cases rx
      obtain ⟨hsm, dd⟩ := e.heap hpw hK ok I
      rcases Ents.find (P := Rd H a) (a := a) c e.key e.val e.rv with ⟨d', v', p, e1, e2, r', rl⟩ | ⟨e1, _⟩
      · rw [hw] at e1; cases e1
        exact tail_any dd.typeIs PySem.F.slot_dict_getitem.lookup (wpAny_getItem_heap (unit9' hr) hkey dd e2 ⟨v', H, I.tok _, rl, q v' F H ok Stp.refl r'⟩) hs
      · rw [hw] at e1; cases e1
  · exact o_ix hK value slice pins s σ H x y v u Q I rx ry ⟨F, _, e, res, hm, ok, hx, hy, ho, q⟩ hs
end
section
variable {X : Cx} {k : KX} (hK : X.K = k.K) (hpw : X.prog = k.P ∧ X.w = k.w) {n : Nat} (hr : Room n X.A)
include hK in
theorem c_len2 : CallR X (.builtin "len") (rOf k (op1L opLen2)) := by
  intro pins s σ H xs us Q I r h
  obtain ⟨x, rfl, F, d, res, hm, ok, hx, ho, q⟩ := rOf_1 h
  unfold opLen2 at ho
  split at ho
  · rename_i kvs
    obtain ⟨ha, ho⟩ := Option.ite_none_right_eq_some.mp ho
    cases ho
    obtain ⟨a, ks, rfl, rd, h1, h2, h3⟩ := hx.dK ok ha
    have e := Vals.ref1 r
    subst e
    refine d_len I rd fun t s' I' => ⟨.int _, H, I', ⟨t, rfl⟩, ?_⟩
    have hl : kvs.length = ks.length := by simpa using congrArg List.length h1
    rw [hl] at q
    exact q _ F H ok Stp.refl rfl
  · exact c_len hK pins s σ H _ us Q I r ⟨F, [_], res, hm, ok, ⟨x, [], rfl, hx, rfl⟩, ho, q⟩

/-! ### methods of built-ins -/
def tyD (k : KX) (okT : D → Bool) (x : V) (H : Hp) : Prop := ∃ F d, k.Mono ∧ OkF F H ∧ PRep k F H d x ∧ okT d = true
def isStrD : D → Bool
  | .str _ => true
  | _ => false
def isLstD : D → Bool
  | .list _ => true
  | _ => false
def isDctD : D → Bool
  | .dict kvs => allK kvs || allT kvs
  | _ => false
theorem ty_strD : TyOk X "str" (tyD k isStrD) := by
  intro pins σ H s x v I r ⟨F, d, hm, ok, hx, ht⟩
  cases d <;> first | cases ht | skip
  cases hx.str
  obtain ⟨t, rfl⟩ := r
  exact ⟨typeIs_str s _ t, fun _ e => nomatch e⟩
theorem ty_lstD : TyOk X "list" (tyD k isLstD) := by
  intro pins σ H s x v I r ⟨F, d, hm, ok, hx, ht⟩
  cases d <;> first | cases ht | skip
  obtain ⟨a, vs, rfl, h1, _⟩ := hx.lst ok
  cases r
  obtain ⟨its, _, pl, _⟩ := I.list (SqL.of h1)
  refine ⟨pl.isList.typeIs, fun b e => ?_⟩
  cases e
  obtain ⟨o, n, e, c, hd, _⟩ := pl
  exact ⟨o, e, hd⟩
include hK hpw in
theorem ty_dctD : TyOk X "dict" (tyD k isDctD) := by
  intro pins σ H s x v I r ⟨F, d, hm, ok, hx, ht⟩
  cases d <;> first | cases ht | skip
  rename_i kvs
  rcases (Bool.or_eq_true _ _).mp (show (allK kvs || allT kvs) = true from ht) with ht | ht
  · obtain ⟨a, ks, rfl, rd, _⟩ := hx.dK ok ht
    cases r
    obtain ⟨h1, h2, _⟩ := isD_at I (.inl ⟨ks, rd⟩)
    exact ⟨h1, h2⟩
  · obtain ⟨a, xs, vs, rfl, e⟩ := hx.ents ok ht
    cases r
    obtain ⟨_, dd⟩ := e.heap hpw hK ok I
    refine ⟨dd.typeIs, fun b eq => ?_⟩
    cases eq
    obtain ⟨ob, _, _, g1, g2, _⟩ := dd
    exact ⟨ob, g1, g2.2.1⟩
def allO (okT : D → Bool) (e : En) (xs : List (Nat ⊕ D)) : Bool := match getOs e xs with
  | some ds => ds.all okT
  | none => false
def mtM (pa : Opd) (okT : D → Bool) (ms : List EM) (op : D → List D → Option R) : EM := fun g e => (runO g [pa] e).bind fun p => if allO okT p.2 p.1 = true then (valsM ms g p.2).bind fun q => (getOs q.2 p.1).bind fun ds => match ds with
  | [d] => (op d q.1).map fun r => (r, q.2)
  | _ => none
  else none
/-- a method by values: the receiver is looked at, the arguments are kept -/
def rMt (k : KX) (op : D → List D → Option R) : V → List V → Hp → VK → Prop := fun x xs H Q => ∃ F d ds res, k.Mono ∧ OkF F H ∧ PRep k F H d x ∧ RepL k F ds xs ∧ op d ds = some res ∧
  ∀ v F' H', OkF F' H' → Stp (fun _ => False) F H F' H' → RN k H F' H' res v → Q v H'
theorem runO_len {g : G} {pa : Opd} {e e' : En} {xs : List (Nat ⊕ D)} (h : runO g [pa] e = some (xs, e')) : xs.length = 1 := by
  cases pa with
  | lz i =>
    obtain ⟨d, _, h⟩ := Option.bind_eq_some_iff.mp h
    cases h; rfl
  | eg m =>
    obtain ⟨d, _, h⟩ := Option.bind_eq_some_iff.mp h
    cases h; rfl
theorem RepO.length {σ : L2.St} {F : Hp} : ∀ {xs : List (Nat ⊕ D)} {vs : List V}, RepO k σ F xs vs → xs.length = vs.length
  | [], _, h => by cases h; rfl
  | .inl i :: xs, _, h => by
    obtain ⟨v, r, rfl, h1, h2⟩ := h
    simp [h2.length]
  | .inr d :: xs, _, h => by
    obtain ⟨v, r, rfl, h1, h2⟩ := h
    simp [h2.length]
variable {g : G}
theorem one_of {e : En} {xs : List (Nat ⊕ D)} {ds : List D} (h : getOs e xs = some ds) (hl : xs.length = 1) : ∃ d, ds = [d] := by
  match xs, hl, h with
  | [y], _, h =>
    obtain ⟨d, _, h⟩ := Option.bind_eq_some_iff.mp h
    cases h
    exact ⟨d, rfl⟩
theorem mt_run {pa : Opd} {okT : D → Bool} {ms : List EM} {op : D → List D → Option R} : ∀ σ H Q, tE k g (mtM pa okT ms op) σ H Q → tMG (tyD k okT) (rMt k op) (tO k g pa) (tCs (ms.map (tK k g))) σ H Q := fun σ H Q ⟨F, e, res, e', er, hm, q⟩ => by
  obtain ⟨⟨xs, e1⟩, h1, hm⟩ := Option.bind_eq_some_iff.mp hm
  obtain ⟨hT, hm⟩ := Option.ite_none_right_eq_some.mp hm
  obtain ⟨⟨as, e2⟩, h2, hm⟩ := Option.bind_eq_some_iff.mp hm
  obtain ⟨ds, h3, hm⟩ := Option.bind_eq_some_iff.mp hm
  obtain ⟨d, rfl⟩ := one_of h3 (runO_len h1)
  obtain ⟨r', h4, h5⟩ := Option.map_eq_some_iff.mp hm
  cases h5
  refine runO_run (Q := fun vs H1 => match vs with | [x] => tyD k okT x H1 ∧ tCs (ms.map (tK k g)) σ H1 fun xs H2 => rMt k op x xs H2 Q | _ => False) [pa] er h1 fun vs F1 H1 p1 ro => ?_
  have hl : vs.length = 1 := ro.length.symm.trans (runO_len h1)
  match vs, hl, ro with
  | [x], _, ro =>
    refine ⟨?_, valsM_run ms p1.er h2 fun ws F2 H2 p2 rw2 => ?_⟩
    · unfold allO at hT
      split at hT
      · rename_i ds1 hd
        have pr := ro.get p1.er hd
        obtain ⟨d1, rfl⟩ := one_of hd (runO_len h1)
        obtain ⟨x', e', pr⟩ := pr.one
        cases e'
        exact ⟨F1, d1, er.mono, p1.er.ok, pr, by simpa using hT⟩
      · cases hT
    · have pr := (ro.up er.mono p2.st.up).get p2.er h3
      obtain ⟨x', e', pr⟩ := pr.one
      cases e'
      refine ⟨F2, d, as, _, er.mono, p2.er.ok, pr, rw2, h4, fun v F3 H3 ok st rn => ?_⟩
      have p3 := p2.er.go ok st
      exact q v F3 H3 ((p1.trans p2).trans p3) ((rn.rr p2.er).ahead (p1.trans p2))
theorem peMt {o e : Expr} {es : List Expr} {pa : Opd} {ms : List EM} {op : D → List D → Option R} {okT : D → Bool} {name : Str} {apos cpos : Pos} {T id : String} (ht : TyOk X T (tyD k okT)) (pl : PlainAttrs T) (slot : Slot T name id) (hty : typeOf (.builtin id) = pure (.type "method_descriptor"))
    (hm : MtR X id (rMt k op)) (ho : PE X o (tO k g pa)) (ha : PEs X (e :: es) (ms.map (tK k g))) (hs : (e :: es).all notStar = true) (hb : notCall0 o = true) (hline : (apos.endLine == cpos.line) = true) (hfew : es.length < 20) :
    PE X (.Call (.Attribute o name apos) (e :: es) [] cpos) (tE k g (mtM pa okT ms op)) := by
  have h' := (by simpa using hs : notStar e = true ∧ _)
  refine (pe_mG ht pl slot hty hm ho (ha.pa hs) (base_no hb) ?_ hline (star_eq h'.1) (star_no (by simpa using h'.2))).weak mt_run
  rw [star_all hs]
  simp [backToKw, keywordEach]
  omega
theorem peMt0 {o : Expr} {pa : Opd} {op : D → List D → Option R} {okT : D → Bool} {name : Str} {apos cpos : Pos} {T id : String} (ht : TyOk X T (tyD k okT)) (pl : PlainAttrs T) (slot : Slot T name id) (hty : typeOf (.builtin id) = pure (.type "method_descriptor"))
    (hm : MtR X id (rMt k op)) (ho : PE X o (tO k g pa)) (hb : notCall0 o = true) (hline : (apos.endLine == cpos.line) = true) :
    PE X (.Call (.Attribute o name apos) [] [] cpos) (tE k g (mtM pa okT [] op)) :=
  (pe_mG0 ht pl slot hty hm ho (base_no hb) hline).weak fun σ H Q h => mt_run σ H Q h
include hr hK hpw in
theorem mt_get : MtR X "dict.get" (rMt k opGet) := by
  intro pins s σ H x xs v us Q I rx rv ⟨F, d, ds, res, hm, ok, hx, rs, ho, q⟩
  have key : ∀ {kvs : List (D × D)} {y : D} {c : Key} {z : D} {yv zv : V}, keyOf y kvs = some c → PRep k F H (.dict kvs) x → Rep k F y yv → Rep k F z zv → (∀ v F' H', OkF F' H' → Stp (fun _ => False) F H F' H' → RN k H F' H' (.v ((dFind kvs c).getD z)) v → Q v H') →
      ∃ a o, x = .ref a ∧ yv = kV c ∧ DGet H a (kV c) o ∧ Q (o.getD zv) H := by
    intro kvs y c z yv zv hc hx hy hz q
    obtain ⟨ha, rfl⟩ := keyOf_some hc
    obtain ⟨a, ks, rfl, rd, h1, h2, h3⟩ := hx.dK ok ha
    refine ⟨a, valV ks c, rfl, PRep.key (F := F) (H := H) (k := k) (.inl hy), .inl ⟨ks, c, rd, rfl, rfl⟩, ?_⟩
    rcases dFind_is c h1 h2 with ⟨d', v', e1, e2, r'⟩ | ⟨e1, e2⟩
    · rw [e2]
      rw [e1] at q
      exact q v' F H ok Stp.refl r'
    · rw [e2]
      rw [e1] at q
      exact q zv F H ok Stp.refl hz
  unfold opGet at ho
  split at ho
  · obtain ⟨y', r2, rfl, p2, z', r3, rfl, p3, e4⟩ := rs
    cases e4
    obtain ⟨u1, u2, rfl, ru, ru2⟩ := Vals.two rv
    split at ho
    · rename_i c hc
      cases ho
      obtain ⟨a, o, rfl, rfl, g1, q1⟩ := key hc hx p2 p3 q
      cases rx
      exact d_get2 (unit1 hr) I g1 ru ru2 fun w' s' I' rw' => ⟨_, H, I', rw', q1⟩
    · obtain ⟨c, hc, hres⟩ := Option.map_eq_some_iff.mp ho
      subst hres
      obtain ⟨ha, hk⟩ := keyOfT_some hc
      obtain ⟨a, xs, vs, rfl, e⟩ := hx.ents ok ha
      obtain ⟨b, rfl, rfl, hkey⟩ := keyT_at hK ok I hk p2 ru
      cases rx
      obtain ⟨hsm, dd⟩ := e.heap hpw hK ok I
      refine call_meetsIn PySem.F.slot_dict_get dd.typeIs PySem.F.entry_dict_get (PySem.F.args_dict_get_3 _ _ _) (meetsH_dict_get_default (nestedKind X.prog X.w) a b hsm u2) ⟨unit9 hr, c, xs, hkey, dd, ?_⟩
      rcases Ents.find (P := Rd H a) (a := a) c e.key e.val e.rv with ⟨d', v', p, e1, e2, r', rl⟩ | ⟨e1, e2⟩
      · rw [e1] at q
        rw [e2]
        exact ⟨v', H, I.tok _, rl, q v' F H ok Stp.refl r'⟩
      · rw [e1] at q
        rw [e2]
        exact ⟨z', H, I.tok _, ru2, q z' F H ok Stp.refl p3⟩
  · obtain ⟨c, hc, hres⟩ := Option.map_eq_some_iff.mp ho
    subst hres
    obtain ⟨y', r2, rfl, p2, e4⟩ := rs
    cases e4
    obtain ⟨a, o, rfl, rfl, g1, q1⟩ := key hc hx p2 (z := .none) rfl q
    obtain ⟨u1, rfl, ru⟩ := Vals.one rv
    cases rx
    exact d_get1 (unit1 hr) I g1 ru fun w' s' I' rw' => ⟨_, H, I', rw', q1⟩
  · cases ho
end
end RL
end
section
set_option Elab.async false
set_option linter.all false
set_option autoImplicit false
set_option maxRecDepth 100000
set_option maxHeartbeats 4000000
/-! R15: what is ours is changed; dict(..) -/
namespace RL
open PySem PySem.Spec L2
open PyProof.Rows hiding St

/-! ### o.m(..) that changes o -/
/-- what stands at slot i, where it is ours -/
def ourI (e : En) (i : Nat) : Option D := match e[i]? with
  | some (some (.own d)) => some d
  | some (some (.bor d)) => some d
  | _ => none
theorem ourI_own {k : KX} {F H : Hp} {e : En} {σ : L2.St} (er : ER k F H e σ) {i : Nat} {d : D} (h : ourI e i = some d) : ∃ s a, e[i]? = some (some s) ∧ s.ours = some d ∧ σ[i]? = some (some (.ref a)) ∧ OwnAt k F H a d := by
  unfold ourI at h
  split at h
  · rename_i d' hs
    cases h
    obtain ⟨a, h1, h2⟩ := er.own i _ _ hs rfl
    exact ⟨_, a, hs, rfl, h1, h2⟩
  · rename_i d' hs
    cases h
    obtain ⟨a, h1, h2⟩ := er.own i _ _ hs rfl
    exact ⟨_, a, hs, rfl, h1, h2⟩
  · cases h
def rMu (k : KX) (f : D → List D → Option (D × D)) : V → List V → Hp → VK → Prop := fun x xs H Q => ∃ F a d ds d' res, k.Mono ∧ OkF F H ∧ x = .ref a ∧ OwnAt k F H a d ∧ RepL k F ds xs ∧ f d ds = some (d', res) ∧
  ∀ v H', OwnAt k F H' a d' → (∀ b o, b ≠ a → H b = some o → H' b = some o) → Rep k F res v → Q v H'
def mutM (i : Nat) (okT : D → Bool) (ms : List EM) (f : D → List D → Option (D × D)) : EM := fun g e => match ourI e i with
  | some d0 => if okT d0 = true then (valsM ms g e).bind fun p => (ourI p.2 i).bind fun d => (f d p.1).map fun r => (.v r.2, putB p.2 [(i, r.1)]) else none
  | none => none
/-- the slot holds something else -/
theorem ER.put1 {k : KX} {F H H' : Hp} {e : En} {σ : L2.St} {i : Nat} {d d' : D} {a : Addr} (er : ER k F H e σ) (h : ourI e i = some d) (ha : σ[i]? = some (some (.ref a))) (ow : OwnAt k F H' a d') (kp : ∀ b o, b ≠ a → H b = some o → H' b = some o) :
    Pst k e σ F H (RL.putB e [(i, d')]) σ F H' := by
  obtain ⟨s, a', h1, h2, h3, h4⟩ := ourI_own er h
  rw [ha] at h3; cases h3
  have ok' : OkF F H' := fun b o hb => by
    have hne : b ≠ a := fun z => by rw [z, h4.1] at hb; cases hb
    exact kp b o hne (er.ok b o hb)
  refine er.putB ok' (by simp) (fun j c hj => ?_) (Up.refl F) fun b o hb hF hn => ?_
  · have e1 : j = i ∧ c = d' := by simpa using hj
    obtain ⟨rfl, rfl⟩ := e1
    exact ⟨⟨s, h1, by rw [h2]; rfl⟩, a, ha, ow⟩
  · have hne : b ≠ a := fun z => by
      subst z
      exact hn i d' (by simp) ha
    exact ⟨kp b o hne hb, hF⟩
section
variable {X : Cx} {k : KX} {g : G}
theorem mut_run {i : Nat} {okT : D → Bool} {ms : List EM} {f : D → List D → Option (D × D)} : ∀ σ H Q, tE k g (mutM i okT ms f) σ H Q → tMG (tyD k okT) (rMu k f) (tVar i) (tCs (ms.map (tK k g))) σ H Q := fun σ H Q ⟨F, e, res, e', er, hm, q⟩ => by
  unfold mutM at hm
  split at hm
  · rename_i d0 h0
    obtain ⟨hT, hm⟩ := Option.ite_none_right_eq_some.mp hm
    obtain ⟨⟨as, e1⟩, h1, hm⟩ := Option.bind_eq_some_iff.mp hm
    obtain ⟨d, h2, hm⟩ := Option.bind_eq_some_iff.mp hm
    obtain ⟨⟨d', r⟩, h3, h4⟩ := Option.map_eq_some_iff.mp hm
    cases h4
    obtain ⟨s0, a0, g1, g2, g3, g4⟩ := ourI_own er h0
    refine ⟨_, g3, ⟨F, d0, er.mono, er.ok, .inr ⟨a0, rfl, g4⟩, hT⟩, valsM_run ms er h1 fun ws F1 H1 p1 rw1 => ?_⟩
    obtain ⟨s1, a1, k1, k2, k3, k4⟩ := ourI_own p1.er h2
    rw [g3] at k3; cases k3
    refine ⟨F1, a0, d, as, d', r, er.mono, p1.er.ok, rfl, k4, rw1, h3, fun v H2 ow kp rep => ?_⟩
    exact q v F1 H2 (p1.trans (p1.er.put1 h2 g3 ow kp)) rep
  · cases hm
theorem peMut {e : Expr} {es : List Expr} {i : Nat} {x : Str} {ms : List EM} {f : D → List D → Option (D × D)} {okT : D → Bool} {name : Str} {xpos apos cpos : Pos} {T id : String} (ht : TyOk X T (tyD k okT)) (pl : PlainAttrs T) (slot : Slot T name id) (hty : typeOf (.builtin id) = pure (.type "method_descriptor"))
    (hm : MtR X id (rMu k f)) (hN : X.N[i]? = some x) (hv : Vis X.env.scope x) (hd : (x == ("__debug__" : Str)) = false) (hcd : (x == ("__classdict__" : Str)) = false)
    (ha : PEs X (e :: es) (ms.map (tK k g))) (hs : (e :: es).all notStar = true) (hline : (apos.endLine == cpos.line) = true) (hfew : es.length < 20) :
    PE X (.Call (.Attribute (.Name x xpos) name apos) (e :: es) [] cpos) (tE k g (mutM i okT ms f)) := by
  have h' := (by simpa using hs : notStar e = true ∧ _)
  refine (pe_mG ht pl slot hty hm (pe_var hN hv hd hcd) (ha.pa hs) (base_no rfl) ?_ hline (star_eq h'.1) (star_no (by simpa using h'.2))).weak mut_run
  rw [star_all hs]
  simp [backToKw, keywordEach]
  omega
theorem peMut0 {i : Nat} {x : Str} {f : D → List D → Option (D × D)} {okT : D → Bool} {name : Str} {xpos apos cpos : Pos} {T id : String} (ht : TyOk X T (tyD k okT)) (pl : PlainAttrs T) (slot : Slot T name id) (hty : typeOf (.builtin id) = pure (.type "method_descriptor"))
    (hm : MtR X id (rMu k f)) (hN : X.N[i]? = some x) (hv : Vis X.env.scope x) (hd : (x == ("__debug__" : Str)) = false) (hcd : (x == ("__classdict__" : Str)) = false) (hline : (apos.endLine == cpos.line) = true) :
    PE X (.Call (.Attribute (.Name x xpos) name apos) [] [] cpos) (tE k g (mutM i okT [] f)) :=
  (pe_mG0 ht pl slot hty hm (pe_var hN hv hd hcd) (base_no rfl) hline).weak fun σ H Q h => mut_run σ H Q h

/-! ### the changes -/
def fAppend : D → List D → Option (D × D)
  | .list ds, [d] => if ds.length < sizeLine then some (.list (ds ++ [d]), .none) else none
  | _, _ => none
def fPop : D → List D → Option (D × D)
  | .list ds, [.int i] => if -(2 ^ 63) ≤ i ∧ i < 2 ^ 63 then (seqIndex? i ds.length).bind fun j => (ds[j]?).map fun d => (.list (ds.eraseIdx j), d) else none
  | .list ds, [] => (ds[ds.length - 1]?).map fun d => (.list ds.dropLast, d)
  | _, _ => none
/-- d.pop(k), d.pop(k, x) -/
def fDrop : D → List D → Option (D × D)
  | .dict kvs, [y] => (keyOf y kvs).bind fun q => (dFind kvs q).map fun d => (.dict (dDrop kvs q), d)
  | .dict kvs, [y, z] => (keyOf y kvs).map fun q => match dFind kvs q with
    | some d => (.dict (dDrop kvs q), d)
    | none => (.dict kvs, z)
  | _, _ => none
theorem OwnAt.lst {F H : Hp} {a : Addr} {ds : List D} (h : OwnAt k F H a (.list ds)) : F a = none ∧ ∃ vs, H a = some (.lst vs) ∧ RepL k F ds vs := h
theorem OwnAt.ofL {F H : Hp} {a : Addr} {ds : List D} {vs : List V} (hF : F a = none) (h : H a = some (.lst vs)) (r : RepL k F ds vs) : OwnAt k F H a (.list ds) := ⟨hF, vs, h, r⟩
theorem upd_kp {H : Hp} {a : Addr} {o : HO} : ∀ b u, b ≠ a → H b = some u → upd H a o b = some u := fun b u hb h => by rw [upd_ne hb]; exact h
theorem mt_appendD : MtR X "list.append" (rMu k fAppend) := by
  intro pins s σ H x xs v us Q I rx rv ⟨F, a, d, ds, d', res, hm, ok, ex, ow, rs, hf, q⟩
  unfold fAppend at hf
  split at hf
  · obtain ⟨hl, hf⟩ := Option.ite_none_right_eq_some.mp hf
    cases hf
    obtain ⟨hF, vs, h1, h2⟩ := ow.lst
    obtain ⟨y, r, rfl, ry, z⟩ := rs
    cases z
    exact mt_append pins s σ H x _ v us Q I rx rv ⟨a, vs, y, ex, rfl, h1, by rw [← h2.length]; exact hl, q _ _ (OwnAt.ofL hF upd_same (h2.append ⟨y, [], rfl, ry, rfl⟩)) upd_kp rfl⟩
  · cases hf
theorem RepL.dropLast : ∀ {F : Hp} {ds : List D} {vs : List V}, RepL k F ds vs → RepL k F ds.dropLast vs.dropLast
  | _, [], _, h => by cases h; rfl
  | _, [d], _, h => by
    obtain ⟨v, r, rfl, _, z⟩ := h
    cases z
    rfl
  | _, d :: e :: ds, _, h => by
    obtain ⟨v, r, rfl, r1, w, s, rfl, r2, r3⟩ := h
    exact ⟨v, _, rfl, r1, RepL.dropLast (ds := e :: ds) ⟨w, s, rfl, r2, r3⟩⟩
theorem mt_popD : MtR X "list.pop" (rMu k fPop) := by
  intro pins s σ H x xs v us Q I rx rv ⟨F, a, d, ds, d', res, hm, ok, ex, ow, rs, hf, q⟩
  unfold fPop at hf
  split at hf
  · obtain ⟨hl, hf⟩ := Option.ite_none_right_eq_some.mp hf
    obtain ⟨j, hj, hf⟩ := Option.bind_eq_some_iff.mp hf
    obtain ⟨c, hc, hf⟩ := Option.map_eq_some_iff.mp hf
    cases hf
    obtain ⟨hF, vs, h1, h2⟩ := ow.lst
    obtain ⟨y, r, rfl, ry, z⟩ := rs
    cases z
    cases ry
    obtain ⟨w, hw, rw1⟩ := h2.get hc
    exact mt_popAt pins s σ H x _ v us Q I rx rv ⟨a, vs, _, j, w, ex, rfl, h1, hl.1, hl.2, by rw [← h2.length]; exact hj, hw, q _ _ (OwnAt.ofL hF upd_same (h2.eraseIdx j)) upd_kp rw1⟩
  · obtain ⟨c, hc, hf⟩ := Option.map_eq_some_iff.mp hf
    cases hf
    obtain ⟨hF, vs, h1, h2⟩ := ow.lst
    cases rs
    obtain ⟨w, hw, rw1⟩ := h2.get hc
    exact mt_pop pins s σ H x _ v us Q I rx rv ⟨a, vs, w, ex, rfl, h1, by rw [← h2.length]; exact hw, q _ _ (OwnAt.ofL hF upd_same h2.dropLast) upd_kp rw1⟩
  · cases hf
theorem mt_dropD : MtR X "dict.pop" (rMu k fDrop) := by
  intro pins s σ H x xs v us Q I rx rv ⟨F, a, d, ds, d', res, hm, ok, ex, ow, rs, hf, q⟩
  subst ex
  cases rx
  unfold fDrop at hf
  split at hf
  · obtain ⟨c, hc, hf⟩ := Option.bind_eq_some_iff.mp hf
    obtain ⟨w, hw, hf⟩ := Option.map_eq_some_iff.mp hf
    cases hf
    obtain ⟨ha, rfl⟩ := keyOf_some hc
    obtain ⟨ks, h1, h2, h3, h4⟩ := ow.dK ha
    obtain ⟨y, r, rfl, ry, z⟩ := rs
    cases z
    cases PRep.key (H := H) (F := F) (k := k) (.inl ry)
    obtain ⟨u, rfl, ru⟩ := Vals.one rv
    rcases dFind_is c h2 h3 with ⟨c', v', e1, e2, r'⟩ | ⟨e1, _⟩
    · rw [hw] at e1; cases e1
      obtain ⟨g1, g2⟩ := dDrop_is c h2 h3
      exact d_pop I h1 ru e2 (.inl rfl) fun w' s' I' rw' => ⟨v', _, I', rw', q _ _ (OwnAt.ofK ow.1 upd_same g1 g2 (dropK_nodup c h4)) upd_kp r'⟩
    · rw [hw] at e1; cases e1
  · obtain ⟨c, hc, hf2⟩ := Option.map_eq_some_iff.mp hf
    clear hf
    obtain ⟨ha, rfl⟩ := keyOf_some hc
    obtain ⟨ks, h1, h2, h3, h4⟩ := ow.dK ha
    obtain ⟨y, r, rfl, ry, z, r2, rfl, rz, e4⟩ := rs
    cases e4
    cases PRep.key (H := H) (F := F) (k := k) (.inl ry)
    obtain ⟨u, u2, rfl, ru, ru2⟩ := Vals.two rv
    rcases dFind_is c h2 h3 with ⟨c', v', e1, e2, r'⟩ | ⟨e1, e2⟩
    · rw [e1] at hf2
      cases hf2
      obtain ⟨g1, g2⟩ := dDrop_is c h2 h3
      exact d_pop I h1 ru e2 (.inr ⟨u2, rfl⟩) fun w' s' I' rw' => ⟨v', _, I', rw', q _ _ (OwnAt.ofK ow.1 upd_same g1 g2 (dropK_nodup c h4)) upd_kp r'⟩
    · rw [e1] at hf2
      cases hf2
      exact d_popD I h1 ru e2 fun s' I' => ⟨z, H, I', ru2, q _ _ ow (fun _ _ _ h => h) rz⟩
  · cases hf

/-! ### o[i] = v -/
def fSet : D → D → D → Option D
  | .list ds, .int i, v => (ixN ds.length i).map fun j => .list (ds.set j v)
  | .dict kvs, y, v => if kvs.length < sizeLine then (match keyOf y kvs with
    | some q => some (.dict (dPut kvs q v))
    | none => (keyOfT y kvs).map fun q => .dict (tPut kvs y q v)) else none
  | _, _, _ => none
def rSetMu (k : KX) : TSet := fun o i v H Q => ∃ F a d y z d', k.Mono ∧ OkF F H ∧ o = .ref a ∧ OwnAt k F H a d ∧ Rep k F y i ∧ Rep k F z v ∧ fSet d y z = some d' ∧
  ∀ H', OwnAt k F H' a d' → (∀ b u, b ≠ a → H b = some u → H' b = some u) → Q H'
theorem set_mu {n : Nat} (hK : X.K = k.K) (hpw : X.prog = k.P ∧ X.w = k.w) (hr : Room n X.A) : PSet X (rSetMu k) := by
  intro pins s σ H o i v ov iv u Q I ro ri rv ⟨F, a, d, y, z, d', hm, ok, ex, ow, ry, rz, hf, q⟩
  subst ex
  unfold fSet at hf
  split at hf
  · obtain ⟨j, hj, hf⟩ := Option.map_eq_some_iff.mp hf
    subst hf
    obtain ⟨hF, vs, h1, h2⟩ := ow.lst
    cases ry
    exact set_list pins s σ H _ _ v ov iv u Q I ro ri rv ⟨a, vs, _, j, rfl, rfl, h1, by rw [← h2.length]; exact hj, q _ (OwnAt.ofL hF upd_same (h2.set j rz)) upd_kp⟩
  · rename_i kvs
    obtain ⟨hl, hf⟩ := Option.ite_none_right_eq_some.mp hf
    split at hf
    · rename_i c hc
      cases hf
      obtain ⟨ha, rfl⟩ := keyOf_some hc
      obtain ⟨ks, h1, h2, h3, h4⟩ := ow.dK ha
      cases PRep.key (H := H) (F := F) (k := k) (.inl ry)
      have hl' : ks.length < sizeLine := by
        have h5 := congrArg List.length h2
        simp at h5
        omega
      obtain ⟨g1, g2⟩ := dPut_is c h2 h3 rz
      exact set_dict (unit1 hr) pins s σ H _ _ v ov iv u Q I ro ri rv ⟨a, _, rfl, .inl ⟨ks, c, h1, rfl, hl', rfl⟩, q _ (OwnAt.ofK ow.1 upd_same g1 g2 (putK_nodup c v h4)) upd_kp⟩
    · obtain ⟨c, hc, hres⟩ := Option.map_eq_some_iff.mp hf
      subst hres
      obtain ⟨ha, hk⟩ := keyOfT_some hc
      obtain ⟨xs, vs, e⟩ := ow.ents ha
      obtain ⟨b, rfl, rfl, hkey⟩ := keyT_at hK ok I hk ry ri
      cases ro
      obtain ⟨hsm, dd⟩ := (e.up fun o h => Rd.of h).heap hpw hK ok I
      have hxl : kvs.length = xs.length := by simpa using congrArg List.length e.key
      obtain ⟨vs', p1, p2, p3, p4⟩ := Ents.put (a := a) (b := b) (u := u) e.key e.val e.rv e.rk hk ry rz rv
      obtain ⟨hsl, hsn⟩ := stored_len (xs := xs) (q := c) (b := b) (u := u)
      refine wpAny_setItem_heap (hsz := by omega) (unit9 hr) hkey dd fun h' dd' hs => ?_
      have nd : NDict k.P k.w a (storedH xs c b u) h' := by
        have := ndict_of dd'
        rw [hpw.1, hpw.2] at this
        exact this
      have mu : Mut (H a) := by
        rcases e.at_ with ⟨_, h2⟩ | ⟨_, h2, _⟩ <;> (rw [h2]; exact True.intro)
      have new : ObjOk X.prog X.w (upd H a (.ext (NDict k.P k.w a (storedH xs c b u)))) h' a (.ext (NDict k.P k.w a (storedH xs c b u))) := by
        have := ndict_obj (H' := upd H a (.ext (NDict k.P k.w a (storedH xs c b u)))) nd
        rw [← hpw.1, ← hpw.2] at this ⊢
        exact this
      have he : ∃ q, h'.get? a = some q := let ⟨o, _, _, ho, _⟩ := nd; ⟨o, ho⟩
      refine ⟨_, d_write I mu hs he new, q _ ?_ upd_kp⟩
      exact Ents.own ow.1 ⟨.inr ⟨hsn, upd_same, hsm⟩, by omega, p1, p2, stored_nodup e.nd, p3, p4⟩
  · cases hf
def setIxM (i : Nat) (mi mv : EM) : SM := fun g e => (mv g e).bind fun z => (ourI z.2 i).bind fun _ => (mi g z.2).bind fun y => (ourI y.2 i).bind fun d => (fSet d y.1.d z.1.d).map fun d' => (.nx, putB y.2 [(i, d')])
theorem psSetIx {i n : Nat} {x : Str} {ie ve : Expr} {mi mv : EM} {xpos spos pos : Pos} (hK : X.K = k.K) (hpw : X.prog = k.P ∧ X.w = k.w) (hr : Room n X.A) (hN : X.N[i]? = some x) (hv : Vis X.env.scope x) (hd : (x == ("__debug__" : Str)) = false) (hcd : (x == ("__classdict__" : Str)) = false)
    (hi : PE X ie (tE k g mi)) (hve : PE X ve (tE k g mv)) (hsl : notSlice ie = true) : PS X (.Assign [.Subscript (.Name x xpos) ie spos] ve pos) (tS k g (setIxM i mi mv)) := by
  have hg := pg_sub (X := X) (pos := spos) (pe_var (pos := xpos) hN hv hd hcd) (tK_of hi) (set_mu (k := k) hK hpw hr) (fun _ => by cases ie <;> first | rfl | cases hsl)
  refine (ps_asg (tK_of hve) hg (swaps_sole rfl) (swap_none rfl) rfl).weak fun D σ H ⟨F, e, f, e', er, hm, q⟩ => ?_
  obtain ⟨⟨z, e1⟩, h1, hm⟩ := Option.bind_eq_some_iff.mp hm
  obtain ⟨d0, h0, hm⟩ := Option.bind_eq_some_iff.mp hm
  obtain ⟨⟨y, e2⟩, h2, hm⟩ := Option.bind_eq_some_iff.mp hm
  obtain ⟨d, h3, hm⟩ := Option.bind_eq_some_iff.mp hm
  obtain ⟨d', h4, h5⟩ := Option.map_eq_some_iff.mp hm
  cases h5
  refine ⟨F, e, z, e1, er, h1, fun vz F1 H1 p1 rz => ?_⟩
  obtain ⟨s0, a0, g1, g2, g3, g4⟩ := ourI_own p1.er h0
  refine ⟨_, g3, F1, e1, y, e2, p1.er, h2, fun vy F2 H2 p2 ry => ?_⟩
  obtain ⟨s1, a1, k1, k2, k3, k4⟩ := ourI_own p2.er h3
  rw [g3] at k3; cases k3
  refine ⟨F2, a0, d, y.d, z.d, d', er.mono, p2.er.ok, rfl, k4, ry, rz.up er.mono p2.st.up, h4, fun H3 ow kp => ?_⟩
  exact q σ F2 H3 ((p1.trans p2).trans (p2.er.put1 h3 g3 ow kp))

/-! ### {} -/
def newDM : EM := fun _ e => some (.o (.dict []), e)
theorem peNewD {pos : Pos} : PE X (.Dict [] [] pos) (tE k g newDM) := pe_dnewK.weak fun σ H Q ⟨F, e, r, e', er, hm, q⟩ p hp => by
  cases hm
  have hF : F p = none := by
    cases e1 : F p with
    | none => rfl
    | some o => rw [er.ok p o e1] at hp; cases hp
  have ok : OkF F (upd H p (.dK [])) := fun a o e1 => by
    rw [upd_ne (ne_of_none (er.ok a o e1) hp)]; exact er.ok a o e1
  have st : Stp (fun _ => False) F H F (upd H p (.dK [])) := ⟨Up.refl F, fun a o h1 h2 _ => ⟨by rw [upd_ne (ne_of_none h1 hp)]; exact h1, h2⟩⟩
  have rn : RN k H F (upd H p (.dK [])) (.o (.dict [])) (.ref p) := ⟨p, rfl, OwnAt.ofK (ks := []) hF upd_same rfl rfl List.nodup_nil, hp⟩
  exact q _ F _ (er.go ok st) (rn.rr er)
end
end RL
end
section
set_option Elab.async false
set_option linter.all false
set_option autoImplicit false
set_option maxRecDepth 100000
set_option maxHeartbeats 4000000
/-! R16: dict(pairs) -/
namespace RL
open PySem PySem.Spec L2
open PyProof.Rows hiding St

def pairsOf : List D → Option (List (D × D))
  | [] => some []
  | .tuple [a, b] :: r => (pairsOf r).map fun ps => (a, b) :: ps
  | .list [a, b] :: r => (pairsOf r).map fun ps => (a, b) :: ps
  | _ => none
def dMerge (acc : List (D × D)) (ps : List (D × D)) : List (D × D) := ps.foldl (fun acc p => match keyK p.1 with
  | some q => dPut acc q p.2
  | none => acc) acc
/-- .. with tuples as keys -/
def tMerge (acc : List (D × D)) (ps : List (D × D)) : List (D × D) := ps.foldl (fun acc p => match keyT p.1 with
  | some q => tPut acc p.1 q p.2
  | none => acc) acc
def dictOf (ds : List D) : Option R := (pairsOf ds).bind fun ps => if ds.length ≤ sizeLine then (if allK ps = true then some (.o (.dict (dMerge [] ps))) else if allT ps = true then some (.o (.dict (tMerge [] ps))) else none) else none
def opDict : D → Option R
  | .list ds => dictOf ds
  | .tuple ds => dictOf ds
  | .dict kvs => if allK kvs = true then some (.o (.dict kvs)) else none
  | _ => none
section
variable {k : KX} {F : Hp}
theorem dMerge_is : ∀ {ps : List (D × D)} {kq : List (Key × V)} {acc : List (D × D)} {ks : List (Key × V)}, SameK ps kq → RepV k F ps (kq.map (·.2)) → SameK acc ks → RepV k F acc (ks.map (·.2)) → (ks.map (·.1)).Nodup →
    SameK (dMerge acc ps) (mergeK ks kq) ∧ RepV k F (dMerge acc ps) ((mergeK ks kq).map (·.2)) ∧ ((mergeK ks kq).map (·.1)).Nodup
  | [], [], _, _, _, _, h1, h2, h3 => ⟨h1, h2, h3⟩
  | (a, b) :: ps, q :: kq, acc, ks, hs, hr, h1, h2, h3 => by
    obtain ⟨v, r, e1, r1, r2⟩ := hr
    have e1' : q.2 :: kq.map (·.2) = v :: r := e1
    injection e1' with e2 e3
    subst e2 e3
    obtain ⟨e4, hs'⟩ := hs.cons
    obtain ⟨g1, g2⟩ := dPut_is q.1 h1 h2 r1
    have e5 : dMerge acc ((a, b) :: ps) = dMerge (dPut acc q.1 b) ps := by
      show dMerge (match keyK a with | some q => dPut acc q b | none => acc) ps = _
      rw [show keyK a = some q.1 from e4]
    rw [e5]
    have e6 : mergeK ks (q :: kq) = mergeK (putK ks q.1 q.2) kq := rfl
    rw [e6]
    exact dMerge_is hs' r2 g1 g2 (putK_nodup q.1 q.2 h3)
  | [], _ :: _, _, _, hs, _, _, _, _ => by cases hs
  | _ :: _, [], _, _, hs, _, _, _, _ => by cases hs
/-- a pair is read -/
theorem pair_at {X : Cx} {pins : List (Addr × Obj)} {σ : L2.St} {H : Hp} {s : Shared} (hK : X.K = k.K) (ok : OkF F H) (I : Inv X pins σ H s) {d a b : D} {v : V} (hd : d = .tuple [a, b] ∨ d = .list [a, b]) (r : Rep k F d v) :
    ∃ T x y u w, v = .ref T ∧ Rep k F a x ∧ Rep k F b y ∧ RelV x u ∧ RelV y w ∧ PairAt s.heap T u w := by
  have two : ∀ {vs : List V}, RepL k F [a, b] vs → ∃ x y, vs = [x, y] ∧ Rep k F a x ∧ Rep k F b y := by
    rintro vs ⟨x, r1, rfl, p1, y, r2, rfl, p2, z⟩
    cases z
    exact ⟨x, y, rfl, p1, p2⟩
  rcases hd with rfl | rfl
  · obtain ⟨T, vs, rfl, h1, h2⟩ := r
    obtain ⟨x, y, rfl, p1, p2⟩ := two h2
    have h3 := ok.t (k := k) h1.t
    rw [← hK] at h3
    obtain ⟨its, rv, pl, _⟩ := I.tuple h3
    obtain ⟨u, w, rfl, ru, rw1⟩ := Vals.two rv
    exact ⟨T, x, y, u, w, rfl, p1, p2, ru, rw1, .inl pl⟩
  · obtain ⟨T, vs, rfl, h1, h2⟩ := r
    obtain ⟨x, y, rfl, p1, p2⟩ := two h2
    obtain ⟨its, rv, pl, _⟩ := I.list (SqL.of (K := X.K) (ok _ _ h1))
    obtain ⟨u, w, rfl, ru, rw1⟩ := Vals.two rv
    exact ⟨T, x, y, u, w, rfl, p1, p2, ru, rw1, .inr pl.isList⟩
theorem pairs_atT {X : Cx} {pins : List (Addr × Obj)} {σ : L2.St} {H : Hp} {s : Shared} (hK : X.K = k.K) (ok : OkF F H) (I : Inv X pins σ H s) : ∀ {ds : List D} {ps : List (D × D)} {vs : List V}, pairsOf ds = some ps → allT ps = true → RepL k F ds vs →
    ∃ (Ts : List Addr) (pv : List (Value × Value)) (xs : List (NestedKey × Addr × Value)) (ws : List V), vs = Ts.map V.ref ∧ Paired (fun (T : Addr) (r : Value × Value) => PairAt s.heap T r.1 r.2) Ts pv ∧ pv = xs.map (fun x => (Value.ref x.2.1, x.2.2)) ∧
      ps.map (fun p => keyT p.1) = xs.map (fun x => some x.1) ∧ Vals ws (xs.map (·.2.2)) ∧ RepV k F ps ws ∧ RepKs k F ps (xs.map (·.2.1))
  | [], ps, vs, h, _, hr => by
    cases h
    cases hr
    exact ⟨[], [], [], [], rfl, .nil, rfl, rfl, .nil, rfl, rfl⟩
  | d :: ds, ps, vs, h, ha, hr => by
    obtain ⟨v, r, rfl, r1, r2⟩ := hr
    have go : ∀ {a b : D}, (d = .tuple [a, b] ∨ d = .list [a, b]) → ∀ {ps'}, pairsOf ds = some ps' → ps = (a, b) :: ps' → ∃ (Ts : List Addr) (pv : List (Value × Value)) (xs : List (NestedKey × Addr × Value)) (ws : List V), v :: r = Ts.map V.ref ∧ Paired (fun (T : Addr) (r : Value × Value) => PairAt s.heap T r.1 r.2) Ts pv ∧ pv = xs.map (fun x => (Value.ref x.2.1, x.2.2)) ∧
      ps.map (fun p => keyT p.1) = xs.map (fun x => some x.1) ∧ Vals ws (xs.map (·.2.2)) ∧ RepV k F ps ws ∧ RepKs k F ps (xs.map (·.2.1)) := by
      intro a b hd ps' h' e
      subst e
      have ha' := (by simpa [allT] using ha : (keyT a).isSome = true ∧ _)
      obtain ⟨Ts, pv, xs, ws, e1, e2, e3, e4, e5, e6, e7⟩ := pairs_atT (ps := ps') hK ok I h' (by simpa [allT] using ha'.2) r2
      obtain ⟨T, x, y, u, w, rfl, p1, p2, ru, rw1, pa⟩ := pair_at hK ok I hd r1
      obtain ⟨q, hq⟩ := Option.isSome_iff_exists.mp ha'.1
      obtain ⟨c, rfl, rfl, _⟩ := keyT_at hK ok I hq p1 ru
      refine ⟨T :: Ts, (.ref c, w) :: pv, (q, c, w) :: xs, y :: ws, by rw [e1]; rfl, .cons pa e2, by rw [e3]; rfl, ?_, .cons rw1 e5, ⟨y, _, rfl, p2, e6⟩, ⟨c, _, rfl, p1, e7⟩⟩
      rw [List.map_cons, List.map_cons, hq, e4]
    unfold pairsOf at h
    split at h
    · cases ‹d :: ds = []›
    · rename_i a b r' heq
      cases heq
      obtain ⟨ps', h', e⟩ := Option.map_eq_some_iff.mp h
      exact go (.inl rfl) h' e.symm
    · rename_i a b r' heq
      cases heq
      obtain ⟨ps', h', e⟩ := Option.map_eq_some_iff.mp h
      exact go (.inr rfl) h' e.symm
    · cases h
/-- all are set, one after another -/
theorem tMerge_is : ∀ {ps : List (D × D)} {xs : List (NestedKey × Addr × Value)} {ws : List V} {acc : List (D × D)} {ys : List (NestedKey × Addr × Value)} {zs : List V}, ps.map (fun p => keyT p.1) = xs.map (fun x => some x.1) → Vals ws (xs.map (·.2.2)) → RepV k F ps ws → RepKs k F ps (xs.map (·.2.1)) →
    acc.map (fun p => keyT p.1) = ys.map (fun x => some x.1) → Vals zs (ys.map (·.2.2)) → RepV k F acc zs → RepKs k F acc (ys.map (·.2.1)) → (ys.map (·.1)).Nodup →
    ∃ vs', (tMerge acc ps).map (fun p => keyT p.1) = (storedAllH ys xs).map (fun x => some x.1) ∧ Vals vs' ((storedAllH ys xs).map (·.2.2)) ∧ RepV k F (tMerge acc ps) vs' ∧ RepKs k F (tMerge acc ps) ((storedAllH ys xs).map (·.2.1)) ∧ ((storedAllH ys xs).map (·.1)).Nodup
  | [], [], _, _, _, _, _, _, _, _, a1, a2, a3, a4, a5 => ⟨_, a1, a2, a3, a4, a5⟩
  | [], _ :: _, _, _, _, _, h, _, _, _, _, _, _, _, _ => by cases h
  | _ :: _, [], _, _, _, _, h, _, _, _, _, _, _, _, _ => by cases h
  | (a, b) :: ps, x :: xs, ws, acc, ys, zs, h1, h2, h3, h4, a1, a2, a3, a4, a5 => by
    simp only [List.map_cons, List.cons.injEq] at h1
    obtain ⟨v, r, rfl, r1, r2⟩ := h3
    obtain ⟨c, t, e1, t1, t2⟩ := h4
    simp only [List.map_cons, List.cons.injEq] at e1
    obtain ⟨rfl, rfl⟩ := e1
    cases h2 with
    | cons v1 v2 =>
      obtain ⟨vs', g1, g2, g3, g4⟩ := Ents.put (a := x.2.1) (b := x.2.1) (u := x.2.2) a1 a2 a3 a4 h1.1 t1 r1 v1
      have e5 : tMerge acc ((a, b) :: ps) = tMerge (tPut acc a x.1 b) ps := by
        show tMerge (match keyT a with | some q => tPut acc a q b | none => acc) ps = _
        rw [h1.1]
      rw [e5]
      have := tMerge_is h1.2 v2 r2 t2 g1 g2 g3 g4 (stored_nodup a5)
      exact this
theorem pairs_at {X : Cx} {pins : List (Addr × Obj)} {σ : L2.St} {H : Hp} {s : Shared} (hK : X.K = k.K) (ok : OkF F H) (I : Inv X pins σ H s) : ∀ {ds : List D} {ps : List (D × D)} {vs : List V}, pairsOf ds = some ps → allK ps = true → RepL k F ds vs →
    ∃ (Ts : List Addr) (kq : List (Key × V)) (pv : List (Value × Value)), vs = Ts.map V.ref ∧ SameK ps kq ∧ RepV k F ps (kq.map (·.2)) ∧ Paired (fun (q : Key × V) (r : Value × Value) => RelV (kV q.1) r.1 ∧ RelV q.2 r.2) kq pv ∧
      Paired (fun (T : Addr) (r : Value × Value) => PairAt s.heap T r.1 r.2) Ts pv
  | [], ps, vs, h, _, hr => by
    cases h
    cases hr
    exact ⟨[], [], [], rfl, rfl, rfl, .nil, .nil⟩
  | d :: ds, ps, vs, h, ha, hr => by
    obtain ⟨v, r, rfl, r1, r2⟩ := hr
    have go : ∀ {a b : D}, (d = .tuple [a, b] ∨ d = .list [a, b]) → ∀ {ps'}, pairsOf ds = some ps' → ps = (a, b) :: ps' → ∃ (Ts : List Addr) (kq : List (Key × V)) (pv : List (Value × Value)), v :: r = Ts.map V.ref ∧ SameK ps kq ∧ RepV k F ps (kq.map (·.2)) ∧ Paired (fun (q : Key × V) (r : Value × Value) => RelV (kV q.1) r.1 ∧ RelV q.2 r.2) kq pv ∧
        Paired (fun (T : Addr) (r : Value × Value) => PairAt s.heap T r.1 r.2) Ts pv := by
      intro a b hd ps' h' e
      subst e
      have ha' := (by simpa [allK] using ha : (keyK a).isSome = true ∧ _)
      obtain ⟨Ts, kq, pv, e1, e2, e3, e4, e5⟩ := pairs_at (ps := ps') hK ok I h' (by simpa [allK] using ha'.2) r2
      obtain ⟨T, x, y, u, w, rfl, p1, p2, ru, rw1, pa⟩ := pair_at hK ok I hd r1
      obtain ⟨q, hq⟩ := Option.isSome_iff_exists.mp ha'.1
      have := keyK_keyD hq
      subst this
      cases PRep.key (H := H) (F := F) (k := k) (.inl p1)
      refine ⟨T :: Ts, (q, y) :: kq, (u, w) :: pv, by rw [e1]; rfl, ?_, ⟨y, _, rfl, p2, e3⟩, .cons ⟨ru, rw1⟩ e4, .cons pa e5⟩
      show keyK (keyD q) :: _ = some q :: _
      rw [hq]
      exact congrArg _ e2
    unfold pairsOf at h
    split at h
    · cases ‹d :: ds = []›
    · rename_i a b r' heq
      cases heq
      obtain ⟨ps', h', e⟩ := Option.map_eq_some_iff.mp h
      exact go (.inl rfl) h' e.symm
    · rename_i a b r' heq
      cases heq
      obtain ⟨ps', h', e⟩ := Option.map_eq_some_iff.mp h
      exact go (.inr rfl) h' e.symm
    · cases h
theorem paired_get {α β : Type} {P : α → β → Prop} : ∀ {l : List α} {m : List β} {i : Nat} {b : β}, Paired P l m → m[i]? = some b → ∃ a, l[i]? = some a ∧ P a b
  | _, _, _, _, .nil, h => by simp at h
  | _, _, 0, _, .cons r _, h => by simp at h; subst h; exact ⟨_, rfl, r⟩
  | _, _, i + 1, _, .cons _ t, h => by
    obtain ⟨a, h1, h2⟩ := paired_get (i := i) t (by simpa using h)
    exact ⟨a, by simpa using h1, h2⟩
theorem vals_refs : ∀ {Ts : List Addr} {us : List Value}, Vals (Ts.map V.ref) us → us = Ts.map Value.ref
  | [], _, .nil => rfl
  | T :: Ts, _, .cons r t => by
    cases r
    rw [vals_refs t]; rfl
theorem kv_of : ∀ {kq : List (Key × V)} {pv : List (Value × Value)}, Paired (fun (q : Key × V) (r : Value × Value) => RelV (kV q.1) r.1 ∧ RelV q.2 r.2) kq pv → KV kq ((kq.zip pv).map fun p => (p.1.1, p.2.2))
  | _, _, .nil => .nil
  | _, _, .cons r t => .cons ⟨rfl, r.2⟩ (kv_of t)
variable {X : Cx} (hK : X.K = k.K) (hc : X.calm = true) (hpw : X.prog = k.P ∧ X.w = k.w) {n : Nat} (hrm : Room n X.A)
include hK hc hpw hrm in
/-- dict(a list or a tuple of pairs) -/
theorem dict_seq {pins : List (Addr × Obj)} {σ : L2.St} {H : Hp} {s : Shared} {ds : List D} {vs : List V} {a : Addr} {res : R} {Q : VK} (I : Inv X pins σ H s) (hm : k.Mono) (ok : OkF F H) (hr : RepL k F ds vs) (ho : dictOf ds = some res)
    (hs : (∃ its : List Value, Vals vs its ∧ PlainSeq "list" s.heap a its.toArray) ∨ ∃ its : List Value, Vals vs its ∧ PlainSeq "tuple" s.heap a its.toArray)
    (q : ∀ v F' H', OkF F' H' → Stp (fun _ => False) F H F' H' → RN k H F' H' res v → Q v H') : wpAny (model X.prog X.w) X.A (call (.type "dict") [.ref a]) (EP X pins σ Q) X.xe s := by
  obtain ⟨ps, hp, ho⟩ := Option.bind_eq_some_iff.mp ho
  obtain ⟨hl, ho⟩ := Option.ite_none_right_eq_some.mp ho
  split at ho
  case isFalse hna =>
    obtain ⟨ha, ho⟩ := Option.ite_none_right_eq_some.mp ho
    cases ho
    obtain ⟨Ts, pv, xs, ws, rfl, e5, rfl, e2, e3, e4, e6⟩ := pairs_atT hK ok I hp ha hr
    have lt : Ts.length = xs.length := by
      have := Paired.length e5
      simpa using this
    have ld : ds.length = xs.length := by rw [hr.length, List.length_map, lt]
    have hh : X.A.handled = none := I.ok.hd hc
    have keys := keys_is hK ok I e2 e6
    have hne : xs ≠ [] := by
      intro z
      subst z
      cases ps with
      | nil => exact hna rfl
      | cons _ _ => cases e2
    obtain ⟨vs', g1, g2, g3, g4, g5⟩ := tMerge_is (acc := []) (ys := []) (zs := []) e2 e3 e4 e6 rfl .nil rfl rfl List.nodup_nil
    have have_ : PairsHaveH (nestedKind X.prog X.w) xs.length (PairRel (xs.map fun x => (Value.ref x.2.1, x.2.2))) xs := ⟨rfl, fun i key v hi => by
      have hi' : (xs.map fun x => (Value.ref x.2.1, x.2.2))[i]? = some (key, v) := hi
      rw [List.getElem?_map] at hi'
      obtain ⟨x, hx, e⟩ := Option.map_eq_some_iff.mp hi'
      cases e
      exact ⟨x.1, x.2.1, hx, rfl⟩⟩
    have items : ∀ its : List Value, Vals (Ts.map V.ref) its → PairItems s.heap its.toArray (fun j => Ts.getD j 0) (xs.map fun x => (Value.ref x.2.1, x.2.2)) := by
      intro its rv
      have := vals_refs rv
      subst this
      refine ⟨by simp [lt], fun j kk v hj => ?_⟩
      obtain ⟨T, h1, h2⟩ := paired_get e5 hj
      have e : Ts.getD j 0 = T := by rw [List.getD_eq_getElem?_getD, h1]; rfl
      show _ = some (Value.ref (Ts.getD j 0)) ∧ PairAt s.heap (Ts.getD j 0) kk v
      rw [e]
      exact ⟨by simp [h1], h2⟩
    have hlen : ∀ (zs ys : List (NestedKey × Addr × Value)), (storedAllH ys zs).length ≤ ys.length + zs.length := by
      intro zs
      induction zs with
      | nil => intro ys; exact Nat.le_refl _
      | cons z zs ih =>
        intro ys
        have h1 := ih (storedH ys z.1 z.2.1 z.2.2)
        have h2 := (stored_len (xs := ys) (q := z.1) (b := z.2.1) (u := z.2.2)).1
        show (storedAllH (storedH ys z.1 z.2.1 z.2.2) zs).length ≤ _
        simp only [List.length_cons]
        omega
    have hnz : ∀ (zs ys : List (NestedKey × Addr × Value)), ys ≠ [] → storedAllH ys zs ≠ [] := by
      intro zs
      induction zs with
      | nil => intro ys h; exact h
      | cons z zs ih => intro ys h; exact ih _ (stored_len (xs := ys)).2
    have hnn : storedAllH [] xs ≠ [] := by
      cases xs with
      | nil => exact absurd rfl hne
      | cons z zs => exact hnz zs _ (stored_len (xs := [])).2
    have fin : ∀ h' tk, h'.DictOfH (nestedKind X.prog X.w) s.heap.objs.size (storedAllH [] xs) → (∀ b o, b ∉ ([] : List Addr) → s.heap.get? b = some o → h'.get? b = some o) → EP X pins σ Q (.ref s.heap.objs.size) { s with heap := h', toks := tk } := by
      intro h' tk dd hk
      have hn : H s.heap.objs.size = none := I.hok.fresh (Nat.le_refl _)
      have hF : F s.heap.objs.size = none := by
        cases e1 : F s.heap.objs.size with
        | none => rfl
        | some o => rw [ok _ o e1] at hn; cases hn
      have nd : NDict k.P k.w s.heap.objs.size (storedAllH [] xs) h' := by
        have := ndict_of dd
        rw [hpw.1, hpw.2] at this
        exact this
      have new : ObjOk X.prog X.w (upd H s.heap.objs.size (.ext (NDict k.P k.w s.heap.objs.size (storedAllH [] xs)))) h' s.heap.objs.size (.ext (NDict k.P k.w s.heap.objs.size (storedAllH [] xs))) := by
        have := ndict_obj (H' := upd H s.heap.objs.size (.ext (NDict k.P k.w s.heap.objs.size (storedAllH [] xs)))) nd
        rw [← hpw.1, ← hpw.2] at this ⊢
        exact this
      have I2 := I.laid (a := s.heap.objs.size) (o := .ext (NDict k.P k.w s.heap.objs.size (storedAllH [] xs))) (t' := tk) (fun b o e => hk b o (by simp) e) (Nat.le_refl _) new
      have hsm : (s.heap.objs.size == sysModules) = false := beq_eq_false_iff_ne.mpr (Ne.symm (Nat.ne_of_lt I.big))
      have hlx := hlen xs []
      refine ⟨.ref s.heap.objs.size, _, I2, rfl, q _ F _ (fun b o e1 => ?_) ⟨Up.refl F, fun b o h1 h2 _ => ⟨?_, h2⟩⟩ ⟨_, rfl, Ents.own hF ⟨.inr ⟨hnn, upd_same, hsm⟩, by simp only [List.length_nil] at hlx; omega, g1, g2, g5, g3, g4⟩, hn⟩⟩
      · rw [upd_ne (ne_of_none (ok b o e1) hn)]; exact ok b o e1
      · rw [upd_ne (ne_of_none h1 hn)]; exact h1
    have room : (nestedKind X.prog X.w).room X.A.in1.in1 := by
      have := hrm.u64
      show X.A.units + 2 + 8 < cLine
      omega
    have stay : KeysStay (nestedKind X.prog X.w) s.heap s.heap.objs.size [] xs := fun h' hk x hx => nestedKind_stays.stays (fun b o _ _ e _ => hk b o (Nat.ne_of_lt (Heap.lt_size e)) (fun z => nomatch z) e) (keys x hx)
    have lp : (xs.map fun x => (Value.ref x.2.1, x.2.2)).length = xs.length := by simp
    rcases hs with ⟨its, rv, pl⟩ | ⟨its, rv, pl⟩
    · exact call_dict_pairsH (PairArg.list a its.toArray _ _) hh room ⟨pl, items its rv⟩ (by rw [lp]; exact have_) stay (by omega) fin
    · exact call_dict_pairsH (PairArg.tuple a its.toArray _ _) hh room ⟨pl, items its rv⟩ (by rw [lp]; exact have_) stay (by omega) fin
  rename_i ha
  cases ho
  obtain ⟨Ts, kq, pv, rfl, e2, e3, e4, e5⟩ := pairs_at hK ok I hp ha hr
  have lt : Ts.length = pv.length := Paired.length e5
  have lk : kq.length = pv.length := Paired.length e4
  have ld : ds.length = pv.length := by rw [hr.length, List.length_map, lt]
  obtain ⟨g1, g2, g3⟩ := dMerge_is e2 e3 (acc := []) (ks := []) rfl rfl List.nodup_nil
  have hh : X.A.handled = none := I.ok.hd hc
  have have_ : PairsHave (mixKind X.prog X.w) pv.length (PairRel pv) ((kq.zip pv).map fun p => (p.1.1, p.2.2)) := by
    refine ⟨by simp [lk], fun i key v hi => ?_⟩
    obtain ⟨q', h1, h2⟩ := paired_get e4 hi
    have hz : (kq.zip pv)[i]? = some (q', (key, v)) := List.getElem?_zip_eq_some.mpr ⟨h1, hi⟩
    exact ⟨q'.1, by rw [List.getElem?_map, hz]; rfl, kV_is h2.1⟩
  have items : ∀ its : List Value, Vals (Ts.map V.ref) its → PairItems s.heap its.toArray (fun j => Ts.getD j 0) pv := by
    intro its rv
    have := vals_refs rv
    subst this
    refine ⟨by simp [lt], fun j kk v hj => ?_⟩
    obtain ⟨T, h1, h2⟩ := paired_get e5 hj
    have e : Ts.getD j 0 = T := by rw [List.getD_eq_getElem?_getD, h1]; rfl
    show _ = some (Value.ref (Ts.getD j 0)) ∧ PairAt s.heap (Ts.getD j 0) kk v
    rw [e]
    exact ⟨by simp [h1], h2⟩
  have fin : ∀ h' tk, h'.DictOf (mixKind X.prog X.w) s.heap.objs.size (merged [] ((kq.zip pv).map fun p => (p.1.1, p.2.2))) → (∀ b o, b ∉ ([] : List Addr) → s.heap.get? b = some o → h'.get? b = some o) → EP X pins σ Q (.ref s.heap.objs.size) { s with heap := h', toks := tk } := by
    intro h' tk dd hk
    have kvm := (kv_of e4).merge (kvs := []) (vs := []) .nil
    have hz : (mergeK [] kq).length ≤ sizeLine := by
      have h1 := length_mergeK kq []
      rw [List.length_nil] at h1
      omega
    have hn : H s.heap.objs.size = none := I.hok.fresh (Nat.le_refl _)
    have hF : F s.heap.objs.size = none := by
      cases e1 : F s.heap.objs.size with
      | none => rfl
      | some o => rw [ok _ o e1] at hn; cases hn
    have I2 := I.laid (a := s.heap.objs.size) (o := .dK (mergeK [] kq)) (t' := tk) (fun b o e => hk b o (by simp) e) (Nat.le_refl _) (dk_new hz (beq_eq_false_iff_ne.mpr (Ne.symm (Nat.ne_of_lt I.big))) kvm dd)
    refine ⟨.ref s.heap.objs.size, _, I2, rfl, q _ F _ (fun b o e1 => ?_) ⟨Up.refl F, fun b o h1 h2 _ => ⟨?_, h2⟩⟩ ⟨_, rfl, OwnAt.ofK hF upd_same g1 g2 g3, hn⟩⟩
    · rw [upd_ne (ne_of_none (ok b o e1) hn)]; exact ok b o e1
    · rw [upd_ne (ne_of_none h1 hn)]; exact h1
  rcases hs with ⟨its, rv, pl⟩ | ⟨its, rv, pl⟩
  · exact call_dict_pairs (PairArg.list a its.toArray _ pv) hh ⟨pl, items its rv⟩ have_ (by omega) fin
  · exact call_dict_pairs (PairArg.tuple a its.toArray _ pv) hh ⟨pl, items its rv⟩ have_ (by omega) fin
/-- the object of a tuple -/
theorem plain_tup {pins : List (Addr × Obj)} {σ : L2.St} {H : Hp} {s : Shared} (I : Inv X pins σ H s) {a : Addr} {vs : List V} (h : TupN X.K H a vs) : ∃ its : List Value, Vals vs its ∧ PlainSeq "tuple" s.heap a its.toArray := by
  rcases h with ⟨o, h, hd⟩ | ⟨o, its, n, h1, h2, h3, h4, h5, h6⟩
  · obtain ⟨ho, hz, its, rv, o', ho', hc', n, hd'⟩ := I.hok a _ h
    rw [ho] at ho'; cases ho'
    exact ⟨its, rv, o, n, ho, hc', hd, hd'⟩
  · exact ⟨its.toList, h5, o, n, I.kIn a o h1, h2, h6, by simpa using h3⟩
include hK hc hpw hrm in
theorem c_dict : CallR X (.type "dict") (rOf k (op1L opDict)) := by
  intro pins s σ H xs us Q I r h
  obtain ⟨x, rfl, F, d, res, hm, ok, hx, ho, q⟩ := rOf_1 h
  unfold opDict at ho
  split at ho
  · obtain ⟨a, vs, rfl, h1, h2⟩ := hx.lst ok
    have e := Vals.ref1 r
    subst e
    obtain ⟨its, rv, pl, _⟩ := I.list (SqL.of h1)
    obtain ⟨o, n, e1, e2, e3, e4⟩ := pl
    exact dict_seq hK hc hpw hrm I hm ok h2 ho (.inl ⟨its, rv, o, n, e1, e2, e3, e4⟩) q
  · obtain ⟨a, vs, rfl, h1, h2, h3⟩ := hx.tup ok
    have e := Vals.ref1 r
    subst e
    obtain ⟨a', vs', e1, t1, r1⟩ := h3
    cases e1
    have t2 : TupN X.K H a vs' := by
      rw [hK]
      rcases t1 with ⟨o, h, hd⟩ | t1
      · exact .inl ⟨o, ok _ _ h, hd⟩
      · exact .inr t1
    exact dict_seq hK hc hpw hrm I hm ok r1 ho (.inr (plain_tup I t2)) q
  · rename_i kvs
    obtain ⟨ha, ho⟩ := Option.ite_none_right_eq_some.mp ho
    cases ho
    obtain ⟨a, ks, rfl, rd, h1, h2, h3⟩ := hx.dK ok ha
    have e := Vals.ref1 r
    subst e
    refine d_copyOf I rd fun p s' hp I' => ⟨.ref p, _, I', rfl, ?_⟩
    have hF : F p = none := by
      cases e1 : F p with
      | none => rfl
      | some o => rw [ok p o e1] at hp; cases hp
    refine q _ F _ (fun b o e1 => ?_) ⟨Up.refl F, fun b o e1 e2 _ => ⟨?_, e2⟩⟩ ⟨p, rfl, OwnAt.ofK hF upd_same h1 h2 h3, hp⟩
    · rw [upd_ne (ne_of_none (ok b o e1) hp)]; exact ok b o e1
    · rw [upd_ne (ne_of_none e1 hp)]; exact e1
  · cases ho
end
end RL
end
section
set_option Elab.async false
set_option linter.all false
set_option autoImplicit false
set_option maxRecDepth 100000
set_option maxHeartbeats 4000000
/-! R17: sorted(set(a list of texts)) -/
namespace RL
open PySem PySem.Spec L2
open PyProof.Rows hiding St

abbrev SK (P : Program) (w : World) := PySem.strKind P w
def txtOf (e : Int × Value) : Str := match e.2 with
  | .str x _ => x
  | _ => Str.empty
def GoodT (w : World) (e : Int × Value) : Prop := ∃ x tk, e.2 = Value.str x tk ∧ e.1 = hashStr w x
/-- a set of texts, its members S, n of them -/
def SetT (w : World) (h : Heap) (a : Addr) (S : Str → Bool) (n : Nat) : Prop :=
  ∃ o es ep t, h.get? a = some o ∧ o.ExactSet ∧ o.data = .set es ep t ∧ (∀ e ∈ es.toList, GoodT w e) ∧ (es.toList.map txtOf).Nodup ∧ (∀ x, S x = true ↔ x ∈ es.toList.map txtOf) ∧
    es.size < scanBound ∧ t.fits es.size = true ∧ es.size = n ∧ Ris t.place.toList ∧ (w.params.followText "set-order" = true ∨ t.led = true)
section
variable {P : Program} {w : World} {h h' : Heap} {a : Addr} {S : Str → Bool} {n : Nat}
theorem SetT.at (R : SetT w h a S n) (k : ∀ o, h.get? a = some o → h'.get? a = some o) : SetT w h' a S n :=
  let ⟨o, es, ep, t, ho, r⟩ := R
  ⟨o, es, ep, t, k o ho, r⟩
theorem goodT_elems {l : List (Int × Value)} (g : ∀ e ∈ l, GoodT w e) : ElemsOf (SK P w) l := fun e he => by
  obtain ⟨x, tk, h1, h2⟩ := g e he
  exact ⟨⟨x, by rw [h1]; exact strKind_is P w x tk, h2⟩, by rw [h1] <;> rfl⟩
theorem goodT_is {e : Int × Value} (g : GoodT w e) (x : Str) : (SK P w).is x e.2 = true ↔ txtOf e = x := by
  obtain ⟨y, tk, h1, _⟩ := g
  unfold txtOf
  rw [h1]
  constructor
  · intro q
    exact (SK P w).inj _ _ _ (strKind_is P w y tk) q
  · rintro rfl
    exact strKind_is P w y tk
theorem goodT_mem {l : List (Int × Value)} (g : ∀ e ∈ l, GoodT w e) (x : Str) : x ∈ l.map txtOf ↔ ∃ e ∈ l, (SK P w).is x e.2 = true := by
  rw [List.mem_map]
  exact ⟨fun ⟨e, he, q⟩ => ⟨e, he, (goodT_is (g e he) x).2 q⟩, fun ⟨e, he, q⟩ => ⟨e, he, (goodT_is (g e he) x).1 q⟩⟩
theorem setT_fresh {led : Bool} {h : Heap} (hl : h.get? a = some { cls := .type "set", dict := none, data := .set #[] 0 (.fresh 0 0 led) }) (hw : w.params.followText "set-order" = true ∨ led = true) : SetT w h a (fun _ => false) 0 :=
  ⟨_, #[], 0, _, hl, ⟨rfl, rfl, rfl⟩, rfl, (fun e he => by simp at he), (by simp), (fun k => by simp), (by decide), (by rfl), rfl, List.Pairwise.nil, hw⟩
end
section
variable {P : Program} {w : World} {A : Around} {E : Value → Shared → Prop} {s : Shared} {a : Addr} {S : Str → Bool} {n : Nat}
theorem setT_tail {g : Bool → Sem Unit} (hg : ∀ (b : Bool) (s₁ : Shared) (Q' : Unit → Shared → Prop), Q' () s₁ → wpAny (model P w) A (g b) Q' E s₁)
    {o : Obj} {es : Array (Int × Value)} {ep : Nat} {t : SetTable} (ho : s.heap.get? a = some o) (hex : o.ExactSet) (hd : o.data = .set es ep t)
    {es1 : Array (Int × Value)} {t2 : SetTable} {S' : Str → Bool} (g1 : ∀ e ∈ es1.toList, GoodT w e) (nd1 : (es1.toList.map txtOf).Nodup) (m1 : ∀ x, S' x = true ↔ x ∈ es1.toList.map txtOf)
    (hb1 : es1.size < scanBound) (hf2 : t2.fits es1.size = true) (hr : Ris t2.place.toList) (hl : w.params.followText "set-order" = true ∨ t2.led = true) {wasDummy : Bool} {R : Option Bool → Shared → Prop}
    (hR : ∀ h', Heap.SameBut a s.heap h' → SetT w h' a S' es1.size → R (some true) { s with heap := h' }) :
    wpAny (model P w) A (do
        storeSet a es1 t2
        if (!wasDummy && t2.tooFull) = true then do
            g (relayAll t2 es1 (SetTable.grown es1.size)).2.2
            storeSet a (relayAll t2 es1 (SetTable.grown es1.size)).1 (relayAll t2 es1 (SetTable.grown es1.size)).2.1
            pure (some true)
          else pure (some true)) R E s := by
  have ho1 := store_at (es' := es1) (t' := t2) ho hd
  have sb1 := Heap.SameBut.update s.heap a (Obj.putSet es1 t2)
  refine wpAny_bind (wpAny_storeSet_of ho hd ?_ (fits_of_scanBound hb1))
  split
  · have pm := relayAll_perm t2 es1 (SetTable.grown es1.size)
    have hf3 := relayAll_fits t2 es1 (SetTable.grown es1.size)
    have hr3 := relayAll_ris t2 es1 (SetTable.grown es1.size)
    have hl3 := relayAll_led t2 es1 (SetTable.grown es1.size)
    generalize relayAll t2 es1 (SetTable.grown es1.size) = Z at pm hf3 hr3 hl3 ⊢
    obtain ⟨es2, t3, gave⟩ := Z
    dsimp only at pm hf3 hr3 hl3 ⊢
    have hsz : es2.size = es1.size := by rw [← Array.length_toList, pm.length_eq, Array.length_toList]
    have hb2 : es2.size < scanBound := by omega
    refine wpAny_bind (hg _ _ _ (wpAny_bind (wpAny_storeSet_of ho1 rfl ?_ (fits_of_scanBound hb2))))
    have ho2 := store_at (es' := es2) (t' := t3) ho1 rfl
    have pt := pm.map txtOf
    exact wpAny_pure (hR _ (sb1.trans (Heap.SameBut.update _ a _)) ⟨_, es2, _, t3, ho2, hex, rfl, fun e he => g1 e (pm.mem_iff.mp he), pt.nodup_iff.mpr nd1, fun x => (m1 x).trans pt.mem_iff.symm, hb2, hf3, hsz, hr3,
      hl.imp id fun z => by rw [hl3]; exact z⟩)
  · exact wpAny_pure (hR _ sb1 ⟨_, es1, _, t2, ho1, hex, rfl, g1, nd1, m1, hb1, hf2, rfl, hr, hl⟩)
theorem setT_add {k : Str} {tk : Tok} {Q : Bool → Shared → Prop} (R : SetT w s.heap a S n) (room : n + 1 < scanBound)
    (hQ : ∀ h', Heap.SameBut a s.heap h' → SetT w h' a (fun j => S j || decide (j = k)) (if S k = true then n else n + 1) → Q (!S k) { s with heap := h' }) :
    wpAny (model P w) A (setAddHashed a (.str k tk) (hashStr w k)) Q E s := by
  obtain ⟨o, es, ep, t, ho, hex, hd, g, nd, hm, hb, hf, hn, hr, hl⟩ := R
  have hkey : (SK P w).is k (.str k tk) = true := strKind_is P w k tk
  have hsc : (Value.str k tk).scannable = true := rfl
  have hel : ElemsOf (SK P w) es.toList := goodT_elems g
  show wpAny (model P w) A (setAddHashed a (.str k tk) ((SK P w).hash k)) Q E s
  unfold setAddHashed setAddHashedIn
  refine wpAny_holding (wpAny_bind (wpAny_setState_of ho hd hf ?_))
  dsimp only
  rw [byScan_of hsc hb hel]
  simp only [↓reduceIte]
  unfold setAddByScan
  refine wpAny_bind (wpAny_bind (wpAny_rule (wpAny_bind (wpAny_setScan_of hkey ho hd hf hel ?_))))
  cases hfi : List.findIdx? (fun e => (SK P w).is k e.2) es.toList with
  | some j =>
    dsimp only
    obtain ⟨hj, pj, _⟩ := List.findIdx?_eq_some_iff_getElem.mp hfi
    have hSk : S k = true := (hm k).2 ((goodT_mem (P := P) (w := w) g k).2 ⟨es.toList[j], List.getElem_mem hj, pj⟩)
    refine wpAny_pure (wpAny_pure ?_)
    have q := hQ s.heap (Heap.SameBut.refl a s.heap) ⟨o, es, ep, t, ho, hex, hd, g, nd, fun i => by
      rw [Bool.or_eq_true, decide_eq_true_eq, ← hm i]
      exact ⟨fun z => z.elim id (fun e => e ▸ hSk), .inl⟩, hb, hf, by rw [if_pos hSk]; exact hn, hr, hl⟩
    rw [hSk] at q
    exact q
  | none =>
    dsimp only
    have hnk : k ∉ es.toList.map txtOf := fun z => by
      obtain ⟨e, he, q⟩ := (goodT_mem (P := P) (w := w) g k).1 z
      have c := List.findIdx?_eq_none_iff.mp hfi e he
      rw [q] at c
      cases c
    have hSk : S k = false := by
      cases q : S k with
      | false => rfl
      | true => exact absurd ((hm k).1 q) hnk
    have hgw : ∀ (b : Bool) {s₁ : Shared} {Q' : Unit → Shared → Prop}, Q' () s₁ → wpAny (model P w) A (match b with | true => rule "set.scan.the-table-gave-way" | false => pure ()) Q' E s₁ :=
      fun b s₁ Q' q => by cases b <;> first | exact wpAny_pure q | exact wpAny_rule q
    have pm := layNew_perm t es ((SK P w).hash k) (.str k tk)
    have hf1 := layNew_fits t es ((SK P w).hash k) (.str k tk)
    have hr1 := layNew_ris t es ((SK P w).hash k) (.str k tk) hr
    have hl1 := layNew_led t es ((SK P w).hash k) (.str k tk)
    generalize layNew t es ((SK P w).hash k) (.str k tk) = Z at pm hf1 hr1 hl1 ⊢
    obtain ⟨es1, t1, wasDummy, gave⟩ := Z
    dsimp only at pm hf1 hr1 hl1 ⊢
    rw [Array.toList_push] at pm
    have pc : es1.toList.Perm (((SK P w).hash k, Value.str k tk) :: es.toList) := pm.trans (List.perm_append_singleton _ _)
    have pk : (es1.toList.map txtOf).Perm (k :: es.toList.map txtOf) := pc.map txtOf
    have g1 : ∀ e ∈ es1.toList, GoodT w e := fun e he => by
      rcases List.mem_cons.mp (pc.mem_iff.mp he) with z | z
      · rw [z]; exact ⟨k, tk, rfl, rfl⟩
      · exact g e z
    have nd1 : (es1.toList.map txtOf).Nodup := pk.nodup_iff.mpr (List.nodup_cons.mpr ⟨hnk, nd⟩)
    have m1 : ∀ i, (S i || decide (i = k)) = true ↔ i ∈ es1.toList.map txtOf := fun i => by
      rw [Bool.or_eq_true, decide_eq_true_eq, hm i, pk.mem_iff, List.mem_cons]
      exact Or.comm
    have hsz : es1.size = n + 1 := by rw [← Array.length_toList, pc.length_eq, List.length_cons, Array.length_toList, hn]
    have hb1 : es1.size < scanBound := by rw [hsz]; exact room
    have hled : w.params.followText "set-order" = true ∨ t1.led = true := hl.imp id fun z => by rw [hl1]; exact z
    have fin : ∀ h', Heap.SameBut a s.heap h' → SetT w h' a (fun j => S j || decide (j = k)) es1.size → Q true { s with heap := h' } := fun h' sb r => by
      have q := hQ h' sb
      rw [hSk] at q
      rw [hsz] at r
      exact q r
    refine wpAny_bind (hgw _ ?_)
    split
    · refine wpAny_bind ?_
      rw [hashByValue_scannable 8 hsc]
      refine wpAny_pure ?_
      refine setT_tail ?_ ho hex hd g1 nd1 m1 hb1 ?_ ?_ ?_ ?_
      · intro b s₁ Q' q; cases b <;> first | exact wpAny_pure q | exact wpAny_rule q
      · first | (split <;> first | exact hf1 | exact SetTable.fits_plain_off hf1) | exact hf1
      · first | (split <;> exact hr1) | exact hr1
      · first | (split <;> exact hled) | exact hled
      · intro h' sb r; dsimp only; exact wpAny_pure (fin h' sb r)
    · refine wpAny_bind (wpAny_pure ?_)
      simp only [↓reduceIte]
      refine setT_tail ?_ ho hex hd g1 nd1 m1 hb1 hf1 hr1 hled ?_
      · intro b s₁ Q' q; cases b <;> first | exact wpAny_pure q | exact wpAny_rule q
      · intro h' sb r; dsimp only; exact wpAny_pure (fin h' sb r)

/-! ### set(list) -/
theorem code_set_led1 (x : Value) {Q₁ : Value → Shared → Prop}
    (h : Q₁ (.ref s.heap.objs.size) { s with heap := s.heap.push { cls := .type "set", dict := none, data := .set #[] 0 (.fresh 0 0 (!w.params.followText "set-order")) } }) :
    codeAny (model P w) A (.call (.builtin "set.__new__") ⟨[.type "set", x], []⟩) (wants Q₁ E) s := by
  refine codeAny_of_tree ?_
  show wpAny _ A.in1 (do checkBuiltinCall "set.__new__" ⟨[.type "set", x], []⟩; again (.builtin "set.__new__" ⟨[.type "set", x], []⟩)) _ _ s
  refine wpAny_bind (wpAny_of_eq (F.newCall_set_1 x) (wpAny_pure ⟨plainId_quiet F.plain_set_new _, codeAny_builtin F.entry_set_new ?_⟩))
  rw [Around.under_plainId F.plain_set_new _]
  unfold Builtin.«set.__new__» Builtin.Frozenset.newClass
  have hsub := sub_set_self
  obtain ⟨hp, g, d, tk, os⟩ := s
  dsimp only
  wp_walk
  refine wpAny_askSetting (wpAny_pure ?_)
  dsimp only
  simp only [newObj]
  exact wpAny_bind (wpAny_alloc (wpAny_pure (wpAny_pure h)))
/-- the members met so far -/
def metT (xs : List Str) (i : Nat) : Str → Bool := fun y => (xs.take i).contains y
theorem metT_succ {xs : List Str} {i : Nat} {x : Str} (h : xs[i]? = some x) (y : Str) : metT xs (i + 1) y = (metT xs i y || decide (y = x)) := by
  unfold metT
  rw [List.take_add_one, h]
  simp
variable {I : Addr} {fp wr : List Addr} {G : Array GenState → Array GenState → Prop} {m : Nat} {Pv : Nat → Value → Prop} {St : Nat → Shared → Prop}
theorem loopT {R : Result → Shared → Prop} (W : WalksS P w A.in1 I fp wr G m Pv St) (S : Addr) (hSf : S ∉ fp) (xs : List Str) (hsz : xs.length = m) (hb : m + 1 < scanBound) (hval : ∀ i v, Pv i v → ∃ x t, xs[i]? = some x ∧ v = .str x t) :
    ∀ (k i : Nat) (s : Shared) (c : Nat), m - i = k → i ≤ m → c ≤ i → St i s → SetT w s.heap S (metT xs i) c →
      (∀ s' c', Moved (S :: wr) G s s' → c' ≤ m → SetT w s'.heap S (metT xs m) c' → R (.ok (.ret .none)) s') → codeAny (model P w) A (.builtin "set.update.loop" ⟨[.ref S, .ref I], []⟩) R s := by
  have hSw : S ∉ wr := fun h => hSf (W.sub _ h)
  have hsub : ∀ b ∈ wr, b ∈ S :: wr := fun b hb => List.mem_cons_of_mem _ hb
  intro k
  induction k with
  | zero =>
    intro i s c hk hi hc hst hS hR
    have hin : i = m := by omega
    subst hin
    refine codeAny_builtin PyProof.Rows.F.entry_set_update_loop ?_
    rw [Around.under_plainId PyProof.Rows.F.plain_set_update_loop _]
    show wpAny _ A.in1 (pyNext (.ref I) >>= _) _ _ s
    refine wpAny_bind (W.done s _ _ hst fun s' hm => ?_)
    show wpAny _ A.in1 (ret Value.none) _ _ s'
    exact wpAny_pure (hR s' c (hm.mono hsub) hc (hS.at fun o e => hm.heap S _ hSw e))
  | succ k ih =>
    intro i s c hk hi hc hst hS hR
    have hlt : i < m := by omega
    refine codeAny_builtin PyProof.Rows.F.entry_set_update_loop ?_
    rw [Around.under_plainId PyProof.Rows.F.plain_set_update_loop _]
    show wpAny _ A.in1 (pyNext (.ref I) >>= _) _ _ s
    refine wpAny_bind (W.item i s _ _ hlt hst fun v s' hP hst' hm => ?_)
    obtain ⟨x, t, hx, rfl⟩ := hval i v hP
    have hS' : SetT w s'.heap S (metT xs i) c := hS.at fun o e => hm.heap S _ hSw e
    show wpAny _ A.in1 (holding [Value.str x t] (setAdd S (.str x t)) >>= _) _ _ s'
    refine wpAny_bind (wpAny_holding ?_)
    unfold setAdd
    refine wpAny_holding (wpAny_bind ((SK P w).pyHash (k := x) (strKind_is _ _ _ _) ?_))
    refine setT_add (s := { s' with toks := s'.toks + 1 }) hS' (by omega) fun h' hsb hS2 => ?_
    have hSi : SetT w h' S (metT xs (i + 1)) (if metT xs i x = true then c else c + 1) := by
      have e : metT xs (i + 1) = fun j => metT xs i j || decide (j = x) := funext fun y => metT_succ hx y
      rw [e]; exact hS2
    refine wpAny_pure ⟨plainId_quiet PyProof.Rows.F.plain_set_update_loop _, ih (i + 1) _ (if metT xs i x = true then c else c + 1) (by omega) hlt (by split <;> omega) (W.frame _ s' _ _ hst' (Nat.le_succ _) fun b hb o e => ?_) hSi fun s'' c' hm'' hc' hS'' => ?_⟩
    · rw [hsb.2 b (fun h : b = S => hSf (by rw [← h]; exact hb))]; exact e
    · refine hR s'' c' (Moved.trans W.gtrans ((hm.mono hsub).then_heap (Nat.le_succ _) fun b o hb e => ?_) hm'') hc' hS''
      rw [hsb.2 b (fun h : b = S => hb (by rw [h]; exact List.mem_cons_self))]; exact e
theorem call_setT {l : Addr} {items : Array Value} {xs : List Str} {Q : Value → Shared → Prop} (hh : A.handled = none) (hl : s.heap.IsList l items) (hi : PyProof.Rows.StrsAre items.toList xs) (hb : xs.length + 1 < scanBound)
    (h : ∀ (h' : Heap) (tk c : Nat), c ≤ xs.length → SetT w h' s.heap.objs.size (fun y => xs.contains y) c → (∀ b o, b < s.heap.objs.size → s.heap.get? b = some o → h'.get? b = some o) → Q (.ref s.heap.objs.size) { s with heap := h', toks := tk }) :
    wpAny (model P w) A (call (.type "set") [.ref l]) Q E s := by
  obtain ⟨c, tl, hmro⟩ := PySem.F.called_set.mro
  have hmade := PySem.F.called_set.made
  have hsub := PySem.F.called_set.sub
  refine wpAny_call (codeAny_of_tree ?_)
  show wpAny _ _ (callAny (.type "set") _) _ _ _
  refine wpAny_pure ⟨Code.quiet_builtin _ (by decide +kernel), codeAny_builtin PySem.F.entry_type_call ?_⟩
  rw [Around.under_plain (weight_type_call_type "set" [.ref l] []) rfl]
  have h1 := PySem.F.called_set.notType
  have h2 := PySem.F.called_set.canCreate
  have hct := PySem.F.typeCall_set_1 (.ref l)
  repeat (any_goals (first | assumption | wp_step))
  have led0 : ∃ led : Bool, led = (!w.params.followText "set-order") := ⟨_, rfl⟩
  obtain ⟨led, hled⟩ := led0
  have hlw : w.params.followText "set-order" = true ∨ led = true := by rw [hled]; cases w.params.followText "set-order" <;> simp
  refine codeAny_mono (code_set_led1 (.ref l) (E := E) (Q₁ := fun obj s₁ => obj = .ref s.heap.objs.size ∧ s₁ = { s with heap := s.heap.push { cls := .type "set", dict := none, data := .set #[] 0 (.fresh 0 0 led) } }) (by rw [hled]; exact ⟨rfl, rfl⟩)) fun r s₁ hr => ?_
  cases r with
  | error e => exact hr
  | ok fl =>
    cases fl with
    | ret obj =>
      obtain ⟨rfl, rfl⟩ := hr
      have hS : (s.heap.push { cls := .type "set", dict := none, data := .set #[] 0 (.fresh 0 0 led) }).get? s.heap.objs.size = some { cls := .type "set", dict := none, data := .set #[] 0 (.fresh 0 0 led) } := Heap.get?_push_size _ rfl
      have hT : Shared.TypeIs { s with heap := s.heap.push { cls := .type "set", dict := none, data := .set #[] 0 (.fresh 0 0 led) } } (.ref s.heap.objs.size) "set" := ⟨_, hS, rfl⟩
      have hli := PySem.F.called_set.init.lookup
      have hbi := PySem.F.called_set.init.bind (.ref s.heap.objs.size)
      repeat (any_goals (first | assumption | wp_step))
      refine codeAny_mono (codeAny_call_builtin (R := wants (fun r s₂ => r = .none ∧ ∃ h' tk c, s₂ = { s with heap := h', toks := tk } ∧ c ≤ xs.length ∧ SetT w h' s.heap.objs.size (fun y => xs.contains y) c ∧
          (∀ b o, b < s.heap.objs.size → s.heap.get? b = some o → h'.get? b = some o)) E) PySem.F.called_set.init.plain PySem.F.entry_set_init (check_set_init_1 hT ?_)) fun r₂ s₂ hr₂ => ?_
      · obtain ⟨ol, hol, hcl, nl, hdl⟩ := hl
        obtain ⟨ocls, odict, odata, oslots⟩ := ol
        simp only at hcl hdl
        subst hcl; subst hdl
        have hol' : (s.heap.push { cls := .type "set", dict := none, data := .set #[] 0 (.fresh 0 0 led) }).get? l = some { cls := .type "list", dict := odict, data := .seq items nl, slots := oslots } := Heap.get?_push_of_some _ hol
        have hsls := PySem.F.sub_list_set
        have hslf := PySem.F.sub_list_frozenset
        have hne : (Value.type "list" == Value.type "dict") = false := by decide
        have hl1 : (s.heap.push { cls := .type "set", dict := none, data := .set #[] 0 (.fresh 0 0 led) }).IsList l items := ⟨_, hol', rfl, nl, rfl⟩
        unfold Builtin.«set.__init__» noKeywords Builtin.Frozenset.updateFrom
        generalize hPI : pyIter = PI
        wp_walk
        subst hPI
        refine wpAny_pyIter_list hl1 (wpAny_bind (wpAny_runValue ?_))
        have hlS : l < s.heap.objs.size := Heap.lt_size hol
        have hh3 : A.in1.in1.in1.handled = none := by simp [hh]
        have hneI : l ≠ (s.heap.push { cls := .type "set", dict := none, data := .set #[] 0 (.fresh 0 0 led) }).objs.size := by
          rw [Heap.size_push]; exact Nat.ne_of_lt (Nat.lt_succ_of_lt hlS)
        have hSf : s.heap.objs.size ∉ [(s.heap.push { cls := .type "set", dict := none, data := .set #[] 0 (.fresh 0 0 led) }).objs.size, l] := by
          rw [Heap.size_push]; simp only [List.mem_cons, List.mem_singleton, List.not_mem_nil, or_false, not_or]
          exact ⟨Nat.ne_of_lt (Nat.lt_succ_self _), Nat.ne_of_gt hlS⟩
        have hsz : xs.length = items.size := by rw [← StrsAre.len_eq hi, Array.length_toList]
        have hval : ∀ (i : Nat) (v : Value), items[i]? = some v → ∃ x t, xs[i]? = some x ∧ v = .str x t := fun i v hv => by
          obtain ⟨t, ht⟩ := SS.strs_at hi i v (by rw [Array.getElem?_toList]; exact hv)
          have hlt : i < xs.length := by rw [hsz]; exact (Array.getElem?_eq_some_iff.mp hv).1
          exact ⟨_, t, by rw [List.getD_eq_getElem?_getD, List.getElem?_eq_getElem hlt]; rfl, ht⟩
        refine loopT ((Walks.list hh3 _ l hneI items).toS) s.heap.objs.size hSf xs hsz (by omega) hval (items.size - 0) 0 _ 0 (by omega) (Nat.zero_le _) (Nat.le_refl _) ⟨⟨_, Heap.get?_push_size _ rfl, rfl, rfl⟩, (hl1.push _)⟩ ?hS0 ?hR
        case hS0 =>
          have hget : ((s.heap.push { cls := .type "set", dict := none, data := .set #[] 0 (.fresh 0 0 led) }).push { cls := .type "list_iterator", data := .fields #[.ref l, .int 0 0] }).get? s.heap.objs.size
              = some { cls := .type "set", dict := none, data := .set #[] 0 (.fresh 0 0 led) } := Heap.get?_push_of_some _ hS
          have e : metT xs 0 = fun _ => false := funext fun y => by simp [metT]
          rw [e]
          exact setT_fresh hget hlw
        case hR =>
          intro s' c' hm hc' hS'
          obtain ⟨h', g', d', tk', os'⟩ := s'
          have eg : g' = s.gens := hm.gens
          have ed : d' = s.drawn := hm.drawn
          have eo : os' = s.os := hm.os
          subst eg; subst ed; subst eo
          have e : metT xs items.size = fun y => xs.contains y := funext fun y => by simp [metT, ← hsz]
          rw [e] at hS'
          show wpAny _ _ _ _ _ _
          refine wpAny_pure ?_
          show wpAny _ _ (ret Value.none) _ _ _
          refine wpAny_pure ⟨rfl, h', tk', c', rfl, by omega, hS', fun b o hb e => ?_⟩
          have hb1 : b ≠ s.heap.objs.size := Nat.ne_of_lt hb
          have hb2 : b ≠ (s.heap.push { cls := .type "set", dict := none, data := .set #[] 0 (.fresh 0 0 led) }).objs.size := by
            rw [Heap.size_push]; exact Nat.ne_of_lt (Nat.lt_succ_of_lt hb)
          exact hm.heap b o (by simp only [List.mem_cons, List.mem_singleton, List.not_mem_nil, or_false, not_or]; exact ⟨hb1, hb2⟩) (Heap.get?_push_of_some _ (Heap.get?_push_of_some _ e))
      · cases r₂ with
        | error e => exact hr₂
        | ok fl₂ =>
          cases fl₂ with
          | ret r =>
            obtain ⟨rfl, h', tk, c, rfl, hc', hS', hk'⟩ := hr₂
            repeat (any_goals (first | assumption | wp_step))
            exact h _ _ c hc' hS' hk'
          | _ => exact hr₂.elim
    | _ => exact hr.elim
end
end RL
end
section
set_option Elab.async false
set_option linter.all false
set_option autoImplicit false
set_option maxRecDepth 100000
set_option maxHeartbeats 4000000
/-! R18: sorted -/
namespace RL
open PySem PySem.Spec L2
open PyProof.Rows hiding St

/-! ### texts in order -/
def strLe (x y : Str) : Bool := decide (x.cps.toList ≤ y.cps.toList)
theorem strLe_trans (x y z : Str) (h1 : strLe x y = true) (h2 : strLe y z = true) : strLe x z = true :=
  decide_eq_true (List.le_trans (of_decide_eq_true h1) (of_decide_eq_true h2))
theorem strLe_total (x y : Str) : (strLe x y || strLe y x) = true := by
  unfold strLe
  rcases List.le_total x.cps.toList y.cps.toList with h | h <;> simp [h]
theorem strLe_anti (x y : Str) (h1 : strLe x y = true) (h2 : strLe y x = true) : x = y :=
  W.str_of_cps (List.le_antisymm (of_decide_eq_true h1) (of_decide_eq_true h2))
/-- one order alone -/
theorem sort_uniq {ys xs : List Str} (p : ys.Perm xs) (s : ys.Pairwise fun a b => strLe a b = true) : ys = xs.mergeSort strLe :=
  List.Perm.eq_of_pairwise (le := fun a b => strLe a b = true) (fun a b _ _ h1 h2 => strLe_anti a b h1 h2) s (List.pairwise_mergeSort strLe_trans strLe_total xs) (p.trans (List.mergeSort_perm xs strLe).symm)
def uniq : List Str → List Str
  | [] => []
  | x :: xs => if (uniq xs).contains x = true then uniq xs else x :: uniq xs
theorem mem_uniq {x : Str} : ∀ {xs : List Str}, x ∈ uniq xs ↔ x ∈ xs
  | [] => Iff.rfl
  | y :: xs => by
    unfold uniq
    split
    · rename_i h
      rw [mem_uniq, List.mem_cons]
      have hy : y ∈ xs := mem_uniq.mp (by simpa using h)
      exact ⟨.inr, fun z => z.elim (fun e => e ▸ hy) id⟩
    · rw [List.mem_cons, List.mem_cons, mem_uniq]
theorem nodup_uniq : ∀ (xs : List Str), (uniq xs).Nodup
  | [] => List.nodup_nil
  | y :: xs => by
    unfold uniq
    split
    · exact nodup_uniq xs
    · rename_i h
      exact List.nodup_cons.mpr ⟨by simpa using h, nodup_uniq xs⟩
theorem uniq_len : ∀ (xs : List Str), (uniq xs).length ≤ xs.length
  | [] => Nat.le_refl _
  | y :: xs => by
    have := uniq_len xs
    unfold uniq
    split <;> simp <;> omega
/-- a sort that the kernel can run -/
def insS (x : Str) : List Str → List Str
  | [] => [x]
  | y :: ys => if strLe x y = true then x :: y :: ys else y :: insS x ys
def strSort : List Str → List Str
  | [] => []
  | x :: xs => insS x (strSort xs)
theorem insS_perm {x : Str} : ∀ {ys : List Str}, (insS x ys).Perm (x :: ys)
  | [] => List.Perm.refl _
  | y :: ys => by
    unfold insS
    split
    · exact List.Perm.refl _
    · exact (List.Perm.cons y insS_perm).trans (List.Perm.swap x y ys)
theorem insS_pw {x : Str} : ∀ {ys : List Str}, ys.Pairwise (fun a b => strLe a b = true) → (insS x ys).Pairwise fun a b => strLe a b = true
  | [], _ => List.pairwise_singleton _ _
  | y :: ys, h => by
    rw [List.pairwise_cons] at h
    unfold insS
    split
    · rename_i hx
      refine List.pairwise_cons.mpr ⟨fun z hz => ?_, List.pairwise_cons.mpr h⟩
      rcases List.mem_cons.mp hz with rfl | hz
      · exact hx
      · exact strLe_trans x y z hx (h.1 z hz)
    · rename_i hx
      have hyx : strLe y x = true := by
        have := strLe_total x y
        simpa [hx] using this
      refine List.pairwise_cons.mpr ⟨fun z hz => ?_, insS_pw h.2⟩
      rcases List.mem_cons.mp (insS_perm.mem_iff.mp hz) with rfl | hz
      · exact hyx
      · exact h.1 z hz
theorem strSort_perm : ∀ {xs : List Str}, (strSort xs).Perm xs
  | [] => List.Perm.refl _
  | x :: xs => insS_perm.trans (List.Perm.cons x strSort_perm)
theorem strSort_pw : ∀ {xs : List Str}, (strSort xs).Pairwise fun a b => strLe a b = true
  | [] => List.Pairwise.nil
  | x :: xs => insS_pw strSort_pw
theorem strSort_eq {xs : List Str} : strSort xs = xs.mergeSort strLe := sort_uniq strSort_perm strSort_pw
/-- sorted(set(xs)), texts -/
def opSortSet : D → Option R
  | .list ds => (strsOf ds).bind fun xs => if xs.length + 1 < 4096 then some (.o (.list ((strSort (uniq xs)).map .str))) else none
  | _ => none
theorem strsAre_each : ∀ {us : List Value} {xs : List Str}, StrsAre us xs → W.EachIs (fun (v : Value) (x : Str) => ∃ t, v = .str x t) us xs
  | _, _, .nil => .nil
  | _, _, .cons y t r => .cons ⟨t, rfl⟩ (strsAre_each r)
theorem vals_each {R : Value → Str → Prop} (hR : ∀ v x, R v x → ∃ t, v = .str x t) : ∀ {us : List Value} {xs : List Str}, W.EachIs R us xs → Vals (xs.map V.str) us
  | _, _, .nil => .nil
  | _, _, .cons h t => .cons (hR _ _ h) (vals_each hR t)
theorem alike_strs (xs : List Str) : W.AllAlike (xs.map PyData.str) := W.AllAlike.of fun _ _ => rfl
theorem sortable_strs (xs : List Str) : W.Sortable (xs.map PyData.str) := W.Sortable.others fun _ => ⟨(fun z => by cases z), fun _ z => by cases z⟩
theorem pairwise_sorted (xs : List Str) : (xs.mergeSort (W.dataLe false PyData.str)).Pairwise fun a b => strLe a b = true := by
  have e : W.dataLe false PyData.str = strLe := W.dataLe_str (fun x : Str => x)
  rw [e]
  exact List.pairwise_mergeSort strLe_trans strLe_total xs
section
variable {P : Program} {w : World} {A : Around} {E : Value → Shared → Prop} {s : Shared} {a : Addr} {S : Str → Bool} {n : Nat}
theorem sorted_setT {Q : Value → Shared → Prop} (R : SetT w s.heap a S n) (hh : A.handled = none) (hu : A.units + 8 < cLine)
    (hQ : ∀ s' p (us : List Value) (c : Nat) (ys zs : List Str), (∀ b o, s.heap.get? b = some o → s'.heap.get? b = some o) → s'.gens = s.gens → s'.os = s.os → s.heap.objs.size ≤ p →
      s'.heap.get? p = some (seqObj "list" us.toArray c) → Vals (ys.map V.str) us → ys.Pairwise (fun a b => strLe a b = true) → ys.Perm zs → zs.Nodup → (∀ k, k ∈ zs ↔ S k = true) → zs.length = n → Q (.ref p) s') :
    wpAny (model P w) A (call (.builtin "sorted") [.ref a]) Q E s := by
  obtain ⟨o, es, ep, t, ho, hex, hd, g, nd, hm, hb, hf, hn, hr, hl⟩ := R
  refine Calls.call_function_entry kind_sorted plain_sorted entry_sorted (args_sorted1 _) ?_
  unfold Builtin.«sorted»
  refine wpAny_bind (m := checkCount "sorted" 1 1 _) (wpAny_pure ?_)
  refine wpAny_bind (collect_set (A := A.in1) hh ⟨o, ho, hex.1, hd⟩ hf hb hr hl fun s1 vs k1 hz g1 o1 pm => ?_)
  have hvl : vs.length = n := by rw [pm.length_eq, List.length_map, Array.length_toList]; exact hn
  have tx : ∀ (l : List Value), (∀ v ∈ l, ∃ x tk, v = Value.str x tk) → W.EachIs (fun (v : Value) (x : Str) => ∃ t, v = .str x t) l (l.map fun v => txtOf (0, v)) := by
    intro l
    induction l with
    | nil => intro _; exact .nil
    | cons v l ih =>
      intro h
      obtain ⟨x, tk, rfl⟩ := h v List.mem_cons_self
      exact .cons ⟨tk, rfl⟩ (ih fun u hu => h u (List.mem_cons_of_mem _ hu))
  have hE := tx vs fun v hv => by
    obtain ⟨e, he, q⟩ := List.mem_map.mp (pm.mem_iff.mp hv)
    obtain ⟨k, tk, h1, _⟩ := g e he
    exact ⟨k, tk, by rw [← q]; exact h1⟩
  have pk : (vs.map fun v => txtOf (0, v)).Perm (es.toList.map txtOf) := by
    have q := pm.map fun v => txtOf (0, v)
    rw [List.map_map] at q
    exact q
  have hsl : vs.length ≤ sizeLine := by rw [hvl, sizeLine_eq]; unfold scanBound at hb; omega
  refine wpAny_bind (wpAny_newList ?_ hsl)
  have hoL : (s1.heap.push (seqObj "list" vs.toArray 0)).get? s1.heap.objs.size = some (seqObj "list" vs.toArray 0) := Heap.get?_push_size _ rfl
  have er : W.EachIs (fun v d => ∃ as, Reads (W.sortingHeap (s1.heap.push (seqObj "list" vs.toArray 0)) s1.heap.objs.size vs) v d as) vs ((vs.map fun v => txtOf (0, v)).map PyData.str) :=
    W.each_map (R := fun v d => ∃ as, Reads (W.sortingHeap (s1.heap.push (seqObj "list" vs.toArray 0)) s1.heap.objs.size vs) v d as) PyData.str (hE.mono fun v x ⟨t, e⟩ => ⟨[], by rw [e]; exact .str x t⟩)
  have SA := W.SortsAt.data (prog := P) (w := w) (A := A.in1.in1) (s := { s1 with heap := W.sortingHeap (s1.heap.push (seqObj "list" vs.toArray 0)) s1.heap.objs.size vs }) er (alike_strs _) (sortable_strs _) (fun d hd => by
    obtain ⟨x, _, rfl⟩ := List.mem_map.mp hd
    show A.units + 1 + 1 + 0 < cLine
    omega)
  refine wpAny_bind (wpAny_holding (wpAny_call_entry slot_list_sort ⟨_, hoL, rfl⟩ entry_list_sort (W.list_sort_vals (s := { s1 with heap := s1.heap.push (seqObj "list" vs.toArray 0) }) hoL SA hsl ⟨_, rfl, ?_⟩) (args_list_sort _)))
  have sd := W.sortVals_data (h' := W.sortingHeap (s1.heap.push (seqObj "list" vs.toArray 0)) s1.heap.objs.size vs) (enc := PyData.str) false hE (hE.mono fun v x ⟨t, e⟩ => ⟨[], by rw [e]; exact .str x t⟩) (alike_strs _)
  generalize W.sortVals (W.dataKind (W.sortingHeap (s1.heap.push (seqObj "list" vs.toArray 0)) s1.heap.objs.size vs) (List.map PyData.str (List.map (fun v => txtOf (0, v)) vs))) false vs vs = out at sd ⊢
  obtain ⟨c, hc⟩ := sortedHeap_at (vs := vs) (out := out.toArray) hoL
  refine wpAny_pure ⟨_, rfl, hQ _ s1.heap.objs.size out c _ (es.toList.map txtOf) (fun b u e => ?_) g1 o1 hz hc (vals_each (fun v x h => h) sd) (pairwise_sorted _) ((List.mergeSort_perm _ _).trans pk) nd (fun k => (hm k).symm) (by rw [List.length_map, Array.length_toList]; exact hn)⟩
  have q := k1 b u e
  have hlt := Heap.lt_size q
  show (sortedHeap (s1.heap.push (seqObj "list" vs.toArray 0)) s1.heap.objs.size vs out.toArray).get? b = some u
  rw [sortedHeap_old (Nat.ne_of_lt hlt) (by rw [size_push']; exact Nat.lt_succ_of_lt hlt)]
  exact Heap.get?_push_of_some _ q
end

section
variable {X : Cx} {k : KX} {g : G}
/-- sorted(set(e)) -/
theorem peSortSet {e : Expr} {pa : Opd} {p p2 q pos : Pos} {n : Nat} (hr : Room n X.A) (hc : X.calm = true) (hg : Gl X "sorted") (hm : X.mg "sorted" = none) (hg2 : Gl X "set") (hm2 : X.mg "set" = none) (ha : PE X e (tO k g pa)) (hs : notStar e = true) :
    PE X (.Call (.Name "sorted" p) [.Call (.Name "set" p2) [e] [] q] [] pos) (tE k g (un pa opSortSet)) := by
  refine ⟨fun pins s σ H Q I h => ?_⟩
  have h2 := opM1_run σ H Q h
  have na := star_eq (es := []) (env := X.env) hs
  refine Call_ (ld_blt I hg hm boot_sorted (PyProof.Rows.callWith_builtin1 (PyProof.Rows.args_cons ?_ rfl) rfl rfl))
  refine Call_ (ld_blt I hg2 hm2 boot_set (PyProof.Rows.callWith_type1 (PyProof.Rows.args_cons (thn (ha.run pins s σ H _ I h2) fun v s1 ⟨x, H1, I1, r1, q1⟩ => PyProof.Rows.args_nil ?_) na) na rfl))
  obtain ⟨F, d, res, hm', ok, hx, ho, q1⟩ := q1
  unfold opSortSet at ho
  split at ho
  · rename_i ds
    obtain ⟨xs, h3, ho⟩ := Option.bind_eq_some_iff.mp ho
    obtain ⟨hl, ho⟩ := Option.ite_none_right_eq_some.mp ho
    rw [strSort_eq] at ho
    cases ho
    have e1 := strsOf_eq h3
    subst e1
    obtain ⟨a, vs, rfl, h4, h5⟩ := hx.lst ok
    have e2 := h5.strs
    subst e2
    cases r1
    obtain ⟨its, rv, pl, hz⟩ := I1.list (SqL.of h4)
    have hh : X.A.handled = none := I1.ok.hd hc
    refine call_setT hh pl.isList (by simpa using Vals.strs rv) (by unfold scanBound; omega) fun h' tk c hcl hS hk => PyProof.Rows.args_nil ?_
    have I2 : Inv X pins σ H1 { s1 with heap := h', toks := tk } := I1.kept fun b o e => hk b o (Heap.lt_size e) e
    refine sorted_setT hS hh (by have := hr.u64; omega) fun s' p us c' ys zs k1 g1 o1 hp hget rvs hpw hperm hnd hmem hlen => ?_
    have e3 : ys = (uniq xs).mergeSort strLe := sort_uniq (hperm.trans ((List.perm_ext_iff_of_nodup hnd (nodup_uniq xs)).mpr fun y => by rw [hmem y, mem_uniq]; simp)) hpw
    subst e3
    obtain ⟨sh, sg, sd, st, so⟩ := s'
    have eg : sg = s1.gens := g1
    have eo : so = s1.os := o1
    subst eg eo
    have hn : H1 p = none := I2.hok.fresh hp
    have hlen : (((uniq xs).mergeSort strLe).map V.str).length ≤ sizeLine := by
      rw [List.length_map, (List.mergeSort_perm _ _).length_eq, sizeLine_eq]
      have := uniq_len xs
      omega
    have J := I2.call (s := { s1 with heap := h', toks := tk }) (h' := sh) (t' := st) (d' := sd) (ch := []) (Un.laid k1 hp hn) (I2.hok.laid k1 hp (show ObjOk X.prog X.w (upd H1 p (.lst (((uniq xs).mergeSort strLe).map V.str))) sh p _ from ⟨hlen, us, c', rvs, hget⟩)) I1.bare (fun _ z => nomatch z)
    exact ⟨.ref p, _, J, rfl, new_lst hm' ok hn (RepL.of_strs _) q1⟩
  · cases ho
end
end RL
end
section
set_option Elab.async false
set_option linter.all false
set_option autoImplicit false
set_option maxRecDepth 100000
set_option maxHeartbeats 4000000
/-! RS: sorted lists of tuples, empty ones among them; of tuples with different first texts -/
namespace PySem.W
open PySem PySem.Calls PyProof.Rows SeqAt
section
variable {prog : Program} {w : World} {A : Around} {E : Value → Shared → Prop} {s : Shared}
theorem call_tup_lt {Q : Value → Shared → Prop} {l b : Addr} {items items2 : Array Value} {e r : Nat → Bool} (hl : s.heap.IsTuple l items) (hb : s.heap.IsTuple b items2)
    (he : ∀ j (h1 : j < items.size) (h2 : j < items2.size), EqAt A.in1 s items[j] items2[j] (e j)) (hr : ∀ j (h1 : j < items.size) (h2 : j < items2.size), e j = false → RcLt A.in1 s items[j] items2[j] (r j))
    (h : Q (.bool (firstLt e r (decide (items.size < items2.size)) (List.range (min items.size items2.size)))) s) : wpAny (model prog w) A (call (.builtin "tuple.__lt__") [.ref l, .ref b]) Q E s := by
  obtain ⟨⟨cls, dd, data, sl⟩, ho, hc, n, hd⟩ := id hl
  obtain ⟨⟨cls2, dd2, data2, sl2⟩, ho2, hc2, n2, hd2⟩ := id hb
  simp only at hc hd hc2 hd2
  subst hc hd hc2 hd2
  exact call_meets F.slot_tuple_lt ⟨_, ho, rfl⟩ F.entry_tuple_lt (F.args_tuple_lt_2 _ _) (tuple_ltAt l b items items2 n n2 dd dd2 sl sl2 e r) ⟨ho, ho2, he, hr, h⟩
/-- one tuple against another, as keys of one type -/
theorem oneLt_tup {xs ys : List PyData} {a b : Value} {as bs : List Addr} {Q : Bool → Shared → Prop} (ra : Reads s.heap a (.tuple xs) as) (rb : Reads s.heap b (.tuple ys) bs) (h : alike (.tuple xs) (.tuple ys) = true)
    (hu : A.units + min (PyData.tuple xs).depth (PyData.tuple ys).depth < cLine) (hq : Q (dataLt (.tuple xs) (.tuple ys)) s) : wpAny (model prog w) A (oneLt' true a b) Q E s := by
  have hal : alikeAll xs ys = true := by simpa [alike] using h
  cases ra with
  | @tuple l o vs n _ as₁ h1 h2 h3 h4 =>
    cases rb with
    | @tuple l' o' vs' n' _ bs₁ k1 k2 k3 k4 =>
      have n1 : vs.size = xs.length := by simpa using ReadsAll.length _ _ _ h4
      have n2 : vs'.size = ys.length := by simpa using ReadsAll.length _ _ _ k4
      rw [dataLt_tuple, ← firstLt_toks xs ys hal, ← n1, ← n2] at hq
      rw [oneLt'_eq]
      simp only [if_true]
      refine wpAny_bind (wpAny_cRoomFor (room_here hu) ?_)
      refine wpAny_bind (wpAny_callSpecialIfBound?_slot (T := "tuple") ⟨_, h1, h2⟩ F.slot_tuple_lt (call_tup_lt (e := pairEq xs ys) (r := fun j => dataLt (xs.getD j .none) (ys.getD j .none)) ⟨_, h1, h2, _, h3⟩ ⟨_, k1, k2, _, k3⟩ (fun j j1 j2 => ?_) (fun j j1 j2 hj => ?_) ?_))
      · have := eqAt_alikeAll xs ys A.in1 s vs.toList vs'.toList _ _ h4 k4 hal (room_in hu) j (by simpa using j1) (by simpa using j2)
        simpa using this
      · have := rcLt_alikeAll xs ys A.in1 s vs.toList vs'.toList _ _ h4 k4 hal (room_in hu) j (by simpa using j1) (by simpa using j2) hj
        simpa using this
      · exact wpAny_truthy_bool hq
/-- tuples and their first items, none of an empty one -/
def KatOpt (h : Heap) : List Value → List (Option Value) → Prop
  | [], [] => True
  | v :: vs, f :: fs => (∃ a o xs n, v = .ref a ∧ h.get? a = some o ∧ o.cls = .type "tuple" ∧ o.data = .seq xs n ∧ xs[0]? = f) ∧ KatOpt h vs fs
  | _, _ => False
theorem kat_firstsO {M : Model} : ∀ (vs : List Value) (fs : List (Option Value)) {Q : List (Option Value) → Shared → Prop}, KatOpt s.heap vs fs → Q fs s → wpAny M A (vs.mapM firstOfTuple') Q E s
  | [], [], _, _, h => by rw [List.mapM_nil]; exact wpAny_pure h
  | [], _ :: _, _, t, _ => t.elim
  | _ :: _, [], _, t, _ => t.elim
  | v :: vs, f :: fs, Q, t, h => by
    obtain ⟨⟨a, o, xs, n, rfl, ho, hc, hd, hf⟩, t⟩ := t
    rw [List.mapM_cons]
    refine wpAny_bind ?_
    rw [kas_first_eq]
    refine wpAny_bind (Looks.here (show Looks M s.heap (typeOf (.ref a)) o.cls from (Looks.ld ho).andThen .now) ?_)
    rw [hc, if_neg (by first | decide | simp)]
    refine wpAny_bind (listItems_at ho hd (wpAny_pure ?_))
    rw [hf]
    exact wpAny_bind (kat_firstsO (Q := fun bs s' => wpAny M A (pure (f :: bs)) Q E s') vs fs t (wpAny_pure h))
theorem kmix_kind {M : Model} {vs : List Value} {fs : List (Option Value)} {Q : SortKind → Shared → Prop} (t : KatOpt s.heap vs fs) (h2 : 2 ≤ vs.length) (hl : fs.length = vs.length) (hn : fs.all (·.isSome) = false) (hT : ∀ v ∈ vs, Looks M s.heap (typeOf v) (Value.type "tuple"))
    (h1 : Q general' s) (h3 : Q oneType' s) : wpAny M A (keyKind' vs.toArray) Q E s := by
  obtain ⟨v₁, vr, rfl⟩ : ∃ v₁ vr, vs = v₁ :: vr := by
    match vs, h2 with
    | v₁ :: vr, _ => exact ⟨v₁, vr, rfl⟩
  rw [kat_kind_eq, List.mapM_toArray, map_eq_pure_bind]
  refine wpAny_bind (wpAny_bind (kat_firstsO _ _ t (wpAny_pure ?_)))
  have hall : (fs.toArray.all fun x => x.isSome) = false := by simpa using hn
  rw [if_neg (by rw [hall]; simp)]
  split
  · exact wpAny_pure h1
  · rw [oneTypeOnly'_eq, List.mapM_toArray, map_eq_pure_bind]
    refine wpAny_bind (wpAny_bind (wpAny_bind (kas_mapM (r := Value.type "tuple") _ (fun v hv Q' hq => (hT v hv).here hq) (wpAny_pure ?_))))
    have hall2 : ((List.map (fun _ => Value.type "tuple") (v₁ :: vr)).toArray.all fun x => x == Value.type "tuple") = true := by
      simp only [List.all_toArray, List.all_map, List.all_eq_true]
      intro _ _
      rfl
    have h0 : (List.map (fun _ => Value.type "tuple") (v₁ :: vr)).toArray[0]? = some (Value.type "tuple") := by simp
    rw [h0]
    simp only [hall2, if_true]
    exact wpAny_pure (wpAny_pure h3)
theorem each_katOpt {h : Heap} : ∀ {vs : List Value} {ds : List PyData}, EachIs (fun v d => ∃ as, Reads h v d as) vs ds → (∀ d, d ∈ ds → ∃ r, d = .tuple r) → ∃ fs, KatOpt h vs fs ∧ fs.length = vs.length ∧ fs.all (·.isSome) = ds.all (fun d => match d with | .tuple (_ :: _) => true | _ => false)
  | _, _, .nil, _ => ⟨[], trivial, rfl, rfl⟩
  | _, _, .cons (b := d) ⟨as, r⟩ t, ht => by
    obtain ⟨fs, h1, h2, h3⟩ := each_katOpt t fun d hd => ht d (List.mem_cons_of_mem _ hd)
    obtain ⟨rest, rfl⟩ := ht d (List.mem_cons_self ..)
    cases r with
    | @tuple a o xs n _ _ ho hc hd hr =>
      refine ⟨xs[0]? :: fs, ⟨⟨a, o, xs, n, rfl, ho, hc, hd, rfl⟩, h1⟩, by simp [h2], ?_⟩
      rw [List.all_cons, List.all_cons, h3]
      congr 1
      have n1 : xs.size = rest.length := by simpa using ReadsAll.length _ _ _ hr
      cases rest with
      | nil =>
        have : xs = #[] := Array.eq_empty_of_size_eq_zero n1
        subst this; rfl
      | cons x r =>
        have : 0 < xs.size := by rw [n1]; exact Nat.succ_pos _
        simp [this]
/-- alike tuples can be sorted -/
theorem SortsAt.tups {vs : List Value} {ds : List PyData} (e : EachIs (fun v d => ∃ as, Reads s.heap v d as) vs ds) (hal : AllAlike ds) (hk : ∀ d, d ∈ ds → ∃ r, d = .tuple r) (hu : ∀ d, d ∈ ds → A.units + d.depth < cLine) : SortsAt prog w A s (dataKind s.heap ds) vs := by
  by_cases hne : ds.all (fun d => match d with | .tuple (_ :: _) => true | _ => false) = true
  · refine SortsAt.data e hal (.inl fun d hd => ?_) hu
    have := List.all_eq_true.mp hne d hd
    obtain ⟨r, rfl⟩ := hk d hd
    cases r with
    | nil => cases this
    | cons x r => exact ⟨x, r, rfl⟩
  · have room : ∀ {d d' : PyData}, d ∈ ds → A.units + min d.depth d'.depth < cLine := fun {d d'} hd => Nat.lt_of_le_of_lt (Nat.add_le_add_left (Nat.min_le_left _ _) _) (hu d hd)
    refine ⟨fun v hv => ?_, ?_⟩
    · obtain ⟨d, hd, as, r⟩ := e.left v hv
      exact ⟨_, dataKind_some hal hd r⟩
    · obtain ⟨fs, f1, f2, f3⟩ := each_katOpt e hk
      have hn : fs.all (·.isSome) = false := by rw [f3]; simpa using hne
      have looks : ∀ v ∈ vs, Looks (model prog w) s.heap (typeOf v) (Value.type "tuple") := fun v hv => by
        obtain ⟨d, hd, as, r⟩ := e.left v hv
        obtain ⟨xs, rfl⟩ := hk d hd
        exact looks_reads r
      -- which of both it is
      have kind : ∃ kd : SortKind, (kd = general' ∨ kd = oneType') ∧ (2 ≤ vs.length → ∀ (E : Value → Shared → Prop) {Q : SortKind → Shared → Prop}, Q kd s → wpAny (model prog w) A (keyKind' vs.toArray) Q E s) := by
        cases vs with
        | nil => exact ⟨general', .inl rfl, fun h => absurd h (by simp)⟩
        | cons v₁ vr =>
          cases fs with
          | nil => simp at f2
          | cons f fr =>
            by_cases hf : (f.bind fun x => some x).isSome = true
            · refine ⟨general', .inl rfl, fun h2 E Q hq => ?_⟩
              rw [kat_kind_eq, List.mapM_toArray, map_eq_pure_bind]
              refine wpAny_bind (wpAny_bind (kat_firstsO _ _ f1 (wpAny_pure ?_)))
              have hall : ((f :: fr).toArray.all fun x => x.isSome) = false := by simpa using hn
              rw [if_neg (by rw [hall]; simp), if_pos (by cases f <;> simp at hf ⊢)]
              exact wpAny_pure hq
            · refine ⟨oneType', .inr rfl, fun h2 E Q hq => ?_⟩
              rw [kat_kind_eq, List.mapM_toArray, map_eq_pure_bind]
              refine wpAny_bind (wpAny_bind (kat_firstsO _ _ f1 (wpAny_pure ?_)))
              have hall : ((f :: fr).toArray.all fun x => x.isSome) = false := by simpa using hn
              rw [if_neg (by rw [hall]; simp), if_neg (by cases f <;> simp at hf ⊢)]
              rw [oneTypeOnly'_eq, List.mapM_toArray, map_eq_pure_bind]
              refine wpAny_bind (wpAny_bind (wpAny_bind (kas_mapM (r := Value.type "tuple") _ (fun v hv Q' hq => (looks v hv).here hq) (wpAny_pure ?_))))
              have hall2 : ((List.map (fun _ => Value.type "tuple") (v₁ :: vr)).toArray.all fun x => x == Value.type "tuple") = true := by
                simp only [List.all_toArray, List.all_map, List.all_eq_true]
                intro _ _
                rfl
              have h0 : (List.map (fun _ => Value.type "tuple") (v₁ :: vr)).toArray[0]? = some (Value.type "tuple") := by simp
              rw [h0]
              simp only [hall2, if_true]
              exact wpAny_pure (wpAny_pure hq)
      obtain ⟨kd, hkd, hkk⟩ := kind
      refine ⟨kd, ?_, hkk⟩
      intro E x y a b Q ha hb hq
      obtain ⟨d, as, hd, ra, rfl⟩ := dataKind_inv ha
      obtain ⟨d', as', hd', rb, rfl⟩ := dataKind_inv hb
      obtain ⟨xs, rfl⟩ := hk d hd
      obtain ⟨ys, rfl⟩ := hk d' hd'
      rcases hkd with rfl | rfl
      · exact oneLt_alike (f := false) (fun z => nomatch z) ra rb (hal _ hd _ hd') (fun z => nomatch z) (room hd) hq
      · rw [keyLt'_oneType]
        exact oneLt_tup ra rb (hal _ hd _ hd') (room hd) hq

/-! tuples with different first texts -/
def fstTx : PyData → Option Str
  | .tuple (.str a :: _) => some a
  | _ => none
structure Keyed1 (ds : List PyData) : Prop where
  tx : ∀ d, d ∈ ds → ∃ a r, d = .tuple (.str a :: r)
  nd : (ds.map fstTx).Nodup
  me : ∀ d, d ∈ ds → alike d d = true
theorem nodup_one {α β : Type} {f : α → β} : ∀ {l : List α} {x y : α}, (l.map f).Nodup → x ∈ l → y ∈ l → f x = f y → x = y
  | z :: l, x, y, nd, hx, hy, e => by
    rw [List.map_cons, List.nodup_cons] at nd
    rcases List.mem_cons.mp hx with e1 | hx2
    · rcases List.mem_cons.mp hy with e2 | hy2
      · rw [e1, e2]
      · exact (nd.1 (List.mem_map.mpr ⟨y, hy2, by rw [← e, e1]⟩)).elim
    · rcases List.mem_cons.mp hy with e2 | hy2
      · exact (nd.1 (List.mem_map.mpr ⟨x, hx2, by rw [e, e2]⟩)).elim
      · exact nodup_one nd.2 hx2 hy2 e
theorem Keyed1.fn {ds : List PyData} (k : Keyed1 ds) {h : Heap} {v : Value} {d d' : PyData} {as as' : List Addr} (hd : d ∈ ds) (hd' : d' ∈ ds) (r : Reads h v d as) (r' : Reads h v d' as') : d = d' := by
  refine nodup_one k.nd hd hd' ?_
  obtain ⟨a, t, rfl⟩ := k.tx d hd
  obtain ⟨b, t', rfl⟩ := k.tx d' hd'
  cases r with
  | @tuple l o xs n _ _ h1 h2 h3 h4 =>
    cases r' with
    | @tuple _ o' xs' n' _ _ k1 k2 k3 k4 =>
      rw [h1] at k1; cases k1
      rw [h3] at k3; cases k3
      generalize xs.toList = l at h4 k4
      cases h4 with
      | cons p1 p2 =>
        cases k4 with
        | cons q1 q2 =>
          cases p1; cases q1
          rfl
theorem Keyed1.some {ds : List PyData} (k : Keyed1 ds) {h : Heap} {v : Value} {d : PyData} {as : List Addr} (hd : d ∈ ds) (r : Reads h v d as) : (dataKind h ds).keyOf v = some (keyToks d) := by
  have q : ∃ d, d ∈ ds ∧ ∃ as, Reads h v d as := ⟨d, hd, as, r⟩
  have e : (dataKind h ds).keyOf v = Option.some (keyToks q.choose) := by
    show (open Classical in if q : ∃ d, d ∈ ds ∧ ∃ as, Reads h v d as then Option.some (keyToks q.choose) else none) = _
    rw [dif_pos q]
  obtain ⟨h1, as', h2⟩ := q.choose_spec
  rw [e, k.fn h1 hd h2 r]
theorem SortsAt.keyed {vs : List Value} {ds : List PyData} (e : EachIs (fun v d => ∃ as, Reads s.heap v d as) vs ds) (k : Keyed1 ds) (hu : ∀ d, d ∈ ds → A.units + d.depth < cLine) : SortsAt prog w A s (dataKind s.heap ds) vs := by
  have room : ∀ {d d' : PyData}, d ∈ ds → A.units + min d.depth d'.depth < cLine := fun {d d'} hd => Nat.lt_of_le_of_lt (Nat.add_le_add_left (Nat.min_le_left _ _) _) (hu d hd)
  refine ⟨fun v hv => ?_, ?_⟩
  · obtain ⟨d, hd, as, r⟩ := e.left v hv
    exact ⟨_, k.some hd r⟩
  · refine ⟨tuples' (Value.type "str" != Value.type "tuple"), ?_, fun h2 E Q hq => ?_⟩
    · intro E x y a b Q ha hb hq
      obtain ⟨d, as, hd, ra, rfl⟩ := dataKind_inv ha
      obtain ⟨d', as', hd', rb, rfl⟩ := dataKind_inv hb
      have hroom := room (d' := d') hd
      obtain ⟨x1, r1, e1⟩ := k.tx d hd
      obtain ⟨x2, r2, e2⟩ := k.tx d' hd'
      have hq' : Q (dataLt d d') s := hq
      by_cases hx : x1 = x2
      · have hdd : d = d' := nodup_one k.nd hd hd' (by rw [e1, e2, hx]; rfl)
        subst hdd
        subst e1
        have hal := k.me _ hd
        rw [dataLt_tuple] at hq'
        cases ra with
        | @tuple l o xs n _ _ h1 h2 h3 h4 =>
          cases rb with
          | @tuple l' o' xs' n' _ _ k1 k2 k3 k4 =>
            have n1 : xs.size = (PyData.str x1 :: r1).length := by simpa using SeqAt.ReadsAll.length _ _ _ h4
            have n2 : xs'.size = (PyData.str x1 :: r1).length := by simpa using SeqAt.ReadsAll.length _ _ _ k4
            refine kat_lt h1 h3 k1 k3 (katLex_alike (PyData.str x1 :: r1) (PyData.str x1 :: r1) 0 _ _ _ _ h4 k4 (by simpa [alike] using hal) (by have q := SeqAt.room_in hroom; omega) (fun hb _ x r t ex => ?_) (by rw [n1, n2]) hq')
            obtain ⟨rfl, rfl⟩ := List.cons.inj ex
            exact fun z => nomatch z
      · subst e1 e2
        rw [dataLt_tuple] at hq'
        cases ra with
        | @tuple l o xs n _ _ h1 h2 h3 h4 =>
          cases rb with
          | @tuple l' o' xs' n' _ _ k1 k2 k3 k4 =>
            refine kat_lt h1 h3 k1 k3 ?_
            cases q1 : xs.toList with
            | nil => rw [q1] at h4; cases h4
            | cons f fr =>
              cases q2 : xs'.toList with
              | nil => rw [q2] at k4; cases k4
              | cons g gr =>
                rw [q1] at h4
                rw [q2] at k4
                cases h4 with
                | cons p1 p2 =>
                  cases k4 with
                  | cons g1 g2 =>
                    rw [List.zip_cons_cons]
                    have hal1 : alike (.str x1) (.str x2) = true := rfl
                    have hne : PyData.eqv (.str x1) (.str x2) = false := by
                      simp [PyData.eqv]
                      exact hx
                    have hr2 : A.units + min (PyData.str x1).depth (PyData.str x2).depth < cLine := by
                      have := hu _ hd
                      have h0 : (PyData.str x1).depth = 0 := rfl
                      rw [h0]
                      omega
                    refine kat_cons (eqAt_alike _ _ A s _ _ _ _ p1 g1 hal1 hr2 prog w _ _ ?_)
                    rw [hne]
                    refine kat_no (oneLt_alike (by intro _ t z; cases z) p1 g1 hal1 (by intro z; cases z) hr2 ?_)
                    have : dataLt (.str x1) (.str x2) = PyProof.Rows.lexLt itemOrd (keyToksAll (.str x1 :: r1)) (keyToksAll (.str x2 :: r2)) := by
                      have hxc : x1.cps.toList ≠ x2.cps.toList := fun z => hx (by
                        cases x1; cases x2
                        simp at z
                        rw [z])
                      rw [toks_all_cons, toks_all_cons]
                      show PyProof.Rows.lexLt itemOrd [.inr x1.cps.toList] [.inr x2.cps.toList] = PyProof.Rows.lexLt itemOrd (.inl 1 :: ([.inr x1.cps.toList] ++ keyToksAll r1)) (.inl 1 :: ([.inr x2.cps.toList] ++ keyToksAll r2))
                      rw [lex_self (O := itemOrd)]
                      show _ = PyProof.Rows.lexLt itemOrd (.inr x1.cps.toList :: keyToksAll r1) (.inr x2.cps.toList :: keyToksAll r2)
                      rw [lex_diff (O := itemOrd) (by simpa using hxc), lex_diff (O := itemOrd) (by simpa using hxc)]
                    rw [this]
                    exact hq'
    · obtain ⟨fs, t1, t2, t3⟩ := each_katTups e fun d hd => by
        obtain ⟨a, r, rfl⟩ := k.tx d hd
        exact ⟨_, _, rfl⟩
      refine kat_kind (T := Value.type "str") t1 (by omega) (fun f hf => ?_) rfl hq
      obtain ⟨x, r, as, m1, m2⟩ := t3 f hf
      obtain ⟨a, r', e1⟩ := k.tx _ m1
      cases e1
      exact looks_reads m2
/-- sorted(xs), by what is known of the keys -/
theorem sorted_by {β : Type} {vs : List Value} {bs : List β} {enc : β → PyData} {R : Value → β → Prop} {l : Addr} {Q : Value → Shared → Prop} (hl : s.heap.IsList l vs.toArray) (e : EachIs R vs bs) (er : EachIs (fun v b => ∃ as, Reads s.heap v (enc b) as) vs bs)
    (mk : ∀ s' : Shared, EachIs (fun v d => ∃ as, Reads s'.heap v d as) vs (bs.map enc) → SortsAt prog w A.in1.in1 s' (dataKind s'.heap (bs.map enc)) vs)
    (ky : ∀ h : Heap, EachIs (fun v d => ∃ as, Reads h v d as) vs (bs.map enc) → EachIs (fun v d => (dataKind h (bs.map enc)).keyOf v = some (keyToks d)) vs (bs.map enc)) (hL : bs.length ≤ sizeLine)
    (h : ∀ out, out.length = bs.length → EachIs R out (bs.mergeSort (dataLe false enc)) → Q (.ref (s.heap.objs.size + 1)) { s with heap := sortedAll s.heap vs (List.toArray out) }) :
    wpAny (model prog w) A (call (.builtin "sorted") [.ref l]) Q E s := by
  have er' : EachIs (fun v b => ∃ as, Reads (sortingHeap (copyHeap s.heap vs) (s.heap.objs.size + 1) vs) v (enc b) as) vs bs := er.mono fun _ _ ⟨as, r⟩ => ⟨as, PyProof.Rows.Reads.keeps (fun _ _ => sorting_copy_old) r⟩
  have er2 := each_map (R := fun v d => ∃ as, Reads (sortingHeap (copyHeap s.heap vs) (s.heap.objs.size + 1) vs) v d as) enc er'
  exact sorted_vals hl (mk { s with heap := sortingHeap (copyHeap s.heap vs) (s.heap.objs.size + 1) vs } er2) (by rw [e.length]; exact hL)
    (h _ (by rw [sortVals_length false rfl]; exact e.length) (sortVals_each (κ := dataKind _ (bs.map enc)) (fun b => keyToks (enc b)) e (each_of_map enc (ky _ er2))))
end
end PySem.W
end
section
set_option Elab.async false
set_option linter.all false
set_option autoImplicit false
set_option maxRecDepth 100000
set_option maxHeartbeats 4000000
/-! R19: the script; is; sorted -/
namespace RL
open PySem PySem.Spec L2
open PyProof.Rows hiding St

/-! ### the script: a list that is locked -/
def scrTag : Str := "script"
/-- what is wanted of the instances: the tag of the script tells the locked list -/
def KX.Scr (k : KX) : Prop := ∀ F a vs, k.ot F (.str scrTag) a vs → SqL k.K F a vs
def scrOf : D → Option (List D)
  | .dict ((.none, .str t) :: r) => if t = scrTag then some (r.map (·.2)) else none
  | _ => none
def scrD (ds : List D) : D := .dict ((.none, .str scrTag) :: ds.map fun d => (.none, d))
theorem RepV.vals {k : KX} {F : Hp} : ∀ {r : List (D × D)} {vs : List V}, RepV k F r vs → RepL k F (r.map (·.2)) vs
  | [], _, h => h
  | (_, _) :: _, _, h => by
    obtain ⟨v, s, rfl, h1, h2⟩ := h
    exact ⟨v, s, rfl, h1, h2.vals⟩
theorem scrOf_is {k : KX} {F H : Hp} {d : D} {x : V} {ds : List D} (hs : k.Scr) (ok : OkF F H) (h : PRep k F H d x) (ho : scrOf d = some ds) : ∃ a vs, x = .ref a ∧ SqL k.K H a vs ∧ RepL k F ds vs := by
  unfold scrOf at ho
  split at ho
  · rename_i t r
    obtain ⟨ht, ho⟩ := Option.ite_none_right_eq_some.mp ho
    subst ht
    cases ho
    have noS : ∀ {P : HO → Prop} {a : Addr} {vs : List V} {qs : Option (List Addr)}, ¬ Shp k P a ((.none, .str scrTag) :: r) vs qs := by
      rintro P a vs qs (⟨ks, _, h2, _⟩ | ⟨xs, _, h2, _, _, h5, _⟩)
      · cases ks with
        | nil => cases h2
        | cons p ps =>
          have h3 : (Option.none : Option Key) = some p.1 := by
            simp [keyK] at h2
          cases h3
      · cases xs with
        | nil => exact h2 rfl
        | cons p ps =>
          have h3 : (Option.none : Option NestedKey) = some p.1 := by
            simp [keyT, isTup] at h5
          cases h3
    rcases h with h | ⟨a, _, ow⟩
    · obtain ⟨a, vs, qs, rfl, s, rv, _⟩ := h
      rcases s with s | ⟨t, rest, v0, fvs, e1, e2, e3, _⟩
      · exact absurd s noS
      · cases e1
        subst e2
        obtain ⟨v1, s1, e4, _, r2⟩ := rv
        cases e4
        have h1 := hs F a fvs e3
        refine ⟨a, fvs, rfl, ?_, r2.vals⟩
        rcases h1 with h1 | h1
        · exact .inl (ok.rd h1)
        · exact .inr h1
    · obtain ⟨_, vs, qs, s, _⟩ := ow
      exact absurd s noS
  · cases ho
def opIx3 (x y : D) : Option R := match scrOf x with
  | some ds => (match y with
    | .int i => (atI ds i).map .v
    | _ => none)
  | none => opIx2 x y
def opLen3 (x : D) : Option R := match scrOf x with
  | some ds => some (.v (.int ds.length))
  | none => opLen2 x
/-! ### is -/
def opIs (x y : D) : Option R := match y with
  | .bool b => (match x with
    | .bool a => some (.v (.bool (decide (a = b))))
    | _ => none)
  | _ => opIsN x y
def opIsNot (x y : D) : Option R := match y with
  | .bool b => (match x with
    | .bool a => some (.v (.bool (!decide (a = b))))
    | _ => none)
  | _ => opNotN x y
section
variable {X : Cx} {k : KX} (hK : X.K = k.K) (hpw : X.prog = k.P ∧ X.w = k.w) (hS : k.Scr) {n : Nat} (hr : Room n X.A)
include hK hpw hS hr in
theorem o_ix3 : IxR X (rOf2 k opIx3) := by
  intro value slice pins s σ H x y v u Q I rx ry ⟨F, d, e, res, hm, ok, hx, hy, ho, q⟩ hs
  unfold opIx3 at ho
  split at ho
  · rename_i ds hd
    obtain ⟨a, vs, rfl, h1, h2⟩ := scrOf_is hS ok hx hd
    split at ho
    · cases hy.int
      obtain ⟨d', h3, rfl⟩ := Option.map_eq_some_iff.mp ho
      obtain ⟨w, h4, h5⟩ := h2.atI h3
      exact ix_list value slice pins s σ H _ _ v u Q I rx ry ⟨a, vs, _, w, rfl, rfl, (by rw [hK]; exact h1), h4, q w F H ok Stp.refl h5⟩ hs
    · cases ho
  · exact o_ix2 hK hpw hr value slice pins s σ H x y v u Q I rx ry ⟨F, d, e, res, hm, ok, hx, hy, ho, q⟩ hs
include hK hS in
theorem c_len3 : CallR X (.builtin "len") (rOf k (op1L opLen3)) := by
  intro pins s σ H xs us Q I r h
  obtain ⟨x, rfl, F, d, res, hm, ok, hx, ho, q⟩ := rOf_1 h
  unfold opLen3 at ho
  split at ho
  · rename_i ds hd
    cases ho
    obtain ⟨a, vs, rfl, h1, h2⟩ := scrOf_is hS ok hx hd
    refine call_len pins s σ H _ us Q I r ⟨_, vs.length, rfl, .inl ⟨vs, (by rw [hK]; exact h1), rfl⟩, ?_⟩
    rw [h2.length] at q
    exact q _ F H ok Stp.refl rfl
  · exact c_len2 hK pins s σ H _ us Q I r ⟨F, [_], res, hm, ok, ⟨x, [], rfl, hx, rfl⟩, ho, q⟩
theorem o_is : OpR X (compareOp .Is) (rOf2 k opIs) := by
  intro pins s σ H x y v u Q I rx ry ⟨F, d, e, res, hm, ok, hx, hy, ho, q⟩
  unfold opIs at ho
  split at ho
  · split at ho
    · cases hx.bl; cases hy.bl; cases ho
      exact op_isBl pins s σ H _ _ v u Q I rx ry ⟨_, _, rfl, rfl, q _ F H ok Stp.refl rfl⟩
    · cases ho
  · exact o_isN pins s σ H x y v u Q I rx ry ⟨F, d, _, res, hm, ok, hx, hy, ho, q⟩
theorem o_isNot : OpR X (compareOp .IsNot) (rOf2 k opIsNot) := by
  intro pins s σ H x y v u Q I rx ry ⟨F, d, e, res, hm, ok, hx, hy, ho, q⟩
  unfold opIsNot at ho
  split at ho
  · split at ho
    · cases hx.bl; cases hy.bl; cases ho
      exact op_notBl pins s σ H _ _ v u Q I rx ry ⟨_, _, rfl, rfl, q _ F H ok Stp.refl rfl⟩
    · cases ho
  · exact o_notN pins s σ H x y v u Q I rx ry ⟨F, d, _, res, hm, ok, hx, hy, ho, q⟩
end

/-! ### sorted(list) -/
def dLe : D → D → Bool := W.dataLe false id
def neTup : D → Bool
  | .tuple (_ :: _) => true
  | _ => false
def noTup : D → Bool
  | .tuple _ => false
  | .none => false
  | _ => true
def sortOk (ds : List D) : Bool := ds.all (fun d => ds.all fun e => W.alike d e) && (ds.all isTup || ds.all noTup) && ds.all (fun d => decide (d.depth ≤ 50)) && decide (ds.length ≤ 16777216) && ds.all PyData.canLay0
/-- tuples that begin with different texts -/
def keyedOk (ds : List D) : Bool := ds.all (fun d => (W.fstTx d).isSome) && decide ((ds.map W.fstTx).Nodup) && ds.all (fun d => W.alike d d) && ds.all (fun d => decide (d.depth ≤ 50)) && decide (ds.length ≤ 16777216) && ds.all PyData.canLay0
def opSorted : D → Option R
  | .list ds => if (sortOk ds || keyedOk ds) = true then some (.o (.list (ds.mergeSort dLe))) else none
  | .dict kvs => (strsOf (kvs.map (·.1))).bind fun xs => if xs.length < 64 then some (.o (.list ((strSort xs).map .str))) else none
  | _ => none
theorem each_rel {k : KX} {F : Hp} : ∀ {ds : List D} {vs : List V} {us : List Value}, RepL k F ds vs → Vals vs us → W.EachIs (fun (u : Value) (d : D) => ∃ v, Rep k F d v ∧ RelV v u) us ds
  | [], _, _, h, r => by cases h; cases r; exact .nil
  | d :: ds, _, _, h, r => by
    obtain ⟨v, vs, rfl, h1, h2⟩ := h
    cases r with
    | cons r1 r2 => exact .cons ⟨v, h1, r1⟩ (each_rel h2 r2)
theorem rel_each {k : KX} {F : Hp} : ∀ {ds : List D} {us : List Value}, W.EachIs (fun (u : Value) (d : D) => ∃ v, Rep k F d v ∧ RelV v u) us ds → ∃ vs, RepL k F ds vs ∧ Vals vs us
  | _, _, .nil => ⟨[], rfl, .nil⟩
  | _, _, .cons ⟨v, h1, r1⟩ t => by
    obtain ⟨vs, h2, r2⟩ := rel_each t
    exact ⟨v :: vs, ⟨v, vs, rfl, h1, h2⟩, .cons r1 r2⟩
theorem rising_pw : ∀ {ys : List Str} {p : Str}, risingS p ys = true → (p :: ys).Pairwise fun a b => strLe a b = true
  | [], _, _ => List.pairwise_singleton _ _
  | x :: r, p, h => by
    have h' : (!ltCps x.cps.toList p.cps.toList) = true ∧ risingS x r = true := by simpa [risingS] using h
    have ih := rising_pw h'.2
    have hx : strLe p x = true := by
      have h1 := h'.1
      rw [ltCps_eq] at h1
      unfold strLe
      simp only [Bool.not_eq_true', decide_eq_false_iff_not] at h1
      exact decide_eq_true (List.not_lt.mp h1)
    refine List.pairwise_cons.mpr ⟨fun y hy => ?_, ih⟩
    rcases List.mem_cons.mp hy with rfl | hy
    · exact hx
    · exact strLe_trans p x y hx ((List.pairwise_cons.mp ih).1 y hy)
theorem sortedS_pw : ∀ {ys : List Str}, sortedS ys = true → ys.Pairwise fun a b => strLe a b = true
  | [], _ => List.Pairwise.nil
  | _ :: _, h => rising_pw h
section
variable {X : Cx} {k : KX} (hK : X.K = k.K) (hc : X.calm = true) {n : Nat} (hr : Room n X.A)
include hK hc hr in
theorem c_sorted : CallR X (.builtin "sorted") (rOf k (op1L opSorted)) := by
  intro pins s σ H xs us Q I r h
  obtain ⟨x, rfl, F, d, res, hm, ok, hx, ho, q⟩ := rOf_1 h
  unfold opSorted at ho
  split at ho
  · rename_i ds
    obtain ⟨hs, ho⟩ := Option.ite_none_right_eq_some.mp ho
    cases ho
    obtain ⟨a, vs, rfl, h1, h2⟩ := hx.lst ok
    have e := Vals.ref1 r
    subst e
    obtain ⟨its, rv, pl, hz⟩ := I.list (SqL.of h1)
    have hE := each_rel h2 rv
    have pre : (∀ d ∈ ds, d.depth ≤ 50) ∧ ds.length ≤ 16777216 ∧ (∀ d ∈ ds, d.canLay0 = true) := by
      rcases (Bool.or_eq_true _ _).mp hs with hs | hs
      · simp only [sortOk, Bool.and_eq_true, List.all_eq_true, decide_eq_true_eq, Bool.or_eq_true] at hs
        exact ⟨hs.1.1.2, hs.1.2, hs.2⟩
      · simp only [keyedOk, Bool.and_eq_true, List.all_eq_true, decide_eq_true_eq] at hs
        exact ⟨hs.1.1.2, hs.1.2, hs.2⟩
    obtain ⟨s3, s4, s5⟩ := pre
    have er : W.EachIs (fun v b => ∃ as, Reads s.heap v (id b) as) its ds := (W.each_mem hE).mono fun u d ⟨⟨v, hv, ru⟩, hmem⟩ => by
      have h3 := (PRep.dp hm ok (s5 d hmem) (.inl hv))
      rw [← hK] at h3
      exact Dp.reads I d v u h3 ru
    have hu : ∀ d, d ∈ ds.map id → X.A.in1.in1.units + d.depth < cLine := fun d hd => by
      rw [List.map_id] at hd
      have a1 := s3 d hd
      have a2 := hr.u64
      show X.A.units + 2 + d.depth < cLine
      omega
    refine W.sorted_by pl.isList hE er (fun s' e' => ?_) (fun h' e' => ?_) (by rw [sizeLine_eq]; omega) fun out hol ho => ?_
    · rcases (Bool.or_eq_true _ _).mp hs with hs | hs
      · simp only [sortOk, Bool.and_eq_true, List.all_eq_true, decide_eq_true_eq, Bool.or_eq_true] at hs
        have hal : W.AllAlike (ds.map id) := by
          rw [List.map_id]
          exact fun d hd e he => hs.1.1.1.1 d hd e he
        rcases hs.1.1.1.2 with s2 | s2
        · refine W.SortsAt.tups e' hal (fun d hd => ?_) hu
          rw [List.map_id] at hd
          have := s2 d hd
          cases d with
          | tuple r => exact ⟨r, rfl⟩
          | _ => cases this
        · refine W.SortsAt.data e' hal (.inr fun d hd => ⟨fun e => ?_, fun xs e => ?_⟩) hu
          · rw [List.map_id] at hd
            have := s2 d hd
            rw [e] at this; cases this
          · rw [List.map_id] at hd
            have := s2 d hd
            rw [e] at this; cases this
      · simp only [keyedOk, Bool.and_eq_true, List.all_eq_true, decide_eq_true_eq] at hs
        refine W.SortsAt.keyed e' ?_ hu
        rw [List.map_id]
        refine ⟨fun d hd => ?_, hs.1.1.1.1.2, fun d hd => hs.1.1.1.2 d hd⟩
        have := hs.1.1.1.1.1 d hd
        unfold W.fstTx at this
        split at this
        · exact ⟨_, _, rfl⟩
        · cases this
    · rcases (Bool.or_eq_true _ _).mp hs with hs | hs
      · simp only [sortOk, Bool.and_eq_true, List.all_eq_true, decide_eq_true_eq, Bool.or_eq_true] at hs
        refine W.each_keys ?_ e'
        rw [List.map_id]
        exact fun d hd e he => hs.1.1.1.1 d hd e he
      · simp only [keyedOk, Bool.and_eq_true, List.all_eq_true, decide_eq_true_eq] at hs
        have hky : W.Keyed1 (ds.map id) := by
          rw [List.map_id]
          refine ⟨fun d hd => ?_, hs.1.1.1.1.2, fun d hd => hs.1.1.1.2 d hd⟩
          have := hs.1.1.1.1.1 d hd
          unfold W.fstTx at this
          split at this
          · exact ⟨_, _, rfl⟩
          · cases this
        exact (W.each_mem e').mono fun _ _ ⟨⟨_, r⟩, hd⟩ => hky.some hd r
    · obtain ⟨ws, w1, w2⟩ := rel_each ho
      obtain ⟨c, hcg⟩ := sortedAll_at s.heap its out.toArray
      have hn : H (s.heap.objs.size + 1) = none := I.hok.fresh (Nat.le_succ _)
      have hl : ws.length ≤ sizeLine := by
        rw [w2.length, hol, sizeLine_eq]
        omega
      have I2 := I.laid (a := s.heap.objs.size + 1) (o := .lst ws) (t' := s.toks) (fun b o e => sortedAll_old e) (Nat.le_succ _) ⟨hl, out, c, w2, hcg⟩
      exact ⟨.ref _, _, I2, rfl, new_lst hm ok hn w1 q⟩
  · rename_i kvs
    obtain ⟨xs, h1, ho⟩ := Option.bind_eq_some_iff.mp ho
    obtain ⟨hl, ho⟩ := Option.ite_none_right_eq_some.mp ho
    rw [strSort_eq] at ho
    cases ho
    have e1 := strsOf_eq h1
    have hk : allK kvs = true := by
      refine List.all_eq_true.mpr fun p hp => ?_
      have : p.1 ∈ kvs.map (·.1) := List.mem_map.mpr ⟨p, hp, rfl⟩
      rw [e1] at this
      obtain ⟨y, _, hy⟩ := List.mem_map.mp this
      rw [← hy]; rfl
    obtain ⟨a, ks, rfl, rd, h2, h3, h4⟩ := hx.dK ok hk
    have h5 : ks.map (·.1) = xs.map Sum.inr := by
      have h6 : (kvs.map (·.1)).map keyK = ks.map (fun p => some p.1) := by
        rw [List.map_map]; exact h2
      rw [e1, List.map_map] at h6
      have h7 : (xs.map (Sum.inr : Str → Key)).map some = (ks.map (·.1)).map some := by
        rw [List.map_map, List.map_map]; exact h6
      exact (List.map_inj_right fun _ _ h => Option.some.inj h).mp h7.symm
    refine call_sortedD hc pins s σ H _ us Q I r ⟨a, ks, xs, rfl, rd, h5, hl, fun ys p hp hs hn => ?_⟩
    have e2 : ys = xs.mergeSort strLe := sort_uniq hp (sortedS_pw hs)
    subst e2
    exact new_lst hm ok hn (RepL.of_strs _) q
  · cases ho
end
end RL
end
section
set_option Elab.async false
set_option linter.all false
set_option autoImplicit false
set_option maxRecDepth 100000
set_option maxHeartbeats 4000000
/-! R20: a text is turned into its mirror -/
namespace RL
open PySem PySem.Spec L2
open PyProof.Rows hiding St

structure Ct where
  N : List Str
  sc : Scope
  fn : Str → Bool
  defs : List (Str × List Bool)
  consts : List (Str × D)
def bltNames : List Str := ["len", "int", "abs", "all", "any", "sum", "list", "tuple", "bool", "dict", "isinstance", "sorted", "set", "str", "range", "zip", "enumerate", "min", "max", "super"]
structure XOk (c : Ct) (X : Cx) (k : KX) (g : G) (n : Nat) : Prop where
  K : X.K = k.K
  pw : X.prog = k.P ∧ X.w = k.w
  scr : k.Scr
  N : X.N = c.N
  nd : X.N.Nodup
  sc : X.env.scope = c.sc
  kind : c.sc.kind = .function
  fn : X.fn = c.fn
  calm : X.calm = true
  xe : X.xe = fun _ _ => False
  room : Room n X.A
  room1 : Room n X.A.in1
  blt : ∀ x, bltNames.contains x = true → X.mg x = none
  consts : ∀ x d, c.consts.lookup x = some d → ∃ u v, X.mg x = some u ∧ RelV v u ∧ ∀ F, Rep k F d v
  defs : ∀ x a, c.defs.lookup x = some a → ∃ f fd prs, X.mg x = some (.ref f) ∧ PySem.W.keepIn X.K (.ref f) = true ∧ Binds X.K fd prs [] ∧ FnOk X.prog X.w X.K X.mg X.base CX0 n f fd prs (spD k g x)
def Ct.blk (c : Ct) (scope : Scope) : Ct := { c with sc := relS scope c.sc, fn := fun x => scope.names.lookup x == some .cell }
theorem XOk.blk {c : Ct} {X : Cx} {k : KX} {g : G} {n : Nat} (ok : XOk c X k g n) {scope : Scope} (hk : scope.kind = .function) (s : Shared) (H : Hp) (C : Addr) (cl : List (Str × Addr)) (fp : List Addr) :
    XOk (c.blk scope) (X.blk s H scope (compEnvC scope cl C X.env) fp) k g n :=
  ⟨ok.K, ok.pw, ok.scr, ok.N, ok.nd, (by show relS scope X.env.scope = relS scope c.sc; rw [ok.sc]), hk, rfl, ok.calm, rfl, ok.room, ok.room1, ok.blt, ok.consts, ok.defs⟩

/-! ### what a turned text is -/
def TrE (c : Ct) (e : Expr) : Type := { m : EM // ∀ X k g n, XOk c X k g n → PE X e (tE k g m) }
def TrO (c : Ct) (e : Expr) : Type := { m : Opd // ∀ X k g n, XOk c X k g n → PE X e (tO k g m) }
def TrT (c : Ct) (e : Expr) : Type := { m : BM // ∀ X k g n, XOk c X k g n → PT X e (tT k g m) }
def TrW (c : Ct) (e : Expr) : Type := { m : BM // ∀ X k g n, XOk c X k g n → PW X e (tT k g m) }
def TrEs (c : Ct) (es : List Expr) : Type := { ms : List EM // ∀ X k g n, XOk c X k g n → PEs X es (ms.map (tK k g)) }
def TrA (c : Ct) (es : List Expr) : Type := { ms : List ArM // ∀ X k g n, XOk c X k g n → PEs X es (ms.map (tA k g)) }
def TrP (c : Ct) (e : Option Expr) : Type := { m : Option EM // ∀ X k g n, XOk c X k g n → PO X e (tPO k g m) }
def TrI (c : Ct) (tg e : Expr) : Type := { m : IM // ∀ X k g n, XOk c X k g n → PI X tg e (tI k g m) }
def TrG (c : Ct) (e : Expr) : Type := { p : TM × List Nat // ∀ X k g n, XOk c X k g n → PG X e (gT k p.1 p.2) }
def TrGs (c : Ct) (es : List Expr) : Type := { p : List TM × List Nat // ∀ X k g n, XOk c X k g n → PGl X k es p.1 p.2 }
def TrS (c : Ct) (st : Stmt) : Type := { m : SM // ∀ X k g n, XOk c X k g n → PS X st (tS k g m) }
def TrB (c : Ct) (b : List Stmt) : Type := { m : SM // ∀ X k g n, XOk c X k g n → PSs X b (tS k g m) }

/-! ### names -/
def visB (sc : Scope) (x : Str) : Bool := match sc.names.lookup x with
  | some .local => true
  | some .cell => true
  | some .free => true
  | _ => false
theorem visB_is {sc : Scope} {x : Str} (h : visB sc x = true) : Vis sc x := by
  unfold visB at h
  split at h
  · exact .inl ‹_›
  · exact .inr (.inl ‹_›)
  · exact .inr (.inr ‹_›)
  · cases h
def locB (sc : Scope) (x : Str) : Bool := match sc.names.lookup x with
  | some .local => true
  | some .cell => true
  | _ => false
theorem locB_is {sc : Scope} {x : Str} (h : locB sc x = true) : Loc sc x := by
  unfold locB at h
  split at h
  · exact .inl ‹_›
  · exact .inr ‹_›
  · cases h
def okNm (x : Str) : Bool := !(x == ("__debug__" : Str)) && !(x == ("__classdict__" : Str)) && !(x == ("__name__" : Str))
theorem okNm_d {x : Str} (h : okNm x = true) : (x == ("__debug__" : Str)) = false := by
  simp only [okNm, Bool.and_eq_true, Bool.not_eq_true'] at h
  exact h.1.1
theorem okNm_c {x : Str} (h : okNm x = true) : (x == ("__classdict__" : Str)) = false := by
  simp only [okNm, Bool.and_eq_true, Bool.not_eq_true'] at h
  exact h.1.2
theorem okNm_n {x : Str} (h : okNm x = true) : x ≠ "__name__" := by
  simp only [okNm, Bool.and_eq_true, Bool.not_eq_true'] at h
  intro e
  subst e
  exact absurd h.2 (by decide)
structure SlotOk (c : Ct) (x : Str) (i : Nat) : Prop where
  ix : c.N[i]? = some x
  vis : Vis c.sc x
  nm : okNm x = true
def slotOf (c : Ct) (x : Str) : Option { i : Nat // SlotOk c x i } := match c.N.findIdx? (fun y => y == x) with
  | some i => if h : c.N[i]? = some x ∧ visB c.sc x = true ∧ okNm x = true then some ⟨i, h.1, visB_is h.2.1, h.2.2⟩ else none
  | none => none
def glB (sc : Scope) (x : Str) : Bool := match sc.names.lookup x with
  | some .globalImplicit => true
  | _ => false
theorem glB_is {c : Ct} {X : Cx} {k : KX} {g : G} {n : Nat} {x : Str} (ok : XOk c X k g n) (h : glB c.sc x = true) : Gl X x := by
  unfold glB at h
  split at h
  · show X.env.scope.names.lookup x = _
    rw [ok.sc]
    assumption
  · cases h
def trVar (c : Ct) (x : Str) (pos : Pos) : Option (TrE c (.Name x pos)) := match slotOf c x with
  | some ⟨i, h⟩ => some ⟨vrM i, fun X k g n ok => pe_vrM (by rw [ok.N]; exact h.ix) (by rw [ok.sc]; exact h.vis) (okNm_d h.nm) (okNm_c h.nm)⟩
  | none => match hd : c.consts.lookup x with
    | some d => if h : glB c.sc x = true ∧ okNm x = true then some ⟨cM d, fun X k g n ok => by
        obtain ⟨u, v, h1, h2, h3⟩ := ok.consts x d hd
        exact pe_cGlob (glB_is ok h.1) h1 h2 (okNm_d h.2) h3⟩ else none
    | none => none
def opdOf {c : Ct} : (e : Expr) → Option (TrE c e) → Option (TrO c e)
  | .Name x pos, t => match slotOf c x with
    | some ⟨i, h⟩ => some ⟨.lz i, fun X k g n ok => pe_var (by rw [ok.N]; exact h.ix) (by rw [ok.sc]; exact h.vis) (okNm_d h.nm) (okNm_c h.nm)⟩
    | none => t.map fun ⟨m, h⟩ => ⟨.eg m, fun X k g n ok => tK_of (h X k g n ok)⟩
  | _, t => t.map fun ⟨m, h⟩ => ⟨.eg m, fun X k g n ok => tK_of (h X k g n ok)⟩

/-! ### operators -/
structure BinOk (op : Operator) (f : D → D → Option R) : Prop where
  ok : ∀ c X k g n, XOk c X k g n → OpR X (binaryOp op) (rOf2 k f)
def binOf : (op : Operator) → Option { f : D → D → Option R // BinOk op f }
  | .Add => some ⟨opAdd, ⟨fun _ _ _ _ _ ok => o_add ok.K⟩⟩
  | .Sub => some ⟨opSub, ⟨fun _ _ _ _ _ ok => o_sub⟩⟩
  | .Mult => some ⟨opMul, ⟨fun _ _ _ _ _ ok => o_mul ok.K⟩⟩
  | .Mod => some ⟨opMod, ⟨fun _ _ _ _ _ ok => o_mod⟩⟩
  | .FloorDiv => some ⟨opDiv, ⟨fun _ _ _ _ _ ok => o_div⟩⟩
  | .Pow => some ⟨opPow, ⟨fun _ _ _ _ _ ok => o_pow⟩⟩
  | _ => none
structure CmpOk (op : CmpOp) (f : D → D → Option R) : Prop where
  ok : ∀ c X k g n, XOk c X k g n → OpR X (compareOp op) (rOf2 k f)
def cmpOf : (op : CmpOp) → Option { f : D → D → Option R // CmpOk op f }
  | .Eq => some ⟨opEq, ⟨fun _ _ _ _ _ ok => o_eq ok.K ok.room⟩⟩
  | .NotEq => some ⟨opNe, ⟨fun _ _ _ _ _ ok => o_ne ok.K ok.room⟩⟩
  | .Lt => some ⟨opLt, ⟨fun _ _ _ _ _ ok => o_lt⟩⟩
  | .LtE => some ⟨opLe, ⟨fun _ _ _ _ _ ok => o_le⟩⟩
  | .Gt => some ⟨opGt, ⟨fun _ _ _ _ _ ok => o_gt⟩⟩
  | .GtE => some ⟨opGe, ⟨fun _ _ _ _ _ ok => o_ge⟩⟩
  | .Is => some ⟨opIs, ⟨fun _ _ _ _ _ ok => o_is⟩⟩
  | .IsNot => some ⟨opIsNot, ⟨fun _ _ _ _ _ ok => o_isNot⟩⟩
  | .In => some ⟨opIn2, ⟨fun _ _ _ _ _ ok => o_in2 ok.K ok.pw ok.room⟩⟩
  | .NotIn => some ⟨opNotIn2, ⟨fun _ _ _ _ _ ok => o_notIn2 ok.K ok.pw ok.room⟩⟩
/-- built-ins of one argument -/
structure B1Ok (x : Str) (f : D → Option R) : Prop where
  ok : ∀ c X k g n, XOk c X k g n → (∃ id, bootBuiltins x = some (.builtin id) ∧ CallR X (.builtin id) (rOf k (op1L f))) ∨ (∃ id, bootBuiltins x = some (.type id) ∧ CallR X (.type id) (rOf k (op1L f)))
def b1Of (x : Str) : Option { f : D → Option R // B1Ok x f } :=
  if h : x = "len" then some ⟨opLen3, ⟨fun _ _ _ _ _ ok => by subst h; exact .inl ⟨"len", by decide +kernel, c_len3 ok.K ok.scr⟩⟩⟩
  else if h : x = "all" then some ⟨opAll, ⟨fun _ _ _ _ _ ok => by subst h; exact .inl ⟨"all", by decide +kernel, c_all ok.calm⟩⟩⟩
  else if h : x = "any" then some ⟨opAny, ⟨fun _ _ _ _ _ ok => by subst h; exact .inl ⟨"any", by decide +kernel, c_any ok.calm⟩⟩⟩
  else if h : x = "sum" then some ⟨opSum, ⟨fun _ _ _ _ _ ok => by subst h; exact .inl ⟨"sum", by decide +kernel, c_sum ok.calm⟩⟩⟩
  else if h : x = "abs" then some ⟨opAbs, ⟨fun _ _ _ _ _ ok => by subst h; exact .inl ⟨"abs", by decide +kernel, c_abs⟩⟩⟩
  else if h : x = "sorted" then some ⟨opSorted, ⟨fun _ _ _ _ _ ok => by subst h; exact .inl ⟨"sorted", by decide +kernel, c_sorted ok.K ok.calm ok.room⟩⟩⟩
  else if h : x = "int" then some ⟨opInt, ⟨fun _ _ _ _ _ ok => by subst h; exact .inr ⟨"int", by decide +kernel, c_int⟩⟩⟩
  else if h : x = "bool" then some ⟨opBool, ⟨fun _ _ _ _ _ ok => by subst h; exact .inr ⟨"bool", by decide +kernel, c_bool⟩⟩⟩
  else if h : x = "list" then some ⟨opList, ⟨fun _ _ _ _ _ ok => by subst h; exact .inr ⟨"list", by decide +kernel, c_list ok.K⟩⟩⟩
  else if h : x = "tuple" then some ⟨opTuple, ⟨fun _ _ _ _ _ ok => by subst h; exact .inr ⟨"tuple", by decide +kernel, c_tuple ok.K⟩⟩⟩
  else if h : x = "dict" then some ⟨opDict, ⟨fun _ _ _ _ _ ok => by subst h; exact .inr ⟨"dict", by decide +kernel, c_dict ok.K ok.calm ok.pw ok.room⟩⟩⟩
  else none
def tyOf (y : Str) : Option { t : Ty // bootBuiltins y = some (.type t.nm) } :=
  if h : y = "int" then some ⟨.int, by subst h; decide +kernel⟩
  else if h : y = "bool" then some ⟨.bool, by subst h; decide +kernel⟩
  else if h : y = "str" then some ⟨.str, by subst h; decide +kernel⟩
  else if h : y = "list" then some ⟨.list, by subst h; decide +kernel⟩
  else if h : y = "tuple" then some ⟨.tuple, by subst h; decide +kernel⟩
  else none
end RL
end
section
set_option Elab.async false
set_option linter.all false
set_option autoImplicit false
set_option maxRecDepth 100000
set_option maxHeartbeats 4000000
/-! RA: a, b = x, y through a tuple: what is ours stays ours -/
namespace RL
open PySem PySem.Spec L2
open PyProof.Rows hiding St

/-- an object that nobody knows -/
theorem Pst.junk {k : KX} {e e' : En} {σ σ' : L2.St} {F H F' H' : Hp} {p : Addr} {o : HO} (q : Pst k e σ F H e' σ' F' H') (hp : H' p = none) : Pst k e σ F H e' σ' F' (upd H' p o) := by
  have hF : F' p = none := by
    cases h : F' p with
    | none => rfl
    | some x => rw [q.er.ok p x h] at hp; cases hp
  have kp : ∀ a x, H' a = some x → upd H' p o a = some x := fun a x h => by rw [upd_ne (ne_of_none h hp)]; exact h
  refine ⟨⟨q.er.mono, fun a x h => kp a x (q.er.ok a x h), q.er.len, q.er.val, fun i s d h hs => ?_, q.er.apart⟩, ⟨q.st.up, fun a x h1 h2 h3 => ?_⟩, q.fl, q.bo⟩
  · obtain ⟨a, h1, h2⟩ := q.er.own i s d h hs
    exact ⟨a, h1, h2.up q.er.mono (Up.refl _) h2.1 (kp a)⟩
  · obtain ⟨g1, g2⟩ := q.st.kp a x h1 h2 h3
    exact ⟨kp a x g1, g2⟩
theorem RR.junk {k : KX} {e e' : En} {σ σ' : L2.St} {F' H H' : Hp} {p : Addr} {o : HO} {r : R} {v : V} (hm : k.Mono) (hp : H' p = none) (h : RR k e σ H e' σ' F' H' r v) : RR k e σ H e' σ' F' (upd H' p o) r v := by
  cases r with
  | v d => exact h
  | o d =>
    obtain ⟨a, h1, h2, h3, h4⟩ := h
    exact ⟨a, h1, h2.up hm (Up.refl _) h2.1 (fun x hx => by rw [upd_ne (ne_of_none hx hp)]; exact hx), h3, h4⟩
theorem RRs.junk {k : KX} {e e' : En} {σ σ' : L2.St} {F' H H' : Hp} {p : Addr} {o : HO} (hm : k.Mono) (hp : H' p = none) : ∀ {rs : List R} {vs : List V}, RRs k e σ H e' σ' F' H' rs vs → RRs k e σ H e' σ' F' (upd H' p o) rs vs
  | [], _, h => h
  | _ :: _, _, h => by
    obtain ⟨v, ws, rfl, h1, h2, h3⟩ := h
    exact ⟨v, ws, rfl, h1.junk hm hp, RRs.junk hm hp h2, h3⟩
/-- names in a row, slots in a row -/
inductive PNs (X : Cx) : List Expr → List Nat → Prop
  | nil : PNs X [] []
  | cons {x pos es i is} : X.N[i]? = some x → Loc X.env.scope x → (X.fn x = true ∨ X.env.scope.names.lookup x = some .local) → PNs X es is → PNs X (.Name x pos :: es) (i :: is)
theorem rsM_len {g : G} : ∀ {ms : List EM} {e e1 : En} {rs : List R}, rsM ms g e = some (rs, e1) → rs.length = ms.length
  | [], _, _, _, h => by cases h; rfl
  | m :: ms, _, _, _, h => by
    obtain ⟨r, h2, h3⟩ := Option.bind_eq_some_iff.mp h
    obtain ⟨p, h4, h5⟩ := Option.map_eq_some_iff.mp h3
    cases h5
    simp [rsM_len h4]
theorem PNs.len {X : Cx} {es : List Expr} {is : List Nat} (h : PNs X es is) : es.length = is.length := by
  induction h with
  | nil => rfl
  | cons _ _ _ _ ih => simp [ih]
section
variable {X : Cx} {k : KX} {g : G}
theorem PNs.star {es : List Expr} {is : List Nat} (h : PNs X es is) : es.all notStar = true := by
  induction h with
  | nil => rfl
  | cons _ _ _ _ ih => simp [notStar, ih]
theorem PNs.pgs (hN : X.N.Nodup) {es : List Expr} {is : List Nat} (h : PNs X es is) : PGs X es (fun vs σ H Q => vs.length = is.length ∧ Q (setAll σ is vs) H) := by
  induction h with
  | nil =>
    refine PGs.weak pgs_nil fun vs σ H Q ⟨h, q⟩ => ?_
    cases vs with
    | nil => exact ⟨rfl, q⟩
    | cons _ _ => cases h
  | @cons x pos es i is h1 h2 h3 h4 ih =>
    refine PGs.weak (pgs_cons (pg_name hN h1 h2 h3) ih (by rw [assign_star rfl]; rfl)) fun vs σ H Q ⟨h, q⟩ => ?_
    cases vs with
    | nil => cases h
    | cons v r => exact ⟨v, r, rfl, by simpa using h, q⟩
theorem psParT {es vs : List Expr} {is : List Nat} {ms : List EM} {j j2 : Nat} {tp tp2 pos : Pos} (hK : X.K = k.K) (hc : X.calm = true) (hN : X.N.Nodup) (hn : PNs X es is) (h : PEs X vs (ms.map (tE k g))) (hs : vs.all notStar = true)
    (hsz : ms.length ≤ sizeLine) (hw : swappedStores [.Tuple es j tp] (.Tuple vs j2 tp2) X.env = pure none) : PS X (.Assign [.Tuple es j tp] (.Tuple vs j2 tp2) pos) (tS k g (parM is ms)) :=
  (ps_asg (pe_tupZ (h.pa hs)) (pg_tup (n := es.length) hc (hn.pgs hN) (assign_len hn.star) (assign_idx hn.star)) (swaps_sole rfl) hw (by rw [assign_star rfl]; rfl)).weak fun D σ H ⟨F, e, f, e', er, hm, q⟩ => by
    obtain ⟨⟨rs, e1⟩, h1, h2⟩ := Option.bind_eq_some_iff.mp hm
    obtain ⟨e2, h3, h4⟩ := Option.map_eq_some_iff.mp h2
    cases h4
    refine rsM_run (k := k) ms er h1 fun vs' F1 H1 p rr => ?_
    have hl := rr.len.symm.trans (putAll_len h3)
    have hrm : rs.length = ms.length := rsM_len h1
    have he : es.length = is.length := hn.len
    refine ⟨by rw [← rr.len, hrm]; exact hsz, fun a o ha ho => ⟨a, vs', rfl, ?_, by rw [hl, he], hl, ?_⟩⟩
    · exact .inl (.inr ⟨o, upd_same⟩)
    · exact q _ F1 _ (putAll_pst (p.junk ha) (rr.junk p.er.mono ha) h3)
end
end RL
end
section
set_option Elab.async false
set_option linter.all false
set_option autoImplicit false
set_option maxRecDepth 100000
set_option maxHeartbeats 4000000
/-! RB: min(a list, key=a def of the program) -/
namespace RL
open PySem PySem.Spec L2
open PyProof.Rows hiding St

/-- what a walk of min with key= needs: L j v k: the j-th item is next, the first of the least so far is v, its key k; S holds both -/
structure MinRun (prog : Program) (w : World) (A : Around) (q I S : Addr) (n : Nat) (L : Nat → Value → Value → Shared → Prop) (Q : Value → Shared → Prop) : Prop where
  sob : ∀ j v k s, L j v k s → ∃ c, s.heap.get? S = some { cls := .type "list", dict := none, data := .seq #[v, k] c, slots := #[] }
  item : ∀ j v k s (E : Value → Shared → Prop), j < n → L j v k s → wpAny (model prog w) A (pyNext (.ref I)) (fun r s1 => ∃ y, r = some y ∧ ∀ E1 : Value → Shared → Prop,
    wpAny (model prog w) A (call (.ref q) [y]) (fun ky s2 => ∀ E2 : Value → Shared → Prop,
      wpAny (model prog w) A (richCompare .Lt ky k) (fun b s3 => (b = .bool false ∧ L (j + 1) v k s3) ∨ (b = .bool true ∧ (∃ c, s3.heap.get? S = some { cls := .type "list", dict := none, data := .seq #[v, k] c, slots := #[] }) ∧
        L (j + 1) y ky { s3 with heap := s3.heap.update S (Obj.mapSeq fun _ => #[y, ky]), toks := s3.toks })) E2 s2) E1 s1) E s
  done : ∀ v k s (E : Value → Shared → Prop), L n v k s → wpAny (model prog w) A (pyNext (.ref I)) (fun r s1 => r = none ∧ (∃ c, s1.heap.get? S = some { cls := .type "list", dict := none, data := .seq #[v, k] c, slots := #[] }) ∧
    Q v { s1 with heap := s1.heap.update S (Obj.mapSeq fun _ => #[]), toks := s1.toks }) E s
section
variable {prog : Program} {w : World} {A : Around} {q I S : Addr} {n : Nat} {L : Nat → Value → Value → Shared → Prop} {Q : Value → Shared → Prop}
theorem min_run (M : MinRun prog w A.in1 q I S n L Q) (kw : List (Str × Value)) :
    ∀ (m j : Nat) (s : Shared) (v k : Value), n - j = m → j ≤ n → L j v k s →
      codeAny (model prog w) A (.builtin "min.loop" ⟨[.ref I, .ref q, .ref S], kw⟩) (fun r s' => ∃ v, r = .ok (.ret v) ∧ Q v s') s := by
  have hname : (toString "min" ++ toString ".loop" : String) = "min.loop" := by decide
  intro m
  induction m with
  | zero =>
    intro j s v k hm hj hL
    have hin : j = n := by omega
    subst hin
    obtain ⟨c, hS⟩ := M.sob _ _ _ _ hL
    refine codeAny_builtin F.entry_min_loop ?_
    rw [Around.under_plainId F.plain_min_loop _]
    show wpAny _ A.in1 (seqItems? (.ref S) >>= _) _ _ s
    refine wpAny_bind (wpAny_seqItems hS rfl ?_)
    show wpAny _ A.in1 (tryCatch (pyNext (.ref I)) _ >>= _) _ _ s
    refine wpAny_bind (wpAny_tryCatch (wpAny_mono (M.done v k s _ hL) (fun r s1 h => ?_) fun _ _ e => e))
    obtain ⟨rfl, ⟨c', hS'⟩, hq⟩ := h
    show wpAny _ A.in1 (updateSeq S (fun _ => #[]) >>= _) _ _ _
    refine wpAny_bind ?_
    refine wpAny_updateSeq hS' rfl (wpAny_bind (wpAny_letGo (wpAny_pure ?_)))
    exact ⟨v, rfl, hq⟩
  | succ m ih =>
    intro j s v k hm hj hL
    have hlt : j < n := by omega
    obtain ⟨c, hS⟩ := M.sob _ _ _ _ hL
    refine codeAny_builtin F.entry_min_loop ?_
    rw [Around.under_plainId F.plain_min_loop _]
    show wpAny _ A.in1 (seqItems? (.ref S) >>= _) _ _ s
    refine wpAny_bind (wpAny_seqItems hS rfl ?_)
    show wpAny _ A.in1 (tryCatch (pyNext (.ref I)) _ >>= _) _ _ s
    refine wpAny_bind (wpAny_tryCatch (wpAny_mono (M.item j v k s _ hlt hL) (fun r s1 h => ?_) fun _ _ e => e))
    obtain ⟨y, rfl, h⟩ := h
    show wpAny _ A.in1 (tryCatch (holding [y] (call (.ref q) [y])) _ >>= _) _ _ _
    refine wpAny_bind (wpAny_tryCatch (wpAny_holding (wpAny_mono (h _) (fun ky s2 h2 => ?_) fun _ _ e => e)))
    show wpAny _ A.in1 (tryCatch (holding [y, ky] (richCompare .Lt ky k >>= _)) _ >>= _) _ _ _
    refine wpAny_bind (wpAny_tryCatch (wpAny_holding (wpAny_bind (wpAny_mono (h2 _) (fun b s3 h3 => ?_) fun _ _ e => e))))
    rcases h3 with ⟨rfl, h3⟩ | ⟨rfl, ⟨c', hS3⟩, h3⟩
    · refine wpAny_bind (wpAny_holding (wpAny_truthy_bool ?_))
      refine wpAny_bind (wpAny_letGo (wpAny_pure ?_))
      simp only [Bool.false_eq_true, if_false]
      refine wpAny_bind (wpAny_letGo ?_)
      rw [hname]
      exact wpAny_pure ⟨plainId_quiet F.plain_min_loop _, ih (j + 1) _ v k (by omega) hlt h3⟩
    · refine wpAny_bind (wpAny_holding (wpAny_truthy_bool ?_))
      refine wpAny_bind (wpAny_letGo (wpAny_pure ?_))
      simp only [if_true]
      refine wpAny_bind ?_
      refine wpAny_updateSeq hS3 rfl (wpAny_bind (wpAny_letGo ?_))
      rw [hname]
      exact wpAny_pure ⟨plainId_quiet F.plain_min_loop _, ih (j + 1) _ y ky (by omega) hlt h3⟩

/-- min(x, key=f) of a def f; S: the place of min's own list -/
theorem call_min_run {E : Value → Shared → Prop} {s : Shared} {x : Value} {q : Addr} {Q : Value → Shared → Prop}
    (h : wpAny (model prog w) A.in1 (pyIter x) (fun it s2 => ∃ I n L, it = .ref I ∧ MinRun prog w A.in1 q I s2.heap.objs.size n L Q ∧ 0 < n ∧ ∀ E0 : Value → Shared → Prop,
      wpAny (model prog w) A.in1 (pyNext (.ref I)) (fun r s3 => ∃ y, r = some y ∧ ∀ E1 : Value → Shared → Prop,
        wpAny (model prog w) A.in1 (call (.ref q) [y]) (fun ky s4 => (∃ c, s4.heap.get? s2.heap.objs.size = some { cls := .type "list", dict := none, data := .seq #[] c, slots := #[] }) ∧
          L 1 y ky { s4 with heap := s4.heap.update s2.heap.objs.size (Obj.mapSeq fun _ => #[y, ky]), toks := s4.toks }) E1 s3) E0
        { s2 with heap := s2.heap.push { cls := .type "list", data := .seq #[] 0 }, toks := s2.toks }) E s) :
    wpAny (model prog w) A (call (.builtin "min") [x] [(Str.ofString "key", .ref q)]) Q E s := by
  have hname : (toString "min" ++ toString ".loop" : String) = "min.loop" := by decide
  refine PyProof.Rows.kmk_tree F.kind_min F.plain_min F.entry_min (PyProof.Rows.kmk_min_key _ _) ?_
  show wpAny _ A.in1 (Builtin.Builtins.bindParams "min" ["key", "default"] 0 ⟨[], [(Str.ofString "key", .ref q)]⟩ >>= _) _ _ s
  refine wpAny_bind (wpAny_of_eq (show Builtin.Builtins.bindParams "min" ["key", "default"] 0 ⟨[], [(Str.ofString "key", .ref q)]⟩ = pure [some (.ref q), none] from rfl) ?_)
  refine wpAny_bind (wpAny_pure ?_)
  refine wpAny_bind (wpAny_mono h (fun it s2 h2 => ?_) fun _ _ e => e)
  obtain ⟨I, n, L, rfl, M, hn, h3⟩ := h2
  refine wpAny_bind (wpAny_newObj_type ?_)
  rw [hname]
  refine wpAny_pure ⟨plainId_quiet F.plain_min_loop _, ?_⟩
  refine codeAny_builtin F.entry_min_loop ?_
  rw [Around.under_plainId F.plain_min_loop _]
  show wpAny _ A.in1 (seqItems? (.ref _) >>= _) _ _ _
  refine wpAny_bind (wpAny_seqItems (Heap.get?_push_size _ rfl) rfl ?_)
  show wpAny _ A.in1 (tryCatch (pyNext (.ref I)) _ >>= _) _ _ _
  refine wpAny_bind (wpAny_tryCatch (wpAny_mono (h3 _) (fun r s3 h4 => ?_) fun _ _ e => e))
  obtain ⟨y, rfl, h4⟩ := h4
  show wpAny _ A.in1 (tryCatch (holding [y] (call (.ref q) [y])) _ >>= _) _ _ _
  refine wpAny_bind (wpAny_tryCatch (wpAny_holding (wpAny_mono (h4 _) (fun ky s4 h5 => ?_) fun _ _ e => e)))
  obtain ⟨⟨c, hS⟩, h5⟩ := h5
  show wpAny _ A.in1 (updateSeq _ (fun _ => #[y, ky]) >>= _) _ _ _
  refine wpAny_bind ?_
  refine wpAny_updateSeq hS rfl ?_
  rw [hname]
  refine wpAny_pure ⟨plainId_quiet F.plain_min_loop _, ?_⟩
  refine codeAny_mono (min_run M _ (n - 1) 1 _ y ky rfl hn h5) fun r s5 hr => ?_
  obtain ⟨v, rfl, hq⟩ := hr
  exact hq
end
end RL

namespace RL
open PySem PySem.Spec L2
open PyProof.Rows hiding St
/-- the key that a def gives to an item -/
def kfOf (g : G) (x : Str) (d : D) : Option D := match g.call x [.v d] with
  | some (r, []) => some r.d
  | _ => none
/-- what is asked of a key -/
def okK (d : D) : Bool := d.canLay0 && decide (d.depth ≤ 64) && !isNn d
def bestK (kf : D → Option D) : D → D → List D → Option D
  | d, _, [] => some d
  | d, kd, y :: r => (kf y).bind fun ky => if okK ky && PySem.W.alike ky kd then (if PySem.W.dataLt ky kd then bestK kf y ky r else bestK kf d kd r) else none
def opMinK (kf : D → Option D) : D → Option R
  | .list (d :: r) => (kf d).bind fun kd => if okK kd then (bestK kf d kd r).map .v else none
  | _ => none
section
variable {X : Cx} {k : KX} {g : G} {x : Str} {f : Addr} {fd : FuncData} {prs : List Str} {n : Nat} {pins : List (Addr × Obj)} {σ : L2.St} {H F : Hp} {s : Shared}
theorem Stp.noTrans {F H F1 H1 F2 H2 : Hp} (s : Stp (fun _ => False) F H F1 H1) (t : Stp (fun _ => False) F1 H1 F2 H2) : Stp (fun _ => False) F H F2 H2 :=
  ⟨s.up.trans t.up, fun a o e e2 _ => by
    obtain ⟨h1, h2⟩ := s.kp a o e e2 id
    exact t.kp a o h1 h2 id⟩
/-- a result is kept for good -/
theorem RN.keep {F' H' : Hp} {r : R} {v : V} (hm : k.Mono) (ok : OkF F' H') (st : Stp (fun _ => False) F H F' H') (q : RN k H F' H' r v) :
    ∃ F2, OkF F2 H' ∧ Stp (fun _ => False) F H F2 H' ∧ Rep k F2 r.d v := by
  cases r with
  | v d => exact ⟨F', ok, st, q⟩
  | o d =>
    obtain ⟨a, rfl, ow, fr⟩ := q
    refine ⟨fz F' H' a, fz_ok ok, ⟨st.up.trans (fz_up ow.1), fun b o h1 h2 h3 => ?_⟩, ow.rep hm⟩
    obtain ⟨g1, g2⟩ := st.kp b o h1 h2 h3
    refine ⟨g1, ?_⟩
    have hb : b ≠ a := by
      rintro rfl
      rw [fr] at h1; cases h1
    rw [fz_ne hb]; exact g2
/-- the key of an item -/
theorem key_call (Fo : FnOk X.prog X.w X.K X.mg X.base CX0 n f fd prs (spD k g x)) (hr : Room n X.A) (hr1 : Room n X.A.in1) (hb : Binds X.K fd prs []) (I : Inv X pins σ H s) (hm : k.Mono) (ok : OkF F H) {d kd : D} {v : V} {y : Value} {fp : List Addr}
    (r : Rep k F d v) (rv : RelV v y) (hk : kfOf g x d = some kd) (hf : ∀ b ∈ fp, FpOk X pins H b) (ho : ∀ b ∈ fp, ∃ o, s.heap.get? b = some o ∧ ∀ v, o.data ≠ .cell v) {E : Value → Shared → Prop} :
    wpAny (model X.prog X.w) X.A.in1 (call (.ref f) [y]) (fun ky s' => ∃ F' H' kv, Inv X pins σ H' s' ∧ OkF F' H' ∧ Stp (fun _ => False) F H F' H' ∧ Rep k F' kd kv ∧ RelV kv ky ∧ (∀ b ∈ fp, FpOk X pins H' b) ∧ ∀ b ∈ fp, s'.heap.get? b = s.heap.get? b) E s := by
  have hc : ∃ rr, g.call x [.v d] = some (rr, []) ∧ rr.d = kd := by
    unfold kfOf at hk
    split at hk
    · rename_i rr e
      cases hk
      exact ⟨rr, e, rfl⟩
    · cases hk
  obtain ⟨rr, hc, rfl⟩ := hc
  have I2 := I.pinned hf ho
  have sp : spD k g x [v] H (fun u H2 => ∃ F2, OkF F2 H2 ∧ Stp (fun _ => False) F H F2 H2 ∧ Rep k F2 rr.d u) E0 := by
    refine ⟨F, [.v d], rr, [], hm, ok, ⟨v, [], rfl, r, rfl⟩, fun i j a b _ hi _ la => ?_, hc, fun u F2 H2 ok2 st2 rn2 _ => ?_⟩
    · rcases i with _ | i
      · cases hi; cases la
      · cases hi
    · refine RN.keep hm ok2 ⟨st2.up, fun a o h1 h2 _ => st2.kp a o h1 h2 ?_⟩ rn2
      rintro ⟨i, b, hi, lb, _⟩
      rcases i with _ | i
      · cases hi; cases lb
      · cases hi
  have hl : ([y] ++ []).length = prs.length := by rw [← (show ([v] ++ [] : List V).length = ([y] ++ [] : List Value).length from rfl)]; exact Fo.len _ _ _ _ sp
  refine wpAny_call (codeAny_mono (Fo.run X.A.in1 X.stack s H ⟨[y], []⟩ [y] [v] _ E0 hr1 I2.env0.in1 (hb s [y] I.kIn hl) (.cons rv .nil) sp) fun r s' hq => ?_)
  cases r with
  | error e => exact (hq : False).elim
  | ok fl =>
    cases fl with
    | ret u =>
      obtain ⟨kv, H', I3, rk, F2, ok2, st2, rp⟩ := I2.after hq
      have hsame : ∀ b ∈ fp, s'.heap.get? b = s.heap.get? b ∧ H' b = none := fun b hb => by
        obtain ⟨o, e, _⟩ := ho b hb
        have := I3.pin (b, o) (List.mem_append_right _ (List.mem_append_right _ (mem_pinsAt hb e)))
        exact ⟨by rw [e]; exact this.1, this.2.1⟩
      exact ⟨F2, H', kv, I3.unpinned, ok2, st2, rp, rk, fun b hb => ⟨(hsame b hb).2, (hf b hb).2⟩, fun b hb => (hsame b hb).1⟩
    | next => exact (hq : False).elim
    | brk => exact (hq : False).elim
    | cont => exact (hq : False).elim

theorem lst_stays {F1 H1 : Hp} {l : Addr} {vs : List V} (ok : OkF F H) (ok1 : OkF F1 H1) (st : Stp (fun _ => False) F H F1 H1) (h : H l = some (.lst vs)) : H1 l = some (.lst vs) := by
  cases e : F l with
  | some o =>
    have := ok l o e
    rw [h] at this; cases this
    exact ok1 l _ (st.up.lst e)
  | none => exact (st.kp l _ h e id).1
/-- the state of min's walk -/
def LMin (X : Cx) (k : KX) (pins : List (Addr × Obj)) (σ : L2.St) (F H : Hp) (kf : D → Option D) (ds : List D) (l It S : Addr) (res : D) (j : Nat) (vb kb : Value) (s : Shared) : Prop :=
  ∃ F1 H1 d kd v kv, Inv X pins σ H1 s ∧ OkF F1 H1 ∧ Stp (fun _ => False) F H F1 H1 ∧ (∀ b ∈ [It, S], FpOk X pins H1 b) ∧
    (∃ c, s.heap.get? S = some { cls := .type "list", dict := none, data := .seq #[vb, kb] c, slots := #[] }) ∧ s.heap.IsListIter It l j ∧
    bestK kf d kd (ds.drop j) = some res ∧ okK kd = true ∧ Rep k F1 d v ∧ RelV v vb ∧ Rep k F1 kd kv ∧ RelV kv kb
theorem iter_obj {h : Heap} {a l : Addr} {i : Nat} (x : h.IsListIter a l i) : ∃ o, h.get? a = some o ∧ ∀ v, o.data ≠ .cell v := by
  obtain ⟨o, e, _, d⟩ := x
  exact ⟨o, e, fun v z => by rw [d] at z; cases z⟩
/-- the next item -/
theorem item_step {H1 : Hp} {l It : Addr} {j : Nat} {vs : List V} (hh : X.A.handled = none) (I : Inv X pins σ H1 s) (hl : H1 l = some (.lst vs)) (hf : FpOk X pins H1 It) (hi : s.heap.IsListIter It l j) (hj : j < vs.length) {E : Value → Shared → Prop} :
    wpAny (model X.prog X.w) X.A.in1 (pyNext (.ref It)) (fun r s1 => ∃ y v, r = some y ∧ vs[j]? = some v ∧ RelV v y ∧ Inv X pins σ H1 s1 ∧ s1.heap.IsListIter It l (j + 1) ∧ ∀ b o, b ≠ It → s.heap.get? b = some o → s1.heap.get? b = some o) E s := by
  obtain ⟨its, rv, pl, _⟩ := I.list (SqL.of hl)
  have hne : l ≠ It := fun z => by rw [z, hf.1] at hl; cases hl
  have hlen : vs.length = its.length := rv.length
  refine (Walks.list (A := X.A.in1) hh It l hne its.toArray).item j s _ _ (by simpa using (hlen ▸ hj)) ⟨hi, pl.isList⟩ fun y h' tk hP hst hk => ?_
  have hy : its[j]? = some y := by simpa using hP
  have hv := List.getElem?_eq_getElem hj
  obtain ⟨y', hy', r⟩ := Vals.get rv hv
  rw [hy] at hy'; cases hy'
  exact ⟨y, vs[j], rfl, hv, r, I.turnedL (ch := [It]) hk (fun b hb => by rw [List.mem_singleton.mp hb]; exact hf), hst.1, fun b o hb => hk b o (by simpa using hb)⟩
theorem done_step {H1 : Hp} {l It : Addr} {vs : List V} (hh : X.A.handled = none) (I : Inv X pins σ H1 s) (hl : H1 l = some (.lst vs)) (hf : FpOk X pins H1 It) (hi : s.heap.IsListIter It l vs.length) {E : Value → Shared → Prop} :
    wpAny (model X.prog X.w) X.A.in1 (pyNext (.ref It)) (fun r s1 => r = none ∧ Inv X pins σ H1 s1 ∧ ∀ b o, b ≠ It → s.heap.get? b = some o → s1.heap.get? b = some o) E s := by
  obtain ⟨its, rv, pl, _⟩ := I.list (SqL.of hl)
  have hne : l ≠ It := fun z => by rw [z, hf.1] at hl; cases hl
  have hlen : its.toArray.size = vs.length := by simpa using rv.length.symm
  refine (Walks.list (A := X.A.in1) hh It l hne its.toArray).done s _ _ ?_ fun h' tk hk => ?_
  · rw [hlen]; exact ⟨hi, pl.isList⟩
  · exact ⟨rfl, I.turnedL (ch := [It]) hk (fun b hb => by rw [List.mem_singleton.mp hb]; exact hf), fun b o hb => hk b o (by simpa using hb)⟩
/-- two keys -/
theorem key_cmp {F1 H1 : Hp} {da db : D} {va vb : V} {ua ub : Value} (hK : X.K = k.K) (hm : k.Mono) (hu : X.A.units + 66 < cLine) (I : Inv X pins σ H1 s) (ok : OkF F1 H1) (ra : Rep k F1 da va) (rb : Rep k F1 db vb) (xa : RelV va ua) (xb : RelV vb ub)
    (oa : okK da = true) (ob : okK db = true) (al : PySem.W.alike da db = true) {E Q : Value → Shared → Prop} (q : Q (.bool (PySem.W.dataLt da db)) s) : wpAny (model X.prog X.w) X.A.in1 (richCompare .Lt ua ub) Q E s := by
  unfold okK at oa ob
  simp only [Bool.and_eq_true, decide_eq_true_eq] at oa ob
  have h1 := (PRep.dp (H := H1) hm ok oa.1.1 (.inl ra))
  have h2 := (PRep.dp (H := H1) hm ok ob.1.1 (.inl rb))
  rw [← hK] at h1 h2
  obtain ⟨as, r1⟩ := Dp.reads I da va ua h1 xa
  obtain ⟨bs, r2⟩ := Dp.reads I db vb ub h2 xb
  refine PySem.W.rcLt_alike da db X.A.in1 s ua ub as bs r1 r2 al (fun z => ?_) ?_ X.prog X.w E Q q
  · rw [z] at oa; exact absurd oa.2 (by decide)
  · have := Nat.min_le_left da.depth db.depth
    have h3 := oa.1.2
    show X.A.units + 1 + _ < _
    omega

theorem upd_inv {H1 : Hp} {S : Addr} {fn : Obj → Obj} {tk : Nat} (I : Inv X pins σ H1 s) (hf : FpOk X pins H1 S) : Inv X pins σ H1 { s with heap := s.heap.update S fn, toks := tk } :=
  I.turnedL (ch := [S]) (fun b o hb e => (Heap.get?_update_other _ _ (fun z : S = b => hb (by rw [z]; exact List.mem_singleton.mpr rfl))).trans e) fun b hb => by rw [List.mem_singleton.mp hb]; exact hf
theorem iter_keep {h h' : Heap} {a l : Addr} {i : Nat} (x : h.IsListIter a l i) (k : ∀ o, h.get? a = some o → h'.get? a = some o) : h'.IsListIter a l i := by
  obtain ⟨o, e, r⟩ := x
  exact ⟨o, k o e, r⟩
theorem min_runs {kf : D → Option D} {ds : List D} {l It S : Addr} {vs : List V} {res : D} (Fo : FnOk X.prog X.w X.K X.mg X.base CX0 n f fd prs (spD k g x)) (hr : Room n X.A) (hr1 : Room n X.A.in1) (hb : Binds X.K fd prs []) (hK : X.K = k.K) (hm : k.Mono) (ok : OkF F H)
    (hkf : kf = kfOf g x) (hl : H l = some (.lst vs)) (hds : RepL k F ds vs) (hne : It ≠ S) {Q : Value → Shared → Prop}
    (q : ∀ F1 H1 v u s1, Inv X pins σ H1 s1 → OkF F1 H1 → Stp (fun _ => False) F H F1 H1 → Rep k F1 res v → RelV v u → Q u s1) :
    MinRun X.prog X.w X.A.in1 f It S ds.length (LMin X k pins σ F H kf ds l It S res) Q := by
  have hlen : ds.length = vs.length := hds.length
  refine ⟨fun j vb kb s hL => ?_, fun j vb kb s E hj hL => ?_, fun vb kb s E hL => ?_⟩
  · obtain ⟨F1, H1, d, kd, v, kv, I, ok1, st, hf, hS, r⟩ := hL
    exact hS
  · obtain ⟨F1, H1, d, kd, v, kv, I, ok1, st, hf, ⟨c, hS⟩, hi, hbest, hok, rd, rv, rk, rkv⟩ := hL
    have hfI := hf It (by simp)
    have hfS := hf S (by simp)
    refine wpAny_mono (item_step hr.hd I (lst_stays ok ok1 st hl) hfI hi (by omega)) (fun r s1 h => ?_) fun _ _ e => e
    obtain ⟨y, w, rfl, hw, rw_, I1, hi1, kp1⟩ := h
    refine ⟨y, rfl, fun E1 => ?_⟩
    obtain ⟨dy, hdy, ry⟩ := hds.getV hw
    have hS1 := kp1 S _ (Ne.symm hne) hS
    have hdrop : ds.drop j = dy :: ds.drop (j + 1) := by
      rw [List.drop_eq_getElem_cons hj]
      congr 1
      rw [List.getElem?_eq_getElem hj] at hdy
      exact Option.some.inj hdy
    rw [hdrop] at hbest
    unfold bestK at hbest
    obtain ⟨ky, hky, hbest⟩ := Option.bind_eq_some_iff.mp hbest
    obtain ⟨hcond, hbest⟩ := Option.ite_none_right_eq_some.mp hbest
    simp only [Bool.and_eq_true] at hcond
    rw [hkf] at hky
    refine wpAny_mono (key_call (fp := [It, S]) Fo hr hr1 hb I1 hm ok1 (ry.up hm st.up) rw_ hky hf (fun b hb => ?_)) (fun kyv s2 h => ?_) fun _ _ e => e
    · rcases List.mem_cons.mp hb with rfl | hb
      · exact iter_obj hi1
      · rw [List.mem_singleton.mp hb]
        exact ⟨_, hS1, fun v z => by cases z⟩
    obtain ⟨F2, H2, kyV, I2, ok2, st2, rky, rkyv, hf2, same⟩ := h
    intro E2
    have hS2 : s2.heap.get? S = some _ := (same S (by simp)).trans hS1
    have hi2 : s2.heap.IsListIter It l (j + 1) := iter_keep hi1 fun o e => (same It (by simp)).trans e
    have rk2 := rk.up hm st2.up
    refine key_cmp hK hm (by have := hr.un; omega) I2 ok2 rky rk2 rkyv rkv hcond.1 hok hcond.2 ?_
    have st12 := Stp.noTrans st st2
    cases hlt : PySem.W.dataLt ky kd with
    | false =>
      rw [hlt] at hbest
      exact .inl ⟨rfl, F2, H2, d, kd, v, kv, I2, ok2, st12, hf2, ⟨c, hS2⟩, hi2, by simpa using hbest, hok, rd.up hm st2.up, rv, rk2, rkv⟩
    | true =>
      rw [hlt] at hbest
      refine .inr ⟨rfl, ⟨c, hS2⟩, F2, H2, dy, ky, w, kyV, upd_inv I2 (hf2 S (by simp)), ok2, st12, hf2, ⟨_, Heap.get?_update_self _ hS2 rfl⟩, iter_keep hi2 fun o e => (Heap.get?_update_other _ _ (fun z : S = It => hne z.symm)).trans e,
        by simpa using hbest, hcond.1, (ry.up hm st.up).up hm st2.up, rw_, rky, rkyv⟩
  · obtain ⟨F1, H1, d, kd, v, kv, I, ok1, st, hf, ⟨c, hS⟩, hi, hbest, hok, rd, rv, rk, rkv⟩ := hL
    have hfI := hf It (by simp)
    refine wpAny_mono (done_step hr.hd I (lst_stays ok ok1 st hl) hfI (hlen ▸ hi)) (fun r s1 h => ?_) fun _ _ e => e
    obtain ⟨rfl, I1, kp1⟩ := h
    refine ⟨rfl, ⟨c, kp1 S _ (Ne.symm hne) hS⟩, ?_⟩
    rw [List.drop_length] at hbest
    cases hbest
    exact q F1 H1 v vb _ (upd_inv I1 (hf S (by simp))) ok1 st rd rv
/-- min(o, key=f) -/
def rMinK (k : KX) (g : G) (x : Str) (f : Addr) : List V → List V → Hp → VK → Prop := fun vs zs H Q => ∃ v, vs = [v] ∧ zs = [.ref f] ∧ rOf1 k (opMinK (kfOf g x)) v H Q
theorem c_minK (Fo : FnOk X.prog X.w X.K X.mg X.base CX0 n f fd prs (spD k g x)) (hr : Room n X.A) (hr1 : Room n X.A.in1) (hb : Binds X.K fd prs []) (hK : X.K = k.K) : CallRK X (.builtin "min") [Str.ofString "key"] (rMinK k g x f) := by
  intro pins s σ H xs zs us ws Q I r rz h
  obtain ⟨vx, rfl, rfl, F, d, res, hm, ok, hx, ho, q⟩ := h
  cases rz.ref1
  unfold opMinK at ho
  split at ho
  · rename_i d0 dr
    obtain ⟨kd, hkd, ho⟩ := Option.bind_eq_some_iff.mp ho
    obtain ⟨hok, ho⟩ := Option.ite_none_right_eq_some.mp ho
    obtain ⟨dres, hbest, rfl⟩ := Option.map_eq_some_iff.mp ho
    obtain ⟨l, vs, rfl, hl, hds⟩ := hx.lst ok
    cases r.ref1
    have hlen : (d0 :: dr).length = vs.length := hds.length
    obtain ⟨its, rv, pl, _⟩ := I.list (SqL.of hl)
    refine call_min_run (iter_anyList pl.isList fun s2 e st hfp hlI => ?_)
    have I2 : Inv X pins σ H s2 := by
      rw [e]; exact I.kept fun b u e => Heap.get?_push_of_some _ e
    have hsz : s2.heap.objs.size = s.heap.objs.size + 1 := by rw [e]; exact Heap.size_push ..
    have fI : FpOk X pins H s.heap.objs.size := I.fpOk (Nat.le_refl _) (I.hok.fresh (Nat.le_refl _))
    have fS : FpOk X pins H s2.heap.objs.size := I2.fpOk (Nat.le_refl _) (I2.hok.fresh (Nat.le_refl _))
    have hne : s.heap.objs.size ≠ s2.heap.objs.size := by omega
    have hf : ∀ b ∈ [s.heap.objs.size, s2.heap.objs.size], FpOk X pins H b := fun b hb => by
      rcases List.mem_cons.mp hb with rfl | hb
      · exact fI
      · rw [List.mem_singleton.mp hb]; exact fS
    refine ⟨s.heap.objs.size, (d0 :: dr).length, LMin X k pins σ F H (kfOf g x) (d0 :: dr) l s.heap.objs.size s2.heap.objs.size dres, rfl, min_runs Fo hr hr1 hb hK hm ok rfl hl hds hne fun F1 H1 v u s1 I1 ok1 st1 rp rl => ⟨v, H1, I1, rl, q v F1 H1 ok1 st1 rp⟩, Nat.zero_lt_succ _, fun E0 => ?_⟩
    have I3 : Inv X pins σ H { s2 with heap := s2.heap.push { cls := .type "list", data := .seq #[] 0 }, toks := s2.toks } := I2.kept fun b u e => Heap.get?_push_of_some _ e
    have hS3 : (s2.heap.push { cls := .type "list", data := .seq #[] 0 }).get? s2.heap.objs.size = some { cls := .type "list", dict := none, data := .seq #[] 0, slots := #[] } := Heap.get?_push_size _ rfl
    refine wpAny_mono (item_step hr.hd I3 hl fI (iter_keep st.1 fun o e => Heap.get?_push_of_some _ e) (by rw [← hlen]; exact Nat.zero_lt_succ _)) (fun r s3 h3 => ?_) fun _ _ e => e
    obtain ⟨y, w, rfl, hw, rw_, I4, hi4, kp4⟩ := h3
    refine ⟨y, rfl, fun E1 => ?_⟩
    obtain ⟨dy, hdy, ry⟩ := hds.getV hw
    cases hdy
    have hS4 := kp4 _ _ (Ne.symm hne) hS3
    refine wpAny_mono (key_call (fp := [s.heap.objs.size, s2.heap.objs.size]) Fo hr hr1 hb I4 hm ok ry rw_ hkd hf (fun b hb => ?_)) (fun kyv s5 h => ?_) fun _ _ e => e
    · rcases List.mem_cons.mp hb with rfl | hb
      · exact iter_obj hi4
      · rw [List.mem_singleton.mp hb]
        exact ⟨_, hS4, fun v z => by cases z⟩
    obtain ⟨F2, H2, kyV, I5, ok2, st2, rky, rkyv, hf2, same⟩ := h
    have hS5 : s5.heap.get? s2.heap.objs.size = some _ := (same _ (by simp)).trans hS4
    refine ⟨⟨0, hS5⟩, F2, H2, _, kd, w, kyV, upd_inv I5 (hf2 _ (by simp)), ok2, st2, hf2, ⟨_, Heap.get?_update_self _ hS5 rfl⟩, iter_keep (iter_keep hi4 fun o e => (same _ (by simp)).trans e) fun o e => (Heap.get?_update_other _ _ (Ne.symm hne)).trans e,
      hbest, hok, ry.up hm st2.up, rw_, rky, rkyv⟩
  · cases ho
def minM (q : Opd) (x : Str) : EM := fun g e => un q (opMinK (kfOf g x)) g e
theorem boot_min : bootBuiltins "min" = some (.builtin "min") := by kernel_rfl
theorem tO_mono {q : Opd} {H : Hp} {Q Q' : VK} (h : tO k g q σ H Q) (m : ∀ v H', Q v H' → Q' v H') : tO k g q σ H Q' := by
  cases q with
  | lz i =>
    obtain ⟨v, h1, h2⟩ := h
    exact ⟨v, h1, m _ _ h2⟩
  | eg em =>
    obtain ⟨F, e, r, e', er, h1, h2⟩ := h
    exact ⟨F, e, r, e', er, h1, fun v F' H' p rp => m _ _ (h2 v F' H' p rp)⟩
theorem peMinK {e : Expr} {q : Opd} {p p2 kp pos : Pos} (Fo : FnOk X.prog X.w X.K X.mg X.base CX0 n f fd prs (spD k g x)) (hr : Room n X.A) (hr1 : Room n X.A.in1) (hb : Binds X.K fd prs []) (hK : X.K = k.K)
    (hg : Gl X "min") (hm : X.mg "min" = none) (hgx : Gl X x) (hmx : X.mg x = some (.ref f)) (hd : (x == ("__debug__" : Str)) = false) (ha : PE X e (tO k g q)) (hs : notStar e = true) :
    PE X (.Call (.Name "min" p) [e] [⟨some "key", .Name x p2, kp⟩] pos) (tE k g (minM q x)) := by
  refine (pe_callBK (ks := [Str.ofString "key"]) (c_minK Fo hr hr1 hb hK) hg hm boot_min (pa_cons ha pa_nil (star_eq hs)) (pk_cons (pe_glob hgx hmx (v := .ref f) rfl hd) pk_nil) (he := by rw [star_eq hs]; rfl) (hpl := by rw [star_eq hs]; rfl)).weak fun σ H Q h => ?_
  exact tO_mono (opM1_run σ H Q h) fun v H1 z => ⟨v, rfl, rfl, z⟩
end
end RL
end
section
set_option Elab.async false
set_option linter.all false
set_option autoImplicit false
set_option maxRecDepth 100000
set_option maxHeartbeats 4000000
/-! R21: the turning -/
namespace RL
open PySem PySem.Spec L2
open PyProof.Rows hiding St

section
variable {c : Ct}
def mkBin {a b : Expr} (op : Operator) (pos : Pos) (pa : Option (TrO c a)) (pb : Option (TrO c b)) : Option (TrE c (.BinOp a op b pos)) :=
  pa.bind fun ⟨p, hp⟩ => pb.bind fun ⟨q, hq⟩ => (binOf op).map fun ⟨f, hf⟩ => ⟨bin p q f, fun X k g n ok => peBin (hf.ok c X k g n ok) (hp X k g n ok) (hq X k g n ok)⟩
def mkCmp {a b : Expr} (op : CmpOp) (pos : Pos) (pa : Option (TrO c a)) (pb : Option (TrO c b)) : Option (TrE c (.Compare a [op] [b] pos)) :=
  pa.bind fun ⟨p, hp⟩ => pb.bind fun ⟨q, hq⟩ => (cmpOf op).bind fun ⟨f, hf⟩ => if hs : notSet b = true then some ⟨bin p q f, fun X k g n ok => peCmp (hf.ok c X k g n ok) (hp X k g n ok) (hq X k g n ok) hs⟩ else none
def mkCmpT {a b : Expr} (op : CmpOp) (pos : Pos) (pa : Option (TrO c a)) (pb : Option (TrO c b)) : Option (TrT c (.Compare a [op] [b] pos)) :=
  pa.bind fun ⟨p, hp⟩ => pb.bind fun ⟨q, hq⟩ => (cmpOf op).bind fun ⟨f, hf⟩ => if hs : notSet b = true then some ⟨tstM (bin p q f), fun X k g n ok => ptCmp (hf.ok c X k g n ok) (hp X k g n ok) (hq X k g n ok) hs⟩ else none
def mkCh {a b d : Expr} (op op' : CmpOp) (pos : Pos) (ta : Option (TrE c a)) (tb : Option (TrE c b)) (td : Option (TrE c d)) : Option (TrE c (.Compare a [op, op'] [b, d] pos)) :=
  ta.bind fun ⟨p, hp⟩ => tb.bind fun ⟨q, hq⟩ => td.bind fun ⟨r, hr⟩ => (cmpOf op).bind fun ⟨f, hf⟩ => (cmpOf op').bind fun ⟨f', hf'⟩ =>
    if hm : lastMarks [op, op'] [b, d] = false then some ⟨chM p q r f f', fun X k g n ok => peCh (hf.ok c X k g n ok) (hf'.ok c X k g n ok) (hp X k g n ok) (hq X k g n ok) (hr X k g n ok) hm⟩ else none
def mkChT {a b d : Expr} (op op' : CmpOp) (pos : Pos) (ta : Option (TrE c a)) (tb : Option (TrE c b)) (td : Option (TrE c d)) : Option (TrT c (.Compare a [op, op'] [b, d] pos)) :=
  ta.bind fun ⟨p, hp⟩ => tb.bind fun ⟨q, hq⟩ => td.bind fun ⟨r, hr⟩ => (cmpOf op).bind fun ⟨f, hf⟩ => (cmpOf op').bind fun ⟨f', hf'⟩ =>
    if hm : lastMarks [op, op'] [b, d] = false then some ⟨tstM (chM p q r f f'), fun X k g n ok => ptCh (hf.ok c X k g n ok) (hf'.ok c X k g n ok) (hp X k g n ok) (hq X k g n ok) (hr X k g n ok) hm⟩ else none
def mkNeg {a : Expr} (pos : Pos) (pa : Option (TrO c a)) : Option (TrE c (.UnaryOp .USub a pos)) :=
  pa.map fun ⟨p, hp⟩ => ⟨un p opNeg, fun X k g n ok => peUn o_neg (hp X k g n ok)⟩
def mkNot {a : Expr} (pos : Pos) (ta : Option (TrE c a)) : Option (TrE c (.UnaryOp .Not a pos)) :=
  ta.map fun ⟨m, hm⟩ => ⟨notV m, fun X k g n ok => peNot (hm X k g n ok)⟩
def mkNotT {a : Expr} (pos : Pos) (ta : Option (TrT c a)) : Option (TrT c (.UnaryOp .Not a pos)) :=
  ta.map fun ⟨m, hm⟩ => ⟨notM m, fun X k g n ok => ptNot (hm X k g n ok)⟩
def mkIf {t a b : Expr} (pos : Pos) (tt : Option (TrT c t)) (ta : Option (TrE c a)) (tb : Option (TrE c b)) : Option (TrE c (.IfExp t a b pos)) :=
  tt.bind fun ⟨t, ht⟩ => ta.bind fun ⟨m, hm⟩ => tb.map fun ⟨m', hm'⟩ => ⟨ifM t m m', fun X k g n ok => peIf (ht X k g n ok) (hm X k g n ok) (hm' X k g n ok)⟩
def mkIx {a b : Expr} (pos : Pos) (pa : Option (TrO c a)) (pb : Option (TrO c b)) : Option (TrE c (.Subscript a b pos)) :=
  pa.bind fun ⟨p, hp⟩ => pb.bind fun ⟨q, hq⟩ => if hs : notSlice b = true then some ⟨bin p q opIx3, fun X k g n ok => peIx (o_ix3 ok.K ok.pw ok.scr ok.room) (hp X k g n ok) (hq X k g n ok) hs⟩ else none
def mkSl {a : Expr} {lo hi : Option Expr} (p2 pos : Pos) (pa : Option (TrO c a)) (pl : Option (TrP c lo)) (ph : Option (TrP c hi)) : Option (TrE c (.Subscript a (.Slice lo hi none p2) pos)) :=
  pa.bind fun ⟨p, hp⟩ => pl.bind fun ⟨l, hl⟩ => ph.map fun ⟨u, hu⟩ => ⟨slM p l u, fun X k g n ok => peSl (o_sl ok.K) (hp X k g n ok) (hl X k g n ok) (hu X k g n ok)⟩
def mkTup {es : List Expr} (j : Nat) (pos : Pos) (ts : Option (TrEs c es)) : Option (TrE c (.Tuple es j pos)) :=
  ts.bind fun ⟨ms, h⟩ => if hs : es.all notStar = true then some ⟨opV ms opTup, fun X k g n ok => peTup (h X k g n ok) hs⟩ else none
def mkLst {es : List Expr} (pos : Pos) (ts : Option (TrEs c es)) : Option (TrE c (.List es pos)) :=
  ts.bind fun ⟨ms, h⟩ => if hs : es.all notStar = true then some ⟨opV ms opLst, fun X k g n ok => peLst (h X k g n ok) hs⟩ else none
def mkB1 {e : Expr} (x : Str) (p pos : Pos) (pa : Option (TrO c e)) : Option (TrE c (.Call (.Name x p) [e] [] pos)) :=
  pa.bind fun ⟨q, hq⟩ => (b1Of x).bind fun ⟨f, hf⟩ => if h : notStar e = true ∧ glB c.sc x = true ∧ okNm x = true ∧ bltNames.contains x = true then some ⟨opM [q] (op1L f), fun X k g n ok => by
    have hs : [e].all notStar = true := by simp [h.1]
    rcases hf.ok c X k g n ok with ⟨id, h1, h2⟩ | ⟨id, h1, h2⟩
    · exact peCallB (ps := [q]) h2 (glB_is ok h.2.1) (ok.blt x h.2.2.2) h1 (.cons (hq X k g n ok) .nil) hs (okNm_n h.2.2.1) (okNm_d h.2.2.1)
    · exact peCallTy (ps := [q]) h2 (glB_is ok h.2.1) (ok.blt x h.2.2.2) h1 (.cons (hq X k g n ok) .nil) hs (okNm_n h.2.2.1) (okNm_d h.2.2.1)⟩ else none
def mkIsi {e : Expr} (y : Str) (p p2 pos : Pos) (pa : Option (TrO c e)) : Option (TrE c (.Call (.Name "isinstance" p) [e, .Name y p2] [] pos)) :=
  pa.bind fun ⟨q, hq⟩ => (tyOf y).bind fun ⟨t, ht⟩ => if h : notStar e = true ∧ glB c.sc "isinstance" = true ∧ glB c.sc y = true ∧ okNm y = true ∧ bltNames.contains y = true ∨ False then some ⟨un q (opIsi t), fun X k g n ok => by
    rcases h with h | h
    · exact peIsi (c_isi ok.K t) (glB_is ok h.2.1) (ok.blt _ (by decide +kernel)) (hq X k g n ok) h.1 (glB_is ok h.2.2.1) (ok.blt y h.2.2.2.2) ht (okNm_n h.2.2.2.1) (okNm_d h.2.2.2.1)
    · exact h.elim⟩ else none
def mkSortSet {e : Expr} (p p2 q pos : Pos) (pa : Option (TrO c e)) : Option (TrE c (.Call (.Name "sorted" p) [.Call (.Name "set" p2) [e] [] q] [] pos)) :=
  pa.bind fun ⟨o, ho⟩ => if h : notStar e = true ∧ glB c.sc "sorted" = true ∧ glB c.sc "set" = true then some ⟨un o opSortSet, fun X k g n ok =>
    peSortSet ok.room ok.calm (glB_is ok h.2.1) (ok.blt _ (by decide +kernel)) (glB_is ok h.2.2) (ok.blt _ (by decide +kernel)) (ho X k g n ok) h.1⟩ else none
def mkCall {e : Expr} {es : List Expr} (x : Str) (p pos : Pos) (bs : List Bool) (ta : Option (TrA c (e :: es))) : Option (TrE c (.Call (.Name x p) (e :: es) [] pos)) :=
  ta.bind fun ⟨ps, hp⟩ => if h : c.defs.lookup x = some bs ∧ glB c.sc x = true ∧ okNm x = true ∧ (e :: es).all notStar = true then some ⟨callM x ps, fun X k g n ok => by
    obtain ⟨f, fd, prs, h1, h2, h3, h4⟩ := ok.defs x bs h.1
    exact peCall h4 ok.room (glB_is ok h.2.1) h1 h2 h3 (hp X k g n ok) h.2.2.2 (okNm_d h.2.2.1)⟩ else none
def mkCall0 (x : Str) (p pos : Pos) : Option (TrE c (.Call (.Name x p) [] [] pos)) :=
  if h : c.defs.lookup x = some [] ∧ glB c.sc x = true ∧ okNm x = true then some ⟨callM x [], fun X k g n ok => by
    obtain ⟨f, fd, prs, h1, h2, h3, h4⟩ := ok.defs x [] h.1
    exact peCall0 h4 ok.room (glB_is ok h.2.1) h1 h2 h3 (okNm_d h.2.2)⟩ else none
def mkMinK {e : Expr} (y : Str) (p p2 kp pos : Pos) (pa : Option (TrO c e)) : Option (TrE c (.Call (.Name "min" p) [e] [⟨some "key", .Name y p2, kp⟩] pos)) :=
  pa.bind fun ⟨q, hq⟩ => if h : c.defs.lookup y = some [false] ∧ glB c.sc "min" = true ∧ glB c.sc y = true ∧ okNm y = true ∧ notStar e = true then some ⟨minM q y, fun X k g n ok => by
    obtain ⟨f, fd, prs, h1, h2, h3, h4⟩ := ok.defs y [false] h.1
    exact peMinK h4 ok.room ok.room1 h3 ok.K (glB_is ok h.2.1) (ok.blt _ (by decide +kernel)) (glB_is ok h.2.2.1) h1 (okNm_d h.2.2.2.1) (hq X k g n ok) h.2.2.2.2⟩ else none
def lineB (apos cpos : Pos) : Bool := apos.endLine == cpos.line
def mkGet {o e : Expr} {es : List Expr} (apos cpos : Pos) (po : Option (TrO c o)) (ta : Option (TrEs c (e :: es))) : Option (TrE c (.Call (.Attribute o "get" apos) (e :: es) [] cpos)) :=
  po.bind fun ⟨p, hp⟩ => ta.bind fun ⟨ms, hm⟩ => if h : (e :: es).all notStar = true ∧ notCall0 o = true ∧ lineB apos cpos = true ∧ es.length < 20 then some ⟨mtM p isDctD ms opGet, fun X k g n ok =>
    peMt (ty_dctD ok.K ok.pw) PySem.F.plainAttrs_dict PySem.F.slot_dict_get PySem.F.type_dict_get (mt_get ok.K ok.pw ok.room) (hp X k g n ok) (hm X k g n ok) h.1 h.2.1 h.2.2.1 h.2.2.2⟩ else none
def mkAppend {e : Expr} (x : Str) (xpos apos cpos : Pos) (ta : Option (TrEs c [e])) : Option (TrE c (.Call (.Attribute (.Name x xpos) "append" apos) [e] [] cpos)) :=
  ta.bind fun ⟨ms, hm⟩ => (slotOf c x).bind fun ⟨i, hi⟩ => if h : notStar e = true ∧ lineB apos cpos = true then some ⟨mutM i isLstD ms fAppend, fun X k g n ok =>
    peMut ty_lstD PySem.F.plainAttrs_list PySem.F.slot_list_append PySem.F.type_list_append mt_appendD (by rw [ok.N]; exact hi.ix) (by rw [ok.sc]; exact hi.vis) (okNm_d hi.nm) (okNm_c hi.nm) (hm X k g n ok) (by simp [h.1]) h.2 (by simp)⟩ else none
def mkPop1 {e : Expr} (x : Str) (xpos apos cpos : Pos) (ta : Option (TrEs c [e])) : Option (TrE c (.Call (.Attribute (.Name x xpos) "pop" apos) [e] [] cpos)) :=
  ta.bind fun ⟨ms, hm⟩ => (slotOf c x).bind fun ⟨i, hi⟩ => if h : notStar e = true ∧ lineB apos cpos = true then some ⟨mutM i isLstD ms fPop, fun X k g n ok =>
    peMut ty_lstD PySem.F.plainAttrs_list PySem.F.slot_list_pop PySem.F.type_list_pop mt_popD (by rw [ok.N]; exact hi.ix) (by rw [ok.sc]; exact hi.vis) (okNm_d hi.nm) (okNm_c hi.nm) (hm X k g n ok) (by simp [h.1]) h.2 (by simp)⟩ else none
def mkPop0 (x : Str) (xpos apos cpos : Pos) : Option (TrE c (.Call (.Attribute (.Name x xpos) "pop" apos) [] [] cpos)) :=
  (slotOf c x).bind fun ⟨i, hi⟩ => if h : lineB apos cpos = true then some ⟨mutM i isLstD [] fPop, fun X k g n ok =>
    peMut0 ty_lstD PySem.F.plainAttrs_list PySem.F.slot_list_pop PySem.F.type_list_pop mt_popD (by rw [ok.N]; exact hi.ix) (by rw [ok.sc]; exact hi.vis) (okNm_d hi.nm) (okNm_c hi.nm) h⟩ else none
def mkDrop {e : Expr} {es : List Expr} (x : Str) (xpos apos cpos : Pos) (ta : Option (TrEs c (e :: es))) : Option (TrE c (.Call (.Attribute (.Name x xpos) "pop" apos) (e :: es) [] cpos)) :=
  ta.bind fun ⟨ms, hm⟩ => (slotOf c x).bind fun ⟨i, hi⟩ => if h : (e :: es).all notStar = true ∧ lineB apos cpos = true ∧ es.length < 20 then some ⟨mutM i isDctD ms fDrop, fun X k g n ok =>
    peMut (ty_dctD ok.K ok.pw) PySem.F.plainAttrs_dict PySem.F.slot_dict_pop PySem.F.type_dict_pop mt_dropD (by rw [ok.N]; exact hi.ix) (by rw [ok.sc]; exact hi.vis) (okNm_d hi.nm) (okNm_c hi.nm) (hm X k g n ok) h.1 h.2.1 h.2.2⟩ else none

/-! ### comprehensions -/
def ownOf (N : List Str) (scope : Scope) : List (Str × Nat) := scope.names.filterMap fun p => match p.2 with
  | .local => (N.findIdx? (fun y => y == p.1)).map fun i => (p.1, i)
  | .cell => (N.findIdx? (fun y => y == p.1)).map fun i => (p.1, i)
  | _ => none
def TrTs (c : Ct) (es : List Expr) : Type := { m : BM // ∀ X k g n, XOk c X k g n → PTs X es (tT k g m) }
structure LcOk (c : Ct) (scope : Scope) (sl : List Nat) (iter : Expr) : Prop where
  blk : blkC c.N c.sc scope (ownOf c.N scope) = true
  kind : scope.kind = .function
  set : notSet iter = true
  sl : ∀ j ∈ sl, j ∈ (ownOf c.N scope).map (·.2)
def lcOk (c : Ct) (scope : Scope) (sl : List Nat) (iter : Expr) : Option (PLift (LcOk c scope sl iter)) :=
  if h : blkC c.N c.sc scope (ownOf c.N scope) = true ∧ notSet iter = true ∧ (sl.all fun j => ((ownOf c.N scope).map (·.2)).contains j) = true then
    some ⟨h.1, (blkOk_by h.1).kind, h.2.1, fun j hj => by have := List.all_eq_true.mp h.2.2 j hj; simpa using this⟩ else none
def mkLc {elt tg iter : Expr} {ifs : List Expr} {scope : Scope} (pos : Pos) (ti : Option (TrI c tg iter)) (tg' : Option (TrG (c.blk scope) tg)) (tc : Option (TrTs (c.blk scope) ifs)) (te : Option (TrE (c.blk scope) elt)) :
    Option (TrE c (.ListComp elt [⟨tg, iter, ifs, 0⟩] scope pos)) :=
  ti.bind fun ⟨it, hi⟩ => tg'.bind fun ⟨p, hp⟩ => tc.bind fun ⟨m, hm⟩ => te.bind fun ⟨m', hm'⟩ => (lcOk c scope p.2 iter).map fun ⟨h⟩ => ⟨compM it p.1 m m' ((ownOf c.N scope).map (·.2)), fun X k g n ok =>
    peLc ok.calm ok.nd (hi X k g n ok) (by rw [ok.N, ok.sc]; exact blkOk_by h.blk) (fun s H C cl fp => hp _ k g n (ok.blk h.kind s H C cl fp)) (fun s H C cl fp => hm _ k g n (ok.blk h.kind s H C cl fp)) (fun s H C cl fp => tK_of (hm' _ k g n (ok.blk h.kind s H C cl fp))) h.set h.sl⟩
/-- whether the compiler swaps name = [..] -/
def swB (sc : Scope) (y : Str) (py vpos : Pos) (scope : Scope) : Bool := sc.names.lookup y == some .local && py.line == vpos.line && !(scope.names.any fun p => p.1 == y && (p.2 == .local || p.2 == .cell))
theorem swB_is {env : Env} {sc : Scope} (hs : env.scope = sc) (hk : sc.kind = .function) {y : Str} {py pos : Pos} {elt : Expr} {gs : List Comprehension} {scope : Scope} {l : Nat} :
    swapsWith (.ListComp elt gs scope pos) (some (.Name y py)) l env = pure (swB sc y py pos scope) := by
  subst hs
  have e1 : (env.blockKind == .function) = true := by
    unfold Env.blockKind
    rw [hk]; rfl
  show pure (env.blockKind == .function && env.kindOf y == some .local && py.line == pos.line && !(scope.names.any fun (n, k) => n == y && (k == .local || k == .cell))) = _
  rw [e1, Bool.true_and]
  rfl

/-! ### iterables -/
def mkIter {tg e : Expr} (t : Option (TrE c e)) : Option (TrI c tg e) := t.map fun ⟨m, h⟩ => ⟨itM m, fun X k g n ok => piSeq ok.K (h X k g n ok)⟩
def mkRng1 {tg a : Expr} (p pos : Pos) (t : Option (TrE c a)) : Option (TrI c tg (.Call (.Name "range" p) [a] [] pos)) :=
  t.bind fun ⟨m, hm⟩ => if h : notStar a = true ∧ glB c.sc "range" = true then some ⟨rngM [m], fun X k g n ok => piRng1 (glB_is ok h.2) (ok.blt _ (by decide +kernel)) (hm X k g n ok) h.1⟩ else none
def mkRng2 {tg a b : Expr} (p pos : Pos) (t : Option (TrE c a)) (t' : Option (TrE c b)) : Option (TrI c tg (.Call (.Name "range" p) [a, b] [] pos)) :=
  t.bind fun ⟨m, hm⟩ => t'.bind fun ⟨m', hm'⟩ => if h : notStar a = true ∧ notStar b = true ∧ glB c.sc "range" = true then some ⟨rngM [m, m'], fun X k g n ok => piRng2 (glB_is ok h.2.2) (ok.blt _ (by decide +kernel)) (hm X k g n ok) (hm' X k g n ok) h.1 h.2.1⟩ else none
def mkEnum {elts : List Expr} {j : Nat} {tpos : Pos} {a : Expr} (p pos : Pos) (t : Option (TrE c a)) : Option (TrI c (.Tuple elts j tpos) (.Call (.Name "enumerate" p) [a] [] pos)) :=
  t.bind fun ⟨m, hm⟩ => if h : notStar a = true ∧ glB c.sc "enumerate" = true then some ⟨enumM m, fun X k g n ok => piEnum ok.K (glB_is ok h.2) (ok.blt _ (by decide +kernel)) (hm X k g n ok) h.1⟩ else none
def mkZip {elts : List Expr} {j : Nat} {tpos : Pos} {a b : Expr} (p pos : Pos) (t : Option (TrE c a)) (t' : Option (TrE c b)) : Option (TrI c (.Tuple elts j tpos) (.Call (.Name "zip" p) [a, b] [] pos)) :=
  t.bind fun ⟨m, hm⟩ => t'.bind fun ⟨m', hm'⟩ => if h : notStar a = true ∧ notStar b = true ∧ glB c.sc "zip" = true then some ⟨zipM [m, m'], fun X k g n ok => piZip ok.K (glB_is ok h.2.2) (ok.blt _ (by decide +kernel)) (hm X k g n ok) (hm' X k g n ok) h.1 h.2.1⟩ else none

/-! ### targets -/
def stoB (c : Ct) (x : Str) : Bool := c.fn x || c.sc.names.lookup x == some .local
theorem stoB_is {c : Ct} {X : Cx} {k : KX} {g : G} {n : Nat} {x : Str} (ok : XOk c X k g n) (h : stoB c x = true) : X.fn x = true ∨ X.env.scope.names.lookup x = some .local := by
  unfold stoB at h
  rw [ok.fn, ok.sc]
  rcases (Bool.or_eq_true _ _).mp h with h | h
  · exact .inl h
  · exact .inr (by simpa using h)
def mkTgN (x : Str) (pos : Pos) : Option (TrG c (.Name x pos)) :=
  (slotOf c x).bind fun ⟨i, hi⟩ => if h : locB c.sc x = true ∧ stoB c x = true then some ⟨(tgName i, [i]), fun X k g n ok => pgName ok.nd (by rw [ok.N]; exact hi.ix) (by rw [ok.sc]; exact locB_is h.1) (stoB_is ok h.2)⟩ else none
def trGs : (es : List Expr) → Option (TrGs c es)
  | [] => some ⟨([], []), fun X k g n ok => .nil⟩
  | .Name x pos :: es => (mkTgN (c := c) x pos).bind fun ⟨p, hp⟩ => (trGs es).map fun ⟨ps, hps⟩ => ⟨(p.1 :: ps.1, p.2 ++ ps.2), fun X k g n ok => .cons (hp X k g n ok) (hps X k g n ok)⟩
  | _ => none
def trG : (e : Expr) → Option (TrG c e)
  | .Name x pos => mkTgN x pos
  | .Tuple es j pos => (trGs (c := c) es).bind fun ⟨p, hp⟩ => if h : es.all notStar = true then some ⟨(tgTup p.1, p.2), fun X k g n ok => pgTup ok.K ok.calm (hp X k g n ok) h⟩ else none
  | _ => none
end
end RL
end
section
set_option Elab.async false
set_option linter.all false
set_option autoImplicit false
set_option maxRecDepth 100000
set_option maxHeartbeats 4000000
/-! R22: the turning, whole -/
namespace RL
open PySem PySem.Spec L2
open PyProof.Rows hiding St

section
variable {c : Ct}
def castE {e e' : Expr} (h : e = e') (t : Option (TrE c e')) : Option (TrE c e) := t.map fun p => ⟨p.1, fun X k g n ok => by rw [h]; exact p.2 X k g n ok⟩
def castI {tg e e' : Expr} (h : e = e') (t : Option (TrI c tg e')) : Option (TrI c tg e) := t.map fun p => ⟨p.1, fun X k g n ok => by rw [h]; exact p.2 X k g n ok⟩
/-- a test that is asked of a value -/
def valT {e : Expr} (t : Option (TrE c e)) : Option (TrT c e) := t.bind fun p => if h : plainT e = true then some ⟨tstM p.1, fun X k g n ok => ptVal (p.2 X k g n ok) h⟩ else none
/-- the slot of a name that is lent -/
def lentA {es : List Expr} (x : Str) (pos : Pos) (ta : Option (TrA c es)) : Option (TrA c (.Name x pos :: es)) :=
  (slotOf c x).bind fun ⟨i, hi⟩ => ta.map fun p => ⟨.b i :: p.1, fun X k g n ok => .cons (pe_var (by rw [ok.N]; exact hi.ix) (by rw [ok.sc]; exact hi.vis) (okNm_d hi.nm) (okNm_c hi.nm)) (p.2 X k g n ok)⟩
def consA {e : Expr} {es : List Expr} (te : Option (TrE c e)) (ta : Option (TrA c es)) : Option (TrA c (e :: es)) :=
  te.bind fun q => ta.map fun p => ⟨.v q.1 :: p.1, fun X k g n ok => .cons (tK_of (q.2 X k g n ok)) (p.2 X k g n ok)⟩
def consEs {e : Expr} {es : List Expr} (te : Option (TrE c e)) (ta : Option (TrEs c es)) : Option (TrEs c (e :: es)) :=
  te.bind fun q => ta.map fun p => ⟨q.1 :: p.1, fun X k g n ok => .cons (tK_of (q.2 X k g n ok)) (p.2 X k g n ok)⟩
def isName : Expr → Bool
  | .Name _ _ => true
  | _ => false
mutual
def trE : (n : Nat) → (c : Ct) → (e : Expr) → Option (TrE c e)
  | 0, _, _ => none
  | n + 1, c, .Name x pos => trVar c x pos
  | n + 1, c, .Constant (.int i) j pos => some ⟨cM (.int i), fun X k g n ok => pe_cInt⟩
  | n + 1, c, .Constant (.str i) j pos => some ⟨cM (.str i), fun X k g n ok => pe_cStr⟩
  | n + 1, c, .Constant (.bool i) j pos => some ⟨cM (.bool i), fun X k g n ok => pe_cBool⟩
  | n + 1, c, .Constant .none j pos => some ⟨cM .none, fun X k g n ok => pe_cNone⟩
  | n + 1, c, .BinOp a op b pos => mkBin op pos (opdOf a (trE n c a)) (opdOf b (trE n c b))
  | n + 1, c, .UnaryOp .Not a pos => mkNot pos (trE n c a)
  | n + 1, c, .UnaryOp .USub a pos => mkNeg pos (opdOf a (trE n c a))
  | n + 1, c, .Compare a [op] [b] pos => mkCmp op pos (opdOf a (trE n c a)) (opdOf b (trE n c b))
  | n + 1, c, .Compare a [op, op'] [b, d] pos => mkCh op op' pos (trE n c a) (trE n c b) (trE n c d)
  | n + 1, c, .BoolOp .And [a] pos => (trE n c a).map fun p => ⟨p.1, fun X k g n ok => peOne (p.2 X k g n ok)⟩
  | n + 1, c, .BoolOp .Or [a] pos => (trE n c a).map fun p => ⟨p.1, fun X k g n ok => peOne (p.2 X k g n ok)⟩
  | n + 1, c, .BoolOp .And (a :: b :: r) pos => (trE n c a).bind fun p => (trE n c (.BoolOp .And (b :: r) pos)).map fun q => ⟨andV p.1 q.1, fun X k g n ok => peAnd (p.2 X k g n ok) (q.2 X k g n ok)⟩
  | n + 1, c, .BoolOp .Or (a :: b :: r) pos => (trE n c a).bind fun p => (trE n c (.BoolOp .Or (b :: r) pos)).map fun q => ⟨orV p.1 q.1, fun X k g n ok => peOr (p.2 X k g n ok) (q.2 X k g n ok)⟩
  | n + 1, c, .IfExp t a b pos => mkIf pos (trT n c t) (trE n c a) (trE n c b)
  | n + 1, c, .Subscript a (.Slice lo hi none p2) pos => mkSl p2 pos (opdOf a (trE n c a)) (trP n c lo) (trP n c hi)
  | n + 1, c, .Subscript a b pos => mkIx pos (opdOf a (trE n c a)) (opdOf b (trE n c b))
  | n + 1, c, .Tuple es j pos => mkTup j pos (trEs n c es)
  | n + 1, c, .List es pos => mkLst pos (trEs n c es)
  | n + 1, c, .Dict [] [] pos => some ⟨newDM, fun X k g n ok => peNewD⟩
  | n + 1, c, .ListComp elt [⟨tg, iter, ifs, 0⟩] scope pos => mkLc pos (trI n c tg iter) (trG tg) (trTs n (c.blk scope) ifs) (trE n (c.blk scope) elt)
  | n + 1, c, .Call (.Name x p) [] [] pos => mkCall0 x p pos
  | n + 1, c, .Call (.Name x p) (e :: es) [] pos => match c.defs.lookup x with
    | some bs => mkCall x p pos bs (trA n c bs (e :: es))
    | none => trB n c x p pos e es
  | n + 1, c, .Call (.Name x p) [e] [⟨some kw, .Name y p2, kp⟩] pos => if h : x = "min" ∧ kw = "key" then castE (by rw [h.1, h.2]) (mkMinK y p p2 kp pos (opdOf e (trE n c e))) else none
  | n + 1, c, .Call (.Attribute (.Name x xpos) m apos) [] [] cpos => if h : m = "pop" then castE (by rw [h]) (mkPop0 x xpos apos cpos) else none
  | n + 1, c, .Call (.Attribute o m apos) (e :: es) [] cpos => if h : m = "get" then castE (by rw [h]) (mkGet apos cpos (opdOf o (trE n c o)) (trEs n c (e :: es))) else match o with
    | .Name x xpos => match es with
      | [] => if h : m = "append" then castE (by rw [h]) (mkAppend x xpos apos cpos (trEs n c [e])) else if h : m = "pop" then (if isName e = true then castE (by rw [h]) (mkDrop x xpos apos cpos (trEs n c [e])) else castE (by rw [h]) (mkPop1 x xpos apos cpos (trEs n c [e]))) else none
      | e2 :: es2 => if h : m = "pop" then castE (by rw [h]) (mkDrop x xpos apos cpos (trEs n c (e :: e2 :: es2))) else none
    | _ => none
  | n + 1, c, _ => none
/-- a built-in by its name -/
def trB : (n : Nat) → (c : Ct) → (x : Str) → (p pos : Pos) → (e : Expr) → (es : List Expr) → Option (TrE c (.Call (.Name x p) (e :: es) [] pos))
  | 0, _, _, _, _, _, _ => none
  | n + 1, c, x, p, pos, .Call (.Name y p2) [e] [] q, [] => if h : x = "sorted" ∧ y = "set" then castE (by rw [h.1, h.2]) (mkSortSet p p2 q pos (opdOf e (trE n c e))) else mkB1 x p pos (opdOf (.Call (.Name y p2) [e] [] q) (trE n c (.Call (.Name y p2) [e] [] q)))
  | n + 1, c, x, p, pos, e, [] => mkB1 x p pos (opdOf e (trE n c e))
  | n + 1, c, x, p, pos, e, [.Name y p2] => if h : x = "isinstance" then castE (by rw [h]) (mkIsi y p p2 pos (opdOf e (trE n c e))) else none
  | n + 1, c, x, p, pos, e, _ => none
def trT : (n : Nat) → (c : Ct) → (e : Expr) → Option (TrT c e)
  | 0, _, _ => none
  | n + 1, c, .UnaryOp .Not a pos => mkNotT pos (trT n c a)
  | n + 1, c, .Compare a [op] [b] pos => mkCmpT op pos (opdOf a (trE n c a)) (opdOf b (trE n c b))
  | n + 1, c, .Compare a [op, op'] [b, d] pos => mkChT op op' pos (trE n c a) (trE n c b) (trE n c d)
  | n + 1, c, .BoolOp op vs pos => (trW n c (.BoolOp op vs pos)).map fun p => ⟨p.1, fun X k g n ok => (p.2 X k g n ok).pt⟩
  | n + 1, c, e => valT (trE n c e)
def trW : (n : Nat) → (c : Ct) → (e : Expr) → Option (TrW c e)
  | 0, _, _ => none
  | n + 1, c, .BoolOp .And [a] pos => (trT n c a).map fun p => ⟨p.1, fun X k g n ok => pw1And (p.2 X k g n ok)⟩
  | n + 1, c, .BoolOp .Or [a] pos => (trT n c a).map fun p => ⟨p.1, fun X k g n ok => pw1Or (p.2 X k g n ok)⟩
  | n + 1, c, .BoolOp .And (a :: b :: r) pos => (trT n c a).bind fun p => (trW n c (.BoolOp .And (b :: r) pos)).map fun q => ⟨andM p.1 q.1, fun X k g n ok => pwAnd (p.2 X k g n ok) (q.2 X k g n ok)⟩
  | n + 1, c, .BoolOp .Or (a :: b :: r) pos => (trT n c a).bind fun p => (trW n c (.BoolOp .Or (b :: r) pos)).map fun q => ⟨orM p.1 q.1, fun X k g n ok => pwOr (p.2 X k g n ok) (q.2 X k g n ok)⟩
  | n + 1, c, _ => none
def trTs : (n : Nat) → (c : Ct) → (es : List Expr) → Option (TrTs c es)
  | 0, _, _ => none
  | n + 1, c, [] => some ⟨trueM, fun X k g n ok => ptsNil⟩
  | n + 1, c, [e] => (trT n c e).map fun p => ⟨p.1, fun X k g n ok => ptsOne (p.2 X k g n ok)⟩
  | n + 1, c, _ => none
def trEs : (n : Nat) → (c : Ct) → (es : List Expr) → Option (TrEs c es)
  | 0, _, _ => none
  | n + 1, c, [] => some ⟨[], fun X k g n ok => .nil⟩
  | n + 1, c, e :: es => consEs (trE n c e) (trEs n c es)
def trA : (n : Nat) → (c : Ct) → (bs : List Bool) → (es : List Expr) → Option (TrA c es)
  | 0, _, _, _ => none
  | n + 1, c, [], [] => some ⟨[], fun X k g n ok => .nil⟩
  | n + 1, c, true :: bs, .Name x pos :: es => lentA x pos (trA n c bs es)
  | n + 1, c, false :: bs, e :: es => consA (trE n c e) (trA n c bs es)
  | n + 1, c, _, _ => none
def trP : (n : Nat) → (c : Ct) → (e : Option Expr) → Option (TrP c e)
  | 0, _, _ => none
  | n + 1, c, none => some ⟨none, fun X k g n ok => poNone⟩
  | n + 1, c, some e => (trE n c e).map fun p => ⟨some p.1, fun X k g n ok => poSome (p.2 X k g n ok)⟩
def trI : (n : Nat) → (c : Ct) → (tg e : Expr) → Option (TrI c tg e)
  | 0, _, _, _ => none
  | n + 1, c, tg, .Call (.Name x p) [a] [] pos => if h : x = "range" then castI (by rw [h]) (mkRng1 p pos (trE n c a)) else if h : x = "enumerate" then (match tg with
    | .Tuple elts j tpos => castI (by rw [h]) (mkEnum p pos (trE n c a))
    | _ => none) else mkIter (trE n c (.Call (.Name x p) [a] [] pos))
  | n + 1, c, tg, .Call (.Name x p) [a, b] [] pos => if h : x = "range" then castI (by rw [h]) (mkRng2 p pos (trE n c a) (trE n c b)) else if h : x = "zip" then (match tg with
    | .Tuple elts j tpos => castI (by rw [h]) (mkZip p pos (trE n c a) (trE n c b))
    | _ => none) else mkIter (trE n c (.Call (.Name x p) [a, b] [] pos))
  | n + 1, c, tg, e => mkIter (trE n c e)
end

/-! ### statements -/
def setN {a : Expr} (x : Str) (p pos : Pos) (i : Nat) (m : EM) (h : SlotOk c x i) (hl : locB c.sc x = true) (hs : stoB c x = true) (hm : ∀ X k g n, XOk c X k g n → PE X a (tE k g m)) (hc : isComp a = false) : TrS c (.Assign [.Name x p] a pos) :=
  ⟨setM i m, fun X k g n ok => psSet ok.nd (by rw [ok.N]; exact h.ix) (by rw [ok.sc]; exact locB_is hl) (stoB_is ok hs) (hm X k g n ok) (swaps_no hc)⟩
def mkSet {a : Expr} (x : Str) (p pos : Pos) (t : Option (TrE c a)) : Option (TrS c (.Assign [.Name x p] a pos)) :=
  t.bind fun q => (slotOf c x).bind fun ⟨i, hi⟩ => if h : locB c.sc x = true ∧ stoB c x = true ∧ isComp a = false then some (setN x p pos i q.1 hi h.1 h.2.1 q.2 h.2.2) else none
/-- name = [..] -/
def mkSetLc {elt tg iter : Expr} {ifs : List Expr} {scope : Scope} (x : Str) (p vpos pos : Pos) (ti : Option (TrI c tg iter)) (tg' : Option (TrG (c.blk scope) tg)) (tc : Option (TrTs (c.blk scope) ifs)) (te : Option (TrE (c.blk scope) elt)) :
    Option (TrS c (.Assign [.Name x p] (.ListComp elt [⟨tg, iter, ifs, 0⟩] scope vpos) pos)) :=
  (slotOf c x).bind fun ⟨i, hi⟩ => if h0 : locB c.sc x = true ∧ stoB c x = true then
    ti.bind fun ⟨it, hit⟩ => tg'.bind fun ⟨q, hq⟩ => tc.bind fun ⟨m, hm⟩ => te.bind fun ⟨m', hm'⟩ => (lcOk c scope q.2 iter).map fun ⟨h⟩ => ⟨setM i (compM it q.1 m m' ((ownOf c.N scope).map (·.2))), fun X k g n ok => by
      have bk : BlkOk X.N X.env.scope scope (ownOf c.N scope) := by rw [ok.N, ok.sc]; exact blkOk_by h.blk
      have a1 := fun (s : Shared) (H : Hp) (C : Addr) (cl : List (Str × Addr)) (fp : List Addr) => hq _ k g n (ok.blk h.kind s H C cl fp)
      have a2 := fun (s : Shared) (H : Hp) (C : Addr) (cl : List (Str × Addr)) (fp : List Addr) => hm _ k g n (ok.blk h.kind s H C cl fp)
      have a3 := fun (s : Shared) (H : Hp) (C : Addr) (cl : List (Str × Addr)) (fp : List Addr) => tK_of (hm' _ k g n (ok.blk h.kind s H C cl fp))
      cases hsw : swB c.sc x p vpos scope with
      | true =>
        have hl : c.sc.names.lookup x = some .local := by
          unfold swB at hsw
          simp only [Bool.and_eq_true] at hsw
          simpa using hsw.1.1
        exact psSetLc ok.calm ok.nd (by rw [ok.N]; exact hi.ix) (by rw [ok.sc]; exact hl) (by rw [swB_is ok.sc ok.kind, hsw]) (hit X k g n ok) bk a1 a2 a3 h.set h.sl
      | false =>
        exact psSet ok.nd (by rw [ok.N]; exact hi.ix) (by rw [ok.sc]; exact locB_is h0.1) (stoB_is ok h0.2) (peLc ok.calm ok.nd (hit X k g n ok) bk a1 a2 a3 h.set h.sl) (by rw [swB_is ok.sc ok.kind, hsw])⟩ else none
/-- a, b = .. -/
def mkAsg {tg a : Expr} (pos : Pos) (t : Option (TrE c a)) (tg' : Option (TrG c tg)) (hs : ∀ l env, swapsWithSole [tg] a l env = pure false) (hw : ∀ env : Env, env.scope = c.sc → swappedStores [tg] a env = pure none) (h1 : notStar tg = true) : Option (TrS c (.Assign [tg] a pos)) :=
  t.bind fun q => tg'.map fun p => ⟨asgM p.1.1 q.1, fun X k g n ok => psAsg (tK_of (q.2 X k g n ok)) (p.2 X k g n ok) (hs _ _) (hw X.env ok.sc) h1⟩
def notTup : Expr → Bool
  | .Tuple _ _ _ => false
  | _ => true
def mkPar2 {a b : Expr} (x y : Str) (px py pt pos : Pos) (kt k2 : Nat) (pt2 : Pos) (ta : Option (TrE c a)) (tb : Option (TrE c b)) : Option (TrS c (.Assign [.Tuple [.Name x px, .Name y py] kt pt] (.Tuple [a, b] k2 pt2) pos)) :=
  ta.bind fun ⟨ma, ha⟩ => tb.bind fun ⟨mb, hb⟩ => (slotOf c x).bind fun ⟨i, hi⟩ => (slotOf c y).bind fun ⟨j, hj⟩ =>
    if h : swapD [.Name x px, .Name y py] [a, b] c.sc = some (some [x, y]) ∧ i ≠ j ∧ c.sc.names.lookup x = some .local ∧ c.sc.names.lookup y = some .local ∧ notStar a = true ∧ notStar b = true ∧ c.sc.kind = .function then
      some ⟨parM [i, j] [ma, mb], fun X k g n ok => psPar2 ok.calm ok.nd (by rw [ok.N]; exact hi.ix) (by rw [ok.N]; exact hj.ix) h.2.1 (by rw [ok.sc]; exact h.2.2.1) (by rw [ok.sc]; exact h.2.2.2.1) (ha X k g n ok) (hb X k g n ok) h.2.2.2.2.1 h.2.2.2.2.2.1 (swapD_is ok.sc h.2.2.2.2.2.2 h.1)⟩ else none
def mkPar3 {a b d : Expr} (x y z : Str) (px py pz pt pos : Pos) (kt k2 : Nat) (pt2 : Pos) (ta : Option (TrE c a)) (tb : Option (TrE c b)) (td : Option (TrE c d)) : Option (TrS c (.Assign [.Tuple [.Name x px, .Name y py, .Name z pz] kt pt] (.Tuple [a, b, d] k2 pt2) pos)) :=
  ta.bind fun ⟨ma, ha⟩ => tb.bind fun ⟨mb, hb⟩ => td.bind fun ⟨md, hd⟩ => (slotOf c x).bind fun ⟨i, hi⟩ => (slotOf c y).bind fun ⟨j, hj⟩ => (slotOf c z).bind fun ⟨l, hl⟩ =>
    if h : swapD [.Name x px, .Name y py, .Name z pz] [a, b, d] c.sc = some (some [x, y, z]) ∧ (i ≠ j ∧ i ≠ l ∧ j ≠ l) ∧ (c.sc.names.lookup x = some .local ∧ c.sc.names.lookup y = some .local ∧ c.sc.names.lookup z = some .local) ∧ (notStar a = true ∧ notStar b = true ∧ notStar d = true) ∧ c.sc.kind = .function then
      some ⟨parM [i, j, l] [ma, mb, md], fun X k g n ok => psPar3 ok.calm ok.nd (by rw [ok.N]; exact hi.ix) (by rw [ok.N]; exact hj.ix) (by rw [ok.N]; exact hl.ix) h.2.1.1 h.2.1.2.1 h.2.1.2.2 (by rw [ok.sc]; exact h.2.2.1.1) (by rw [ok.sc]; exact h.2.2.1.2.1) (by rw [ok.sc]; exact h.2.2.1.2.2)
        (ha X k g n ok) (hb X k g n ok) (hd X k g n ok) h.2.2.2.1.1 h.2.2.2.1.2.1 h.2.2.2.1.2.2 (swapD_is ok.sc h.2.2.2.2 h.1)⟩ else none
def mkAsgT {es : List Expr} {j : Nat} {tp : Pos} {a : Expr} (pos : Pos) (t : Option (TrE c a)) : Option (TrS c (.Assign [.Tuple es j tp] a pos)) :=
  if h : notTup a = true then mkAsg pos t (trG (c := c) (.Tuple es j tp)) (fun l env => swaps_sole rfl) (fun env _ => swap_noneV (by cases a <;> first | rfl | cases h)) rfl else none
def mkAsgTT {es vs : List Expr} {j j2 : Nat} {tp tp2 : Pos} (pos : Pos) (t : Option (TrE c (.Tuple vs j2 tp2))) : Option (TrS c (.Assign [.Tuple es j tp] (.Tuple vs j2 tp2) pos)) :=
  if h : swapD es vs c.sc = some none ∧ c.sc.kind = .function then mkAsg pos t (trG (c := c) (.Tuple es j tp)) (fun l env => swaps_sole rfl) (fun env he => swapD_is he h.2 h.1) rfl else none
def TrEO (c : Ct) (es : List Expr) : Type := { ms : List EM // ∀ X k g n, XOk c X k g n → PEs X es (ms.map (tE k g)) }
def TrNs (c : Ct) (es : List Expr) : Type := { is : List Nat // ∀ X k g n, XOk c X k g n → PNs X es is }
def nilEO : Option (TrEO c []) := some ⟨[], fun X k g n ok => .nil⟩
def consEO {e : Expr} {es : List Expr} (te : Option (TrE c e)) (ta : Option (TrEO c es)) : Option (TrEO c (e :: es)) :=
  te.bind fun q => ta.map fun p => ⟨q.1 :: p.1, fun X k g n ok => .cons (q.2 X k g n ok) (p.2 X k g n ok)⟩
def trNs : (es : List Expr) → Option (TrNs c es)
  | [] => some ⟨[], fun X k g n ok => .nil⟩
  | .Name x pos :: es => (slotOf c x).bind fun ⟨i, hi⟩ => if h : locB c.sc x = true ∧ stoB c x = true then (trNs es).map fun ⟨is, his⟩ => ⟨i :: is, fun X k g n ok =>
      .cons (by rw [ok.N]; exact hi.ix) (by rw [ok.sc]; exact locB_is h.1) (stoB_is ok h.2) (his X k g n ok)⟩ else none
  | _ => none
def mkParT {es vs : List Expr} {j j2 : Nat} {tp tp2 : Pos} (pos : Pos) (t : Option (TrEO c vs)) : Option (TrS c (.Assign [.Tuple es j tp] (.Tuple vs j2 tp2) pos)) :=
  t.bind fun ⟨ms, hms⟩ => (trNs (c := c) es).bind fun ⟨is, his⟩ => if h : swapD es vs c.sc = some none ∧ c.sc.kind = .function ∧ vs.all notStar = true ∧ ms.length ≤ 1000 then
    some ⟨parM is ms, fun X k g n ok => psParT ok.K ok.calm ok.nd (his X k g n ok) (hms X k g n ok) h.2.2.1 (Nat.le_trans h.2.2.2 (by rw [sizeLine_eq]; omega)) (swapD_is ok.sc h.2.1 h.1)⟩ else none
def mkSetIx {ie a : Expr} (x : Str) (xpos spos pos : Pos) (ti : Option (TrE c ie)) (t : Option (TrE c a)) : Option (TrS c (.Assign [.Subscript (.Name x xpos) ie spos] a pos)) :=
  ti.bind fun ⟨mi, hmi⟩ => t.bind fun ⟨mv, hmv⟩ => (slotOf c x).bind fun ⟨i, hi⟩ => if h : notSlice ie = true then some ⟨setIxM i mi mv, fun X k g n ok =>
    psSetIx ok.K ok.pw ok.room (by rw [ok.N]; exact hi.ix) (by rw [ok.sc]; exact hi.vis) (okNm_d hi.nm) (okNm_c hi.nm) (hmi X k g n ok) (hmv X k g n ok) h⟩ else none
/-- return name: what is ours goes out -/
def mkRet {a : Expr} (pos : Pos) (t : Option (TrE c a)) : Option (TrS c (.Return (some a) pos)) := match a with
  | .Name x xp => match slotOf c x with
    | some ⟨i, h⟩ => some ⟨retM (mvM i), fun X k g n ok => psRet (pe_mvM (by rw [ok.N]; exact h.ix) (by rw [ok.sc]; exact h.vis) (okNm_d h.nm) (okNm_c h.nm))⟩
    | none => t.map fun q => ⟨retM q.1, fun X k g n ok => psRet (q.2 X k g n ok)⟩
  | _ => t.map fun q => ⟨retM q.1, fun X k g n ok => psRet (q.2 X k g n ok)⟩
mutual
def trS : (n : Nat) → (c : Ct) → (st : Stmt) → Option (TrS c st)
  | 0, _, _ => none
  | n + 1, c, .Pass pos => some ⟨nilM, fun X k g n ok => psPass⟩
  | n + 1, c, .Break pos => some ⟨bkM, fun X k g n ok => psBreak⟩
  | n + 1, c, .Continue pos => some ⟨ctM, fun X k g n ok => psCont⟩
  | n + 1, c, .Return none pos => some ⟨retN, fun X k g n ok => psRetN⟩
  | n + 1, c, .Return (some a) pos => mkRet pos (trE n c a)
  | n + 1, c, .Raise e o pos => some ⟨stuckM, fun X k g n ok => psStuck⟩
  | n + 1, c, .Expr a pos => (trE n c a).bind fun q => if h : isComp a = false then some ⟨exprM q.1, fun X k g n ok => psExpr (q.2 X k g n ok) h⟩ else none
  | n + 1, c, .If t a b pos => (trT n c t).bind fun p => (trSs n c a).bind fun q => (trSs n c b).map fun r => ⟨ifS p.1 q.1 r.1, fun X k g n ok => psIf (p.2 X k g n ok) (q.2 X k g n ok) (r.2 X k g n ok)⟩
  | n + 1, c, .For tg iter body [] pos => (trI n c tg iter).bind fun p => (trG (c := c) tg).bind fun q => (trSs n c body).bind fun r => if h : notSet iter = true then some ⟨forM p.1 q.1.1 r.1, fun X k g n ok => psFor ok.xe ok.calm (p.2 X k g n ok) (q.2 X k g n ok) (r.2 X k g n ok) h⟩ else none
  | n + 1, c, .While t body [] pos => (trT n c t).bind fun p => (trSs n c body).map fun r => ⟨whM p.1 r.1, fun X k g n ok => psWhile ok.xe (p.2 X k g n ok) (r.2 X k g n ok)⟩
  | n + 1, c, .Assign [.Name x p] (.ListComp elt [⟨tg, iter, ifs, 0⟩] scope vpos) pos => mkSetLc x p vpos pos (trI n c tg iter) (trG tg) (trTs n (c.blk scope) ifs) (trE n (c.blk scope) elt)
  | n + 1, c, .Assign [.Name x p] a pos => mkSet x p pos (trE n c a)
  | n + 1, c, .Assign [.Tuple [.Name x px, .Name y py] kt pt] (.Tuple [a, b] k2 pt2) pos => (mkPar2 x y px py pt pos kt k2 pt2 (trE n c a) (trE n c b)).orElse fun _ => mkParT pos (consEO (trE n c a) (consEO (trE n c b) nilEO))
  | n + 1, c, .Assign [.Tuple [.Name x px, .Name y py, .Name z pz] kt pt] (.Tuple [a, b, d] k2 pt2) pos => (mkPar3 x y z px py pz pt pos kt k2 pt2 (trE n c a) (trE n c b) (trE n c d)).orElse fun _ => mkParT pos (consEO (trE n c a) (consEO (trE n c b) (consEO (trE n c d) nilEO)))
  | n + 1, c, .Assign [.Tuple es j tp] (.Tuple vs j2 tp2) pos => mkAsgTT pos (trE n c (.Tuple vs j2 tp2))
  | n + 1, c, .Assign [.Tuple es j tp] a pos => mkAsgT pos (trE n c a)
  | n + 1, c, .Assign [.Subscript (.Name x xpos) ie spos] a pos => mkSetIx x xpos spos pos (trE n c ie) (trE n c a)
  | n + 1, c, _ => none
def trSs : (n : Nat) → (c : Ct) → (b : List Stmt) → Option (TrB c b)
  | 0, _, _ => none
  | n + 1, c, [] => some ⟨nilM, fun X k g n ok => pssNil⟩
  | n + 1, c, st :: r => (trS n c st).bind fun p => (trSs n c r).map fun q => ⟨seqM p.1 q.1, fun X k g n ok => pssCons (p.2 X k g n ok) (q.2 X k g n ok)⟩
end
end
end RL
end
section
set_option Elab.async false
set_option linter.all false
set_option autoImplicit false
set_option maxRecDepth 100000
set_option maxHeartbeats 4000000
/-! R23: the table of defs -/
namespace RL
open PySem PySem.Spec L2
open PyProof.Rows hiding St

structure DefE where
  x : Str
  ps : List Str
  N : List Str
  bs : List Bool
  m : SM
def agS : Ag → Option Sl
  | .v d => some (.val d)
  | .b d => some (.bor d)
def entry (N : List Str) (as : List Ag) : En := as.map agS ++ List.replicate (N.length - as.length) none
/-- what the lent objects hold at the end -/
def backs : List Ag → En → Option (List D)
  | [], _ => some []
  | .v _ :: as, _ :: e => backs as e
  | .b _ :: as, some (.bor d) :: e => (backs as e).map fun ds => d :: ds
  | _, _ => none
def outOf (as : List Ag) : Fl_ × En → Option (R × List D)
  | (.rt r, e) => (backs as e).map fun bs => (r, bs)
  | (.nx, e) => (backs as e).map fun bs => (.v .none, bs)
  | _ => none
def runD (d : DefE) (g : G) (as : List Ag) : Option (R × List D) := if as.length = d.ps.length then (d.m g (entry d.N as)).bind (outOf as) else none
def callD (dt : List DefE) (g : G) (x : Str) (as : List Ag) : Option (R × List D) := match dt.find? (fun d => d.x == x) with
  | some d => runD d g as
  | none => none
def gN (dt : List DefE) (wh : Nat) : Nat → G
  | 0 => ⟨fun _ _ => none, wh⟩
  | n + 1 => ⟨callD dt (gN dt wh n), wh⟩

section
variable {k : KX} {F H : Hp}
theorem ArgsR.length : ∀ {as : List Ag} {vs : List V}, ArgsR k F H as vs → as.length = vs.length
  | [], _, h => by cases h; rfl
  | _ :: as, _, h => by
    obtain ⟨v, r, rfl, _, h2⟩ := h
    simp [ArgsR.length h2]
theorem ArgsR.get : ∀ {as : List Ag} {vs : List V} {i : Nat} {a : Ag}, ArgsR k F H as vs → as[i]? = some a → ∃ v, vs[i]? = some v ∧ ArgR k F H a v
  | [], _, _, _, _, h => by simp at h
  | b :: as, _, 0, a, h, e => by
    obtain ⟨v, r, rfl, h1, _⟩ := h
    simp at e; subst e
    exact ⟨v, rfl, h1⟩
  | b :: as, _, i + 1, a, h, e => by
    obtain ⟨v, r, rfl, _, h2⟩ := h
    obtain ⟨w, h3, h4⟩ := ArgsR.get (i := i) h2 (by simpa using e)
    exact ⟨w, by simpa using h3, h4⟩
theorem entry_at {N : List Str} {as : List Ag} {i : Nat} {s : Sl} (h : (entry N as)[i]? = some (some s)) : ∃ a, as[i]? = some a ∧ agS a = some s := by
  unfold entry at h
  by_cases hi : i < as.length
  · rw [List.getElem?_append_left (by simpa using hi), List.getElem?_map] at h
    obtain ⟨a, h1, h2⟩ := Option.map_eq_some_iff.mp h
    exact ⟨a, h1, h2⟩
  · rw [List.getElem?_append_right (by simpa using hi)] at h
    obtain ⟨h1, h2⟩ := List.getElem?_eq_some_iff.mp h
    simp at h2
theorem start_at {N : List Str} {vs : List V} {i : Nat} {v : V} (h : vs[i]? = some v) : (L2.start N vs)[i]? = some (some v) := by
  unfold L2.start
  have hi : i < vs.length := (List.getElem?_eq_some_iff.mp h).1
  rw [List.getElem?_append_left (by simpa using hi), List.getElem?_map, h]
  rfl
theorem er_entry {N : List Str} {as : List Ag} {vs : List V} (hm : k.Mono) (ok : OkF F H) (ar : ArgsR k F H as vs)
    (ap : ∀ (i j : Nat) (x y : Ag), i ≠ j → as[i]? = some x → as[j]? = some y → x.lent = true → y.lent = true → vs[i]? ≠ vs[j]?) : ER k F H (entry N as) (L2.start N vs) := by
  refine ⟨hm, ok, by simp [entry, L2.start, ar.length], fun i d h => ?_, fun i s d h hs => ?_, fun i j s t hij hi hj hs ht => ?_⟩
  · obtain ⟨a, h1, h2⟩ := entry_at h
    cases a with
    | b d' => cases h2
    | v d' =>
      cases h2
      obtain ⟨v, h3, h4⟩ := ar.get h1
      exact ⟨v, start_at h3, h4⟩
  · obtain ⟨a, h1, h2⟩ := entry_at h
    cases a with
    | v d' => cases h2; cases hs
    | b d' =>
      cases h2; cases hs
      obtain ⟨v, h3, b, rfl, h4⟩ := ar.get h1
      exact ⟨b, start_at h3, h4⟩
  · obtain ⟨a, h1, h2⟩ := entry_at hi
    obtain ⟨b, h3, h4⟩ := entry_at hj
    have la : a.lent = true := by
      cases a with
      | v d' => cases h2; cases hs
      | b d' => rfl
    have lb : b.lent = true := by
      cases b with
      | v d' => cases h4; cases ht
      | b d' => rfl
    obtain ⟨v, h5, _⟩ := ar.get h1
    obtain ⟨w, h6, _⟩ := ar.get h3
    rw [start_at h5, start_at h6]
    have := ap i j a b hij h1 h3 la lb
    rw [h5, h6] at this
    exact fun z => this (congrArg _ (Option.some.inj (Option.some.inj z)))
/-- the lent objects, read back -/
theorem backs_bs {F' H' : Hp} : ∀ {as : List Ag} {vs : List V} {e : En} {σ : L2.St} {bs : List D}, ArgsR k F H as vs → (∀ (i : Nat) (d : D), e[i]? = some (some (.bor d)) → ∃ a, σ[i]? = some (some (.ref a)) ∧ OwnAt k F' H' a d) →
    (∀ (i : Nat) (v : V), as[i]?.map Ag.lent = some true → vs[i]? = some v → σ[i]? = some (some v)) → backs as e = some bs → BsR k F' H' as vs bs
  | [], _, _, _, bs, ar, _, _, h => by cases h; cases ar; rfl
  | .v d :: as, _, e, σ, bs, ar, h1, h2, h => by
    obtain ⟨v, r, rfl, _, ar2⟩ := ar
    cases e with
    | nil => cases h
    | cons s e =>
      have h' : backs as e = some bs := h
      show BsR k F' H' as r bs
      cases σ with
      | nil =>
        exact backs_bs (σ := []) ar2 (fun i d hd => by
          obtain ⟨a, ha, _⟩ := h1 (i + 1) d (by simpa using hd)
          simp at ha) (fun i w hi hw => by
          have := h2 (i + 1) w (by simpa using hi) (by simpa using hw)
          simp at this) h'
      | cons t σ =>
        exact backs_bs (σ := σ) ar2 (fun i d hd => by simpa using h1 (i + 1) d (by simpa using hd)) (fun i w hi hw => by simpa using h2 (i + 1) w (by simpa using hi) (by simpa using hw)) h'
  | .b d :: as, _, e, σ, bs, ar, h1, h2, h => by
    obtain ⟨v, r, rfl, _, ar2⟩ := ar
    cases e with
    | nil => cases h
    | cons s e =>
      cases s with
      | none => cases h
      | some s =>
        cases s with
        | val c => cases h
        | own c => cases h
        | bor c =>
          obtain ⟨ds, h', rfl⟩ := Option.map_eq_some_iff.mp (show (backs as e).map (fun ds => c :: ds) = some bs from h)
          cases σ with
          | nil =>
            obtain ⟨a, ha, _⟩ := h1 0 c rfl
            simp at ha
          | cons t σ =>
            obtain ⟨a, ha, ow⟩ := h1 0 c rfl
            have hv := h2 0 v rfl rfl
            simp at ha hv
            rw [hv] at ha
            cases ha
            exact ⟨c, ds, rfl, ⟨a, rfl, ow⟩, backs_bs (σ := σ) ar2 (fun i d hd => by simpa using h1 (i + 1) d (by simpa using hd)) (fun i w hi hw => by simpa using h2 (i + 1) w (by simpa using hi) (by simpa using hw)) h'⟩
end

/-! ### each def keeps its promise -/
structure FunF (k : KX) (mg : Str → Option Value) (sig : List (Str × List Bool)) (cs : List (Str × D)) (d : DefE) (f : Addr) (fd : FuncData) : Prop where
  mg : mg d.x = some (.ref f)
  kp : PySem.W.keepIn k.K (.ref f) = true
  bd : Binds k.K fd d.ps []
  ex : ∃ (x qual : Str) (params : Arguments) (body : List Stmt) (scope : Scope), FunD k.K x qual params body scope [] [] f fd ∧ FnScope d.N d.ps scope ∧
    ∀ X g n, XOk ⟨d.N, scope, fun _ => true, sig, cs⟩ X k g n → PSs X body (tS k g d.m)
theorem find_dt {dt : List DefE} {d : DefE} (nd : (dt.map (·.x)).Nodup) (h : d ∈ dt) : dt.find? (fun e => e.x == d.x) = some d := by
  induction dt with
  | nil => cases h
  | cons e dt ih =>
    rw [List.map_cons, List.nodup_cons] at nd
    rw [List.find?_cons]
    rcases List.mem_cons.mp h with rfl | h
    · simp
    · have hne : (e.x == d.x) = false := by
        simp only [beq_eq_false_iff_ne, ne_eq]
        intro z
        exact nd.1 (by rw [z]; exact List.mem_map.mpr ⟨d, h, rfl⟩)
      rw [hne]
      exact ih nd.2 h
section
variable {k : KX} {mg : Str → Option Value} {base : Heap} {dt : List DefE} {wh : Nat} {cs : List (Str × D)}
def sigOf (dt : List DefE) : List (Str × List Bool) := dt.map fun d => (d.x, d.bs)
theorem sig_mem {dt : List DefE} {x : Str} {a : List Bool} (h : (sigOf dt).lookup x = some a) : ∃ d ∈ dt, d.x = x := by
  induction dt with
  | nil => cases h
  | cons d dt ih =>
    have h' : (match x == d.x with | true => some d.bs | false => (sigOf dt).lookup x) = some a := h
    split at h'
    · rename_i e
      exact ⟨d, List.mem_cons_self, (eq_of_beq e).symm⟩
    · obtain ⟨d', h1, h2⟩ := ih h'
      exact ⟨d', List.mem_cons_of_mem _ h1, h2⟩
theorem spD_zero {x : Str} {vs : List V} {H : Hp} {Q : VK} {E : XK} (h : spD k (gN dt wh 0) x vs H Q E) : False := by
  obtain ⟨F, as, r, bs, _, _, _, _, h, _⟩ := h
  cases h
theorem def_ok (hm : k.Mono) (hS : k.Scr) (nd : (dt.map (·.x)).Nodup) (hb : ∀ x, bltNames.contains x = true → mg x = none) (hcs : ∀ x d, cs.lookup x = some d → ∃ u v, mg x = some u ∧ RelV v u ∧ ∀ F, Rep k F d v)
    (hf : ∀ d ∈ dt, ∃ f fd, FunF k mg (sigOf dt) cs d f fd) : ∀ n, ∀ d ∈ dt, ∀ f fd, FunF k mg (sigOf dt) cs d f fd → FnOk k.P k.w k.K mg base CX0 (2 * n) f fd d.ps (spD k (gN dt wh n) d.x)
  | 0, d, _, f, fd, _ => ⟨fun _ _ _ _ h => (spD_zero h).elim, fun _ _ _ _ _ _ _ _ _ _ _ _ _ h => (spD_zero h).elim⟩
  | n + 1, d, hd, f, fd, FF => by
    obtain ⟨x, qual, params, body, scope, FD, S, tr⟩ := FF.ex
    have call : ∀ as, (gN dt wh (n + 1)).call d.x as = runD d (gN dt wh n) as := fun as => by
      show callD dt (gN dt wh n) d.x as = _
      unfold callD
      rw [find_dt nd hd]
    show FnOk k.P k.w k.K mg base CX0 (2 * n + 1 + 1) f fd d.ps (spD k (gN dt wh (n + 1)) d.x)
    refine FD.ok S (fun vs H Q E h => ?_) fun cdv A outer s H vs Q E hr h => ⟨tS k (gN dt wh n) d.m, PSs.nox (tr _ _ (2 * n) ?_), ?_⟩
    · obtain ⟨F, as, r, bs, _, _, ar, _, hc, _⟩ := h
      rw [call] at hc
      unfold runD at hc
      obtain ⟨hl, _⟩ := Option.ite_none_right_eq_some.mp hc
      rw [← ar.length, hl]
    · refine ⟨rfl, ⟨rfl, rfl⟩, hS, rfl, S.nd, rfl, S.kind, rfl, rfl, rfl, hr.mono (Nat.le_succ _), hr.in1, hb, hcs, fun y a hy => ?_⟩
      obtain ⟨d', hd', rfl⟩ := sig_mem hy
      obtain ⟨f', fd', F'⟩ := hf d' hd'
      exact ⟨f', fd', d'.ps, F'.mg, F'.kp, F'.bd, def_ok hm hS nd hb hcs hf n d' hd' f' fd' F'⟩
    · obtain ⟨F, as, r, bs, _, ok, ar, ap, hc, q⟩ := h
      rw [call] at hc
      unfold runD at hc
      obtain ⟨hl, hc⟩ := Option.ite_none_right_eq_some.mp hc
      obtain ⟨⟨fl, e'⟩, h1, h2⟩ := Option.bind_eq_some_iff.mp hc
      have er := er_entry (N := d.N) hm ok ar ap
      have oa : ∀ a, OA (entry d.N as) (L2.start d.N vs) a ↔ BA as vs a := by
        intro a
        constructor
        · rintro ⟨i, s, p1, p2, p3⟩
          obtain ⟨x, p4, p5⟩ := entry_at p1
          obtain ⟨v, p6, _⟩ := ar.get p4
          rw [start_at p6] at p3
          cases p3
          refine ⟨i, x, p4, ?_, p6⟩
          cases x with
          | v d' => cases p5; cases p2
          | b d' => rfl
        · rintro ⟨i, x, p1, p2, p3⟩
          cases x with
          | v d' => cases p2
          | b d' =>
            have hi : i < as.length := (List.getElem?_eq_some_iff.mp p1).1
            refine ⟨i, .bor d', ?_, rfl, start_at p3⟩
            unfold entry
            rw [List.getElem?_append_left (by simpa using hi), List.getElem?_map, p1]
            rfl
      have fin : ∀ {r' : R} {v : V} {σ' : L2.St} {F' H' : Hp} {bs' : List D}, Pst k (entry d.N as) (L2.start d.N vs) F H e' σ' F' H' → RR k (entry d.N as) (L2.start d.N vs) H e' σ' F' H' r' v → backs as e' = some bs' → r' = r → bs' = bs → Q v H' := by
        intro r' v σ' F' H' bs' p rr hbk e1 e2
        subst e1 e2
        have st : Stp (BA as vs) F H F' H' := ⟨p.st.up, fun a o h1 h2 h3 => p.st.kp a o h1 h2 fun z => h3 ((oa a).mp z)⟩
        have keepσ : ∀ (i : Nat) (v : V), as[i]?.map Ag.lent = some true → vs[i]? = some v → σ'[i]? = some (some v) := by
          intro i v hi hv
          obtain ⟨x, p1, p2⟩ := Option.map_eq_some_iff.mp hi
          cases x with
          | v d' => cases p2
          | b d' =>
            have hlt : i < as.length := (List.getElem?_eq_some_iff.mp p1).1
            have he : (entry d.N as)[i]? = some (some (.bor d')) := by
              unfold entry
              rw [List.getElem?_append_left (by simpa using hlt), List.getElem?_map, p1]
              rfl
            rw [(p.bo i d' he).1]
            exact start_at hv
        refine q v F' H' p.er.ok st ?_ (backs_bs (σ := σ') ar (fun i d' hd' => p.er.own i _ d' hd' rfl) keepσ hbk)
        cases r' with
        | v d' => exact rr
        | o d' =>
          obtain ⟨a, e1, ow, no, fr⟩ := rr
          refine ⟨a, e1, ow, ?_⟩
          rcases fr with fr | fr
          · exfalso
            obtain ⟨i, s, p1, p2, p3⟩ := fr
            obtain ⟨x, p4, p5⟩ := entry_at p1
            cases x with
            | v d'' => cases p5; cases p2
            | b d'' =>
              cases p5
              obtain ⟨q1, d3, q2⟩ := p.bo i d'' p1
              exact no ⟨i, .bor d3, q2, rfl, by rw [q1]; exact p3⟩
          · exact fr
      refine ⟨F, entry d.N as, fl, e', er, h1, ?_⟩
      cases fl with
      | nx =>
        obtain ⟨bs', hbk, e1⟩ := Option.map_eq_some_iff.mp h2
        cases e1
        exact fun σ' F' H' p => fin (r' := .v .none) p rfl hbk rfl rfl
      | bk => cases h2
      | ct => cases h2
      | rt r' =>
        obtain ⟨bs', hbk, e1⟩ := Option.map_eq_some_iff.mp h2
        cases e1
        exact fun v σ' F' H' p rr => fin p rr hbk rfl rfl
end
end RL
end
section
set_option Elab.async false
set_option linter.all false
set_option autoImplicit false
set_option maxRecDepth 100000
set_option maxHeartbeats 4000000
/-! R24: a law over the head's facts -/
namespace RL
open PySem PySem.Spec L2
open PyProof.Rows hiding St

/-- the program's knowledge: the script alone is told by a tag -/
def kx (P : Program) (w : World) (K : PySem.W.Frag) : KX := ⟨P, w, K, fun F t a vs => t = .str scrTag ∧ SqL K F a vs⟩
theorem kx_mono (P : Program) (w : World) (K : PySem.W.Frag) : (kx P w K).Mono := fun _ _ _ _ _ u h => ⟨h.1, u.l h.2⟩
theorem kx_scr (P : Program) (w : World) (K : PySem.W.Frag) : (kx P w K).Scr := fun _ _ _ h => h.2
theorem scr_rep {P : Program} {w : World} {K : PySem.W.Frag} {H : Hp} {a : Addr} {ns : List Int} (h : SqL K H a (ns.map V.int)) : Rep (kx P w K) H (scrD (ns.map .int)) (.ref a) := by
  have rv : ∀ l : List Int, RepV (kx P w K) H ((l.map PyData.int).map fun d => (PyData.none, d)) (l.map V.int) := by
    intro l
    induction l with
    | nil => rfl
    | cons i l ih => exact ⟨_, _, rfl, rfl, ih⟩
  exact ⟨a, .str scrTag :: ns.map V.int, none, rfl, .inr ⟨_, _, _, _, rfl, rfl, ⟨rfl, h⟩, rfl⟩, ⟨_, _, rfl, rfl, rv ns⟩, fun _ z => nomatch z⟩
/-- the text's turning, where it is whole -/
def trM {c : Ct} {b : List Stmt} (o : Option (TrB c b)) : SM := match o with
  | some p => p.1
  | none => stuckM
theorem trM_ok {c : Ct} {b : List Stmt} (o : Option (TrB c b)) (h : o.isSome = true) : ∀ X k g n, XOk c X k g n → PSs X b (tS k g (trM o)) := by
  cases o with
  | some p => exact p.2
  | none => cases h
/-- a def of the top, by its place -/
structure TopD where
  d : DefE
  st : Stmt
def TopD.he (t : TopD) : He.DefD := ⟨(t.d.x, none), t.d.x, t.d.x, defArgs t.st, defBody t.st, defScope t.st, [], []⟩
/-- what is seen of each def -/
structure TopOk (sig : List (Str × List Bool)) (cs : List (Str × D)) (t : TopD) : Prop where
  sc : FnScope t.d.N t.d.ps (defScope t.st)
  bd : ∀ (kV doc pm : Value) (an : Option Addr) (cdv ct : Value) (us : List Value), us.length = t.d.ps.length → bindArgs (PySem.W.fnOf t.d.x t.d.x (defArgs t.st) (defBody t.st) (defScope t.st) .none kV doc pm an cdv ct) ⟨us, []⟩ = pure (t.d.ps.zip us)
  tr : ∀ X k g n, XOk ⟨t.d.N, defScope t.st, fun _ => true, sig, cs⟩ X k g n → PSs X (defBody t.st) (tS k g t.d.m)
def faOf (tds : List TopD) (cs : List (Str × Str)) : List He.Fa := (tds.map fun t => .glo t.d.x) ++ bltNames.map .free ++ cs.map fun p => .str p.1 p.2
def csOf (cs : List (Str × Str)) : List (Str × D) := cs.map fun p => (p.1, .str p.2)
theorem cs_mem {cs : List (Str × Str)} {x : Str} {d : D} (h : (csOf cs).lookup x = some d) : ∃ z, (x, z) ∈ cs ∧ d = .str z := by
  induction cs with
  | nil => cases h
  | cons p cs ih =>
    have h' : (match x == p.1 with | true => some (PyData.str p.2) | false => (csOf cs).lookup x) = some d := h
    split at h'
    · rename_i e
      cases h'
      exact ⟨p.2, by rw [eq_of_beq e]; exact List.mem_cons_self, rfl⟩
    · obtain ⟨z, h1, h2⟩ := ih h'
      exact ⟨z, List.mem_cons_of_mem _ h1, h2⟩
section
variable {P : Program} {w : World} {K : PySem.W.Frag} {h : Heap} {mg : Str → Option Value} {tds : List TopD} {cs : List (Str × Str)}
theorem funF (X : K.In h) (G : h.Ns mainGlobals mg) (c : He.SaysD (faOf tds cs) (tds.map TopD.he) K) {sig : List (Str × List Bool)} (ok : ∀ t ∈ tds, TopOk sig (csOf cs) t) {t : TopD} (ht : t ∈ tds) :
    ∃ f fd, FunF (kx P w K) mg sig (csOf cs) t.d f fd ∧ mg t.d.x = some (.ref f) ∧ ∀ (s : Shared) (us : List Value), us.length = t.d.ps.length → BindsTo s fd ⟨us, []⟩ (t.d.ps.zip us) := by
  obtain ⟨fd, FD⟩ := He.SaysD.defs c (d := t.he) (List.mem_map.mpr ⟨t, ht, rfl⟩)
  have g := He.glo_ok X G (He.SaysD.facts c (f := .glo t.d.x) (by unfold faOf; simp only [List.mem_append, List.mem_map]; exact .inl (.inl ⟨t, ht, rfl⟩)))
  have hk := ok t ht
  exact ⟨_, fd, ⟨g, FD.kp, FD.bindsN hk.bd, _, _, _, _, _, FD, hk.sc, fun X g n ok => hk.tr X _ g n ok⟩, g, fun s us hl => FD.bindsA hk.bd s us hl⟩
theorem blt_ok (X : K.In h) (G : h.Ns mainGlobals mg) (c : He.SaysD (faOf tds cs) (tds.map TopD.he) K) : ∀ x, bltNames.contains x = true → mg x = none := fun x hx =>
  He.free_ok X G (He.SaysD.facts c (f := .free x) (by unfold faOf; simp only [List.mem_append, List.mem_map]; exact .inl (.inr ⟨x, by simpa using hx, rfl⟩)))
theorem cs_ok (X : K.In h) (G : h.Ns mainGlobals mg) (c : He.SaysD (faOf tds cs) (tds.map TopD.he) K) : ∀ x d, (csOf cs).lookup x = some d → ∃ u v, mg x = some u ∧ RelV v u ∧ ∀ F, Rep (kx P w K) F d v := fun x d hx => by
  obtain ⟨z, h1, rfl⟩ := cs_mem hx
  obtain ⟨t, e⟩ := He.str_ok X G (He.SaysD.facts c (f := .str x z) (by unfold faOf; simp only [List.mem_append, List.mem_map]; exact .inr ⟨(x, z), h1, rfl⟩))
  exact ⟨_, .str z, e, ⟨t, rfl⟩, fun _ => rfl⟩
/-- the law: its mirror answers true at every script -/
theorem law_facts {wh lv n : Nat} {tl : TopD} (hl : tl ∈ tds) (hx : tl.d.ps = [("script" : Str)]) (nd : ((tds.map TopD.d).map (·.x)).Nodup) (ok : ∀ t ∈ tds, TopOk (sigOf (tds.map TopD.d)) (csOf cs) t)
    (law : ∀ ns : List Int, ns.length ≤ n → (gN (tds.map TopD.d) wh lv).call tl.d.x [.v (scrD (ns.map .int))] = some (.v (.bool true), []))
    {fa : Addr} (X : K.In h) (G : h.Ns mainGlobals mg) (hfa : mg tl.d.x = some (.ref fa)) (c : He.SaysD (faOf tds cs) (tds.map TopD.he) K) :
    ∃ (K : PySem.W.Frag) (fd : FuncData) (sp : Sp), K.In h ∧ (∀ (s : Shared) (u : Value), BindsTo s fd ⟨[u], []⟩ [("script", u)]) ∧
      (∀ (H : Hp) (a : Addr) (ns : List Int), ns.length ≤ n → Only H → SqL K H a (ns.map V.int) → sp [.ref a] H (fun v _ => v = .bl true) fun _ _ _ => False) ∧
      ∀ base : Heap, K.In base → base.Ns mainGlobals mg → FnOk P w K mg base CX0 (2 * lv) fa fd ["script"] sp := by
  obtain ⟨f, fd, FF, g, b⟩ := funF (P := P) (w := w) X G c ok hl
  rw [hfa] at g
  cases g
  refine ⟨K, fd, spD (kx P w K) (gN (tds.map TopD.d) wh lv) tl.d.x, X, fun s u => ?_, fun H a ns hn _ hS => ?_, fun base _ _ => ?_⟩
  · have := b s [u] (by rw [hx]; rfl)
    rw [hx] at this
    exact this
  · exact ⟨H, [.v (scrD (ns.map .int))], .v (.bool true), [], kx_mono P w K, fun _ _ h => h, ⟨_, _, rfl, scr_rep hS, rfl⟩, fun i j x y hij hi hj la lb => by
      cases i with
      | zero => simp at hi; subst hi; cases la
      | succ i => simp at hi, law ns hn, fun v F' H' _ _ rn _ => rn⟩
  · rw [← hx]
    refine def_ok (k := kx P w K) (base := base) (kx_mono P w K) (kx_scr P w K) nd (blt_ok X G c) (cs_ok X G c) (fun d hd => ?_) lv tl.d (List.mem_map.mpr ⟨tl, hl, rfl⟩) _ _ FF
    obtain ⟨t, ht, rfl⟩ := List.mem_map.mp hd
    obtain ⟨f', fd', F', _⟩ := funF (P := P) (w := w) X G c ok ht
    exact ⟨f', fd', F'⟩
end
end RL
end
section
set_option Elab.async false
set_option linter.all false
set_option autoImplicit false
set_option maxRecDepth 100000
set_option maxHeartbeats 4000000
/-! S0: mirrors, run backwards -/
namespace RL
open PySem PySem.Spec L2
open PyProof.Rows hiding St

def WE (m : EM) (g : G) (e : En) (Q : R → En → Prop) : Prop := match m g e with
  | some p => Q p.1 p.2
  | none => False
def WB (m : BM) (g : G) (e : En) (Q : Bool → En → Prop) : Prop := match m g e with
  | some p => Q p.1 p.2
  | none => False
def WS (m : SM) (g : G) (e : En) (Q : Fl_ → En → Prop) : Prop := match m g e with
  | some p => Q p.1 p.2
  | none => False
def WI (m : IM) (g : G) (e : En) (Q : List D → En → Prop) : Prop := match m g e with
  | some p => Q p.1 p.2
  | none => False
def WC (g : G) (x : Str) (as : List Ag) (Q : R → List D → Prop) : Prop := match g.call x as with
  | some p => Q p.1 p.2
  | none => False
def WO (p : Opd) (g : G) (e : En) (Q : Nat ⊕ D → En → Prop) : Prop := match p with
  | .lz i => (match getI e i with
    | some _ => Q (.inl i) e
    | none => False)
  | .eg m => WE m g e fun r e1 => Q (.inr r.d) e1
def WV (ms : List EM) (g : G) (e : En) (Q : List D → En → Prop) : Prop := match ms with
  | [] => Q [] e
  | m :: ms => WE m g e fun r e1 => WV ms g e1 fun ds e2 => Q (r.d :: ds) e2
def WR (ms : List EM) (g : G) (e : En) (Q : List R → En → Prop) : Prop := match ms with
  | [] => Q [] e
  | m :: ms => WE m g e fun r e1 => WR ms g e1 fun rs e2 => Q (r :: rs) e2
def WA (ps : List ArM) (g : G) (e : En) (Q : List (Nat ⊕ D) → En → Prop) : Prop := match ps with
  | [] => Q [] e
  | .b i :: ps => (match getI e i with
    | some _ => WA ps g e fun xs e2 => Q (.inl i :: xs) e2
    | none => False)
  | .v m :: ps => WE m g e fun r e1 => WA ps g e1 fun xs e2 => Q (.inr r.d :: xs) e2
/-- the value of an option -/
def Wo {α : Type} (o : Option α) (Q : α → Prop) : Prop := match o with
  | some a => Q a
  | none => False
@[simp] theorem wo_some {α : Type} {a : α} {Q : α → Prop} : Wo (some a) Q = Q a := rfl
@[simp] theorem wo_none {α : Type} {Q : α → Prop} : Wo (none : Option α) Q = False := rfl
theorem Wo.mono {α : Type} {o : Option α} {Q Q' : α → Prop} (h : Wo o Q) (i : ∀ a, Q a → Q' a) : Wo o Q' := by
  cases o with
  | none => exact h
  | some a => exact i a h

theorem WE.get {m : EM} {g : G} {e : En} {Q : R → En → Prop} (h : WE m g e Q) : ∃ r e', m g e = some (r, e') ∧ Q r e' := by
  unfold WE at h
  split at h
  · rename_i p hp
    exact ⟨p.1, p.2, hp, h⟩
  · exact h.elim
theorem WE.of {m : EM} {g : G} {e : En} {Q : R → En → Prop} {r : R} {e' : En} (h : m g e = some (r, e')) (q : Q r e') : WE m g e Q := by
  unfold WE; rw [h]; exact q
theorem WB.get {m : BM} {g : G} {e : En} {Q : Bool → En → Prop} (h : WB m g e Q) : ∃ r e', m g e = some (r, e') ∧ Q r e' := by
  unfold WB at h
  split at h
  · rename_i p hp
    exact ⟨p.1, p.2, hp, h⟩
  · exact h.elim
theorem WS.get {m : SM} {g : G} {e : En} {Q : Fl_ → En → Prop} (h : WS m g e Q) : ∃ r e', m g e = some (r, e') ∧ Q r e' := by
  unfold WS at h
  split at h
  · rename_i p hp
    exact ⟨p.1, p.2, hp, h⟩
  · exact h.elim
theorem WI.get {m : IM} {g : G} {e : En} {Q : List D → En → Prop} (h : WI m g e Q) : ∃ r e', m g e = some (r, e') ∧ Q r e' := by
  unfold WI at h
  split at h
  · rename_i p hp
    exact ⟨p.1, p.2, hp, h⟩
  · exact h.elim
theorem WC.get {g : G} {x : Str} {as : List Ag} {Q : R → List D → Prop} (h : WC g x as Q) : ∃ r bs, g.call x as = some (r, bs) ∧ Q r bs := by
  unfold WC at h
  split at h
  · rename_i p hp
    exact ⟨p.1, p.2, hp, h⟩
  · exact h.elim
theorem WC.of {g : G} {x : Str} {as : List Ag} {Q : R → List D → Prop} {r : R} {bs : List D} (h : g.call x as = some (r, bs)) (q : Q r bs) : WC g x as Q := by
  unfold WC; rw [h]; exact q
theorem WE.mono {m : EM} {g : G} {e : En} {Q Q' : R → En → Prop} (h : WE m g e Q) (i : ∀ r e', Q r e' → Q' r e') : WE m g e Q' := by
  obtain ⟨r, e', h1, h2⟩ := h.get
  exact .of h1 (i r e' h2)
theorem WC.mono {g : G} {x : Str} {as : List Ag} {Q Q' : R → List D → Prop} (h : WC g x as Q) (i : ∀ r bs, Q r bs → Q' r bs) : WC g x as Q' := by
  obtain ⟨r, e', h1, h2⟩ := h.get
  exact .of h1 (i r e' h2)

section
variable {g : G} {e : En}
@[simp] theorem w_cM {d : D} {Q : R → En → Prop} : WE (cM d) g e Q = Q (.v d) e := rfl
@[simp] theorem w_newDM {Q : R → En → Prop} : WE newDM g e Q = Q (.o (.dict [])) e := rfl
@[simp] theorem w_trueM {Q : Bool → En → Prop} : WB trueM g e Q = Q true e := rfl
@[simp] theorem w_nilM {Q : Fl_ → En → Prop} : WS nilM g e Q = Q .nx e := rfl
@[simp] theorem w_bkM {Q : Fl_ → En → Prop} : WS bkM g e Q = Q .bk e := rfl
@[simp] theorem w_ctM {Q : Fl_ → En → Prop} : WS ctM g e Q = Q .ct e := rfl
@[simp] theorem w_retN {Q : Fl_ → En → Prop} : WS retN g e Q = Q (.rt (.v .none)) e := rfl
/-- what a name gives, and the slot behind -/
def vrQ (s : Option (Option Sl)) (e : En) (i : Nat) (Q : R → En → Prop) : Prop := match s with
  | some (some (.val d)) => Q (.v d) e
  | some (some (.own d)) => Q (.v d) (e.set i (some (.val d)))
  | _ => False
@[simp] theorem vrQ_val {d : D} {i : Nat} {Q : R → En → Prop} : vrQ (some (some (.val d))) e i Q = Q (.v d) e := rfl
@[simp] theorem vrQ_own {d : D} {i : Nat} {Q : R → En → Prop} : vrQ (some (some (.own d))) e i Q = Q (.v d) (e.set i (some (.val d))) := rfl
@[simp] theorem w_vrM {i : Nat} {Q : R → En → Prop} : WE (vrM i) g e Q = vrQ e[i]? e i Q := by
  unfold WE vrM vrQ
  generalize e[i]? = s
  cases s with
  | none => rfl
  | some s => cases s with
    | none => rfl
    | some s => cases s <;> rfl
def mvQ (s : Option (Option Sl)) (e : En) (i : Nat) (Q : R → En → Prop) : Prop := match s with
  | some (some (.val d)) => Q (.v d) e
  | some (some (.own d)) => Q (.o d) (e.set i none)
  | _ => False
@[simp] theorem mvQ_val {d : D} {i : Nat} {Q : R → En → Prop} : mvQ (some (some (.val d))) e i Q = Q (.v d) e := rfl
@[simp] theorem mvQ_own {d : D} {i : Nat} {Q : R → En → Prop} : mvQ (some (some (.own d))) e i Q = Q (.o d) (e.set i none) := rfl
@[simp] theorem w_mvM {i : Nat} {Q : R → En → Prop} : WE (mvM i) g e Q = mvQ e[i]? e i Q := by
  unfold WE mvM mvQ
  generalize e[i]? = s
  cases s with
  | none => rfl
  | some s => cases s with
    | none => rfl
    | some s => cases s <;> rfl
@[simp] theorem wo_lz {i : Nat} {Q : Nat ⊕ D → En → Prop} : WO (.lz i) g e Q = Wo (getI e i) fun _ => Q (.inl i) e := by
  unfold WO Wo
  dsimp only
  split <;> simp_all
@[simp] theorem wo_eg {m : EM} {Q : Nat ⊕ D → En → Prop} : WO (.eg m) g e Q = WE m g e fun r e1 => Q (.inr r.d) e1 := rfl
@[simp] theorem wv_nil {Q : List D → En → Prop} : WV [] g e Q = Q [] e := rfl
@[simp] theorem wv_cons {m : EM} {ms : List EM} {Q : List D → En → Prop} : WV (m :: ms) g e Q = WE m g e fun r e1 => WV ms g e1 fun ds e2 => Q (r.d :: ds) e2 := rfl
@[simp] theorem wr_nil {Q : List R → En → Prop} : WR [] g e Q = Q [] e := rfl
@[simp] theorem wr_cons {m : EM} {ms : List EM} {Q : List R → En → Prop} : WR (m :: ms) g e Q = WE m g e fun r e1 => WR ms g e1 fun ds e2 => Q (r :: ds) e2 := rfl
@[simp] theorem wa_nil {Q : List (Nat ⊕ D) → En → Prop} : WA [] g e Q = Q [] e := rfl
@[simp] theorem wa_v {m : EM} {ms : List ArM} {Q : List (Nat ⊕ D) → En → Prop} : WA (.v m :: ms) g e Q = WE m g e fun r e1 => WA ms g e1 fun xs e2 => Q (.inr r.d :: xs) e2 := rfl
@[simp] theorem wa_b {i : Nat} {ms : List ArM} {Q : List (Nat ⊕ D) → En → Prop} : WA (.b i :: ms) g e Q = Wo (getI e i) fun _ => WA ms g e fun xs e2 => Q (.inl i :: xs) e2 := by
  show (match getI e i with | some _ => WA ms g e fun xs e2 => Q (.inl i :: xs) e2 | none => False) = _
  unfold Wo
  split <;> simp_all
theorem runO_w : ∀ (ps : List Opd) (e : En) (Q : List (Nat ⊕ D) → En → Prop), (match runO g ps e with | some p => Q p.1 p.2 | none => False) = (match ps with | [] => Q [] e | p :: ps => WO p g e fun x e1 => match runO g ps e1 with | some q => Q (x :: q.1) q.2 | none => False)
  | [], e, Q => rfl
  | .lz i :: ps, e, Q => by
    show _ = WO (.lz i) g e fun x e1 => match runO g ps e1 with | some q => Q (x :: q.1) q.2 | none => False
    rw [wo_lz]
    show (match (getI e i).bind fun _ => (runO g ps e).map fun p => (.inl i :: p.1, p.2) with | some p => Q p.1 p.2 | none => False) = _
    cases getI e i with
    | none => rfl
    | some d =>
      simp only [Option.bind_some, wo_some]
      cases runO g ps e <;> rfl
  | .eg m :: ps, e, Q => by
    show _ = WO (.eg m) g e fun x e1 => match runO g ps e1 with | some q => Q (x :: q.1) q.2 | none => False
    rw [wo_eg]
    unfold WE
    show (match (m g e).bind fun r => (runO g ps r.2).map fun p => (.inr r.1.d :: p.1, p.2) with | some p => Q p.1 p.2 | none => False) = _
    cases m g e with
    | none => rfl
    | some r =>
      simp only [Option.bind_some]
      cases runO g ps r.2 <;> rfl
theorem opM_w {ps : List Opd} {op : List D → Option R} {Q : R → En → Prop} : WE (opM ps op) g e Q = (match runO g ps e with | some p => Wo ((getOs p.2 p.1).bind op) fun r => Q r p.2 | none => False) := by
  unfold WE opM opsM
  cases runO g ps e with
  | none => rfl
  | some p =>
    simp only [Option.bind_some]
    cases getOs p.2 p.1 with
    | none => rfl
    | some ds =>
      simp only [Option.map_some, Option.bind_some]
      cases op ds <;> rfl
@[simp] theorem w_un {pa : Opd} {f : D → Option R} {Q : R → En → Prop} : WE (un pa f) g e Q = WO pa g e fun x e1 => Wo (getO e1 x) fun d => Wo (f d) fun r => Q r e1 := by
  unfold un
  rw [opM_w, runO_w (g := g) [pa] e (fun xs e2 => Wo ((getOs e2 xs).bind (op1L f)) fun r => Q r e2)]
  show (WO pa g e fun x e1 => Wo ((getOs e1 [x]).bind (op1L f)) fun r => Q r e1) = _
  congr 1
  funext x e1
  simp only [getOs]
  cases getO e1 x with
  | none => rfl
  | some d => rfl
@[simp] theorem w_bin {pa pb : Opd} {f : D → D → Option R} {Q : R → En → Prop} : WE (bin pa pb f) g e Q = WO pa g e fun x e1 => WO pb g e1 fun y e2 => Wo (getO e2 x) fun d => Wo (getO e2 y) fun d' => Wo (f d d') fun r => Q r e2 := by
  unfold bin
  rw [opM_w, runO_w (g := g) [pa, pb] e (fun xs e2 => Wo ((getOs e2 xs).bind (op2L f)) fun r => Q r e2)]
  show (WO pa g e fun x e1 => match runO g [pb] e1 with | some q => Wo ((getOs q.2 (x :: q.1)).bind (op2L f)) fun r => Q r q.2 | none => False) = _
  congr 1
  funext x e1
  rw [runO_w (g := g) [pb] e1 (fun ys e2 => Wo ((getOs e2 (x :: ys)).bind (op2L f)) fun r => Q r e2)]
  show (WO pb g e1 fun y e2 => Wo ((getOs e2 [x, y]).bind (op2L f)) fun r => Q r e2) = _
  congr 1
  funext y e2
  simp only [getOs]
  cases getO e2 x with
  | none => rfl
  | some d =>
    cases getO e2 y with
    | none => rfl
    | some d' => rfl
@[simp] theorem w_opM1 {pa : Opd} {f : D → Option R} {Q : R → En → Prop} : WE (opM [pa] (op1L f)) g e Q = WO pa g e fun x e1 => Wo (getO e1 x) fun d => Wo (f d) fun r => Q r e1 := w_un
theorem valsM_w : ∀ (ms : List EM) (e : En) (Q : List D → En → Prop), (match valsM ms g e with | some p => Q p.1 p.2 | none => False) = WV ms g e Q
  | [], e, Q => rfl
  | m :: ms, e, Q => by
    rw [wv_cons]
    unfold WE
    show (match (m g e).bind fun r => (valsM ms g r.2).map fun p => (r.1.d :: p.1, p.2) with | some p => Q p.1 p.2 | none => False) = _
    cases m g e with
    | none => rfl
    | some r =>
      simp only [Option.bind_some]
      rw [← valsM_w ms r.2]
      cases valsM ms g r.2 <;> rfl
theorem rsM_w : ∀ (ms : List EM) (e : En) (Q : List R → En → Prop), (match rsM ms g e with | some p => Q p.1 p.2 | none => False) = WR ms g e Q
  | [], e, Q => rfl
  | m :: ms, e, Q => by
    rw [wr_cons]
    unfold WE
    show (match (m g e).bind fun r => (rsM ms g r.2).map fun p => (r.1 :: p.1, p.2) with | some p => Q p.1 p.2 | none => False) = _
    cases m g e with
    | none => rfl
    | some r =>
      simp only [Option.bind_some]
      rw [← rsM_w ms r.2]
      cases rsM ms g r.2 <;> rfl
theorem runA_w : ∀ (ms : List ArM) (e : En) (Q : List (Nat ⊕ D) → En → Prop), (match runA g ms e with | some p => Q p.1 p.2 | none => False) = WA ms g e Q
  | [], e, Q => rfl
  | .v m :: ms, e, Q => by
    rw [wa_v]
    unfold WE
    show (match (m g e).bind fun r => (runA g ms r.2).map fun p => (.inr r.1.d :: p.1, p.2) with | some p => Q p.1 p.2 | none => False) = _
    cases m g e with
    | none => rfl
    | some r =>
      simp only [Option.bind_some]
      rw [← runA_w ms r.2]
      cases runA g ms r.2 <;> rfl
  | .b i :: ms, e, Q => by
    rw [wa_b]
    show (match (getI e i).bind fun _ => (runA g ms e).map fun p => (.inl i :: p.1, p.2) with | some p => Q p.1 p.2 | none => False) = _
    cases getI e i with
    | none => rfl
    | some r =>
      simp only [Option.bind_some, wo_some]
      rw [← runA_w ms e]
      cases runA g ms e <;> rfl
@[simp] theorem w_opV {ms : List EM} {op : List D → Option R} {Q : R → En → Prop} : WE (opV ms op) g e Q = WV ms g e fun ds e1 => Wo (op ds) fun r => Q r e1 := by
  rw [← valsM_w]
  unfold WE opV
  cases valsM ms g e with
  | none => rfl
  | some p =>
    simp only [Option.bind_some]
    cases op p.1 <;> rfl
@[simp] theorem w_callM {x : Str} {ps : List ArM} {Q : R → En → Prop} : WE (callM x ps) g e Q = WA ps g e fun xs e1 => Wo (getBs e1 xs) fun as => noDup (lentOf xs) = true ∧ WC g x as fun r bs => Q r (putB e1 ((lentOf xs).zip bs)) := by
  rw [← runA_w]
  unfold WE callM WC
  cases runA g ps e with
  | none => rfl
  | some p =>
    simp only [Option.bind_some]
    cases getBs p.2 p.1 with
    | none => rfl
    | some as =>
      simp only [Option.bind_some, wo_some]
      split
      · rename_i hq
        split at hq
        · rename_i hn
          rw [hn]
          cases hc : g.call x as with
          | none => rw [hc] at hq; cases hq
          | some r => rw [hc] at hq; cases hq; simp
        · cases hq
      · rename_i hq
        split at hq
        · rename_i hn
          cases hc : g.call x as with
          | none => simp
          | some r => rw [hc] at hq; cases hq
        · rename_i hn
          simp [hn]
@[simp] theorem w_tstM {m : EM} {Q : Bool → En → Prop} : WB (tstM m) g e Q = WE m g e fun r e1 => match r with | .v (.bool b) => Q b e1 | _ => False := by
  unfold WB WE tstM
  cases m g e with
  | none => rfl
  | some p =>
    obtain ⟨r, e1⟩ := p
    simp only [Option.bind_some]
    cases r with
    | o d => rfl
    | v d => cases d <;> rfl
@[simp] theorem w_notM {m : BM} {Q : Bool → En → Prop} : WB (notM m) g e Q = WB m g e fun b e1 => Q (!b) e1 := by
  unfold WB notM
  cases m g e <;> rfl
@[simp] theorem w_andM {m n : BM} {Q : Bool → En → Prop} : WB (andM m n) g e Q = WB m g e fun b e1 => match b with | true => WB n g e1 Q | false => Q false e1 := by
  unfold WB andM
  cases m g e with
  | none => rfl
  | some p => obtain ⟨b, e1⟩ := p; cases b <;> rfl
@[simp] theorem w_orM {m n : BM} {Q : Bool → En → Prop} : WB (orM m n) g e Q = WB m g e fun b e1 => match b with | true => Q true e1 | false => WB n g e1 Q := by
  unfold WB orM
  cases m g e with
  | none => rfl
  | some p => obtain ⟨b, e1⟩ := p; cases b <;> rfl
@[simp] theorem w_andV {m n : EM} {Q : R → En → Prop} : WE (andV m n) g e Q = WE m g e fun r e1 => match r with | .v (.bool true) => WE n g e1 Q | .v (.bool false) => Q (.v (.bool false)) e1 | _ => False := by
  unfold WE andV
  cases m g e with
  | none => rfl
  | some p =>
    obtain ⟨r, e1⟩ := p
    simp only [Option.bind_some]
    cases r with
    | o d => rfl
    | v d => cases d <;> first | rfl | (rename_i b; cases b <;> rfl)
@[simp] theorem w_orV {m n : EM} {Q : R → En → Prop} : WE (orV m n) g e Q = WE m g e fun r e1 => match r with | .v (.bool true) => Q (.v (.bool true)) e1 | .v (.bool false) => WE n g e1 Q | _ => False := by
  unfold WE orV
  cases m g e with
  | none => rfl
  | some p =>
    obtain ⟨r, e1⟩ := p
    simp only [Option.bind_some]
    cases r with
    | o d => rfl
    | v d => cases d <;> first | rfl | (rename_i b; cases b <;> rfl)
@[simp] theorem w_notV {m : EM} {Q : R → En → Prop} : WE (notV m) g e Q = WE m g e fun r e1 => match r with | .v (.bool b) => Q (.v (.bool (!b))) e1 | _ => False := by
  unfold WE notV
  cases m g e with
  | none => rfl
  | some p =>
    obtain ⟨r, e1⟩ := p
    simp only [Option.bind_some]
    cases r with
    | o d => rfl
    | v d => cases d <;> rfl
@[simp] theorem w_ifM {t : BM} {m n : EM} {Q : R → En → Prop} : WE (ifM t m n) g e Q = WB t g e fun b e1 => match b with | true => WE m g e1 Q | false => WE n g e1 Q := by
  unfold WE WB ifM
  cases t g e with
  | none => rfl
  | some p => obtain ⟨b, e1⟩ := p; cases b <;> rfl
@[simp] theorem w_chM {ma mb mc : EM} {f f' : D → D → Option R} {Q : R → En → Prop} : WE (chM ma mb mc f f') g e Q = WE ma g e fun x e1 => WE mb g e1 fun y e2 => Wo (f x.d y.d) fun r => match r with
    | .v (.bool true) => WE mc g e2 fun z e3 => Wo (f' y.d z.d) fun r' => (match r' with | .v (.bool b) => Q (.v (.bool b)) e3 | _ => False)
    | .v (.bool false) => Q (.v (.bool false)) e2
    | _ => False := by
  unfold WE chM
  cases ma g e with
  | none => rfl
  | some p =>
    obtain ⟨x, e1⟩ := p
    simp only [Option.bind_some]
    cases mb g e1 with
    | none => rfl
    | some q =>
      obtain ⟨y, e2⟩ := q
      simp only [Option.bind_some]
      cases f x.d y.d with
      | none => rfl
      | some r =>
        simp only [wo_some]
        cases r with
        | o d => rfl
        | v d =>
          cases d <;> first | rfl | skip
          rename_i b
          cases b with
          | false => rfl
          | true =>
            dsimp only
            cases mc g e2 with
            | none => rfl
            | some q2 =>
              obtain ⟨z, e3⟩ := q2
              simp only [Option.bind_some]
              cases f' y.d z.d with
              | none => rfl
              | some r' =>
                cases r' with
                | o d => rfl
                | v d => cases d <;> rfl
/-- a slot is stored -/
@[simp] theorem w_setM {i : Nat} {m : EM} {Q : Fl_ → En → Prop} : WS (setM i m) g e Q = WE m g e fun r e1 => Wo (putSl e1 i r) fun e2 => Q .nx e2 := by
  unfold WS WE setM
  cases m g e with
  | none => rfl
  | some p =>
    simp only [Option.bind_some]
    cases putSl p.2 i p.1 <;> rfl
@[simp] theorem w_parM {is : List Nat} {ms : List EM} {Q : Fl_ → En → Prop} : WS (parM is ms) g e Q = WR ms g e fun rs e1 => Wo (putAll e1 is rs) fun e2 => Q .nx e2 := by
  rw [← rsM_w]
  unfold WS parM
  cases rsM ms g e with
  | none => rfl
  | some p =>
    simp only [Option.bind_some]
    cases putAll p.2 is p.1 <;> rfl
@[simp] theorem w_asgM {t : TM} {m : EM} {Q : Fl_ → En → Prop} : WS (asgM t m) g e Q = WE m g e fun r e1 => Wo (t r.d e1) fun e2 => Q .nx e2 := by
  unfold WS WE asgM
  cases m g e with
  | none => rfl
  | some p =>
    simp only [Option.bind_some]
    cases t p.1.d p.2 <;> rfl
@[simp] theorem w_retM {m : EM} {Q : Fl_ → En → Prop} : WS (retM m) g e Q = WE m g e fun r e1 => Q (.rt r) e1 := by
  unfold WS WE retM
  cases m g e <;> rfl
@[simp] theorem w_exprM {m : EM} {Q : Fl_ → En → Prop} : WS (exprM m) g e Q = WE m g e fun r e1 => Q .nx e1 := by
  unfold WS WE exprM
  cases m g e <;> rfl
@[simp] theorem w_seqM {m n : SM} {Q : Fl_ → En → Prop} : WS (seqM m n) g e Q = WS m g e fun f e1 => match f with | .nx => WS n g e1 Q | f => Q f e1 := by
  unfold WS seqM
  cases m g e with
  | none => rfl
  | some p => obtain ⟨f, e1⟩ := p; cases f <;> rfl
@[simp] theorem w_ifS {c : BM} {m n : SM} {Q : Fl_ → En → Prop} : WS (ifS c m n) g e Q = WB c g e fun b e1 => match b with | true => WS m g e1 Q | false => WS n g e1 Q := by
  unfold WS WB ifS
  cases c g e with
  | none => rfl
  | some p => obtain ⟨b, e1⟩ := p; cases b <;> rfl
@[simp] theorem w_setIxM {i : Nat} {mi mv : EM} {Q : Fl_ → En → Prop} : WS (setIxM i mi mv) g e Q = WE mv g e fun z e1 => Wo (ourI e1 i) fun _ => WE mi g e1 fun y e2 => Wo (ourI e2 i) fun d => Wo (fSet d y.d z.d) fun d' => Q .nx (putB e2 [(i, d')]) := by
  unfold WS WE setIxM
  cases mv g e with
  | none => rfl
  | some p =>
    obtain ⟨z, e1⟩ := p
    simp only [Option.bind_some]
    cases ourI e1 i with
    | none => rfl
    | some d0 =>
      simp only [Option.bind_some, wo_some]
      cases mi g e1 with
      | none => rfl
      | some q =>
        obtain ⟨y, e2⟩ := q
        simp only [Option.bind_some]
        cases ourI e2 i with
        | none => rfl
        | some d =>
          simp only [Option.bind_some, wo_some]
          cases fSet d y.d z.d <;> rfl
@[simp] theorem w_mutM {i : Nat} {okT : D → Bool} {ms : List EM} {f : D → List D → Option (D × D)} {Q : R → En → Prop} : WE (mutM i okT ms f) g e Q = Wo (ourI e i) fun d0 => okT d0 = true ∧ WV ms g e fun ds e1 => Wo (ourI e1 i) fun d => Wo (f d ds) fun r => Q (.v r.2) (putB e1 [(i, r.1)]) := by
  unfold WE mutM
  cases ourI e i with
  | none => rfl
  | some d0 =>
    simp only [wo_some]
    by_cases h : okT d0 = true
    · rw [if_pos h, ← valsM_w]
      cases valsM ms g e with
      | none => simp
      | some p =>
        obtain ⟨ds, e1⟩ := p
        simp only [Option.bind_some, h, true_and]
        cases ourI e1 i with
        | none => rfl
        | some d =>
          simp only [Option.bind_some, wo_some]
          cases f d ds <;> rfl
    · rw [if_neg h]
      simp [h]
@[simp] theorem w_mtM {pa : Opd} {okT : D → Bool} {ms : List EM} {op : D → List D → Option R} {Q : R → En → Prop} : WE (mtM pa okT ms op) g e Q = WO pa g e fun x e1 => allO okT e1 [x] = true ∧ WV ms g e1 fun as e2 => Wo (getO e2 x) fun d => Wo (op d as) fun r => Q r e2 := by
  have h := runO_w (g := g) [pa] e (fun xs e1 => allO okT e1 xs = true ∧ WV ms g e1 fun as e2 => Wo (getOs e2 xs) fun ds => match ds with | [d] => Wo (op d as) fun r => Q r e2 | _ => False)
  have h2 : (WO pa g e fun x e1 => allO okT e1 [x] = true ∧ WV ms g e1 fun as e2 => Wo (getOs e2 [x]) fun ds => match ds with | [d] => Wo (op d as) fun r => Q r e2 | _ => False) = (WO pa g e fun x e1 => allO okT e1 [x] = true ∧ WV ms g e1 fun as e2 => Wo (getO e2 x) fun d => Wo (op d as) fun r => Q r e2) := by
    congr 1
    funext x e1
    congr 2
    funext as e2
    simp only [getOs]
    cases getO e2 x <;> rfl
  rw [← h2]
  refine Eq.trans ?_ h
  unfold WE mtM
  cases runO g [pa] e with
  | none => rfl
  | some p =>
    obtain ⟨xs, e1⟩ := p
    simp only [Option.bind_some]
    by_cases hk : allO okT e1 xs = true
    · rw [if_pos hk, ← valsM_w]
      simp only [hk, true_and]
      cases valsM ms g e1 with
      | none => rfl
      | some q =>
        obtain ⟨as, e2⟩ := q
        simp only [Option.bind_some]
        cases getOs e2 xs with
        | none => rfl
        | some ds =>
          simp only [Option.bind_some, wo_some]
          cases ds with
          | nil => rfl
          | cons d ds =>
            cases ds with
            | nil =>
              dsimp only
              cases op d as <;> rfl
            | cons _ _ => rfl
    · rw [if_neg hk]
      simp [hk]
def WP (m : Option EM) (g : G) (e : En) (Q : Option Int → En → Prop) : Prop := match m with
  | none => Q none e
  | some m => WE m g e fun r e1 => match r with | .v (.int i) => Q (some i) e1 | _ => False
@[simp] theorem wp_none {Q : Option Int → En → Prop} : WP none g e Q = Q none e := rfl
@[simp] theorem wp_some {m : EM} {Q : Option Int → En → Prop} : WP (some m) g e Q = WE m g e fun r e1 => match r with | .v (.int i) => Q (some i) e1 | _ => False := rfl
theorem optInt_w (m : Option EM) (e : En) (Q : Option Int → En → Prop) : (match optInt m g e with | some p => Q p.1 p.2 | none => False) = WP m g e Q := by
  cases m with
  | none => rfl
  | some m =>
    show (match (m g e).bind fun r => (match r.1 with | .v (.int i) => some (some i, r.2) | _ => none) with | some p => Q p.1 p.2 | none => False) = _
    unfold WP WE
    dsimp only
    cases m g e with
    | none => rfl
    | some p =>
      obtain ⟨r, e1⟩ := p
      simp only [Option.bind_some]
      cases r with
      | o d => rfl
      | v d => cases d <;> rfl
@[simp] theorem w_slM {pa : Opd} {lo hi : Option EM} {Q : R → En → Prop} : WE (slM pa lo hi) g e Q = WO pa g e fun x e1 => WP lo g e1 fun l e2 => WP hi g e2 fun u e3 => Wo (getO e3 x) fun d => Wo (opSl d l u) fun r => Q r e3 := by
  have h := runO_w (g := g) [pa] e (fun xs e1 => WP lo g e1 fun l e2 => WP hi g e2 fun u e3 => Wo (getOs e3 xs) fun ds => match ds with | [d] => Wo (opSl d l u) fun r => Q r e3 | _ => False)
  have h2 : (WO pa g e fun x e1 => WP lo g e1 fun l e2 => WP hi g e2 fun u e3 => Wo (getOs e3 [x]) fun ds => match ds with | [d] => Wo (opSl d l u) fun r => Q r e3 | _ => False) = (WO pa g e fun x e1 => WP lo g e1 fun l e2 => WP hi g e2 fun u e3 => Wo (getO e3 x) fun d => Wo (opSl d l u) fun r => Q r e3) := by
    congr 1
    funext x e1
    congr 1
    funext l e2
    congr 1
    funext u e3
    simp only [getOs]
    cases getO e3 x <;> rfl
  rw [← h2]
  refine Eq.trans ?_ h
  unfold WE slM
  cases runO g [pa] e with
  | none => rfl
  | some p =>
    obtain ⟨xs, e1⟩ := p
    simp only [Option.bind_some]
    rw [← optInt_w]
    cases optInt lo g e1 with
    | none => rfl
    | some l =>
      obtain ⟨l, e2⟩ := l
      simp only [Option.bind_some]
      rw [← optInt_w]
      cases optInt hi g e2 with
      | none => rfl
      | some u =>
        obtain ⟨u, e3⟩ := u
        simp only [Option.bind_some]
        cases getOs e3 xs with
        | none => rfl
        | some ds =>
          simp only [Option.bind_some, wo_some]
          cases ds with
          | nil => rfl
          | cons d ds =>
            cases ds with
            | nil =>
              dsimp only
              cases opSl d l u <;> rfl
            | cons _ _ => rfl

/-! ### iterables, loops -/
@[simp] theorem w_itM {m : EM} {Q : List D → En → Prop} : WI (itM m) g e Q = WE m g e fun r e1 => Wo (itemsOf r.d) fun ds => Q ds e1 := by
  unfold WI WE itM
  cases m g e with
  | none => rfl
  | some p =>
    simp only [Option.bind_some]
    cases itemsOf p.1.d <;> rfl
@[simp] theorem w_enumM {m : EM} {Q : List D → En → Prop} : WI (enumM m) g e Q = WE m g e fun r e1 => Wo (seqOf r.d) fun ds => Q (numbered 0 ds) e1 := by
  unfold WI WE enumM
  cases m g e with
  | none => rfl
  | some p =>
    simp only [Option.bind_some]
    cases seqOf p.1.d <;> rfl
@[simp] theorem w_zipM {ms : List EM} {Q : List D → En → Prop} : WI (zipM ms) g e Q = WV ms g e fun ds e1 => Wo (zipOf ds) fun ps => Q ps e1 := by
  rw [← valsM_w]
  unfold WI zipM
  cases valsM ms g e with
  | none => rfl
  | some p =>
    simp only [Option.bind_some]
    cases zipOf p.1 <;> rfl
@[simp] theorem w_rngM {ms : List EM} {Q : List D → En → Prop} : WI (rngM ms) g e Q = WV ms g e fun ds e1 => Wo (rngOf ds) fun ps => Q ps e1 := by
  rw [← valsM_w]
  unfold WI rngM
  cases valsM ms g e with
  | none => rfl
  | some p =>
    simp only [Option.bind_some]
    cases rngOf p.1 <;> rfl
theorem WI.mono {m : IM} {Q Q' : List D → En → Prop} (h : WI m g e Q) (i : ∀ r e', Q r e' → Q' r e') : WI m g e Q' := by
  obtain ⟨r, e', h1, h2⟩ := h.get
  unfold WI
  rw [h1]
  exact i r e' h2
theorem WS.mono {m : SM} {Q Q' : Fl_ → En → Prop} (h : WS m g e Q) (i : ∀ r e', Q r e' → Q' r e') : WS m g e Q' := by
  obtain ⟨r, e', h1, h2⟩ := h.get
  unfold WS
  rw [h1]
  exact i r e' h2
theorem WB.mono {m : BM} {Q Q' : Bool → En → Prop} (h : WB m g e Q) (i : ∀ r e', Q r e' → Q' r e') : WB m g e Q' := by
  obtain ⟨r, e', h1, h2⟩ := h.get
  unfold WB
  rw [h1]
  exact i r e' h2
/-- a loop: Inv of what is left, of what is done and of the slots -/
theorem w_forL {t : TM} {body : SM} {Q : Fl_ → En → Prop} (Inv : List D → En → Prop) (hs : ∀ d ds e, Inv (d :: ds) e → Wo (t d e) fun e1 => WS body g e1 fun f e2 => match f with
    | .nx => Inv ds e2
    | .ct => Inv ds e2
    | .bk => Q .nx e2
    | .rt x => Q (.rt x) e2) (hd : ∀ e, Inv [] e → Q .nx e) : ∀ (ds : List D) (e : En), Inv ds e → (match forL t body g ds e with | some p => Q p.1 p.2 | none => False)
  | [], e, h => hd e h
  | d :: ds, e, h => by
    have h1 := hs d ds e h
    show (match (t d e).bind fun e1 => (body g e1).bind fun r => (match r.1 with | .nx => forL t body g ds r.2 | .ct => forL t body g ds r.2 | .bk => some (.nx, r.2) | .rt x => some (.rt x, r.2)) with | some p => Q p.1 p.2 | none => False)
    cases ht : t d e with
    | none => rw [ht] at h1; exact h1.elim
    | some e1 =>
      rw [ht, wo_some] at h1
      obtain ⟨f, e2, h2, h3⟩ := WS.get h1
      simp only [Option.bind_some, h2]
      cases f with
      | nx => exact w_forL Inv hs hd ds e2 h3
      | ct => exact w_forL Inv hs hd ds e2 h3
      | bk => exact h3
      | rt x => exact h3
theorem w_forM {it : IM} {t : TM} {body : SM} {Q : Fl_ → En → Prop} (h : WI it g e fun ds e1 => ∃ Inv : List D → En → Prop, Inv ds e1 ∧ (∀ d ds e, Inv (d :: ds) e → Wo (t d e) fun e1 => WS body g e1 fun f e2 => match f with
    | .nx => Inv ds e2
    | .ct => Inv ds e2
    | .bk => Q .nx e2
    | .rt x => Q (.rt x) e2) ∧ ∀ e, Inv [] e → Q .nx e) : WS (forM it t body) g e Q := by
  obtain ⟨ds, e1, h1, Inv, h2, h3, h4⟩ := h.get
  unfold WS forM
  rw [h1]
  simp only [Option.bind_some]
  exact w_forL Inv h3 h4 ds e1 h2
theorem w_compL {t : TM} {c : BM} {m : EM} {sl : List Nat} {Q : List D → En → Prop} (Inv : List D → List D → En → Prop) (hs : ∀ d ds acc e, Inv (d :: ds) acc e → Wo (t d e) fun e1 => WB c g e1 fun b e2 => match b with
    | true => WE m g e2 fun r e3 => Inv ds (acc ++ [r.d]) (wipeE e3 sl)
    | false => Inv ds acc (wipeE e2 sl)) (hd : ∀ acc e, Inv [] acc e → Q acc e) : ∀ (ds acc : List D) (e : En), Inv ds acc e → (match compL t c m sl g ds e with | some p => Q (acc ++ p.1) p.2 | none => False)
  | [], acc, e, h => by
    show Q (acc ++ []) e
    rw [List.append_nil]
    exact hd acc e h
  | d :: ds, acc, e, h => by
    have h1 := hs d ds acc e h
    show (match (t d e).bind fun e1 => (c g e1).bind fun b => (if b.1 = true then (m g b.2).bind fun r => (compL t c m sl g ds (wipeE r.2 sl)).map fun p => (r.1.d :: p.1, p.2) else compL t c m sl g ds (wipeE b.2 sl)) with | some p => Q (acc ++ p.1) p.2 | none => False)
    cases ht : t d e with
    | none => rw [ht] at h1; exact h1.elim
    | some e1 =>
      rw [ht, wo_some] at h1
      obtain ⟨b, e2, h2, h3⟩ := WB.get h1
      simp only [Option.bind_some, h2]
      cases b with
      | false =>
        rw [if_neg (by simp)]
        exact w_compL Inv hs hd ds acc _ h3
      | true =>
        rw [if_pos rfl]
        obtain ⟨r, e3, h4, h5⟩ := WE.get h3
        simp only [h4, Option.bind_some]
        have ih := w_compL Inv hs hd ds (acc ++ [r.d]) _ h5
        cases hq : compL t c m sl g ds (wipeE e3 sl) with
        | none => rw [hq] at ih; exact ih.elim
        | some p =>
          rw [hq] at ih
          simpa using ih
theorem w_compM {it : IM} {t : TM} {c : BM} {m : EM} {sl : List Nat} {Q : R → En → Prop} (h : WI it g e fun ds e1 => ds.length < sizeLine ∧ calmSl e1 sl = true ∧ ∃ Inv : List D → List D → En → Prop, Inv ds [] (wipeE e1 sl) ∧ (∀ d ds acc e, Inv (d :: ds) acc e → Wo (t d e) fun e1 => WB c g e1 fun b e2 => match b with
    | true => WE m g e2 fun r e3 => Inv ds (acc ++ [r.d]) (wipeE e3 sl)
    | false => Inv ds acc (wipeE e2 sl)) ∧ ∀ acc e, Inv [] acc e → Q (.o (.list acc)) (backE e1 e sl)) : WE (compM it t c m sl) g e Q := by
  obtain ⟨ds, e1, h1, h2, h3, Inv, h4, h5, h6⟩ := h.get
  unfold WE compM
  rw [h1]
  simp only [Option.bind_some]
  rw [if_pos ⟨h2, h3⟩]
  have := w_compL Inv h5 (Q := fun acc e => Q (.o (.list acc)) (backE e1 e sl)) h6 ds [] _ h4
  cases hq : compL t c m sl g ds (wipeE e1 sl) with
  | none => rw [hq] at this; exact this.elim
  | some p => rw [hq] at this; exact this
/-- a comprehension whose parts leave the slots -/
theorem w_compP {it : IM} {t : TM} {c : BM} {m : EM} {sl : List Nat} {Q : R → En → Prop} (p : D → Bool) (f : D → D) (h : WI it g e fun ds e1 => ds.length < sizeLine ∧ calmSl e1 sl = true ∧ (∀ d ∈ ds, Wo (t d (wipeE e1 sl)) fun e2 => WB c g e2 fun b e3 => b = p d ∧ (if p d = true then WE m g e3 fun r e4 => r.d = f d ∧ wipeE e4 sl = wipeE e1 sl else wipeE e3 sl = wipeE e1 sl)) ∧
    Q (.o (.list ((ds.filter p).map f))) (backE e1 (wipeE e1 sl) sl)) : WE (compM it t c m sl) g e Q := by
  refine w_compM (h.mono fun ds e1 ⟨h1, h2, h3, h4⟩ => ⟨h1, h2, fun left acc e' => (∃ done, ds = done ++ left ∧ acc = (done.filter p).map f) ∧ e' = wipeE e1 sl, ⟨⟨[], rfl, rfl⟩, rfl⟩, ?_, ?_⟩)
  · rintro d left acc e' ⟨⟨done, e2, e3⟩, rfl⟩
    refine (h3 d (by rw [e2]; simp)).mono fun e5 h5 => h5.mono fun b e6 ⟨hb, h6⟩ => ?_
    subst hb
    cases hp : p d with
    | true =>
      rw [hp, if_pos rfl] at h6
      refine h6.mono fun r e7 ⟨h7, h8⟩ => ⟨⟨done ++ [d], by rw [e2]; simp, ?_⟩, h8⟩
      rw [e3, h7, List.filter_append, List.map_append]
      simp [hp]
    | false =>
      rw [hp, if_neg (by simp)] at h6
      refine ⟨⟨done ++ [d], by rw [e2]; simp, ?_⟩, h6⟩
      rw [e3, List.filter_append]
      simp [hp]
  · rintro acc e' ⟨⟨done, e2, e3⟩, rfl⟩
    rw [List.append_nil] at e2
    subst e2 e3
    exact h4
end
end RL
end
section
set_option Elab.async false
set_option linter.all false
set_option autoImplicit false
set_option maxRecDepth 100000
set_option maxHeartbeats 4000000
/-! SL: the same, with what comes behind shut, so that simp goes from the front -/
namespace RL
open PySem PySem.Spec L2
open PyProof.Rows hiding St
universe u
def Tg {α : Sort u} (a : α) : Type := Unit
def LE (m : EM) (g : G) (e : En) (Q : R → En → Prop) (x : Tg Q := ()) : Prop := WE m g e Q
def LB (m : BM) (g : G) (e : En) (Q : Bool → En → Prop) (x : Tg Q := ()) : Prop := WB m g e Q
def LS (m : SM) (g : G) (e : En) (Q : Fl_ → En → Prop) (x : Tg Q := ()) : Prop := WS m g e Q
def LI (m : IM) (g : G) (e : En) (Q : List D → En → Prop) (x : Tg Q := ()) : Prop := WI m g e Q
def LC (g : G) (f : Str) (as : List Ag) (Q : R → List D → Prop) (x : Tg Q := ()) : Prop := WC g f as Q
def LO (p : Opd) (g : G) (e : En) (Q : Nat ⊕ D → En → Prop) (x : Tg Q := ()) : Prop := WO p g e Q
def LV (ms : List EM) (g : G) (e : En) (Q : List D → En → Prop) (x : Tg Q := ()) : Prop := WV ms g e Q
def LR (ms : List EM) (g : G) (e : En) (Q : List R → En → Prop) (x : Tg Q := ()) : Prop := WR ms g e Q
def LA (ms : List ArM) (g : G) (e : En) (Q : List (Nat ⊕ D) → En → Prop) (x : Tg Q := ()) : Prop := WA ms g e Q
def LP (m : Option EM) (g : G) (e : En) (Q : Option Int → En → Prop) (x : Tg Q := ()) : Prop := WP m g e Q
def Lo {α : Type} (o : Option α) (Q : α → Prop) (x : Tg Q := ()) : Prop := Wo o Q
def Lb (b : Bool) (A B : Prop) (x : Tg A := ()) (y : Tg B := ()) : Prop := match b with
  | true => A
  | false => B
def Lr (r : R) (Q : Bool → Prop) (x : Tg Q := ()) : Prop := match r with
  | .v (.bool b) => Q b
  | _ => False
def Li (r : R) (Q : Int → Prop) (x : Tg Q := ()) : Prop := match r with
  | .v (.int b) => Q b
  | _ => False
def Lf (f : Fl_) (A : Prop) (Q : Fl_ → Prop) (x : Tg A := ()) (y : Tg Q := ()) : Prop := match f with
  | .nx => A
  | f => Q f
def La (A B : Prop) (x : Tg B := ()) : Prop := A ∧ B
@[simp ↓] theorem la_true {B : Prop} : La True B = B := by simp [La]
@[simp ↓] theorem la_false {B : Prop} : La False B = False := by simp [La]
@[simp ↓] theorem lo_some {α : Type} {a : α} {Q : α → Prop} : Lo (some a) Q = Q a := rfl
@[simp ↓] theorem lo_none {α : Type} {Q : α → Prop} : Lo (none : Option α) Q = False := rfl
@[simp ↓] theorem lb_t {A B : Prop} : Lb true A B = A := rfl
@[simp ↓] theorem lb_f {A B : Prop} : Lb false A B = B := rfl
@[simp ↓] theorem lb_not {b : Bool} {A B : Prop} : Lb (!b) A B = Lb b B A := by cases b <;> rfl
@[simp ↓] theorem lr_b {b : Bool} {Q : Bool → Prop} : Lr (.v (.bool b)) Q = Q b := rfl
@[simp ↓] theorem li_i {b : Int} {Q : Int → Prop} : Li (.v (.int b)) Q = Q b := rfl
@[simp ↓] theorem lf_nx {A : Prop} {Q : Fl_ → Prop} : Lf .nx A Q = A := rfl
@[simp ↓] theorem lf_bk {A : Prop} {Q : Fl_ → Prop} : Lf .bk A Q = Q .bk := rfl
@[simp ↓] theorem lf_ct {A : Prop} {Q : Fl_ → Prop} : Lf .ct A Q = Q .ct := rfl
@[simp ↓] theorem lf_rt {A : Prop} {Q : Fl_ → Prop} {r : R} : Lf (.rt r) A Q = Q (.rt r) := rfl
theorem lb_if {p : Prop} [Decidable p] {A B : Prop} : Lb (decide p) A B = if p then A else B := by
  by_cases h : p <;> simp [h, Lb]
@[simp ↓] theorem lo_ite {α : Type} {c : Prop} [Decidable c] {a : α} {Q : α → Prop} : Lo (if c then some a else none) Q = La c (Q a) := by
  by_cases h : c <;> simp [h, Lo, La]
@[simp ↓] theorem lo_iteL {α : Type} {c : Prop} [Decidable c] {a : α} {Q : α → Prop} : Lo (if c then none else some a) Q = La (¬ c) (Q a) := by
  by_cases h : c <;> simp [h, Lo, La]
@[simp ↓] theorem lo_map {α β : Type} {o : Option α} {f : α → β} {Q : β → Prop} : Lo (o.map f) Q = Lo o fun a => Q (f a) := by cases o <;> rfl
@[simp ↓] theorem lo_bind {α β : Type} {o : Option α} {f : α → Option β} {Q : β → Prop} : Lo (o.bind f) Q = Lo o fun a => Lo (f a) Q := by cases o <;> rfl
section
variable {g : G} {e : En}
@[simp ↓] theorem l_cM {d : D} {Q : R → En → Prop} : LE (cM d) g e Q = Q (.v d) e := rfl
@[simp ↓] theorem l_newDM {Q : R → En → Prop} : LE newDM g e Q = Q (.o (.dict [])) e := rfl
@[simp ↓] theorem l_trueM {Q : Bool → En → Prop} : LB trueM g e Q = Q true e := rfl
@[simp ↓] theorem l_nilM {Q : Fl_ → En → Prop} : LS nilM g e Q = Q .nx e := rfl
@[simp ↓] theorem l_bkM {Q : Fl_ → En → Prop} : LS bkM g e Q = Q .bk e := rfl
@[simp ↓] theorem l_ctM {Q : Fl_ → En → Prop} : LS ctM g e Q = Q .ct e := rfl
@[simp ↓] theorem l_retN {Q : Fl_ → En → Prop} : LS retN g e Q = Q (.rt (.v .none)) e := rfl
def Lvr (s : Option (Option Sl)) (e : En) (i : Nat) (Q : R → En → Prop) (x : Tg Q := ()) : Prop := vrQ s e i Q
def Lmv (s : Option (Option Sl)) (e : En) (i : Nat) (Q : R → En → Prop) (x : Tg Q := ()) : Prop := mvQ s e i Q
@[simp ↓] theorem lvr_val {d : D} {i : Nat} {Q : R → En → Prop} : Lvr (some (some (.val d))) e i Q = Q (.v d) e := rfl
@[simp ↓] theorem lvr_own {d : D} {i : Nat} {Q : R → En → Prop} : Lvr (some (some (.own d))) e i Q = Q (.v d) (e.set i (some (.val d))) := rfl
@[simp ↓] theorem lmv_val {d : D} {i : Nat} {Q : R → En → Prop} : Lmv (some (some (.val d))) e i Q = Q (.v d) e := rfl
@[simp ↓] theorem lmv_own {d : D} {i : Nat} {Q : R → En → Prop} : Lmv (some (some (.own d))) e i Q = Q (.o d) (e.set i none) := rfl
@[simp ↓] theorem l_vrM {i : Nat} {Q : R → En → Prop} : LE (vrM i) g e Q = Lvr e[i]? e i Q := w_vrM
@[simp ↓] theorem l_mvM {i : Nat} {Q : R → En → Prop} : LE (mvM i) g e Q = Lmv e[i]? e i Q := w_mvM
@[simp ↓] theorem lo_lz {i : Nat} {Q : Nat ⊕ D → En → Prop} : LO (.lz i) g e Q = Lo (getI e i) fun _ => Q (.inl i) e := wo_lz
@[simp ↓] theorem lo_eg {m : EM} {Q : Nat ⊕ D → En → Prop} : LO (.eg m) g e Q = LE m g e fun r e1 => Q (.inr r.d) e1 := rfl
@[simp ↓] theorem lv_nil {Q : List D → En → Prop} : LV [] g e Q = Q [] e := rfl
@[simp ↓] theorem lv_cons {m : EM} {ms : List EM} {Q : List D → En → Prop} : LV (m :: ms) g e Q = LE m g e fun r e1 => LV ms g e1 fun ds e2 => Q (r.d :: ds) e2 := rfl
@[simp ↓] theorem lr_nil {Q : List R → En → Prop} : LR [] g e Q = Q [] e := rfl
@[simp ↓] theorem lr_cons {m : EM} {ms : List EM} {Q : List R → En → Prop} : LR (m :: ms) g e Q = LE m g e fun r e1 => LR ms g e1 fun ds e2 => Q (r :: ds) e2 := rfl
@[simp ↓] theorem la_nil {Q : List (Nat ⊕ D) → En → Prop} : LA [] g e Q = Q [] e := rfl
@[simp ↓] theorem la_v {m : EM} {ms : List ArM} {Q : List (Nat ⊕ D) → En → Prop} : LA (.v m :: ms) g e Q = LE m g e fun r e1 => LA ms g e1 fun xs e2 => Q (.inr r.d :: xs) e2 := rfl
@[simp ↓] theorem la_b {i : Nat} {ms : List ArM} {Q : List (Nat ⊕ D) → En → Prop} : LA (.b i :: ms) g e Q = Lo (getI e i) fun _ => LA ms g e fun xs e2 => Q (.inl i :: xs) e2 := wa_b
@[simp ↓] theorem l_un {pa : Opd} {f : D → Option R} {Q : R → En → Prop} : LE (un pa f) g e Q = LO pa g e fun x e1 => Lo (getO e1 x) fun d => Lo (f d) fun r => Q r e1 := w_un
@[simp ↓] theorem l_bin {pa pb : Opd} {f : D → D → Option R} {Q : R → En → Prop} : LE (bin pa pb f) g e Q = LO pa g e fun x e1 => LO pb g e1 fun y e2 => Lo (getO e2 x) fun d => Lo (getO e2 y) fun d' => Lo (f d d') fun r => Q r e2 := w_bin
@[simp ↓] theorem l_opM1 {pa : Opd} {f : D → Option R} {Q : R → En → Prop} : LE (opM [pa] (op1L f)) g e Q = LO pa g e fun x e1 => Lo (getO e1 x) fun d => Lo (f d) fun r => Q r e1 := w_un
@[simp ↓] theorem l_opV {ms : List EM} {op : List D → Option R} {Q : R → En → Prop} : LE (opV ms op) g e Q = LV ms g e fun ds e1 => Lo (op ds) fun r => Q r e1 := w_opV
@[simp ↓] theorem l_callM {x : Str} {ps : List ArM} {Q : R → En → Prop} : LE (callM x ps) g e Q = LA ps g e fun xs e1 => Lo (getBs e1 xs) fun as => La (noDup (lentOf xs) = true) (LC g x as fun r bs => Q r (putB e1 ((lentOf xs).zip bs))) := w_callM
@[simp ↓] theorem l_tstM {m : EM} {Q : Bool → En → Prop} : LB (tstM m) g e Q = LE m g e fun r e1 => Lr r fun b => Q b e1 := w_tstM
@[simp ↓] theorem l_notM {m : BM} {Q : Bool → En → Prop} : LB (notM m) g e Q = LB m g e fun b e1 => Q (!b) e1 := w_notM
@[simp ↓] theorem l_andM {m n : BM} {Q : Bool → En → Prop} : LB (andM m n) g e Q = LB m g e fun b e1 => Lb b (LB n g e1 Q) (Q false e1) := w_andM
@[simp ↓] theorem l_orM {m n : BM} {Q : Bool → En → Prop} : LB (orM m n) g e Q = LB m g e fun b e1 => Lb b (Q true e1) (LB n g e1 Q) := w_orM
@[simp ↓] theorem l_ifM {t : BM} {m n : EM} {Q : R → En → Prop} : LE (ifM t m n) g e Q = LB t g e fun b e1 => Lb b (LE m g e1 Q) (LE n g e1 Q) := w_ifM
@[simp ↓] theorem l_andV {m n : EM} {Q : R → En → Prop} : LE (andV m n) g e Q = LE m g e fun r e1 => Lr r fun b => Lb b (LE n g e1 Q) (Q (.v (.bool false)) e1) := by
  refine (w_andV).trans ?_
  unfold LE
  congr 1
  funext r e1
  cases r with
  | o d => rfl
  | v d => cases d <;> first | rfl | (rename_i b; cases b <;> rfl)
@[simp ↓] theorem l_orV {m n : EM} {Q : R → En → Prop} : LE (orV m n) g e Q = LE m g e fun r e1 => Lr r fun b => Lb b (Q (.v (.bool true)) e1) (LE n g e1 Q) := by
  refine (w_orV).trans ?_
  unfold LE
  congr 1
  funext r e1
  cases r with
  | o d => rfl
  | v d => cases d <;> first | rfl | (rename_i b; cases b <;> rfl)
@[simp ↓] theorem l_notV {m : EM} {Q : R → En → Prop} : LE (notV m) g e Q = LE m g e fun r e1 => Lr r fun b => Q (.v (.bool (!b))) e1 := w_notV
@[simp ↓] theorem l_chM {ma mb mc : EM} {f f' : D → D → Option R} {Q : R → En → Prop} : LE (chM ma mb mc f f') g e Q = LE ma g e fun x e1 => LE mb g e1 fun y e2 => Lo (f x.d y.d) fun r => Lr r fun b => Lb b (LE mc g e2 fun z e3 => Lo (f' y.d z.d) fun r' => Lr r' fun b => Q (.v (.bool b)) e3) (Q (.v (.bool false)) e2) := by
  refine (w_chM).trans ?_
  unfold LE
  congr 1
  funext x e1
  congr 1
  funext y e2
  unfold Lo
  congr 1
  funext r
  cases r with
  | o d => rfl
  | v d => cases d <;> first | rfl | (rename_i b; cases b <;> rfl)
@[simp ↓] theorem l_setM {i : Nat} {m : EM} {Q : Fl_ → En → Prop} : LS (setM i m) g e Q = LE m g e fun r e1 => Lo (putSl e1 i r) fun e2 => Q .nx e2 := w_setM
@[simp ↓] theorem l_parM {is : List Nat} {ms : List EM} {Q : Fl_ → En → Prop} : LS (parM is ms) g e Q = LR ms g e fun rs e1 => Lo (putAll e1 is rs) fun e2 => Q .nx e2 := w_parM
@[simp ↓] theorem l_asgM {t : TM} {m : EM} {Q : Fl_ → En → Prop} : LS (asgM t m) g e Q = LE m g e fun r e1 => Lo (t r.d e1) fun e2 => Q .nx e2 := w_asgM
@[simp ↓] theorem l_retM {m : EM} {Q : Fl_ → En → Prop} : LS (retM m) g e Q = LE m g e fun r e1 => Q (.rt r) e1 := w_retM
@[simp ↓] theorem l_exprM {m : EM} {Q : Fl_ → En → Prop} : LS (exprM m) g e Q = LE m g e fun r e1 => Q .nx e1 := w_exprM
@[simp ↓] theorem l_seqM {m n : SM} {Q : Fl_ → En → Prop} : LS (seqM m n) g e Q = LS m g e fun f e1 => Lf f (LS n g e1 Q) fun f => Q f e1 := by
  refine (w_seqM).trans ?_
  show WS m g e _ = WS m g e _
  congr 1
@[simp ↓] theorem l_ifS {c : BM} {m n : SM} {Q : Fl_ → En → Prop} : LS (ifS c m n) g e Q = LB c g e fun b e1 => Lb b (LS m g e1 Q) (LS n g e1 Q) := w_ifS
@[simp ↓] theorem l_setIxM {i : Nat} {mi mv : EM} {Q : Fl_ → En → Prop} : LS (setIxM i mi mv) g e Q = LE mv g e fun z e1 => Lo (ourI e1 i) fun _ => LE mi g e1 fun y e2 => Lo (ourI e2 i) fun d => Lo (fSet d y.d z.d) fun d' => Q .nx (putB e2 [(i, d')]) := w_setIxM
@[simp ↓] theorem l_mutM {i : Nat} {okT : D → Bool} {ms : List EM} {f : D → List D → Option (D × D)} {Q : R → En → Prop} : LE (mutM i okT ms f) g e Q = Lo (ourI e i) fun d0 => La (okT d0 = true) (LV ms g e fun ds e1 => Lo (ourI e1 i) fun d => Lo (f d ds) fun r => Q (.v r.2) (putB e1 [(i, r.1)])) := w_mutM
@[simp ↓] theorem l_mtM {pa : Opd} {okT : D → Bool} {ms : List EM} {op : D → List D → Option R} {Q : R → En → Prop} : LE (mtM pa okT ms op) g e Q = LO pa g e fun x e1 => La (allO okT e1 [x] = true) (LV ms g e1 fun as e2 => Lo (getO e2 x) fun d => Lo (op d as) fun r => Q r e2) := w_mtM
@[simp ↓] theorem lp_none {Q : Option Int → En → Prop} : LP none g e Q = Q none e := rfl
@[simp ↓] theorem lp_some {m : EM} {Q : Option Int → En → Prop} : LP (some m) g e Q = LE m g e fun r e1 => Li r fun i => Q (some i) e1 := wp_some
@[simp ↓] theorem l_slM {pa : Opd} {lo hi : Option EM} {Q : R → En → Prop} : LE (slM pa lo hi) g e Q = LO pa g e fun x e1 => LP lo g e1 fun l e2 => LP hi g e2 fun u e3 => Lo (getO e3 x) fun d => Lo (opSl d l u) fun r => Q r e3 := w_slM
@[simp ↓] theorem l_itM {m : EM} {Q : List D → En → Prop} : LI (itM m) g e Q = LE m g e fun r e1 => Lo (itemsOf r.d) fun ds => Q ds e1 := w_itM
@[simp ↓] theorem l_enumM {m : EM} {Q : List D → En → Prop} : LI (enumM m) g e Q = LE m g e fun r e1 => Lo (seqOf r.d) fun ds => Q (numbered 0 ds) e1 := w_enumM
@[simp ↓] theorem l_zipM {ms : List EM} {Q : List D → En → Prop} : LI (zipM ms) g e Q = LV ms g e fun ds e1 => Lo (zipOf ds) fun ps => Q ps e1 := w_zipM
@[simp ↓] theorem l_rngM {ms : List EM} {Q : List D → En → Prop} : LI (rngM ms) g e Q = LV ms g e fun ds e1 => Lo (rngOf ds) fun ps => Q ps e1 := w_rngM
theorem l_compP {it : IM} {t : TM} {c : BM} {m : EM} {sl : List Nat} {Q : R → En → Prop} (p : D → Bool) (f : D → D) (h : LI it g e fun ds e1 => ds.length < sizeLine ∧ calmSl e1 sl = true ∧ (∀ d ∈ ds, Lo (t d (wipeE e1 sl)) fun e2 => LB c g e2 fun b e3 => b = p d ∧ (if p d = true then LE m g e3 fun r e4 => r.d = f d ∧ wipeE e4 sl = wipeE e1 sl else wipeE e3 sl = wipeE e1 sl)) ∧
    Q (.o (.list ((ds.filter p).map f))) (backE e1 (wipeE e1 sl) sl)) : LE (compM it t c m sl) g e Q := w_compP p f h
/-- .. without a condition -/
theorem l_compT {it : IM} {t : TM} {m : EM} {sl : List Nat} {Q : R → En → Prop} (f : D → D) (h : LI it g e fun ds e1 => ds.length < sizeLine ∧ calmSl e1 sl = true ∧ (∀ d ∈ ds, Lo (t d (wipeE e1 sl)) fun e2 => LE m g e2 fun r e4 => r.d = f d ∧ wipeE e4 sl = wipeE e1 sl) ∧
    Q (.o (.list (ds.map f))) (backE e1 (wipeE e1 sl) sl)) : LE (compM it t trueM m sl) g e Q := by
  refine l_compP (fun _ => true) f (WI.mono (g := g) (e := e) h fun ds e1 h1 => ⟨h1.1, h1.2.1, fun d hd => ?_, ?_⟩)
  · refine Wo.mono (h1.2.2.1 d hd) fun e2 h2 => ?_
    rw [l_trueM]
    exact ⟨rfl, by rw [if_pos rfl]; exact h2⟩
  · have : ds.filter (fun _ => true) = ds := List.filter_eq_self.mpr fun _ _ => rfl
    rw [this]; exact h1.2.2.2
theorem l_compA {it : IM} {t : TM} {c : BM} {m : EM} {sl : List Nat} {Q : R → En → Prop} (h : LI it g e fun ds e1 => ds.length < sizeLine ∧ calmSl e1 sl = true ∧ ∃ Inv : List D → List D → En → Prop, Inv ds [] (wipeE e1 sl) ∧ (∀ d ds acc e, Inv (d :: ds) acc e → Lo (t d e) fun e1 => LB c g e1 fun b e2 => match b with
    | true => LE m g e2 fun r e3 => Inv ds (acc ++ [r.d]) (wipeE e3 sl)
    | false => Inv ds acc (wipeE e2 sl)) ∧ ∀ acc e, Inv [] acc e → Q (.o (.list acc)) (backE e1 e sl)) : LE (compM it t c m sl) g e Q := w_compM h
theorem l_forA {it : IM} {t : TM} {body : SM} {Q : Fl_ → En → Prop} (h : LI it g e fun ds e1 => ∃ Inv : List D → En → Prop, Inv ds e1 ∧ (∀ d ds e, Inv (d :: ds) e → Lo (t d e) fun e1 => LS body g e1 fun f e2 => match f with
    | .nx => Inv ds e2
    | .ct => Inv ds e2
    | .bk => Q .nx e2
    | .rt x => Q (.rt x) e2) ∧ ∀ e, Inv [] e → Q .nx e) : LS (forM it t body) g e Q := w_forM h
theorem LC.mono {x : Str} {as : List Ag} {Q Q' : R → List D → Prop} (h : LC g x as Q) (i : ∀ r bs, Q r bs → Q' r bs) : LC g x as Q' := WC.mono h i
theorem LE.mono {m : EM} {Q Q' : R → En → Prop} (h : LE m g e Q) (i : ∀ r e', Q r e' → Q' r e') : LE m g e Q' := WE.mono h i
theorem LS.mono {m : SM} {Q Q' : Fl_ → En → Prop} (h : LS m g e Q) (i : ∀ r e', Q r e' → Q' r e') : LS m g e Q' := WS.mono h i
theorem LI.mono {m : IM} {Q Q' : List D → En → Prop} (h : LI m g e Q) (i : ∀ r e', Q r e' → Q' r e') : LI m g e Q' := WI.mono h i
end
end RL
end
section
set_option Elab.async false
set_option linter.all false
set_option autoImplicit false
set_option maxRecDepth 100000
set_option maxHeartbeats 4000000
/-! S1: the mirrors that laws share -/
namespace RL
open PySem PySem.Spec L2
open PyProof.Rows hiding St
def e_is_integer : DefE := ⟨"is_integer", [("value" : Str), ("low" : Str), ("high" : Str)], [("value" : Str), ("low" : Str), ("high" : Str)], [false, false, false], seqM (retM (andV (un (.lz 0) (opIsi .int)) (andV (notV (un (.lz 0) (opIsi .bool))) (chM (vrM 1) (vrM 0) (vrM 2) opLe opLe)))) (nilM)⟩
def e_is_name : DefE := ⟨"is_name", [("value" : Str)], [("value" : Str), ("sign" : Str)], [false], seqM (retM (andV (un (.lz 0) (opIsi .str)) (andV (chM (cM (.int 1)) (opM [.lz 0] (op1L opLen3)) (cM (.int 8)) opLe opLe) (opM [.eg (compM (itM (vrM 0)) (tgName 1) (trueM) (bin (.lz 1) (.eg (cM (.str "abcdefghijklmnopqrstuvwxyz"))) opIn2) [1])] (op1L opAll))))) (nilM)⟩
def e_is_pair : DefE := ⟨"is_pair", [("value" : Str)], [("value" : Str)], [false], seqM (retM (andV (un (.lz 0) (opIsi .tuple)) (andV (bin (.eg (opM [.lz 0] (op1L opLen3))) (.eg (cM (.int 2))) opEq) (callM "is_name" [.v (bin (.lz 0) (.eg (cM (.int 0))) opIx3)])))) (nilM)⟩
def e_rises : DefE := ⟨"rises", [("pairs" : Str)], [("pairs" : Str), ("one" : Str), ("other" : Str)], [false], seqM (retM (opM [.eg (compM (zipM [vrM 0, slM (.lz 0) (some (cM (.int 1))) none]) (tgTup [tgName 1, tgName 2]) (trueM) (bin (.eg (bin (.lz 1) (.eg (cM (.int 0))) opIx3)) (.eg (bin (.lz 2) (.eg (cM (.int 0))) opIx3)) opLt) [1, 2])] (op1L opAll))) (nilM)⟩
def e_is_within : DefE := ⟨"is_within", [("value" : Str), ("depth" : Str)], [("value" : Str), ("depth" : Str), ("word" : Str), ("rest" : Str), ("part" : Str)], [false, false], seqM (ifS (orM (notM (tstM (un (.lz 0) (opIsi .tuple)))) (orM (tstM (bin (.lz 0) (.eg (opV [] opTup)) opEq)) (orM (notM (tstM (un (.eg (bin (.lz 0) (.eg (cM (.int 0))) opIx3)) (opIsi .str)))) (tstM (bin (.lz 1) (.eg (cM (.int 1))) opLt))))) (seqM (retM (cM (.bool false))) (nilM)) (nilM)) (seqM (parM [2, 3] [bin (.lz 0) (.eg (cM (.int 0))) opIx3, slM (.lz 0) (some (cM (.int 1))) none]) (seqM (ifS (tstM (bin (.lz 2) (.eg (cM (.str "num"))) opEq)) (seqM (retM (andV (bin (.eg (opM [.lz 3] (op1L opLen3))) (.eg (cM (.int 1))) opEq) (callM "is_integer" [.v (bin (.lz 3) (.eg (cM (.int 0))) opIx3), .v (un (.eg (cM (.int 99))) opNeg), .v (cM (.int 99))]))) (nilM)) (nilM)) (seqM (ifS (tstM (bin (.lz 2) (.eg (opV [cM (.str "here"), cM (.str "up")] opTup)) opIn2)) (seqM (retM (andV (bin (.eg (opM [.lz 3] (op1L opLen3))) (.eg (cM (.int 1))) opEq) (callM "is_name" [.v (bin (.lz 3) (.eg (cM (.int 0))) opIx3)]))) (nilM)) (nilM)) (seqM (ifS (tstM (bin (.lz 2) (.eg (cM (.str "times"))) opEq)) (seqM (retM (andV (bin (.eg (opM [.lz 3] (op1L opLen3))) (.eg (cM (.int 2))) opEq) (andV (callM "is_integer" [.v (bin (.lz 3) (.eg (cM (.int 0))) opIx3), .v (un (.eg (cM (.int 99))) opNeg), .v (cM (.int 99))]) (callM "is_within" [.v (bin (.lz 3) (.eg (cM (.int 1))) opIx3), .v (bin (.lz 1) (.eg (cM (.int 1))) opSub)])))) (nilM)) (nilM)) (seqM (ifS (orM (andM (tstM (bin (.lz 2) (.eg (cM (.str "sum"))) opEq)) (tstM (chM (cM (.int 1)) (opM [.lz 3] (op1L opLen3)) (cM (.int 3)) opLe opLe))) (andM (tstM (bin (.lz 2) (.eg (cM (.str "first"))) opEq)) (tstM (bin (.eg (opM [.lz 3] (op1L opLen3))) (.eg (cM (.int 3))) opLe)))) (seqM (retM (opM [.eg (compM (itM (vrM 3)) (tgName 4) (trueM) (callM "is_within" [.v (vrM 4), .v (bin (.lz 1) (.eg (cM (.int 1))) opSub)]) [4])] (op1L opAll))) (nilM)) (nilM)) (seqM (retM (cM (.bool false))) (nilM)))))))⟩
def e_is_rule : DefE := ⟨"is_rule", [("value" : Str)], [("value" : Str)], [false], seqM (retM (callM "is_within" [.v (vrM 0), .v (cM (.int 5))])) (nilM)⟩
def e_parts_of : DefE := ⟨"parts_of", [("rule" : Str)], [("rule" : Str)], [false], seqM (ifS (tstM (bin (.eg (bin (.lz 0) (.eg (cM (.int 0))) opIx3)) (.eg (cM (.str "times"))) opEq)) (seqM (retM (opV [bin (.lz 0) (.eg (cM (.int 2))) opIx3] opTup)) (nilM)) (nilM)) (seqM (retM (ifM (tstM (bin (.eg (bin (.lz 0) (.eg (cM (.int 0))) opIx3)) (.eg (opV [cM (.str "sum"), cM (.str "first")] opTup)) opIn2)) (slM (.lz 0) (some (cM (.int 1))) none) (opV [] opTup))) (nilM))⟩
def e_named_in : DefE := ⟨"named_in", [("rule" : Str), ("words" : Str)], [("rule" : Str), ("words" : Str), ("found" : Str), ("part" : Str)], [false, false], seqM (setM 2 (ifM (tstM (bin (.eg (bin (.lz 0) (.eg (cM (.int 0))) opIx3)) (.lz 1) opIn2)) (opV [bin (.lz 0) (.eg (cM (.int 1))) opIx3] opLst) (opV [] opLst))) (seqM (forM (itM (callM "parts_of" [.v (vrM 0)])) (tgName 3) (seqM (setM 2 (bin (.lz 2) (.eg (callM "named_in" [.v (vrM 3), .v (vrM 1)])) opAdd)) (nilM))) (seqM (retM (mvM 2)) (nilM)))⟩
def e_names_in : DefE := ⟨"names_in", [("pairs" : Str)], [("pairs" : Str), ("found" : Str), ("kind" : Str), ("settings" : Str), ("name" : Str), ("rule" : Str)], [false], seqM (setM 1 (opV [] opLst)) (seqM (forM (itM (vrM 0)) (tgTup [tgName 2, tgName 3]) (seqM (forM (itM (vrM 3)) (tgTup [tgName 4, tgName 5]) (seqM (setM 1 (bin (.eg (bin (.lz 1) (.eg (opV [vrM 4] opLst)) opAdd)) (.eg (callM "named_in" [.v (vrM 5), .v (opV [cM (.str "here"), cM (.str "up")] opTup)])) opAdd)) (nilM))) (nilM))) (seqM (retM (un (.lz 1) opSortSet)) (nilM)))⟩
def e_are_settings : DefE := ⟨"are_settings", [("value" : Str)], [("value" : Str), ("pair" : Str)], [false], seqM (ifS (orM (notM (tstM (un (.lz 0) (opIsi .tuple)))) (tstM (bin (.eg (opM [.lz 0] (op1L opLen3))) (.eg (cM (.int 4))) opGt))) (seqM (retM (cM (.bool false))) (nilM)) (nilM)) (seqM (retM (andV (opM [.eg (compM (itM (vrM 0)) (tgName 1) (trueM) (andV (callM "is_pair" [.v (vrM 1)]) (callM "is_rule" [.v (bin (.lz 1) (.eg (cM (.int 1))) opIx3)])) [1])] (op1L opAll)) (callM "rises" [.v (vrM 0)]))) (nilM))⟩
def e_is_sheet : DefE := ⟨"is_sheet", [("value" : Str)], [("value" : Str), ("pair" : Str)], [false], seqM (ifS (orM (notM (tstM (un (.lz 0) (opIsi .tuple)))) (notM (tstM (chM (cM (.int 1)) (opM [.lz 0] (op1L opLen3)) (cM (.int 4)) opLe opLe)))) (seqM (retM (cM (.bool false))) (nilM)) (nilM)) (seqM (ifS (orM (notM (tstM (opM [.eg (compM (itM (vrM 0)) (tgName 1) (trueM) (andV (callM "is_pair" [.v (vrM 1)]) (callM "are_settings" [.v (bin (.lz 1) (.eg (cM (.int 1))) opIx3)])) [1])] (op1L opAll)))) (notM (tstM (callM "rises" [.v (vrM 0)])))) (seqM (retM (cM (.bool false))) (nilM)) (nilM)) (seqM (retM (bin (.eg (opM [.eg (callM "names_in" [.v (vrM 0)])] (op1L opLen3))) (.eg (cM (.int 4))) opLe)) (nilM)))⟩
def e_need_sheet : DefE := ⟨"need_sheet", [("value" : Str)], [("value" : Str)], [false], seqM (ifS (notM (tstM (callM "is_sheet" [.v (vrM 0)]))) (seqM (stuckM) (nilM)) (nilM)) (nilM)⟩
def e_names_of : DefE := ⟨"names_of", [("sheet" : Str)], [("sheet" : Str)], [false], seqM (exprM (callM "need_sheet" [.v (vrM 0)])) (seqM (retM (callM "names_in" [.v (vrM 0)])) (nilM))⟩
def e_is_way : DefE := ⟨"is_way", [("sheet" : Str), ("value" : Str)], [("sheet" : Str), ("value" : Str), ("kind" : Str)], [false, false], seqM (exprM (callM "need_sheet" [.v (vrM 0)])) (seqM (ifS (orM (notM (tstM (un (.lz 1) (opIsi .tuple)))) (notM (tstM (chM (cM (.int 1)) (opM [.lz 1] (op1L opLen3)) (cM (.int 10)) opLe opLe)))) (seqM (retM (cM (.bool false))) (nilM)) (nilM)) (seqM (retM (opM [.eg (compM (itM (vrM 1)) (tgName 2) (trueM) (andV (un (.lz 2) (opIsi .str)) (bin (.lz 2) (.eg (opM [.lz 0] (op1L opDict))) opIn2)) [2])] (op1L opAll))) (nilM)))⟩
def e_is_tree_within : DefE := ⟨"is_tree_within", [("kinds" : Str), ("value" : Str), ("depth" : Str)], [("kinds" : Str), ("value" : Str), ("depth" : Str), ("part" : Str)], [false, false, false], seqM (ifS (orM (notM (tstM (un (.lz 1) (opIsi .tuple)))) (orM (tstM (bin (.eg (opM [.lz 1] (op1L opLen3))) (.eg (cM (.int 2))) opNe)) (orM (notM (tstM (un (.eg (bin (.lz 1) (.eg (cM (.int 0))) opIx3)) (opIsi .str)))) (tstM (bin (.lz 2) (.eg (cM (.int 1))) opLt))))) (seqM (retM (cM (.bool false))) (nilM)) (nilM)) (seqM (ifS (orM (tstM (bin (.eg (bin (.lz 1) (.eg (cM (.int 0))) opIx3)) (.lz 0) opNotIn2)) (orM (notM (tstM (un (.eg (bin (.lz 1) (.eg (cM (.int 1))) opIx3)) (opIsi .tuple)))) (tstM (bin (.eg (opM [.eg (bin (.lz 1) (.eg (cM (.int 1))) opIx3)] (op1L opLen3))) (.eg (cM (.int 3))) opGt)))) (seqM (retM (cM (.bool false))) (nilM)) (nilM)) (seqM (retM (opM [.eg (compM (itM (bin (.lz 1) (.eg (cM (.int 1))) opIx3)) (tgName 3) (trueM) (callM "is_tree_within" [.v (vrM 0), .v (vrM 3), .v (bin (.lz 2) (.eg (cM (.int 1))) opSub)]) [3])] (op1L opAll))) (nilM)))⟩
def e_is_tree : DefE := ⟨"is_tree", [("sheet" : Str), ("value" : Str)], [("sheet" : Str), ("value" : Str), ("kind" : Str), ("settings" : Str)], [false, false], seqM (exprM (callM "need_sheet" [.v (vrM 0)])) (seqM (retM (callM "is_tree_within" [.v (compM (itM (vrM 0)) (tgTup [tgName 2, tgName 3]) (trueM) (vrM 2) [2, 3]), .v (vrM 1), .v (cM (.int 6))])) (nilM))⟩
def e__law_cell : DefE := ⟨"_law_cell", [("script" : Str), ("k" : Str)], [("script" : Str), ("k" : Str)], [false, false], seqM (ifS (tstM (bin (.lz 1) (.eg (opM [.lz 0] (op1L opLen3))) opLt)) (seqM (retM (bin (.lz 0) (.lz 1) opIx3)) (nilM)) (nilM)) (seqM (ifS (tstM (bin (.eg (opM [.lz 0] (op1L opLen3))) (.eg (cM (.int 0))) opEq)) (seqM (retM (bin (.eg (bin (.eg (cM (.int 7919))) (.lz 1) opMul)) (.eg (cM (.int 101))) opAdd)) (nilM)) (nilM)) (seqM (retM (bin (.eg (bin (.eg (bin (.lz 0) (.eg (bin (.lz 1) (.eg (opM [.lz 0] (op1L opLen3))) opMod)) opIx3)) (.eg (cM (.int 1000003))) opMod)) (.eg (bin (.eg (cM (.int 7919))) (.lz 1) opMul)) opAdd)) (nilM)))⟩
def e__law_draws : DefE := ⟨"_law_draws", [("script" : Str), ("k" : Str), ("many" : Str), ("base" : Str)], [("script" : Str), ("k" : Str), ("many" : Str), ("base" : Str), ("primes" : Str), ("cell" : Str), ("rest" : Str), ("row" : Str), ("j" : Str), ("mash" : Str)], [false, false, false, false], seqM (setM 4 (opV [cM (.int 2147483647), cM (.int 2147483629), cM (.int 2147483587), cM (.int 2147483579), cM (.int 2147483563), cM (.int 2147483549), cM (.int 2147483543), cM (.int 2147483497)] opTup)) (seqM (setM 5 (callM "_law_cell" [.v (vrM 0), .v (vrM 1)])) (seqM (setM 6 (cM (.int 0))) (seqM (ifS (tstM (bin (.lz 5) (.eg (bin (.eg (cM (.int 10))) (.eg (cM (.int 18))) opPow)) opGe)) (seqM (setM 6 (vrM 5)) (nilM)) (nilM)) (seqM (setM 7 (opV [] opLst)) (seqM (forM (rngM [vrM 2]) (tgName 8) (seqM (setM 9 (bin (.eg (bin (.lz 5) (.eg (bin (.lz 4) (.eg (bin (.lz 8) (.eg (cM (.int 8))) opMod)) opIx3)) opMod)) (.eg (bin (.eg (cM (.int 48271))) (.eg (bin (.eg (bin (.eg (cM (.int 2))) (.lz 8) opMul)) (.lz 8) opMul)) opAdd)) opMul)) (seqM (setM 9 (bin (.eg (bin (.lz 9) (.eg (bin (.eg (bin (.eg (cM (.int 7919))) (.eg (bin (.lz 8) (.eg (cM (.int 1))) opAdd)) opMul)) (.eg (bin (.lz 8) (.eg (cM (.int 1))) opAdd)) opMul)) opAdd)) (.eg (bin (.eg (cM (.int 104729))) (.lz 1) opMul)) opAdd)) (seqM (setM 9 (bin (.lz 9) (.eg (bin (.lz 4) (.eg (bin (.eg (bin (.eg (bin (.eg (cM (.int 3))) (.lz 8) opMul)) (.lz 1) opAdd)) (.eg (cM (.int 8))) opMod)) opIx3)) opMod)) (seqM (setM 9 (bin (.eg (bin (.eg (bin (.lz 9) (.lz 9) opMul)) (.lz 9) opMul)) (.eg (bin (.lz 4) (.eg (bin (.eg (bin (.lz 8) (.eg (cM (.int 5))) opAdd)) (.eg (cM (.int 8))) opMod)) opIx3)) opMod)) (seqM (ifS (tstM (bin (.lz 6) (.eg (cM (.int 0))) opGt)) (seqM (setM 9 (vrM 6)) (nilM)) (nilM)) (seqM (exprM (mutM 7 isLstD [bin (.lz 9) (.lz 3) opMod] fAppend)) (seqM (setM 6 (bin (.lz 6) (.lz 3) opDiv)) (nilM))))))))) (seqM (retM (mvM 7)) (nilM)))))))⟩
def e__law_bag : DefE := ⟨"_law_bag", [("script" : Str), ("k" : Str)], [("script" : Str), ("k" : Str)], [false, false], seqM (retM (callM "_law_draws" [.v (vrM 0), .v (vrM 1), .v (cM (.int 150)), .v (cM (.int 27720))])) (nilM)⟩
def e__law_take : DefE := ⟨"_law_take", [("bag" : Str), ("many" : Str)], [("bag" : Str), ("many" : Str), ("draw" : Str)], [true, false], seqM (setM 2 (ifM (tstM (bin (.lz 0) (.eg (opV [] opLst)) opNe)) (mutM 0 isLstD [cM (.int 0)] fPop) (cM (.int 0)))) (seqM (retM (bin (.eg (opM [.lz 2] (op1L opInt))) (.lz 1) opMod)) (nilM))⟩
def e__law_choice : DefE := ⟨"_law_choice", [("bag" : Str), ("some" : Str)], [("bag" : Str), ("some" : Str)], [true, false], seqM (retM (bin (.lz 1) (.eg (callM "_law_take" [.b 0, .v (opM [.lz 1] (op1L opLen3))])) opIx3)) (nilM)⟩
def e__law_rule : DefE := ⟨"_law_rule", [("bag" : Str), ("names" : Str), ("deep" : Str)], [("bag" : Str), ("names" : Str), ("deep" : Str), ("way" : Str), ("many" : Str), ("parts" : Str), ("part_so" : Str)], [true, false, false], seqM (setM 3 (callM "_law_take" [.b 0, .v (ifM (tstM (bin (.lz 2) (.eg (cM (.int 1))) opGt)) (cM (.int 10)) (cM (.int 4)))])) (seqM (ifS (tstM (bin (.lz 3) (.eg (cM (.int 0))) opEq)) (seqM (retM (opV [cM (.str "num"), callM "_law_choice" [.b 0, .v (opV [cM (.int 0), cM (.int 1), cM (.int 2), un (.eg (cM (.int 1))) opNeg, cM (.int 7), un (.eg (cM (.int 3))) opNeg, cM (.int 99), un (.eg (cM (.int 99))) opNeg] opLst)]] opTup)) (nilM)) (nilM)) (seqM (ifS (tstM (bin (.lz 3) (.eg (cM (.int 4))) opLt)) (seqM (retM (opV [callM "_law_choice" [.b 0, .v (opV [cM (.str "here"), cM (.str "up"), cM (.str "up")] opLst)], callM "_law_choice" [.b 0, .v (vrM 1)]] opTup)) (nilM)) (nilM)) (seqM (ifS (tstM (bin (.lz 3) (.eg (cM (.int 4))) opEq)) (seqM (retM (opV [cM (.str "times"), callM "_law_choice" [.b 0, .v (opV [cM (.int 2), un (.eg (cM (.int 1))) opNeg, cM (.int 3), cM (.int 0), cM (.int 1)] opLst)], callM "_law_rule" [.b 0, .v (vrM 1), .v (bin (.lz 2) (.eg (cM (.int 1))) opSub)]] opTup)) (nilM)) (nilM)) (seqM (setM 4 (callM "_law_choice" [.b 0, .v (ifM (tstM (bin (.lz 3) (.eg (cM (.int 7))) opLt)) (opV [cM (.int 2), cM (.int 2), cM (.int 1), cM (.int 3)] opLst) (opV [cM (.int 2), cM (.int 2), cM (.int 3), cM (.int 1), cM (.int 0)] opLst))])) (seqM (setM 5 (opM [.eg (compM (rngM [vrM 4]) (tgName 6) (trueM) (callM "_law_rule" [.b 0, .v (vrM 1), .v (bin (.lz 2) (.eg (cM (.int 1))) opSub)]) [6])] (op1L opTuple))) (seqM (retM (bin (.eg (opV [ifM (tstM (bin (.lz 3) (.eg (cM (.int 7))) opLt)) (cM (.str "sum")) (cM (.str "first"))] opTup)) (.lz 5) opAdd)) (nilM)))))))⟩
def e__law_sheet : DefE := ⟨"_law_sheet", [("bag" : Str), ("kinds_so" : Str), ("names_so" : Str)], [("bag" : Str), ("kinds_so" : Str), ("names_so" : Str), ("names" : Str), ("found" : Str), ("kind" : Str), ("settings" : Str), ("name" : Str)], [true, false, false], seqM (setM 3 (slM (.eg (opV [cM (.str "a"), cM (.str "b"), cM (.str "c"), cM (.str "longname")] opLst)) none (some (bin (.eg (cM (.int 1))) (.eg (callM "_law_take" [.b 0, .v (vrM 2)])) opAdd)))) (seqM (setM 4 (opV [] opLst)) (seqM (forM (itM (slM (.eg (opV [cM (.str "box"), cM (.str "cell"), cM (.str "list"), cM (.str "longkind")] opLst)) none (some (bin (.eg (cM (.int 1))) (.eg (callM "_law_take" [.b 0, .v (vrM 1)])) opAdd)))) (tgName 5) (seqM (setM 6 (opV [] opLst)) (seqM (forM (itM (vrM 3)) (tgName 7) (seqM (ifS (tstM (bin (.eg (callM "_law_take" [.b 0, .v (cM (.int 3))])) (.eg (cM (.int 0))) opGt)) (seqM (exprM (mutM 6 isLstD [opV [vrM 7, callM "_law_rule" [.b 0, .v (vrM 3), .v (callM "_law_choice" [.b 0, .v (opV [cM (.int 1), cM (.int 2), cM (.int 2), cM (.int 3)] opLst)])]] opTup] fAppend)) (nilM)) (nilM)) (nilM))) (seqM (exprM (mutM 4 isLstD [opV [vrM 5, opM [.lz 6] (op1L opTuple)] opTup] fAppend)) (nilM))))) (seqM (retM (opM [.lz 4] (op1L opTuple))) (nilM))))⟩
def e__law_behind : DefE := ⟨"_law_behind", [("rule" : Str), ("words" : Str)], [("rule" : Str), ("words" : Str), ("found" : Str), ("part" : Str)], [false, false], seqM (ifS (tstM (bin (.eg (bin (.lz 0) (.eg (cM (.int 0))) opIx3)) (.eg (opV [cM (.str "num"), cM (.str "here"), cM (.str "up")] opTup)) opIn2)) (seqM (retM (ifM (tstM (bin (.eg (bin (.lz 0) (.eg (cM (.int 0))) opIx3)) (.lz 1) opIn2)) (opV [bin (.lz 0) (.eg (cM (.int 1))) opIx3] opLst) (opV [] opLst))) (nilM)) (nilM)) (seqM (setM 2 (opV [] opLst)) (seqM (forM (itM (ifM (tstM (bin (.eg (bin (.lz 0) (.eg (cM (.int 0))) opIx3)) (.eg (cM (.str "times"))) opEq)) (slM (.lz 0) (some (cM (.int 2))) none) (slM (.lz 0) (some (cM (.int 1))) none))) (tgName 3) (seqM (setM 2 (bin (.lz 2) (.eg (callM "_law_behind" [.v (vrM 3), .v (vrM 1)])) opAdd)) (nilM))) (seqM (retM (mvM 2)) (nilM))))⟩
def e__law_names : DefE := ⟨"_law_names", [("sheet" : Str)], [("sheet" : Str), ("found" : Str), ("kind" : Str), ("settings" : Str), ("name" : Str), ("rule" : Str)], [false], seqM (setM 1 (opV [] opLst)) (seqM (forM (itM (vrM 0)) (tgTup [tgName 2, tgName 3]) (seqM (forM (itM (vrM 3)) (tgTup [tgName 4, tgName 5]) (seqM (setM 1 (bin (.eg (bin (.lz 1) (.eg (opV [vrM 4] opLst)) opAdd)) (.eg (callM "_law_behind" [.v (vrM 5), .v (opV [cM (.str "here"), cM (.str "up")] opTup)])) opAdd)) (nilM))) (nilM))) (seqM (retM (un (.lz 1) opSortSet)) (nilM)))⟩
def e__law_way : DefE := ⟨"_law_way", [("bag" : Str), ("sheet" : Str), ("most" : Str)], [("bag" : Str), ("sheet" : Str), ("most" : Str), ("kinds" : Str), ("kind" : Str), ("settings" : Str), ("kind_so" : Str)], [true, false, false], seqM (setM 3 (compM (itM (vrM 1)) (tgTup [tgName 4, tgName 5]) (trueM) (vrM 4) [4, 5])) (seqM (retM (opM [.eg (compM (rngM [bin (.eg (cM (.int 1))) (.eg (callM "_law_take" [.b 0, .v (vrM 2)])) opAdd]) (tgName 6) (trueM) (callM "_law_choice" [.b 0, .v (vrM 3)]) [6])] (op1L opTuple))) (nilM))⟩
def e__law_tree : DefE := ⟨"_law_tree", [("bag" : Str), ("kinds" : Str), ("deep" : Str)], [("bag" : Str), ("kinds" : Str), ("deep" : Str), ("parts" : Str), ("part_so" : Str)], [true, false, false], seqM (setM 3 (ifM (tstM (bin (.lz 2) (.eg (cM (.int 1))) opGt)) (callM "_law_choice" [.b 0, .v (opV [cM (.int 0), cM (.int 1), cM (.int 2), cM (.int 3)] opLst)]) (cM (.int 0)))) (seqM (retM (opV [callM "_law_choice" [.b 0, .v (vrM 1)], opM [.eg (compM (rngM [vrM 3]) (tgName 4) (trueM) (callM "_law_tree" [.b 0, .v (vrM 1), .v (bin (.lz 2) (.eg (cM (.int 1))) opSub)]) [4])] (op1L opTuple)] opTup)) (nilM))⟩
end RL
end
section
set_option Elab.async false
set_option linter.all false
set_option autoImplicit false
set_option maxRecDepth 100000
set_option maxHeartbeats 4000000
/-! S2: calls; calm data; what rules are -/
namespace RL
open PySem PySem.Spec L2
open PyProof.Rows hiding St

abbrev Has (dt : List DefE) (d : DefE) : Prop := dt.find? (fun e => e.x == d.x) = some d
def outQ (as : List Ag) (Q : R → List D → Prop) (f : Fl_) (e : En) : Prop := match f with
  | .rt r => Wo (backs as e) fun bs => Q r bs
  | .nx => Wo (backs as e) fun bs => Q (.v .none) bs
  | _ => False
@[simp] theorem outQ_rt {as : List Ag} {Q : R → List D → Prop} {r : R} {e : En} : outQ as Q (.rt r) e = Wo (backs as e) fun bs => Q r bs := rfl
@[simp] theorem outQ_nx {as : List Ag} {Q : R → List D → Prop} {e : En} : outQ as Q .nx e = Wo (backs as e) fun bs => Q (.v .none) bs := rfl
def outL (as : List Ag) (Q : R → List D → Prop) (f : Fl_) (e : En) (x : Tg Q := ()) : Prop := outQ as Q f e
@[simp ↓] theorem outL_rt {as : List Ag} {Q : R → List D → Prop} {r : R} {e : En} : outL as Q (.rt r) e = Lo (backs as e) fun bs => Q r bs := rfl
@[simp ↓] theorem outL_nx {as : List Ag} {Q : R → List D → Prop} {e : En} : outL as Q .nx e = Lo (backs as e) fun bs => Q (.v .none) bs := rfl
theorem WC.df {dt : List DefE} {wh n : Nat} {as : List Ag} {Q : R → List D → Prop} {d : DefE} (hf : Has dt d) (hl : as.length = d.ps.length) (h : WS d.m (gN dt wh n) (entry d.N as) (outQ as Q)) : WC (gN dt wh (n + 1)) d.x as Q := by
  obtain ⟨f, e, h1, h2⟩ := h.get
  have hc : (gN dt wh (n + 1)).call d.x as = (d.m (gN dt wh n) (entry d.N as)).bind (outOf as) := by
    show callD dt (gN dt wh n) d.x as = _
    unfold callD
    rw [hf]
    show runD d _ as = _
    unfold runD
    rw [if_pos hl]
  unfold WC
  rw [hc, h1]
  simp only [Option.bind_some]
  cases f with
  | nx =>
    show match (backs as e).map fun bs => ((.v .none : R), bs) with | some p => Q p.1 p.2 | none => False
    have h3 : Wo (backs as e) fun bs => Q (.v .none) bs := h2
    cases hb : backs as e with
    | none => rw [hb] at h3; exact h3.elim
    | some bs => rw [hb] at h3; exact h3
  | rt r =>
    show match (backs as e).map fun bs => (r, bs) with | some p => Q p.1 p.2 | none => False
    have h3 : Wo (backs as e) fun bs => Q r bs := h2
    cases hb : backs as e with
    | none => rw [hb] at h3; exact h3.elim
    | some bs => rw [hb] at h3; exact h3
  | bk => exact h2.elim
  | ct => exact h2.elim
theorem LC.df {dt : List DefE} {wh n : Nat} {as : List Ag} {Q : R → List D → Prop} {d : DefE} (hf : Has dt d) (hl : as.length = d.ps.length) (h : LS d.m (gN dt wh n) (entry d.N as) (outL as Q)) : LC (gN dt wh (n + 1)) d.x as Q := WC.df hf hl h
@[simp] theorem backs_nil {e : En} : backs [] e = some [] := by cases e <;> rfl
@[simp] theorem backs_v {d : D} {as : List Ag} {s : Option Sl} {e : En} : backs (.v d :: as) (s :: e) = backs as e := by cases s <;> rfl
@[simp] theorem backs_b {d d' : D} {as : List Ag} {e : En} : backs (.b d :: as) (some (.bor d') :: e) = (backs as e).map fun ds => d' :: ds := rfl
@[simp] theorem entry_eq {N : List Str} {as : List Ag} : entry N as = as.map agS ++ List.replicate (N.length - as.length) none := rfl
@[simp] theorem agS_v {d : D} : agS (.v d) = some (.val d) := rfl
@[simp] theorem agS_b {d : D} : agS (.b d) = some (.bor d) := rfl
@[simp] theorem R_dv {d : D} : (R.v d).d = d := rfl
@[simp] theorem R_do {d : D} : (R.o d).d = d := rfl
@[simp] theorem Sl_val {d : D} : (Sl.val d).d = d := rfl
@[simp] theorem Sl_own {d : D} : (Sl.own d).d = d := rfl
@[simp] theorem Sl_bor {d : D} : (Sl.bor d).d = d := rfl
@[simp] theorem R_slv {d : D} : (R.v d).sl = .val d := rfl
@[simp] theorem R_slo {d : D} : (R.o d).sl = .own d := rfl
theorem getI_eq {e : En} {i : Nat} {s : Sl} (h : e[i]? = some (some s)) : getI e i = some s.d := by
  unfold getI; rw [h]
@[simp] theorem getI_at {e : En} {i : Nat} : getI e i = (e[i]?).bind fun s => s.map Sl.d := by
  unfold getI
  generalize e[i]? = s
  cases s with
  | none => rfl
  | some s => cases s <;> rfl
@[simp] theorem getO_l {e : En} {i : Nat} : getO e (.inl i) = getI e i := rfl
@[simp] theorem getO_r {e : En} {d : D} : getO e (.inr d) = some d := rfl
@[simp] theorem getBs_nil {e : En} : getBs e [] = some [] := rfl
@[simp] theorem getBs_cons {e : En} {x : Nat ⊕ D} {xs : List (Nat ⊕ D)} : getBs e (x :: xs) = (getB e x).bind fun d => (getBs e xs).map fun ds => d :: ds := rfl
@[simp] theorem getB_r {e : En} {d : D} : getB e (.inr d) = some (.v d) := rfl
def ofB (s : Option (Option Sl)) : Option Ag := match s with
  | some (some (.own d)) => some (.b d)
  | some (some (.bor d)) => some (.b d)
  | _ => none
@[simp] theorem ofB_own {d : D} : ofB (some (some (.own d))) = some (.b d) := rfl
@[simp] theorem ofB_bor {d : D} : ofB (some (some (.bor d))) = some (.b d) := rfl
@[simp] theorem getB_l {e : En} {i : Nat} : getB e (.inl i) = ofB e[i]? := rfl
@[simp] theorem lentOf_nil : lentOf [] = [] := rfl
@[simp] theorem lentOf_l {i : Nat} {xs : List (Nat ⊕ D)} : lentOf (.inl i :: xs) = i :: lentOf xs := rfl
@[simp] theorem lentOf_r {d : D} {xs : List (Nat ⊕ D)} : lentOf (.inr d :: xs) = lentOf xs := rfl
@[simp] theorem noDup_nil : noDup [] = true := rfl
@[simp] theorem noDup_cons {i : Nat} {is : List Nat} : noDup (i :: is) = (!is.contains i && noDup is) := rfl
@[simp] theorem putB_nil {e : En} : putB e [] = e := by cases e <;> rfl
@[simp] theorem putB_cons {e : En} {i : Nat} {d : D} {r : List (Nat × D)} : putB e ((i, d) :: r) = putB (e.set i (putS d ((e[i]?).getD none))) r := by cases e <;> rfl
@[simp] theorem putS_own {d d' : D} : putS d (some (.own d')) = some (.own d) := rfl
@[simp] theorem putS_bor {d d' : D} : putS d (some (.bor d')) = some (.bor d) := rfl
@[simp] theorem isBor_none : isBor (some none) = false := rfl
@[simp] theorem isBor_val {d : D} : isBor (some (some (.val d))) = false := rfl
@[simp] theorem isBor_own {d : D} : isBor (some (some (.own d))) = false := rfl
@[simp] theorem putSl_at {e : En} {i : Nat} {r : R} : putSl e i r = if isBor e[i]? = true ∨ ¬ i < e.length then none else some (e.set i (some r.sl)) := rfl
def ofOur (s : Option (Option Sl)) : Option D := match s with
  | some (some (.own d)) => some d
  | some (some (.bor d)) => some d
  | _ => none
@[simp] theorem ofOur_own {d : D} : ofOur (some (some (.own d))) = some d := rfl
@[simp] theorem ofOur_bor {d : D} : ofOur (some (some (.bor d))) = some d := rfl
@[simp] theorem ourI_at {e : En} {i : Nat} : ourI e i = ofOur e[i]? := by
  unfold ourI ofOur
  generalize e[i]? = s
  cases s with
  | none => rfl
  | some s => cases s with
    | none => rfl
    | some s => cases s <;> rfl
@[simp] theorem tgName_at {i : Nat} {d : D} {e : En} : tgName i d e = putSl e i (.v d) := rfl
@[simp] theorem tgTup_at {ts : List TM} {ds : List D} {e : En} : tgTup ts (.tuple ds) e = tgAll ts ds e := rfl
@[simp] theorem tgAll_nil {e : En} : tgAll [] [] e = some e := rfl
@[simp] theorem tgAll_cons {t : TM} {ts : List TM} {d : D} {ds : List D} {e : En} : tgAll (t :: ts) (d :: ds) e = (t d e).bind fun e1 => tgAll ts ds e1 := rfl
@[simp] theorem wipeE_nil {e : En} : wipeE e [] = e := rfl
@[simp] theorem wipeE_cons {e : En} {v : Nat} {vs : List Nat} : wipeE e (v :: vs) = (wipeE e vs).set v none := rfl
@[simp] theorem backE_nil {e0 e : En} : backE e0 e [] = e := rfl
@[simp] theorem backE_cons {e0 e : En} {v : Nat} {vs : List Nat} : backE e0 e (v :: vs) = (backE e0 e vs).set v ((e0[v]?).getD none) := rfl
@[simp] theorem putAll_nil {e : En} : putAll e [] [] = some e := rfl
@[simp] theorem putAll_cons {e : En} {i : Nat} {is : List Nat} {r : R} {rs : List R} : putAll e (i :: is) (r :: rs) = (putSl e i r).bind fun e1 => putAll e1 is rs := rfl
@[simp] theorem opTup_at {ds : List D} : opTup ds = if ds.length ≤ sizeLine then some (.v (.tuple ds)) else none := rfl
@[simp] theorem opLst_at {ds : List D} : opLst ds = if ds.length ≤ sizeLine then some (.o (.list ds)) else none := rfl
@[simp] theorem lit_inj (a b : String) : (Str.ofString a = Str.ofString b) ↔ a = b := by
  constructor
  · intro h
    rw [Str.ofString_eq_toList, Str.ofString_eq_toList] at h
    have h1 : a.toList.map Char.toNat = b.toList.map Char.toNat := by
      have := congrArg Str.cps h
      simpa using this
    have h2 : a.toList = b.toList := by
      refine List.map_inj_right (f := Char.toNat) ?_ |>.mp h1
      intro x y hxy
      exact Char.toNat_inj.mp hxy
    exact String.toList_inj.mp h2
  · rintro rfl; rfl
@[simp] theorem lit_beq (a b : String) : (Str.ofString a == Str.ofString b) = decide (a = b) := by
  rw [Bool.eq_iff_iff]
  simp

/-! ### calm data -/
def Gd (m : Nat) : Nat → D → Prop
  | _, .none => True
  | _, .bool _ => True
  | _, .int _ => True
  | _, .str s => PyData.strOk s = true ∧ s.length ≤ 1000
  | n + 1, .tuple ds => ds.length ≤ m ∧ ∀ d ∈ ds, Gd m n d
  | n + 1, .list ds => ds.length ≤ m ∧ ∀ d ∈ ds, Gd m n d
  | _, _ => False
theorem canAll : ∀ {ds : List D}, (∀ d ∈ ds, d.canLay0 = true) → PyData.canLayAll0 ds = true
  | [], _ => by simp [PyData.canLayAll0]
  | d :: ds, h => by simp [PyData.canLayAll0, h d (by simp), canAll (ds := ds) (fun x hx => h x (by simp [hx]))]
theorem depAll {n : Nat} : ∀ {ds : List D}, (∀ d ∈ ds, d.depth ≤ n) → PyData.depthAll ds ≤ n
  | [], _ => by simp [PyData.depthAll]
  | d :: ds, h => by
    have h1 := h d (by simp)
    have h2 := depAll (ds := ds) (fun x hx => h x (by simp [hx]))
    simp [PyData.depthAll]; omega
theorem Gd.can {m : Nat} : ∀ {n : Nat} {d : D}, Gd m n d → d.canLay0 = true
  | n, .none, _ => by simp [PyData.canLay0]
  | n, .bool _, _ => by simp [PyData.canLay0]
  | n, .int _, _ => by simp [PyData.canLay0]
  | n, .str s, h => by
    have : PyData.strOk s = true ∧ s.length ≤ 1000 := by cases n <;> exact h
    simp [PyData.canLay0, this.1]
  | n + 1, .tuple ds, h => by
    have h' : ds.length ≤ m ∧ ∀ d ∈ ds, Gd m n d := h
    simp only [PyData.canLay0]
    exact canAll fun d hd => Gd.can (h'.2 d hd)
  | n + 1, .list ds, h => by
    have h' : ds.length ≤ m ∧ ∀ d ∈ ds, Gd m n d := h
    simp only [PyData.canLay0]
    exact canAll fun d hd => Gd.can (h'.2 d hd)
  | 0, .tuple _, h => h.elim
  | 0, .list _, h => h.elim
  | 0, .dict _, h => h.elim
  | _ + 1, .dict _, h => h.elim
theorem Gd.dep {m : Nat} : ∀ {n : Nat} {d : D}, Gd m n d → d.depth ≤ n
  | n, .none, _ => by simp [PyData.depth]
  | n, .bool _, _ => by simp [PyData.depth]
  | n, .int _, _ => by simp [PyData.depth]
  | n, .str s, h => by simp [PyData.depth]
  | n + 1, .tuple ds, h => by
    have h' : ds.length ≤ m ∧ ∀ d ∈ ds, Gd m n d := h
    have := depAll fun d hd => Gd.dep (h'.2 d hd)
    simp only [PyData.depth]; omega
  | n + 1, .list ds, h => by
    have h' : ds.length ≤ m ∧ ∀ d ∈ ds, Gd m n d := h
    have := depAll fun d hd => Gd.dep (h'.2 d hd)
    simp only [PyData.depth]; omega
  | 0, .tuple _, h => h.elim
  | 0, .list _, h => h.elim
  | 0, .dict _, h => h.elim
  | _ + 1, .dict _, h => h.elim
theorem Gd.up {m : Nat} : ∀ {n : Nat} {d : D}, Gd m n d → ∀ {n' m' : Nat}, n ≤ n' → m ≤ m' → Gd m' n' d
  | n, .none, _, n', _, _, _ => by cases n' <;> trivial
  | n, .bool _, _, n', _, _, _ => by cases n' <;> trivial
  | n, .int _, _, n', _, _, _ => by cases n' <;> trivial
  | n, .str s, h, n', _, _, _ => by
    have : PyData.strOk s = true ∧ s.length ≤ 1000 := by cases n <;> exact h
    cases n' <;> exact this
  | n + 1, .tuple ds, h, n' + 1, m', h1, h2 => by
    have h' : ds.length ≤ m ∧ ∀ d ∈ ds, Gd m n d := h
    exact ⟨by omega, fun d hd => (h'.2 d hd).up (by omega) h2⟩
  | n + 1, .list ds, h, n' + 1, m', h1, h2 => by
    have h' : ds.length ≤ m ∧ ∀ d ∈ ds, Gd m n d := h
    exact ⟨by omega, fun d hd => (h'.2 d hd).up (by omega) h2⟩
  | n + 1, .tuple _, _, 0, _, h, _ => by omega
  | n + 1, .list _, _, 0, _, h, _ => by omega
  | 0, .tuple _, h, _, _, _, _ => h.elim
  | 0, .list _, h, _, _, _, _ => h.elim
  | 0, .dict _, h, _, _, _, _ => h.elim
  | _ + 1, .dict _, h, _, _, _, _ => h.elim
theorem Gd.shp {m n : Nat} {d : D} (h : Gd m n d) (hn : n ≤ 64) : SeqAt.shaped d = true := by
  unfold SeqAt.shaped
  have := h.dep
  rw [h.can, decide_eq_true (by omega)]; rfl
end RL
end
section
set_option Elab.async false
set_option linter.all false
set_option autoImplicit false
set_option maxRecDepth 100000
set_option maxHeartbeats 4000000
/-! S3: what names and rules are -/
namespace RL
open PySem PySem.Spec L2
open PyProof.Rows hiding St

@[simp] theorem opNeg_int {i : Int} : opNeg (.int i) = some (.v (.int (-i))) := rfl
@[simp] theorem opAdd_int {i j : Int} : opAdd (.int i) (.int j) = some (.v (.int (i + j))) := rfl
@[simp] theorem opSub_int {i j : Int} : opSub (.int i) (.int j) = some (.v (.int (i - j))) := rfl
@[simp] theorem opLt_int {i j : Int} : opLt (.int i) (.int j) = some (.v (.bool (decide (i < j)))) := rfl
@[simp] theorem opLe_int {i j : Int} : opLe (.int i) (.int j) = some (.v (.bool (decide (i ≤ j)))) := rfl
@[simp] theorem opGt_int {i j : Int} : opGt (.int i) (.int j) = some (.v (.bool (decide (j < i)))) := rfl
@[simp] theorem opGe_int {i j : Int} : opGe (.int i) (.int j) = some (.v (.bool (decide (j ≤ i)))) := rfl
@[simp] theorem opLen3_tup {ds : List D} : opLen3 (.tuple ds) = some (.v (.int ds.length)) := rfl
@[simp] theorem opLen3_lst {ds : List D} : opLen3 (.list ds) = some (.v (.int ds.length)) := rfl
@[simp] theorem opLen3_str {z : Str} : opLen3 (.str z) = if z.length ≤ sizeLine then some (.v (.int z.length)) else none := rfl
@[simp] theorem opIx3_tup {ds : List D} {i : Int} : opIx3 (.tuple ds) (.int i) = (atI ds i).map .v := rfl
@[simp] theorem opIx3_lst {ds : List D} {i : Int} : opIx3 (.list ds) (.int i) = (atI ds i).map .v := rfl
theorem opSl_tup {ds : List D} {lo hi : Option Int} : opSl (.tuple ds) lo hi = some (.v (.tuple ((ds.drop (HT.sIx ds.length 0 lo)).take (HT.sIx ds.length ds.length hi - HT.sIx ds.length 0 lo)))) := rfl
theorem opSl_tail {d : D} {ds : List D} : opSl (.tuple (d :: ds)) (some 1) none = some (.v (.tuple ds)) := by
  rw [opSl_tup]
  have h1 : HT.sIx (d :: ds).length 0 (some 1) = 1 := by
    simp [HT.sIx]
  have h2 : HT.sIx (d :: ds).length (d :: ds).length none = ds.length + 1 := by simp [HT.sIx]
  rw [h1, h2]
  simp
theorem ixN_nat {n i : Nat} (h : i < n) : ixN n (i : Int) = some i := by
  unfold ixN
  have h0 : ¬ (i : Int) < 0 := by omega
  simp [h0, h]
@[simp] theorem atI_0 {α : Type} {x : α} {xs : List α} : atI (x :: xs) 0 = some x := atI_nat (j := 0) rfl
@[simp] theorem atI_1 {α : Type} {x y : α} {xs : List α} : atI (x :: y :: xs) 1 = some y := atI_nat (j := 1) rfl
@[simp] theorem atI_2 {α : Type} {x y z : α} {xs : List α} : atI (x :: y :: z :: xs) 2 = some z := atI_nat (j := 2) rfl
theorem boolsOf_map {α : Type} {q : α → Bool} : ∀ (ds : List α), boolsOf (ds.map fun d => .bool (q d)) = some (ds.map q)
  | [] => rfl
  | d :: ds => by simp [boolsOf, boolsOf_map ds]
@[simp] theorem opAll_map {α : Type} {q : α → Bool} {ds : List α} : opAll (.list (ds.map fun d => .bool (q d))) = some (.v (.bool (ds.all q))) := by
  show ((boolsOf (ds.map fun d => .bool (q d))).map fun bs => (.v (.bool (bs.all id)) : R)) = _
  rw [boolsOf_map]
  simp [List.all_map]
@[simp] theorem filter_tt {α : Type} {ds : List α} : ds.filter (fun _ => true) = ds := List.filter_eq_self.mpr fun _ _ => rfl
theorem sizeLine_big : 1000000 < sizeLine := by decide
@[simp] theorem len_ok {n : Nat} (h : n ≤ 1000) : n ≤ sizeLine := by have := sizeLine_big; omega
@[simp] theorem len_ok' {n : Nat} (h : n ≤ 1000) : n < sizeLine := by have := sizeLine_big; omega
def inB (lo hi : Int) : D → Bool
  | .int i => decide (lo ≤ i) && decide (i ≤ hi)
  | _ => false
def isNum : D → Bool := inB (-99) 99
def isAz (c : Nat) : Bool := decide (97 ≤ c) && decide (c ≤ 122)
def isNmS (s : Str) : Bool := decide (1 ≤ s.length) && decide (s.length ≤ 8) && s.cps.toList.all isAz
def isNm : D → Bool
  | .str s => isNmS s
  | _ => false
section
variable {dt : List DefE} {wh : Nat}
theorem sp_is_integer (hf : Has dt e_is_integer) {n : Nat} {v : D} (hv : v.canLay0 = true) {lo hi : Int} :
    LC (gN dt wh (n + 1)) "is_integer" [.v v, .v (.int lo), .v (.int hi)] fun r bs => r = .v (.bool (inB lo hi v)) ∧ bs = [] := by
  refine LC.df hf rfl ?_
  clear hf
  cases v <;> simp [e_is_integer, opIsi, isTy, hv, PyData.isInt, PyData.isBool, inB]
  rename_i i
  by_cases h : lo ≤ i <;> simp [h]
theorem Gd.str {m n : Nat} {s : Str} (h : Gd m n (.str s)) : PyData.strOk s = true ∧ s.length ≤ 1000 := by cases n <;> exact h
theorem letters_in (c : Nat) : decide (c ∈ (Str.ofString "abcdefghijklmnopqrstuvwxyz").cps.toList) = isAz c := by
  rw [Str.ofString_eq_toList]
  have : ("abcdefghijklmnopqrstuvwxyz".toList.map Char.toNat) = (List.range 26).map (fun i => i + 97) := by decide +kernel
  simp only [List.toList_toArray, this]
  unfold isAz
  rw [Bool.eq_iff_iff]
  simp
  constructor
  · rintro ⟨a, h1, rfl⟩; omega
  · intro h; exact ⟨c - 97, by omega, by omega⟩
theorem opIn2_str {a b : Str} : opIn2 (.str a) (.str b) = opIn (.str a) (.str b) := rfl
theorem opIn_az (c : Nat) : opIn2 (.str ⟨#[c]⟩) (.str (Str.ofString "abcdefghijklmnopqrstuvwxyz")) = some (.v (.bool (isAz c))) := by
  rw [opIn2_str]
  unfold opIn
  simp only [letters_in]
theorem sp_is_name (hf : Has dt e_is_name) {n : Nat} {m k : Nat} {v : D} (hv : Gd m k v) :
    LC (gN dt wh (n + 1)) "is_name" [.v v] fun r bs => r = .v (.bool (isNm v)) ∧ bs = [] := by
  refine LC.df hf rfl ?_
  clear hf
  have hc := hv.can
  cases v <;> simp [e_is_name, opIsi, isTy, hc, PyData.isStr, isNm]
  rename_i s
  have hs := hv.str
  have hl : s.cps.size ≤ 1000 := hs.2
  by_cases h1 : 1 ≤ (s.length : Int)
  · by_cases h2 : (s.length : Int) ≤ 8
    · simp [h1, h2, len_ok hs.2]
      refine l_compT (fun d => .bool (match d with | .str z => z.cps.toList.all isAz | _ => false)) ?_
      simp [itemsOf, seqOf, signs, calmSl, opIn_az]
      refine ⟨len_ok' hl, ?_⟩
      have h3 : 1 ≤ s.length := by omega
      have h4 : s.length ≤ 8 := by omega
      simp [isNmS, h3, h4, Function.comp_def]
    · have h3 : ¬ s.length ≤ 8 := by omega
      simp [h1, h2, h3, len_ok hs.2, isNmS]
  · have h3 : ¬ 1 ≤ s.length := by omega
    simp [h1, h3, len_ok hs.2, isNmS]
@[simp] theorem eqv_str {a b : Str} : PyData.eqv (.str a) (.str b) = decide (a = b) := by
  rw [Bool.eq_iff_iff]; simp [PyData.eqv]
@[simp] theorem eqv_nil {ds : List D} : PyData.eqv (.tuple ds) (.tuple []) = ds.isEmpty := by cases ds <;> simp [PyData.eqv, PyData.eqvAll]
@[simp] theorem shp_int {i : Int} : SeqAt.shaped (.int i) = true := by simp [SeqAt.shaped, PyData.canLay0, PyData.depth]
@[simp] theorem shp_bool {i : Bool} : SeqAt.shaped (.bool i) = true := by simp [SeqAt.shaped, PyData.canLay0, PyData.depth]
@[simp] theorem shp_nil : SeqAt.shaped (.tuple []) = true := by simp [SeqAt.shaped, PyData.canLay0, PyData.depth, PyData.canLayAll0, PyData.depthAll]
theorem strOk_lit (a : String) : PyData.strOk (Str.ofString a) = true := by
  rw [Str.ofString_eq_toList]
  simp [PyData.strOk]
  intro x _
  have h : x.toNat.isValidChar := x.valid
  unfold Nat.isValidChar at h
  omega
@[simp] theorem shp_lit (a : String) : SeqAt.shaped (.str (Str.ofString a)) = true := by simp [SeqAt.shaped, PyData.canLay0, PyData.depth, strOk_lit]
@[simp] theorem opEq_int {i j : Int} : opEq (.int i) (.int j) = some (.v (.bool (decide (i = j)))) := by
  unfold opEq
  rw [if_pos ⟨shp_int, shp_int⟩]
  simp [PyData.eqv]
  rw [Bool.eq_iff_iff]; simp
theorem opIn_pair {w a b : Str} : opIn2 (.str w) (.tuple [.str a, .str b]) = if PyData.strOk w = true ∧ PyData.strOk a = true ∧ PyData.strOk b = true then some (.v (.bool (decide (a = w) || decide (b = w)))) else none := by
  unfold opIn2 opIn
  simp [PyData.canLay0, PyData.depth, PyData.canLayAll0]
@[simp] theorem strOk_lit' (a : String) : PyData.strOk (Str.ofString a) = true := strOk_lit a
theorem opEq_str {a b : Str} (h1 : PyData.strOk a = true) (h2 : PyData.strOk b = true) : opEq (.str a) (.str b) = some (.v (.bool (decide (a = b)))) := by
  unfold opEq
  rw [if_pos ⟨by simp [SeqAt.shaped, PyData.canLay0, PyData.depth, h1], by simp [SeqAt.shaped, PyData.canLay0, PyData.depth, h2]⟩, eqv_str]
def one (f : D → Bool) : List D → Bool
  | [x] => f x
  | _ => false
def two (f : D → D → Bool) : List D → Bool
  | [x, y] => f x y
  | _ => false
@[simp] theorem one_1 {f : D → Bool} {x : D} : one f [x] = f x := rfl
@[simp] theorem two_2 {f : D → D → Bool} {x y : D} : two f [x, y] = f x y := rfl
theorem one_no {f : D → Bool} {r : List D} (h : ¬ r.length = 1) : one f r = false := by
  match r, h with
  | [], _ => rfl
  | [x], h => exact absurd rfl h
  | _ :: _ :: _, _ => rfl
theorem two_no {f : D → D → Bool} {r : List D} (h : ¬ r.length = 2) : two f r = false := by
  match r, h with
  | [], _ => rfl
  | [x], _ => rfl
  | [_, _], h => exact absurd rfl h
  | _ :: _ :: _ :: _, _ => rfl
def isW : Nat → D → Bool
  | n + 1, .tuple (.str w :: r) =>
    if w = "num" then one isNum r
    else if w = "here" ∨ w = "up" then one isNm r
    else if w = "times" then two (fun x y => isNum x && isW n y) r
    else if (w = "sum" ∧ 1 ≤ r.length ∧ r.length ≤ 3) ∨ (w = "first" ∧ r.length ≤ 3) then r.all (isW n)
    else false
  | _, _ => false
theorem Gd.tup {m n : Nat} {ds : List D} (h : Gd m n (.tuple ds)) : ∃ n', n = n' + 1 ∧ ds.length ≤ m ∧ ∀ d ∈ ds, Gd m n' d := by
  cases n with
  | zero => exact h.elim
  | succ n => exact ⟨n, rfl, h⟩
theorem sp_is_within (hi : Has dt e_is_integer) (hn : Has dt e_is_name) (hf : Has dt e_is_within) : ∀ {n lv m k : Nat} {v : D}, Gd m k v → k ≤ 64 → m ≤ 1000 → n + 2 ≤ lv →
    LC (gN dt wh lv) "is_within" [.v v, .v (.int (n : Nat))] fun r bs => r = .v (.bool (isW n v)) ∧ bs = []
  | n, 0, m, k, v, hv, hk, hm, hl => by omega
  | n, lv + 1, m, k, v, hv, hk, hm, hl => by
    refine LC.df hf rfl ?_
    have hc := hv.can
    have hs := hv.shp hk
    cases v with
    | tuple ds =>
      obtain ⟨k, rfl, h1, h2⟩ := hv.tup
      cases ds with
      | nil => cases n <;> simp [e_is_within, opIsi, isTy, hc, hs, PyData.isTuple, isW, opEq]
      | cons d ds =>
        have hd := h2 d (by simp)
        have hdc := hd.can
        cases d with
        | str w =>
          simp [e_is_within, opIsi, isTy, hc, hs, PyData.isTuple, opEq, hdc, PyData.isStr]
          cases n with
          | zero => simp [isW]
          | succ n =>
            have hn1 : ¬ ((n : Int) + 1 < 1) := by omega
            have hdl : ds.length ≤ 1000 := by simp at h1; omega
            have hw := hd.str
            have hws : SeqAt.shaped (.str w) = true := by simp [SeqAt.shaped, PyData.canLay0, PyData.depth, hw.1]
            obtain ⟨lv, rfl⟩ : ∃ l, lv = l + 1 := ⟨lv - 1, by omega⟩
            have ih : ∀ d ∈ ds, LC (gN dt wh (lv + 1)) "is_within" [.v d, .v (.int (n : Nat))] fun r bs => r = .v (.bool (isW n d)) ∧ bs = [] := fun d hd => sp_is_within hi hn hf (h2 d (by simp [hd])) (by omega) hm (by omega)
            simp [hn1, opSl_tail, opEq_str hw.1]
            by_cases w1 : w = Str.ofString "num"
            · subst w1
              simp [isW]
              by_cases h0 : ds.length = 1
              · obtain ⟨x, rfl⟩ := List.length_eq_one_iff.mp h0
                simp [isNum]
                exact (sp_is_integer hi (h2 x (by simp)).can).mono fun r bs ⟨h3, h4⟩ => by subst h3 h4; simp
              · have h0' : ¬ (ds.length : Int) = 1 := by omega
                simp [h0', one_no h0]
            by_cases w2 : w = Str.ofString "here" ∨ w = Str.ofString "up"
            · have hin : opIn2 (.str w) (.tuple [.str (Str.ofString "here"), .str (Str.ofString "up")]) = some (.v (.bool true)) := by
                simp [opIn_pair, hw.1]
                rcases w2 with rfl | rfl <;> simp
              have e : isW (n + 1) (.tuple (.str w :: ds)) = one isNm ds := by simp only [isW, if_neg w1, if_pos w2]
              simp [e, w1, w2, hin, opEq_str]
              by_cases h0 : ds.length = 1
              · obtain ⟨x, rfl⟩ := List.length_eq_one_iff.mp h0
                simp
                exact (sp_is_name hn (h2 x (by simp))).mono fun r bs ⟨h3, h4⟩ => by subst h3 h4; simp [e]
              · have h0' : ¬ (ds.length : Int) = 1 := by omega
                simp [h0', e, one_no h0]
            have hin : opIn2 (.str w) (.tuple [.str (Str.ofString "here"), .str (Str.ofString "up")]) = some (.v (.bool false)) := by
              simp [opIn_pair, hw.1]
              simpa [eq_comm] using w2
            by_cases w3 : w = Str.ofString "times"
            · subst w3
              simp [isW, hin, opEq_str]
              by_cases h0 : ds.length = 2
              · obtain ⟨x, y, rfl⟩ : ∃ x y, ds = [x, y] := by
                  match ds, h0 with
                  | [x, y], _ => exact ⟨x, y, rfl⟩
                simp
                refine (sp_is_integer hi (h2 x (by simp)).can).mono fun r bs ⟨h3, h4⟩ => ?_
                subst h3 h4
                cases hx : inB (-99) 99 x with
                | false => simp [isNum, hx]
                | true =>
                  simp [isNum, hx]
                  refine (ih y (by simp)).mono fun r bs ⟨h3, h4⟩ => ?_
                  subst h3 h4
                  simp [hx]
              · have h0' : ¬ (ds.length : Int) = 2 := by omega
                simp [h0', two_no h0]
            have e : isW (n + 1) (.tuple (.str w :: ds)) = if (w = Str.ofString "sum" ∧ 1 ≤ ds.length ∧ ds.length ≤ 3) ∨ (w = Str.ofString "first" ∧ ds.length ≤ 3) then ds.all (isW n) else false := by simp only [isW, if_neg w1, if_neg w2, if_neg w3]
            have cmp : ((w = Str.ofString "sum" ∧ 1 ≤ ds.length ∧ ds.length ≤ 3) ∨ (w = Str.ofString "first" ∧ ds.length ≤ 3)) → LE (opM [.eg (compM (itM (vrM 3)) (tgName 4) trueM (callM "is_within" [.v (vrM 4), .v (bin (.lz 1) (.eg (cM (.int 1))) opSub)]) [4])] (op1L opAll)) (gN dt wh (lv + 1)) [some (.val (.tuple (.str w :: ds))), some (.val (.int (n + 1))), some (.val (.str w)), some (.val (.tuple ds)), none] fun r e => r = .v (.bool (ds.all (isW n))) ∧ backs [.v (.tuple (.str w :: ds)), .v (.int (n + 1))] e = some [] := by
              intro _
              simp
              refine l_compT (fun d => .bool (isW n d)) ?_
              simp [itemsOf, seqOf, calmSl, hdl]
              intro d hd
              refine (ih d hd).mono fun r bs ⟨h3, h4⟩ => ?_
              subst h3 h4
              simp
            have fin : ∀ b : Bool, b = isW (n + 1) (.tuple (.str w :: ds)) → (R.v (.bool b) = R.v (.bool (isW (n + 1) (.tuple (.str w :: ds))))) := fun b h => by rw [h]
            by_cases w4 : (w = Str.ofString "sum" ∧ 1 ≤ ds.length ∧ ds.length ≤ 3) ∨ (w = Str.ofString "first" ∧ ds.length ≤ 3)
            · have e' : isW (n + 1) (.tuple (.str w :: ds)) = ds.all (isW n) := by rw [e, if_pos w4]
              have cm := cmp w4
              simp at cm
              rcases w4 with ⟨rfl, h3, h4⟩ | ⟨rfl, h4⟩
              · have h3' : 1 ≤ (ds.length : Int) := by omega
                have h4' : (ds.length : Int) ≤ 3 := by omega
                simp [e', hin, opEq_str, h3', h4']
                refine cm.mono fun r e1 h => Wo.mono h fun r h => ?_
                obtain ⟨h5, h6⟩ := h
                show Lo (backs _ e1) _
                rw [h6, lo_some, h5]
                exact ⟨by rw [e'], rfl⟩
              · have h4' : (ds.length : Int) ≤ 3 := by omega
                simp [e', hin, opEq_str, h4']
                refine cm.mono fun r e1 h => Wo.mono h fun r h => ?_
                obtain ⟨h5, h6⟩ := h
                show Lo (backs _ e1) _
                rw [h6, lo_some, h5]
                exact ⟨by rw [e'], rfl⟩
            · have e' : isW (n + 1) (.tuple (.str w :: ds)) = false := by rw [e, if_neg w4]
              clear cmp e
              by_cases w5 : w = Str.ofString "sum"
              · subst w5
                by_cases h3 : 1 ≤ (ds.length : Int)
                · by_cases h4 : (ds.length : Int) ≤ 3
                  · exact absurd (.inl ⟨rfl, by omega, by omega⟩) w4
                  · simp [e', hin, opEq_str, h3, h4]
                · simp [e', hin, opEq_str, h3]
              · by_cases w6 : w = Str.ofString "first"
                · subst w6
                  have h4 : ¬ (ds.length : Int) ≤ 3 := fun z => w4 (.inr ⟨rfl, by omega⟩)
                  simp [e', hin, opEq_str, h4]
                · simp [e', hin, opEq_str hw.1, w1, w2, w3, w5, w6]
        | _ => cases n <;> simp [e_is_within, opIsi, isTy, hc, hs, PyData.isTuple, isW, opEq, hdc, PyData.isStr]
    | _ => cases n <;> simp [e_is_within, opIsi, isTy, hc, PyData.isTuple, isW]
end
end RL
end
section
set_option Elab.async false
set_option linter.all false
set_option autoImplicit false
set_option maxRecDepth 100000
set_option maxHeartbeats 4000000
/-! S4: pairs, settings -/
namespace RL
open PySem PySem.Spec L2
open PyProof.Rows hiding St

def fstS : D → Str
  | .tuple (.str a :: _) => a
  | _ => Str.ofString ""
def sndD : D → D
  | .tuple (_ :: x :: _) => x
  | _ => .none
def isPr : D → Bool
  | .tuple [a, _] => isNm a
  | _ => false
def asc : List Str → Bool
  | a :: b :: r => sLt a b && asc (b :: r)
  | _ => true
theorem isPr_is {d : D} (h : isPr d = true) : ∃ a x, d = .tuple [.str a, x] ∧ isNmS a = true := by
  unfold isPr at h
  split at h
  · rename_i a x
    cases a <;> first | exact ⟨_, x, rfl, h⟩ | cases h
  · cases h
section
variable {dt : List DefE} {wh : Nat}
theorem sp_is_rule (hi : Has dt e_is_integer) (hn : Has dt e_is_name) (hw : Has dt e_is_within) (hf : Has dt e_is_rule) {lv m k : Nat} {v : D} (hv : Gd m k v) (hk : k ≤ 64) (hm : m ≤ 1000) (hl : 8 ≤ lv) :
    LC (gN dt wh lv) "is_rule" [.v v] fun r bs => r = .v (.bool (isW 5 v)) ∧ bs = [] := by
  obtain ⟨lv, rfl⟩ : ∃ l, lv = l + 1 := ⟨lv - 1, by omega⟩
  refine LC.df hf rfl ?_
  simp [e_is_rule]
  exact (sp_is_within (n := 5) hi hn hw hv hk hm (by omega)).mono fun r bs ⟨h3, h4⟩ => by subst h3 h4; simp
theorem sp_is_pair (hn : Has dt e_is_name) (hf : Has dt e_is_pair) {lv m k : Nat} {v : D} (hv : Gd m k v) (hl : 2 ≤ lv) :
    LC (gN dt wh lv) "is_pair" [.v v] fun r bs => r = .v (.bool (isPr v)) ∧ bs = [] := by
  obtain ⟨lv, rfl⟩ : ∃ l, lv = l + 2 := ⟨lv - 2, by omega⟩
  refine LC.df hf rfl ?_
  have hc := hv.can
  cases v with
  | tuple ds =>
    by_cases h0 : ds.length = 2
    · obtain ⟨x, y, rfl⟩ : ∃ x y, ds = [x, y] := by
        match ds, h0 with
        | [x, y], _ => exact ⟨x, y, rfl⟩
      simp [e_is_pair, opIsi, isTy, hc, PyData.isTuple]
      obtain ⟨k, rfl, h1, h2⟩ := hv.tup
      exact (sp_is_name hn (h2 x (by simp))).mono fun r bs ⟨h3, h4⟩ => by subst h3 h4; simp [isPr]
    · have h0' : ¬ (ds.length : Int) = 2 := by omega
      have e : isPr (.tuple ds) = false := by
        match ds, h0 with
        | [], _ => rfl
        | [x], _ => rfl
        | [_, _], h => exact absurd rfl h
        | _ :: _ :: _ :: _, _ => rfl
      simp [e_is_pair, opIsi, isTy, hc, PyData.isTuple, h0', e]
  | _ => simp [e_is_pair, opIsi, isTy, hc, PyData.isTuple, isPr]
theorem asc_pairs : ∀ (ds : List D), (pairs ds ds.tail).all (fun d => match d with | .tuple [p, q] => sLt (fstS p) (fstS q) | _ => false) = asc (ds.map fstS)
  | [] => rfl
  | [_] => rfl
  | a :: b :: r => by
    have ih := asc_pairs (b :: r)
    simp only [List.tail_cons] at ih ⊢
    simp only [pairs, List.all_cons, List.map_cons, asc]
    rw [← List.map_cons (f := fstS), ← ih]
theorem pairs_mem : ∀ {ds es : List D} {d : D}, d ∈ pairs ds es → ∃ p q, d = .tuple [p, q] ∧ p ∈ ds ∧ q ∈ es
  | [], _, d, h => by simp [pairs] at h
  | _ :: _, [], d, h => by simp [pairs] at h
  | x :: ds, y :: es, d, h => by
    simp [pairs] at h
    rcases h with rfl | h
    · exact ⟨x, y, rfl, by simp, by simp⟩
    · obtain ⟨p, q, e, h1, h2⟩ := pairs_mem h
      exact ⟨p, q, e, by simp [h1], by simp [h2]⟩
theorem opSl_tl {ds : List D} : opSl (.tuple ds) (some 1) none = some (.v (.tuple ds.tail)) := by
  cases ds with
  | nil => rfl
  | cons d ds => exact opSl_tail
theorem sp_rises (hf : Has dt e_rises) {lv : Nat} {ds : List D} (hp : ∀ d ∈ ds, isPr d = true) (hm : ds.length ≤ 1000) (hl : 1 ≤ lv) :
    LC (gN dt wh lv) "rises" [.v (.tuple ds)] fun r bs => r = .v (.bool (asc (ds.map fstS))) ∧ bs = [] := by
  obtain ⟨lv, rfl⟩ : ∃ l, lv = l + 1 := ⟨lv - 1, by omega⟩
  refine LC.df hf rfl ?_
  simp [e_rises]
  refine l_compT (fun d => .bool (match d with | .tuple [p, q] => sLt (fstS p) (fstS q) | _ => false)) ?_
  have hpl : (pairs ds ds.tail).length ≤ 1000 := by rw [pairs_len]; omega
  simp [zipOf, seqOf, calmSl, opSl_tl, hpl, asc_pairs]
  intro d hd
  obtain ⟨p, q, rfl, h1, h2⟩ := pairs_mem hd
  obtain ⟨a, x, rfl, _⟩ := isPr_is (hp p h1)
  obtain ⟨b, y, rfl, _⟩ := isPr_is (hp q (List.mem_of_mem_tail h2))
  simp [opLt, fstS]
end
end RL
end
section
set_option Elab.async false
set_option linter.all false
set_option autoImplicit false
set_option maxRecDepth 100000
set_option maxHeartbeats 4000000
/-! S5: settings, names, sheets -/
namespace RL
open PySem PySem.Spec L2
open PyProof.Rows hiding St

def isSet : D → Bool
  | .tuple ds => decide (ds.length ≤ 4) && (ds.all (fun p => isPr p && isW 5 (sndD p)) && asc (ds.map fstS))
  | _ => false
section
variable {dt : List DefE} {wh : Nat}
theorem sp_are_settings (hi : Has dt e_is_integer) (hn : Has dt e_is_name) (hw : Has dt e_is_within) (hr : Has dt e_is_rule) (hp : Has dt e_is_pair) (hs : Has dt e_rises) (hf : Has dt e_are_settings) {lv m k : Nat} {v : D} (hv : Gd m k v) (hk : k ≤ 64) (hm : m ≤ 1000) (hl : 9 ≤ lv) :
    LC (gN dt wh lv) "are_settings" [.v v] fun r bs => r = .v (.bool (isSet v)) ∧ bs = [] := by
  obtain ⟨lv, rfl⟩ : ∃ l, lv = l + 1 := ⟨lv - 1, by omega⟩
  refine LC.df hf rfl ?_
  have hc := hv.can
  cases v with
  | tuple ds =>
    obtain ⟨k, rfl, h1, h2⟩ := hv.tup
    by_cases h4 : ds.length ≤ 4
    · have h4' : ¬ 4 < (ds.length : Int) := by omega
      have hdl : ds.length ≤ 1000 := by omega
      simp [e_are_settings, opIsi, isTy, hc, PyData.isTuple, h4']
      refine l_compT (fun p => .bool (isPr p && isW 5 (sndD p))) ?_
      simp [itemsOf, seqOf, calmSl, hdl]
      refine ⟨fun d hd => ?_, ?_⟩
      · refine (sp_is_pair hn hp (h2 d hd) (by omega)).mono fun r bs ⟨h3, h4⟩ => ?_
        subst h3 h4
        cases hx : isPr d with
        | false => simp
        | true =>
          obtain ⟨a, x, rfl, _⟩ := isPr_is hx
          simp
          obtain ⟨k2, e2, _, h6⟩ := (h2 _ hd).tup
          refine (sp_is_rule hi hn hw hr (h6 x (by simp)) (by omega) hm (by omega)).mono fun r bs ⟨h3, h4⟩ => ?_
          subst h3 h4
          simp [sndD]
      · cases ha : (ds.all fun p => isPr p && isW 5 (sndD p)) with
        | false => simp [isSet, ha]
        | true =>
          have hpr : ∀ d ∈ ds, isPr d = true := fun d hd => by
            have := List.all_eq_true.mp ha d hd
            simp at this; exact this.1
          simp
          refine (sp_rises hs hpr hdl (by omega)).mono fun r bs ⟨h3, h4⟩ => ?_
          subst h3 h4
          simp [isSet, ha, h4]
    · have h4' : 4 < (ds.length : Int) := by omega
      simp [e_are_settings, opIsi, isTy, hc, PyData.isTuple, h4', isSet, h4]
  | _ => simp [e_are_settings, opIsi, isTy, hc, PyData.isTuple, isSet]

/-! ### the names behind some words -/
/-- the parts of a rule that are rules -/
def partsD : D → List D
  | .tuple (.str w :: r) => if w = "times" then (match r with | [_, y] => [y] | _ => []) else if w = "sum" ∨ w = "first" then r else []
  | _ => []
def wordIn (ws : List Str) : D → List Str
  | .tuple (.str w :: .str a :: _) => if w ∈ ws then [a] else []
  | _ => []
def behind (ws : List Str) : Nat → D → List Str
  | 0, _ => []
  | n + 1, d => wordIn ws d ++ (partsD d).flatMap (behind ws n)
end
end RL
end
section
set_option Elab.async false
set_option linter.all false
set_option autoImplicit false
set_option maxRecDepth 100000
set_option maxHeartbeats 4000000
/-! S6: the names in rules -/
namespace RL
open PySem PySem.Spec L2
open PyProof.Rows hiding St

theorem isNum_is {d : D} (h : isNum d = true) : ∃ i, d = .int i ∧ -99 ≤ i ∧ i ≤ 99 := by
  cases d <;> first | cases h | skip
  rename_i i
  simp [isNum, inB] at h
  exact ⟨i, rfl, h⟩
theorem isNm_is {d : D} (h : isNm d = true) : ∃ a, d = .str a ∧ isNmS a = true := by
  cases d <;> first | cases h | skip
  exact ⟨_, rfl, h⟩
theorem one_is {f : D → Bool} {r : List D} (h : one f r = true) : ∃ x, r = [x] ∧ f x = true := by
  unfold one at h
  split at h
  · exact ⟨_, rfl, h⟩
  · cases h
theorem two_is {f : D → D → Bool} {r : List D} (h : two f r = true) : ∃ x y, r = [x, y] ∧ f x y = true := by
  unfold two at h
  split at h
  · exact ⟨_, _, rfl, h⟩
  · cases h
inductive Rl (n : Nat) : D → Prop where
  | num (i : Int) : Rl n (.tuple [.str (Str.ofString "num"), .int i])
  | nm (w a : Str) (hw : w = Str.ofString "here" ∨ w = Str.ofString "up") (ha : isNmS a = true) : Rl n (.tuple [.str w, .str a])
  | tm (i : Int) (y : D) (hy : isW n y = true) : Rl n (.tuple [.str (Str.ofString "times"), .int i, y])
  | sm (w : Str) (r : List D) (hw : w = Str.ofString "sum" ∨ w = Str.ofString "first") (hl : r.length ≤ 3) (hr : ∀ x ∈ r, isW n x = true) : Rl n (.tuple (.str w :: r))
theorem isW_is {n : Nat} {d : D} (h : isW (n + 1) d = true) : Rl n d := by
  unfold isW at h
  split at h
  · rename_i n' w r e
    cases e
    split at h
    · rename_i e; subst e
      obtain ⟨x, rfl, h1⟩ := one_is h
      obtain ⟨i, rfl, _⟩ := isNum_is h1
      exact .num i
    split at h
    · rename_i e
      obtain ⟨x, rfl, h1⟩ := one_is h
      obtain ⟨a, rfl, h2⟩ := isNm_is h1
      exact .nm w a e h2
    split at h
    · rename_i e; subst e
      obtain ⟨x, y, rfl, h1⟩ := two_is h
      simp at h1
      obtain ⟨i, rfl, _⟩ := isNum_is h1.1
      exact .tm i y h1.2
    split at h
    · rename_i e
      refine .sm w r ?_ ?_ (List.all_eq_true.mp h)
      · rcases e with ⟨e, _⟩ | ⟨e, _⟩ <;> simp [e]
      · rcases e with ⟨_, _, e⟩ | ⟨_, e⟩ <;> exact e
    · cases h
  · cases h
section
variable {dt : List DefE} {wh : Nat}
theorem sp_parts_of (hf : Has dt e_parts_of) {lv n : Nat} {d : D} (hd : Rl n d) :
    LC (gN dt wh (lv + 1)) "parts_of" [.v d] fun r bs => r = .v (.tuple (partsD d)) ∧ bs = [] := by
  refine LC.df hf rfl ?_
  cases hd with
  | num i => simp [e_parts_of, opEq_str, opIn_pair, partsD]
  | nm w a hw ha => rcases hw with rfl | rfl <;> simp [e_parts_of, opEq_str, opIn_pair, partsD]
  | tm i y hy => simp [e_parts_of, opEq_str, opIn_pair, partsD]
  | sm w r hw hl hr => rcases hw with rfl | rfl <;> simp [e_parts_of, opEq_str, opIn_pair, partsD, opSl_tail]
end
end RL
end
section
set_option Elab.async false
set_option linter.all false
set_option autoImplicit false
set_option maxRecDepth 100000
set_option maxHeartbeats 4000000
/-! S7: named_in, names_in -/
namespace RL
open PySem PySem.Spec L2
open PyProof.Rows hiding St

theorem opIn_strs {w : Str} {ws : List Str} (h : PyData.strOk w = true) (hs : ∀ a ∈ ws, PyData.strOk a = true) : opIn2 (.str w) (.tuple (ws.map .str)) = some (.v (.bool (decide (w ∈ ws)))) := by
  have e : PyData.canLayAll0 (ws.map .str) = true := canAll fun d hd => by
    obtain ⟨a, ha, rfl⟩ := List.mem_map.mp hd
    simp [PyData.canLay0, hs a ha]
  unfold opIn2 opIn
  simp [PyData.canLay0, PyData.depth, h, e]
  rw [Bool.eq_iff_iff]
  simp
theorem opAdd_lst {xs ys : List D} (h : xs.length + ys.length ≤ 1000) : opAdd (.list xs) (.list ys) = some (.o (.list (xs ++ ys))) := by
  show (if xs.length + ys.length ≤ sizeLine then _ else _) = _
  rw [if_pos (len_ok h)]
theorem parts_len {n : Nat} {d : D} (h : Rl n d) : (partsD d).length ≤ 3 := by
  cases h with
  | num i => simp [partsD]
  | nm w a hw ha => rcases hw with rfl | rfl <;> simp [partsD]
  | tm i y hy => simp [partsD]
  | sm w r hw hl hr => rcases hw with rfl | rfl <;> simp [partsD, hl]
theorem parts_in {n : Nat} {d : D} (h : Rl n d) : ∀ x ∈ partsD d, isW n x = true := by
  cases h with
  | num i => simp [partsD]
  | nm w a hw ha => rcases hw with rfl | rfl <;> simp [partsD]
  | tm i y hy => simpa [partsD] using hy
  | sm w r hw hl hr => rcases hw with rfl | rfl <;> simpa [partsD] using hr
theorem flat_len {f : D → List Str} {b : Nat} : ∀ {ds : List D}, (∀ d ∈ ds, (f d).length ≤ b) → (ds.flatMap f).length ≤ ds.length * b
  | [], _ => by simp
  | d :: ds, h => by
    have h1 := h d (by simp)
    have h2 := flat_len (ds := ds) fun x hx => h x (by simp [hx])
    simp only [List.flatMap_cons, List.length_append, List.length_cons, Nat.succ_mul]
    omega
theorem word_len {ws : List Str} {d : D} : (wordIn ws d).length ≤ 1 := by
  unfold wordIn
  split
  · split <;> simp
  · simp
def bnd : Nat → Nat
  | 0 => 0
  | n + 1 => 1 + 3 * bnd n
theorem behind_len {ws : List Str} : ∀ {n : Nat} {d : D}, isW n d = true → (behind ws n d).length ≤ bnd n
  | 0, d, h => by simp [behind]
  | n + 1, d, h => by
    have hr := isW_is h
    have h1 := flat_len (ds := partsD d) (f := behind ws n) (b := bnd n) fun x hx => behind_len (parts_in hr x hx)
    have h2 := parts_len hr
    have h3 := word_len (ws := ws) (d := d)
    have h4 : (partsD d).length * bnd n ≤ 3 * bnd n := Nat.mul_le_mul_right _ h2
    simp only [behind, List.length_append, bnd]
    omega
theorem bnd_le : ∀ {n : Nat}, n ≤ 6 → bnd n ≤ 364
  | 0, _ => by decide
  | 1, _ => by decide
  | 2, _ => by decide
  | 3, _ => by decide
  | 4, _ => by decide
  | 5, _ => by decide
  | 6, _ => by decide
  | n + 7, h => by omega
section
variable {dt : List DefE} {wh : Nat}
theorem sp_named_in (hp : Has dt e_parts_of) (hf : Has dt e_named_in) {ws : List Str} (hws : ∀ w ∈ ws, w = Str.ofString "here" ∨ w = Str.ofString "up") : ∀ {n lv : Nat} {d : D}, isW n d = true → n ≤ 6 → n + 1 ≤ lv →
    LC (gN dt wh lv) "named_in" [.v d, .v (.tuple (ws.map .str))] fun r bs => r = .o (.list ((behind ws n d).map .str)) ∧ bs = []
  | 0, lv, d, h, _, _ => by simp [isW] at h
  | n + 1, lv, d, h, hn, hl => by
    obtain ⟨lv, rfl⟩ : ∃ l, lv = l + 2 := ⟨lv - 2, by omega⟩
    refine LC.df hf rfl ?_
    have hr := isW_is h
    have hwo : ∀ a ∈ ws, PyData.strOk a = true := fun a ha => by rcases hws a ha with rfl | rfl <;> simp
    have hin : ∀ {w : Str}, PyData.strOk w = true → opIn2 (.str w) (.tuple (ws.map .str)) = some (.v (.bool (decide (w ∈ ws)))) := fun h => opIn_strs h hwo
    have first : ∀ {Q : R → En → Prop}, Q (.o (.list ((wordIn ws d).map .str))) [some (.val d), some (.val (.tuple (ws.map .str))), none, none] →
        LE (ifM (tstM (bin (.eg (bin (.lz 0) (.eg (cM (.int 0))) opIx3)) (.lz 1) opIn2)) (opV [bin (.lz 0) (.eg (cM (.int 1))) opIx3] opLst) (opV [] opLst)) (gN dt wh (lv + 1)) [some (.val d), some (.val (.tuple (ws.map .str))), none, none] Q := by
      intro Q q
      cases hr with
      | num i =>
        have : ¬ Str.ofString "num" ∈ ws := fun z => by simpa using hws _ z
        simp [hin, this]
        simpa [wordIn, this] using q
      | nm w a hw ha =>
        have hwk : PyData.strOk w = true := by rcases hw with rfl | rfl <;> simp
        by_cases hi : w ∈ ws
        · simp [hin hwk, hi]
          simpa [wordIn, hi] using q
        · simp [hin hwk, hi]
          simpa [wordIn, hi] using q
      | tm i y hy =>
        have : ¬ Str.ofString "times" ∈ ws := fun z => by simpa using hws _ z
        simp [hin, this]
        simpa [wordIn, this] using q
      | sm w r hw hl hr' =>
        have hwk : PyData.strOk w = true := by rcases hw with rfl | rfl <;> simp
        have : ¬ w ∈ ws := fun z => by rcases hw with rfl | rfl <;> simpa using hws _ z
        simp [hin hwk, this]
        have e : wordIn ws (.tuple (.str w :: r)) = [] := by
          unfold wordIn
          split
          · rename_i w' _ _ e
            cases e
            rw [if_neg this]
          · rfl
        simpa [e] using q
    simp [e_named_in, -l_ifM]
    refine first ?_
    simp
    refine l_forA ?_
    simp
    refine (sp_parts_of hp hr).mono fun r bs ⟨h3, h4⟩ => ?_
    subst h3 h4
    simp [itemsOf, seqOf]
    have hb : bnd n ≤ 121 := by
      have : n ≤ 5 := by omega
      match n, this with
      | 0, _ => decide
      | 1, _ => decide
      | 2, _ => decide
      | 3, _ => decide
      | 4, _ => decide
      | 5, _ => decide
    refine ⟨fun left e => ∃ done s, partsD d = done ++ left ∧ isBor (some s) = false ∧ e = [some (.val d), some (.val (.tuple (ws.map .str))), some (.own (.list ((wordIn ws d ++ done.flatMap (behind ws n)).map .str))), s], ⟨[], none, rfl, rfl, by simp⟩, ?_, ?_⟩
    · rintro x left e ⟨done, s, h5, h6, rfl⟩
      have hx : isW n x = true := parts_in hr x (by rw [h5]; simp)
      have hd : (done.flatMap (behind ws n)).length ≤ done.length * bnd n := flat_len fun y hy => behind_len (parts_in hr y (by rw [h5]; simp [hy]))
      have hdl : done.length ≤ 3 := by
        have := parts_len hr
        rw [h5] at this
        simp at this; omega
      have hxl := behind_len (ws := ws) hx
      have h7 := word_len (ws := ws) (d := d)
      have h8 : done.length * bnd n ≤ 3 * 121 := Nat.mul_le_mul hdl hb
      simp [h6]
      refine (sp_named_in hp hf hws hx (by omega) (by omega)).mono fun r bs ⟨h3, h4⟩ => ?_
      subst h3 h4
      have h9 : ((wordIn ws d ++ done.flatMap (behind ws n)).map PyData.str).length + ((behind ws n x).map PyData.str).length ≤ 1000 := by
        simp only [List.length_map, List.length_append]; omega
      simp only [List.map_append] at h9
      simp
      rw [opAdd_lst h9]
      simp
      refine ⟨done ++ [x], by simp [h5], ?_⟩
      simp
    · rintro e ⟨done, s, h5, h6, rfl⟩
      simp at h5
      subst h5
      simp [behind]
end
end RL
end
section
set_option Elab.async false
set_option linter.all false
set_option autoImplicit false
set_option maxRecDepth 100000
set_option maxHeartbeats 4000000
/-! S8: names_in -/
namespace RL
open PySem PySem.Spec L2
open PyProof.Rows hiding St

def kidsD : D → List D
  | .tuple ds => ds
  | _ => []
def hu : List Str := [Str.ofString "here", Str.ofString "up"]
/-- what a setting names -/
def stgN (q : D) : List Str := fstS q :: behind hu 5 (sndD q)
def knN (p : D) : List Str := (kidsD (sndD p)).flatMap stgN
def allN (ds : List D) : List Str := ds.flatMap knN
def namesD (ds : List D) : List Str := (uniq (allN ds)).mergeSort strLe
/-- a setting; a kind with its settings -/
def StOk (q : D) : Prop := ∃ a r, q = .tuple [.str a, r] ∧ isW 5 r = true
def KdOk (p : D) : Prop := ∃ a qs, p = .tuple [.str a, .tuple qs] ∧ qs.length ≤ 4 ∧ ∀ q ∈ qs, StOk q
theorem stgN_len {q : D} (h : StOk q) : (stgN q).length ≤ 122 := by
  obtain ⟨a, r, rfl, h1⟩ := h
  have := behind_len (ws := hu) h1
  have e : bnd 5 = 121 := by decide
  simp [stgN, sndD]; omega
theorem knN_len {p : D} (h : KdOk p) : (knN p).length ≤ 488 := by
  obtain ⟨a, qs, rfl, h1, h2⟩ := h
  have := flat_len (ds := qs) (f := stgN) (b := 122) fun q hq => stgN_len (h2 q hq)
  have h3 : qs.length * 122 ≤ 4 * 122 := Nat.mul_le_mul_right _ h1
  simp only [knN, sndD, kidsD]; omega
theorem allN_len {ds : List D} (hl : ds.length ≤ 4) (h : ∀ p ∈ ds, KdOk p) : (allN ds).length ≤ 1952 := by
  have := flat_len (ds := ds) (f := knN) (b := 488) fun q hq => knN_len (h q hq)
  have h3 : ds.length * 488 ≤ 4 * 488 := Nat.mul_le_mul_right _ hl
  unfold allN; omega
theorem strsOf_map : ∀ (xs : List Str), strsOf (xs.map .str) = some xs
  | [] => rfl
  | x :: xs => by simp [strsOf, strsOf_map xs]
theorem opSortSet_map {xs : List Str} (h : xs.length + 1 < 4096) : opSortSet (.list (xs.map .str)) = some (.o (.list (((uniq xs).mergeSort strLe).map .str))) := by
  show (strsOf (xs.map .str)).bind _ = _
  rw [strsOf_map]
  simp [h, strSort_eq]
theorem opAdd_lst2 {xs ys : List D} (h : xs.length + ys.length ≤ 1000000) : opAdd (.list xs) (.list ys) = some (.o (.list (xs ++ ys))) := by
  show (if xs.length + ys.length ≤ sizeLine then _ else _) = _
  rw [if_pos (by have := sizeLine_big; omega)]
section
variable {dt : List DefE} {wh : Nat}
theorem sp_names_in (hp : Has dt e_parts_of) (hn : Has dt e_named_in) (hf : Has dt e_names_in) {lv : Nat} {ds : List D} (hl4 : ds.length ≤ 4) (hk : ∀ p ∈ ds, KdOk p) (hl : 8 ≤ lv) :
    LC (gN dt wh lv) "names_in" [.v (.tuple ds)] fun r bs => r = .o (.list ((namesD ds).map .str)) ∧ bs = [] := by
  obtain ⟨lv, rfl⟩ : ∃ l, lv = l + 1 := ⟨lv - 1, by omega⟩
  refine LC.df hf rfl ?_
  simp [e_names_in]
  refine l_forA ?_
  simp [itemsOf, seqOf]
  refine ⟨fun left e => ∃ done s2 s3 s4 s5, ds = done ++ left ∧ isBor (some s2) = false ∧ isBor (some s3) = false ∧ isBor (some s4) = false ∧ isBor (some s5) = false ∧ e = [some (.val (.tuple ds)), some (.own (.list ((allN done).map .str))), s2, s3, s4, s5], ⟨[], none, none, none, none, rfl, rfl, rfl, rfl, rfl, by simp [allN]⟩, ?_, ?_⟩
  · rintro p left e ⟨done, s2, s3, s4, s5, h5, b2, b3, b4, b5, rfl⟩
    obtain ⟨a, qs, rfl, hq4, hq⟩ := hk p (by rw [h5]; simp)
    have hdone : (allN done).length ≤ 1952 := allN_len (by have := congrArg List.length h5; simp at this; omega) fun p hp => hk p (by rw [h5]; simp [hp])
    simp [b2, b3]
    refine l_forA ?_
    simp [itemsOf, seqOf]
    refine ⟨fun qleft e => ∃ qdone s4 s5, qs = qdone ++ qleft ∧ isBor (some s4) = false ∧ isBor (some s5) = false ∧ e = [some (.val (.tuple ds)), some (.own (.list ((allN done ++ qdone.flatMap stgN).map .str))), some (.val (.str a)), some (.val (.tuple qs)), s4, s5], ⟨[], s4, s5, rfl, b4, b5, by simp⟩, ?_, ?_⟩
    · rintro q qleft e ⟨qdone, s4, s5, h6, b4, b5, rfl⟩
      obtain ⟨b, r, rfl, hr⟩ := hq q (by rw [h6]; simp)
      have hqd : (qdone.flatMap stgN).length ≤ 488 := by
        have h1 := flat_len (ds := qdone) (f := stgN) (b := 122) fun q h => stgN_len (hq q (by rw [h6]; simp [h]))
        have h2 := congrArg List.length h6
        simp at h2
        have h3 : qdone.length * 122 ≤ 4 * 122 := Nat.mul_le_mul_right _ (by omega)
        omega
      have hbl := behind_len (ws := hu) hr
      have e5 : bnd 5 = 121 := by decide
      simp [b4, b5]
      rw [opAdd_lst2 (by simp only [List.length_map, List.length_append, List.length_cons, List.length_nil]; omega)]
      simp
      refine (sp_named_in (ws := hu) hp hn (by simp [hu]) hr (by omega) (by omega)).mono fun r' bs ⟨h3, h4⟩ => ?_
      subst h3 h4
      simp
      rw [opAdd_lst2 (by simp only [List.length_map, List.length_append, List.length_cons, List.length_nil]; omega)]
      simp
      refine ⟨qdone ++ [.tuple [.str b, r]], by simp [h6], ?_⟩
      simp [stgN, fstS, sndD]
    · rintro e ⟨qdone, s4, s5, h6, b4, b5, rfl⟩
      simp at h6
      subst h6
      refine ⟨done ++ [.tuple [.str a, .tuple qs]], by simp [h5], ?_⟩
      simp [allN, knN, kidsD, sndD, b4, b5]
      exact ⟨_, rfl, _, rfl, _, b4, _, b5, rfl, rfl, rfl, rfl⟩
  · rintro e ⟨done, s2, s3, s4, s5, h5, b2, b3, b4, b5, rfl⟩
    simp at h5
    subst h5
    have := allN_len hl4 hk
    simp
    rw [opSortSet_map (by omega)]
    simp [namesD]
end
end RL
end
section
set_option Elab.async false
set_option linter.all false
set_option autoImplicit false
set_option maxRecDepth 100000
set_option maxHeartbeats 4000000
/-! S9: sheets -/
namespace RL
open PySem PySem.Spec L2
open PyProof.Rows hiding St

def isSh : D → Bool
  | .tuple ds => (decide (1 ≤ ds.length) && decide (ds.length ≤ 4)) && (ds.all (fun p => isPr p && isSet (sndD p)) && asc (ds.map fstS) && decide ((namesD ds).length ≤ 4))
  | _ => false
theorem isSet_is {d : D} (h : isSet d = true) : ∃ qs, d = .tuple qs ∧ qs.length ≤ 4 ∧ (∀ q ∈ qs, StOk q) ∧ (∀ q ∈ qs, isPr q = true) ∧ asc (qs.map fstS) = true := by
  unfold isSet at h
  split at h
  · rename_i qs
    simp at h
    refine ⟨qs, rfl, h.1, fun q hq => ?_, fun q hq => (h.2.1 q hq).1, h.2.2⟩
    obtain ⟨a, x, rfl, _⟩ := isPr_is (h.2.1 q hq).1
    exact ⟨a, x, rfl, (h.2.1 _ hq).2⟩
  · cases h
theorem kd_of {p : D} (h1 : isPr p = true) (h2 : isSet (sndD p) = true) : KdOk p := by
  obtain ⟨a, x, rfl, _⟩ := isPr_is h1
  obtain ⟨qs, e, h3, h4, _⟩ := isSet_is h2
  have e : x = .tuple qs := e
  subst e
  exact ⟨a, qs, rfl, h3, h4⟩
section
variable {dt : List DefE} {wh : Nat}
theorem sp_is_sheet (hi : Has dt e_is_integer) (hn : Has dt e_is_name) (hw : Has dt e_is_within) (hr : Has dt e_is_rule) (hp : Has dt e_is_pair) (hs : Has dt e_rises) (ha : Has dt e_are_settings) (hpo : Has dt e_parts_of) (hni : Has dt e_named_in) (hna : Has dt e_names_in) (hf : Has dt e_is_sheet) {lv m k : Nat} {v : D} (hv : Gd m k v) (hk : k ≤ 64) (hm : m ≤ 1000) (hl : 10 ≤ lv) :
    LC (gN dt wh lv) "is_sheet" [.v v] fun r bs => r = .v (.bool (isSh v)) ∧ bs = [] := by
  obtain ⟨lv, rfl⟩ : ∃ l, lv = l + 1 := ⟨lv - 1, by omega⟩
  refine LC.df hf rfl ?_
  have hc := hv.can
  cases v with
  | tuple ds =>
    obtain ⟨k, rfl, h1, h2⟩ := hv.tup
    by_cases g1 : 1 ≤ (ds.length : Int)
    · by_cases g4 : (ds.length : Int) ≤ 4
      · have hdl : ds.length ≤ 1000 := by omega
        have n1 : 1 ≤ ds.length := by omega
        have n4 : ds.length ≤ 4 := by omega
        simp [e_is_sheet, opIsi, isTy, hc, PyData.isTuple, g1, g4]
        refine l_compT (fun p => .bool (isPr p && isSet (sndD p))) ?_
        simp [itemsOf, seqOf, calmSl, hdl]
        refine ⟨fun d hd => ?_, ?_⟩
        · refine (sp_is_pair hn hp (h2 d hd) (by omega)).mono fun r bs ⟨h3, h4⟩ => ?_
          subst h3 h4
          cases hx : isPr d with
          | false => simp
          | true =>
            obtain ⟨a, x, rfl, _⟩ := isPr_is hx
            simp
            obtain ⟨k2, e2, _, h6⟩ := (h2 _ hd).tup
            refine (sp_are_settings hi hn hw hr hp hs ha (h6 x (by simp)) (by omega) hm (by omega)).mono fun r bs ⟨h3, h4⟩ => ?_
            subst h3 h4
            simp [sndD]
        · cases hall : (ds.all fun p => isPr p && isSet (sndD p)) with
          | false => simp [isSh, hall]
          | true =>
            have hpr : ∀ d ∈ ds, isPr d = true ∧ isSet (sndD d) = true := fun d hd => by
              have := List.all_eq_true.mp hall d hd
              simpa using this
            simp
            refine (sp_rises hs (fun d hd => (hpr d hd).1) hdl (by omega)).mono fun r bs ⟨h3, h4⟩ => ?_
            subst h3 h4
            cases has : asc (ds.map fstS) with
            | false => simp [isSh, hall, has]
            | true =>
              simp
              refine (sp_names_in hpo hni hna n4 (fun p hp => kd_of (hpr p hp).1 (hpr p hp).2) (by omega)).mono fun r bs ⟨h3, h4⟩ => ?_
              subst h3 h4
              simp [isSh, hall, has, n1, n4]
              omega
      · have n4 : ¬ ds.length ≤ 4 := by omega
        simp [e_is_sheet, opIsi, isTy, hc, PyData.isTuple, g1, g4, isSh, n4]
    · have n1 : ¬ 1 ≤ ds.length := by omega
      simp [e_is_sheet, opIsi, isTy, hc, PyData.isTuple, g1, isSh, n1]
  | _ => simp [e_is_sheet, opIsi, isTy, hc, PyData.isTuple, isSh]
end
end RL
end
section
set_option Elab.async false
set_option linter.all false
set_option autoImplicit false
set_option maxRecDepth 100000
set_option maxHeartbeats 4000000
/-! S10: dicts by names; ways, trees -/
namespace RL
open PySem PySem.Spec L2
open PyProof.Rows hiding St

/-- a dict by names -/
def sd (l : List (Str × D)) : List (D × D) := l.map fun p => (.str p.1, p.2)
theorem sd_has {l : List (Str × D)} {a : Str} : dHas (sd l) (.inr a) = decide (a ∈ l.map (·.1)) := by
  unfold dHas sd
  rw [Bool.eq_iff_iff]
  simp [keyK]
theorem sd_allK {l : List (Str × D)} : allK (sd l) = true := by
  unfold allK sd
  simp [keyK]
theorem sd_put {l : List (Str × D)} {a : Str} {d : D} (h : ¬ a ∈ l.map (·.1)) : dPut (sd l) (.inr a) d = sd (l ++ [(a, d)]) := by
  unfold dPut
  rw [sd_has, if_neg (by simpa using h)]
  simp [sd, keyD]
theorem sd_merge : ∀ (ps acc : List (Str × D)), ((acc ++ ps).map (·.1)).Nodup → dMerge (sd acc) (sd ps) = sd (acc ++ ps)
  | [], acc, _ => by simp [sd, dMerge]
  | (a, d) :: ps, acc, h => by
    have hn : ¬ a ∈ acc.map (·.1) := by
      intro z
      rw [List.map_append, List.nodup_append] at h
      exact h.2.2 a z a (by simp) rfl
    have h2 : (((acc ++ [(a, d)]) ++ ps).map (·.1)).Nodup := by simpa using h
    have ih := sd_merge ps (acc ++ [(a, d)]) h2
    rw [← sd_put hn] at ih
    show dMerge (dPut (sd acc) (.inr a) d) (sd ps) = _
    rw [ih]; simp
theorem asc_lt : ∀ {l : List Str} {a : Str}, asc (a :: l) = true → ∀ b ∈ l, sLt a b = true
  | [], _, _, b, h => by simp at h
  | c :: l, a, h, b, hb => by
    simp [asc] at h
    rcases List.mem_cons.mp hb with rfl | hb
    · exact h.1
    · have h1 := asc_lt h.2 b hb
      simp [sLt] at h h1 ⊢
      exact List.lt_trans h.1 h1
theorem asc_nodup : ∀ {l : List Str}, asc l = true → l.Nodup
  | [], _ => List.nodup_nil
  | a :: l, h => by
    refine List.nodup_cons.mpr ⟨fun z => ?_, asc_nodup (by cases l with | nil => rfl | cons b r => simp [asc] at h; exact h.2)⟩
    have := asc_lt h a z
    simp [sLt] at this
    exact List.lt_irrefl _ this
/-- what is told by pairs of names -/
def kv (ds : List D) : List (Str × D) := ds.map fun p => (fstS p, sndD p)
theorem pairsOf_kv : ∀ {ds : List D}, (∀ d ∈ ds, isPr d = true) → pairsOf ds = some (sd (kv ds))
  | [], _ => rfl
  | d :: ds, h => by
    obtain ⟨a, x, rfl, _⟩ := isPr_is (h d (by simp))
    have ih := pairsOf_kv (ds := ds) fun y hy => h y (by simp [hy])
    simp [pairsOf, ih, kv, sd, fstS, sndD]
theorem opDict_kv {ds : List D} (hp : ∀ d ∈ ds, isPr d = true) (ha : asc (ds.map fstS) = true) (hl : ds.length ≤ 1000) : opDict (.tuple ds) = some (.o (.dict (sd (kv ds)))) := by
  show dictOf ds = _
  unfold dictOf
  have h := sd_merge (kv ds) [] (by simpa [kv, Function.comp_def] using asc_nodup ha)
  have h' : dMerge [] (sd (kv ds)) = sd (kv ds) := by simpa [sd] using h
  rw [pairsOf_kv hp]
  simp [sd_allK, hl, h']
end RL
end
section
set_option Elab.async false
set_option linter.all false
set_option autoImplicit false
set_option maxRecDepth 100000
set_option maxHeartbeats 4000000
/-! S11: ways and trees -/
namespace RL
open PySem PySem.Spec L2
open PyProof.Rows hiding St

def isKd (ks : List Str) : D → Bool
  | .str s => decide (s ∈ ks)
  | _ => false
def isWy (ks : List Str) : D → Bool
  | .tuple ds => (decide (1 ≤ ds.length) && decide (ds.length ≤ 10)) && ds.all (isKd ks)
  | _ => false
def isTr (ks : List Str) : Nat → D → Bool
  | n + 1, .tuple [a, .tuple ps] => isKd ks a && (decide (ps.length ≤ 3) && ps.all (isTr ks n))
  | _, _ => false
theorem isSh_is {v : D} (h : isSh v = true) : ∃ ds, v = .tuple ds ∧ 1 ≤ ds.length ∧ ds.length ≤ 4 ∧ (∀ p ∈ ds, isPr p = true) ∧ (∀ p ∈ ds, KdOk p) ∧ asc (ds.map fstS) = true ∧ (namesD ds).length ≤ 4 := by
  unfold isSh at h
  split at h
  · rename_i ds
    simp at h
    exact ⟨ds, rfl, h.1.1, h.1.2, fun p hp => (h.2.1.1 p hp).1, fun p hp => kd_of (h.2.1.1 p hp).1 (h.2.1.1 p hp).2, h.2.1.2, h.2.2⟩
  · cases h
/-- the program's defs, in a table -/
structure Prog (dt : List DefE) : Prop where
  i : Has dt e_is_integer
  n : Has dt e_is_name
  w : Has dt e_is_within
  r : Has dt e_is_rule
  p : Has dt e_is_pair
  s : Has dt e_rises
  a : Has dt e_are_settings
  po : Has dt e_parts_of
  ni : Has dt e_named_in
  na : Has dt e_names_in
  sh : Has dt e_is_sheet
  ne : Has dt e_need_sheet
section
variable {dt : List DefE} {wh : Nat}
theorem Prog.rule (h : Prog dt) {lv m k : Nat} {v : D} (hv : Gd m k v) (hk : k ≤ 64) (hm : m ≤ 1000) (hl : 8 ≤ lv) : LC (gN dt wh lv) "is_rule" [.v v] fun r bs => r = .v (.bool (isW 5 v)) ∧ bs = [] := sp_is_rule h.i h.n h.w h.r hv hk hm hl
theorem Prog.sheet (h : Prog dt) {lv m k : Nat} {v : D} (hv : Gd m k v) (hk : k ≤ 64) (hm : m ≤ 1000) (hl : 10 ≤ lv) : LC (gN dt wh lv) "is_sheet" [.v v] fun r bs => r = .v (.bool (isSh v)) ∧ bs = [] := sp_is_sheet h.i h.n h.w h.r h.p h.s h.a h.po h.ni h.na h.sh hv hk hm hl
theorem Prog.need (h : Prog dt) {lv m k : Nat} {v : D} (hv : Gd m k v) (hk : k ≤ 64) (hm : m ≤ 1000) (hl : 11 ≤ lv) (hs : isSh v = true) : LC (gN dt wh lv) "need_sheet" [.v v] fun r bs => r = .v .none ∧ bs = [] := by
  obtain ⟨lv, rfl⟩ : ∃ l, lv = l + 1 := ⟨lv - 1, by omega⟩
  refine LC.df h.ne rfl ?_
  simp [e_need_sheet]
  refine (h.sheet hv hk hm (by omega)).mono fun r bs ⟨h3, h4⟩ => ?_
  subst h3 h4
  simp [hs]
end
end RL
end
section
set_option Elab.async false
set_option linter.all false
set_option autoImplicit false
set_option maxRecDepth 100000
set_option maxHeartbeats 4000000
/-! S12: is_way, is_tree -/
namespace RL
open PySem PySem.Spec L2
open PyProof.Rows hiding St
section
variable {dt : List DefE} {wh : Nat}
theorem kvk {ds : List D} : (kv ds).map (·.1) = ds.map fstS := by simp [kv, Function.comp_def]
theorem keyOf_sd {s : Str} {l : List (Str × D)} : keyOf (.str s) (sd l) = some (.inr s) := by
  unfold keyOf
  rw [if_pos sd_allK]
  rfl
theorem opIn2_sd {s : Str} {l : List (Str × D)} : opIn2 (.str s) (.dict (sd l)) = some (.v (.bool (decide (s ∈ l.map (·.1))))) := by
  unfold opIn2
  simp only [keyOf_sd, sd_has]
theorem Prog.way (h : Prog dt) (hf : Has dt e_is_way) {lv m k m' k' : Nat} {ds : List D} {v : D} (hd : Gd m' k' (.tuple ds)) (hk' : k' ≤ 64) (hm' : m' ≤ 1000) (hs : isSh (.tuple ds) = true) (hv : Gd m k v) (hk : k ≤ 64) (hm : m ≤ 1000) (hl : 12 ≤ lv) :
    LC (gN dt wh lv) "is_way" [.v (.tuple ds), .v v] fun r bs => r = .v (.bool (isWy (ds.map fstS) v)) ∧ bs = [] := by
  obtain ⟨lv, rfl⟩ : ∃ l, lv = l + 1 := ⟨lv - 1, by omega⟩
  refine LC.df hf rfl ?_
  have hc := hv.can
  obtain ⟨ds', e, hd1, hd4, hpr, _, has, _⟩ := isSh_is hs
  cases e
  simp [e_is_way]
  refine (h.need hd hk' hm' (by omega) hs).mono fun r bs ⟨h3, h4⟩ => ?_
  subst h3 h4
  cases v with
  | tuple vs =>
    obtain ⟨k, rfl, h1, h2⟩ := hv.tup
    by_cases g1 : 1 ≤ (vs.length : Int)
    · by_cases g4 : (vs.length : Int) ≤ 10
      · have hdl : vs.length ≤ 1000 := by omega
        have n1 : 1 ≤ vs.length := by omega
        have n4 : vs.length ≤ 10 := by omega
        simp [opIsi, isTy, hc, PyData.isTuple, g1, g4]
        refine l_compT (fun p => .bool (isKd (ds.map fstS) p)) ?_
        simp [itemsOf, seqOf, calmSl, hdl, isWy, n1, n4]
        intro d hd
        have hdc := (h2 d hd).can
        cases d with
        | str s =>
          simp [opIsi, isTy, hdc, PyData.isStr, opDict_kv hpr has (by omega : ds.length ≤ 1000), opIn2_sd, kvk, isKd]
        | _ => simp [opIsi, isTy, hdc, PyData.isStr, isKd]
      · have n4 : ¬ vs.length ≤ 10 := by omega
        simp [opIsi, isTy, hc, PyData.isTuple, g1, g4, isWy, n4]
    · have n1 : ¬ 1 ≤ vs.length := by omega
      simp [opIsi, isTy, hc, PyData.isTuple, g1, isWy, n1]
  | _ => simp [opIsi, isTy, hc, PyData.isTuple, isWy]
end
end RL
end
section
set_option Elab.async false
set_option linter.all false
set_option autoImplicit false
set_option maxRecDepth 100000
set_option maxHeartbeats 4000000
/-! S13: is_tree -/
namespace RL
open PySem PySem.Spec L2
open PyProof.Rows hiding St
theorem opNotIn_strs {w : Str} {ws : List Str} (h : PyData.strOk w = true) (hs : ∀ a ∈ ws, PyData.strOk a = true) : opNotIn2 (.str w) (.list (ws.map .str)) = some (.v (.bool (!decide (w ∈ ws)))) := by
  have e : PyData.canLayAll0 (ws.map .str) = true := canAll fun d hd => by
    obtain ⟨a, ha, rfl⟩ := List.mem_map.mp hd
    simp [PyData.canLay0, hs a ha]
  have e2 : opIn (.str w) (.list (ws.map .str)) = some (.v (.bool (decide (w ∈ ws)))) := by
    unfold opIn
    simp [PyData.canLay0, PyData.depth, h, e]
    rw [Bool.eq_iff_iff]
    simp
  show notR (opIn _ _) = _
  rw [e2]; rfl
theorem opNe_int {i j : Int} : opNe (.int i) (.int j) = some (.v (.bool (!decide (i = j)))) := by
  unfold opNe
  rw [if_pos ⟨shp_int, shp_int⟩]
  simp [PyData.eqv]
  rw [Bool.eq_iff_iff]; simp
section
variable {dt : List DefE} {wh : Nat}
theorem sp_is_tree_within (hf : Has dt e_is_tree_within) {ks : List Str} (hks : ∀ a ∈ ks, PyData.strOk a = true) : ∀ {n lv m k : Nat} {v : D}, Gd m k v → k ≤ 64 → m ≤ 1000 → n + 1 ≤ lv →
    LC (gN dt wh lv) "is_tree_within" [.v (.list (ks.map .str)), .v v, .v (.int (n : Nat))] fun r bs => r = .v (.bool (isTr ks n v)) ∧ bs = []
  | n, 0, m, k, v, hv, hk, hm, hl => by omega
  | n, lv + 1, m, k, v, hv, hk, hm, hl => by
    refine LC.df hf rfl ?_
    have hc := hv.can
    cases v with
    | tuple ds =>
      obtain ⟨k, rfl, h1, h2⟩ := hv.tup
      by_cases h0 : ds.length = 2
      · obtain ⟨x, y, rfl⟩ : ∃ x y, ds = [x, y] := by
          match ds, h0 with
          | [x, y], _ => exact ⟨x, y, rfl⟩
        have hx := h2 x (by simp)
        have hy := h2 y (by simp)
        have hxc := hx.can
        have hyc := hy.can
        simp [e_is_tree_within, opIsi, isTy, hc, PyData.isTuple, opNe_int, hxc]
        cases x with
        | str s =>
          cases n with
          | zero => simp [PyData.isStr, isTr]
          | succ n =>
            have hn1 : ¬ ((n : Int) + 1 < 1) := by omega
            simp [PyData.isStr, hn1, opNotIn_strs hx.str.1 hks]
            by_cases hi : s ∈ ks
            · simp [hi, opIsi, isTy, hyc]
              cases y with
              | tuple ps =>
                obtain ⟨k, rfl, h3, h4⟩ := hy.tup
                simp [PyData.isTuple]
                by_cases g3 : ps.length ≤ 3
                · have g3' : ¬ 3 < (ps.length : Int) := by omega
                  have hpl : ps.length ≤ 1000 := by omega
                  simp [g3']
                  refine l_compT (fun d => .bool (isTr ks n d)) ?_
                  simp [itemsOf, seqOf, calmSl, hpl, isTr, isKd, hi, g3]
                  intro d hd
                  refine (sp_is_tree_within hf hks (h4 d hd) (by omega) hm (by omega)).mono fun r bs ⟨h5, h6⟩ => ?_
                  subst h5 h6
                  simp
                · have g3' : 3 < (ps.length : Int) := by omega
                  simp [g3', isTr, g3]
              | _ => simp [PyData.isTuple, isTr]
            · have e : isTr ks (n + 1) (.tuple [.str s, y]) = false := by cases y <;> simp [isTr, isKd, hi]
              simp [hi, e]
        | _ => cases n <;> cases y <;> simp [PyData.isStr, isTr, isKd]
      · have h0' : ¬ (ds.length : Int) = 2 := by omega
        have e : isTr ks n (.tuple ds) = false := by
          unfold isTr
          split
          · rename_i e; cases e; simp at h0
          · rfl
        simp [e_is_tree_within, opIsi, isTy, hc, PyData.isTuple, opNe_int, h0', e]
    | _ => cases n <;> simp [e_is_tree_within, opIsi, isTy, hc, PyData.isTuple, isTr]
end
end RL
end
section
set_option Elab.async false
set_option linter.all false
set_option autoImplicit false
set_option maxRecDepth 100000
set_option maxHeartbeats 4000000
/-! S14: is_tree, names_of -/
namespace RL
open PySem PySem.Spec L2
open PyProof.Rows hiding St
theorem Gd.fst {m k : Nat} {ds : List D} (hd : Gd m k (.tuple ds)) (hp : ∀ p ∈ ds, isPr p = true) : ∀ a ∈ ds.map fstS, PyData.strOk a = true := by
  intro a ha
  obtain ⟨p, hp1, rfl⟩ := List.mem_map.mp ha
  obtain ⟨a, x, rfl, _⟩ := isPr_is (hp p hp1)
  obtain ⟨k, rfl, _, h2⟩ := hd.tup
  obtain ⟨k, rfl, _, h3⟩ := (h2 _ hp1).tup
  exact (h3 (.str a) (by simp)).str.1
section
variable {dt : List DefE} {wh : Nat}
theorem Prog.tree (h : Prog dt) (ht : Has dt e_is_tree_within) (hf : Has dt e_is_tree) {lv m k m' k' : Nat} {ds : List D} {v : D} (hd : Gd m' k' (.tuple ds)) (hk' : k' ≤ 64) (hm' : m' ≤ 1000) (hs : isSh (.tuple ds) = true) (hv : Gd m k v) (hk : k ≤ 64) (hm : m ≤ 1000) (hl : 12 ≤ lv) :
    LC (gN dt wh lv) "is_tree" [.v (.tuple ds), .v v] fun r bs => r = .v (.bool (isTr (ds.map fstS) 6 v)) ∧ bs = [] := by
  obtain ⟨lv, rfl⟩ : ∃ l, lv = l + 1 := ⟨lv - 1, by omega⟩
  refine LC.df hf rfl ?_
  obtain ⟨ds', e, hd1, hd4, hpr, _, has, _⟩ := isSh_is hs
  cases e
  simp [e_is_tree]
  refine (h.need hd hk' hm' (by omega) hs).mono fun r bs ⟨h3, h4⟩ => ?_
  subst h3 h4
  simp
  refine l_compT (fun p => .str (fstS p)) ?_
  have hdl : ds.length ≤ 1000 := by omega
  simp [itemsOf, seqOf, calmSl, hdl]
  refine ⟨fun d hd => ?_, ?_⟩
  · obtain ⟨a, x, rfl, _⟩ := isPr_is (hpr d hd)
    simp [fstS]
  · have := sp_is_tree_within (wh := wh) (lv := lv) (n := 6) ht (hd.fst hpr) hv hk hm (by omega)
    rw [List.map_map] at this
    refine this.mono fun r bs ⟨h3, h4⟩ => ?_
    subst h3 h4
    simp
theorem Prog.names (h : Prog dt) (hf : Has dt e_names_of) {lv m' k' : Nat} {ds : List D} (hd : Gd m' k' (.tuple ds)) (hk' : k' ≤ 64) (hm' : m' ≤ 1000) (hs : isSh (.tuple ds) = true) (hl : 12 ≤ lv) :
    LC (gN dt wh lv) "names_of" [.v (.tuple ds)] fun r bs => r = .o (.list ((namesD ds).map .str)) ∧ bs = [] := by
  obtain ⟨lv, rfl⟩ : ∃ l, lv = l + 1 := ⟨lv - 1, by omega⟩
  refine LC.df hf rfl ?_
  obtain ⟨ds', e, hd1, hd4, hpr, hkd, has, _⟩ := isSh_is hs
  cases e
  simp [e_names_of]
  refine (h.need hd hk' hm' (by omega) hs).mono fun r bs ⟨h3, h4⟩ => ?_
  subst h3 h4
  simp
  refine (sp_names_in h.po h.ni h.na hd4 hkd (by omega)).mono fun r bs ⟨h3, h4⟩ => ?_
  subst h3 h4
  simp
end
end RL
end
section
set_option Elab.async false
set_option linter.all false
set_option autoImplicit false
set_option maxRecDepth 100000
set_option maxHeartbeats 4000000
/-! S15: the law's draws -/
namespace RL
open PySem PySem.Spec L2
open PyProof.Rows hiding St

abbrev intsL (is : List Int) : D := .list (is.map .int)
theorem scrOf_scrD {ds : List D} : scrOf (scrD ds) = some ds := by
  unfold scrOf scrD
  simp [Function.comp_def]
@[simp] theorem scr_len {ds : List D} : opLen3 (scrD ds) = some (.v (.int ds.length)) := by
  unfold opLen3
  rw [scrOf_scrD]
@[simp] theorem scr_ix {ds : List D} {i : Int} : opIx3 (scrD ds) (.int i) = (atI ds i).map .v := by
  unfold opIx3
  rw [scrOf_scrD]
theorem atI_ok {α : Type} {xs : List α} {i : Int} (h0 : 0 ≤ i) (h1 : i < xs.length) : ∃ x, atI xs i = some x ∧ x ∈ xs := by
  have e : i = ((i.toNat : Nat) : Int) := by omega
  have hl : i.toNat < xs.length := by omega
  obtain ⟨j, rfl⟩ : ∃ j : Nat, i = (j : Int) := ⟨_, e⟩
  have hj : j < xs.length := by omega
  exact ⟨xs[j], atI_nat (List.getElem?_eq_getElem hj), List.getElem_mem hj⟩
theorem atI_map {α β : Type} {f : α → β} {xs : List α} {i : Int} : atI (xs.map f) i = (atI xs i).map f := by
  unfold atI
  simp only [List.length_map]
  cases ixN xs.length i with
  | none => rfl
  | some j => simp
theorem opMul_ok {i j : Int} (h : mulOk i j = true) : opMul (.int i) (.int j) = some (.v (.int (i * j))) := by
  show (if mulOk i j = true then _ else _) = _
  rw [if_pos h]
theorem mulOk_of {i j : Int} {m n : Nat} (hi : i.natAbs < 2 ^ m) (hj : j.natAbs < 2 ^ n) (h : m + n ≤ 134217728) : mulOk i j = true := by
  have h1 := (intBits_le_iff (m := m) (x := i)).mpr hi
  have h2 := (intBits_le_iff (m := n) (x := j)).mpr hj
  unfold mulOk
  exact decide_eq_true (by omega)
theorem mul_sm {i j : Int} (hi : i.natAbs < 2 ^ 200) (hj : j.natAbs < 2 ^ 200) : opMul (.int i) (.int j) = some (.v (.int (i * j))) := opMul_ok (mulOk_of hi hj (by omega))
@[simp] theorem opMod_int {i j : Int} : opMod (.int i) (.int j) = if j = 0 then none else some (.v (.int (i.fmod j))) := rfl
theorem opPow_ok {i : Int} {j : Nat} (h : i.natAbs < 2 ^ 64) (hj : j ≤ 1000000) : opPow (.int i) (.int (j : Int)) = some (.v (.int (i ^ j))) := by
  show (if 0 ≤ (j : Int) ∧ (j : Int) ≤ 1000000 ∧ i.natAbs < 2 ^ 64 then _ else _) = _
  rw [if_pos ⟨by omega, by omega, h⟩]
  simp
/-- a loop, by the number of turns -/
theorem l_forI {g : G} {e : En} {it : IM} {t : TM} {body : SM} {Q : Fl_ → En → Prop} (h : LI it g e fun ds e1 => ∃ J : Nat → En → Prop, J 0 e1 ∧ (∀ i d e, ds[i]? = some d → J i e → Lo (t d e) fun e1 => LS body g e1 fun f e2 => match f with
    | .nx => J (i + 1) e2
    | .ct => J (i + 1) e2
    | .bk => Q .nx e2
    | .rt x => Q (.rt x) e2) ∧ ∀ e, J ds.length e → Q .nx e) : LS (forM it t body) g e Q := by
  refine l_forA (LI.mono h fun ds e1 ⟨J, h1, h2, h3⟩ => ⟨fun left e => ∃ i, i + left.length = ds.length ∧ ds.drop i = left ∧ J i e, ⟨0, by simp, by simp, h1⟩, ?_, ?_⟩)
  · rintro d left e ⟨i, hl, hd, hi⟩
    have hx : ds[i]? = some d := by
      have := congrArg (·[0]?) hd
      simpa using this
    have h5 : i + 1 + left.length = ds.length := by simp at hl; omega
    have h6 : ds.drop (i + 1) = left := by
      have := congrArg List.tail hd
      simpa using this
    refine Wo.mono (h2 i d e hx hi) fun e1 h4 => WS.mono h4 fun f e2 h7 => ?_
    cases f with
    | nx => exact ⟨i + 1, h5, h6, h7⟩
    | ct => exact ⟨i + 1, h5, h6, h7⟩
    | bk => exact h7
    | rt x => exact h7
  · rintro e ⟨i, hl, hd, hi⟩
    have : i = ds.length := by simpa using hl
    subst this
    exact h3 e hi
def isI : D → Prop := fun d => ∃ i : Int, d = .int i
section
variable {dt : List DefE} {wh : Nat}
theorem sp_cell (hf : Has dt e__law_cell) {lv : Nat} {ns : List Int} {k : Nat} (hk : k < 64) :
    LC (gN dt wh (lv + 1)) "_law_cell" [.v (scrD (ns.map .int)), .v (.int k)] fun r bs => (∃ i, r = .v (.int i)) ∧ bs = [] := by
  refine LC.df hf rfl ?_
  have m1 : opMul (.int 7919) (.int (k : Int)) = some (.v (.int (7919 * k))) := mul_sm (by decide) (Nat.lt_of_lt_of_le (m := 64) (by omega) (by decide))
  by_cases h1 : (k : Int) < ns.length
  · obtain ⟨x, h2, h3⟩ := atI_ok (xs := ns.map PyData.int) (i := (k : Int)) (by omega) (by simpa using h1)
    obtain ⟨i, _, rfl⟩ := List.mem_map.mp h3
    simp [e__law_cell, h1, h2]
  · by_cases h0 : ns.length = 0
    · obtain rfl : ns = [] := List.length_eq_zero_iff.mp h0
      have : ¬ (k : Int) < 0 := by omega
      simp [e__law_cell, this, m1]
    · have h0' : ¬ (ns.length : Int) = 0 := by omega
      have hne : ¬ ns = [] := fun z => h0 (by simp [z])
      have e : (0 : Int) ≤ (k : Int).fmod ns.length := Int.fmod_nonneg_of_pos _ (by omega)
      have e' : (k : Int).fmod ns.length < ns.length := Int.fmod_lt_of_pos _ (by omega)
      obtain ⟨x, h2, h3⟩ := atI_ok (xs := ns.map PyData.int) (i := (k : Int).fmod ns.length) e (by simpa using e')
      obtain ⟨i, _, rfl⟩ := List.mem_map.mp h3
      simp [e__law_cell, h1, h0', hne, m1, h2]
/-- the primes -/
def primesL : List Int := [2147483647, 2147483629, 2147483587, 2147483579, 2147483563, 2147483549, 2147483543, 2147483497]
theorem prime_at (i : Int) : ∃ p : Int, opIx3 (.tuple (primesL.map .int)) (.int (i.fmod 8)) = some (.v (.int p)) ∧ 0 < p ∧ p < 4294967296 := by
  have e : (0 : Int) ≤ i.fmod 8 := Int.fmod_nonneg_of_pos _ (by omega)
  have e' : i.fmod 8 < 8 := Int.fmod_lt_of_pos _ (by omega)
  obtain ⟨x, h2, h3⟩ := atI_ok (xs := primesL.map PyData.int) (i := i.fmod 8) e e'
  obtain ⟨p, h4, rfl⟩ := List.mem_map.mp h3
  refine ⟨p, by rw [opIx3_tup, h2]; rfl, ?_⟩
  have : ∀ p ∈ primesL, 0 < p ∧ p < 4294967296 := by decide
  exact this p h4
theorem ints_mem : ∀ {n : Nat} {lo : Int} {d : D}, d ∈ intsD lo n → ∃ i, lo ≤ i ∧ i < lo + n ∧ d = .int i
  | 0, lo, d, h => by simp [intsD] at h
  | n + 1, lo, d, h => by
    simp [intsD] at h
    rcases h with rfl | h
    · exact ⟨lo, by omega, by omega, rfl⟩
    · obtain ⟨i, h1, h2, h3⟩ := ints_mem h
      exact ⟨i, by omega, by omega, h3⟩
theorem pow18 : ∃ z : Int, opPow (.int 10) (.int 18) = some (.v (.int z)) := ⟨_, opPow_ok (i := 10) (j := 18) (by decide) (by omega)⟩
theorem rng_nat {n : Nat} (h : n ≤ 1000000) : rngOf [.int (n : Int)] = some (intsD 0 n) := by
  have h1 : inR (n : Int) = true := Nat.ble_eq_true_of_le (show n ≤ 4611686018427387903 by omega)
  unfold rngOf
  simp only [h1, if_true, Int.toNat_natCast]
theorem ints_at : ∀ {n m : Nat} {lo : Int} {d : D}, (intsD lo n)[m]? = some d → m < n ∧ d = .int (lo + m)
  | 0, _, _, _, h => by simp [intsD] at h
  | n + 1, 0, lo, d, h => by
    simp [intsD] at h
    exact ⟨by omega, by simp [h]⟩
  | n + 1, m + 1, lo, d, h => by
    simp [intsD] at h
    obtain ⟨h1, h2⟩ := ints_at h
    refine ⟨by omega, by rw [h2]; congr 1; omega⟩
theorem ints_at0 {n m : Nat} {d : D} (h : (intsD 0 n)[m]? = some d) : m < n ∧ d = .int m := by
  obtain ⟨h1, h2⟩ := ints_at h
  exact ⟨h1, by rw [h2]; simp⟩
/-- a trillion trillions -/
theorem mul_b {i j : Int} (h1 : i.natAbs ≤ 1000000000000000000000000) (h2 : j.natAbs ≤ 1000000000000000000000000) : opMul (.int i) (.int j) = some (.v (.int (i * j))) :=
  mul_sm (Nat.lt_of_le_of_lt h1 (by decide)) (Nat.lt_of_le_of_lt h2 (by decide))
theorem abs_mul {i j : Int} {a b : Nat} (h1 : i.natAbs ≤ a) (h2 : j.natAbs ≤ b) : (i * j).natAbs ≤ a * b := by
  rw [Int.natAbs_mul]
  exact Nat.mul_le_mul h1 h2
theorem opDiv_ok {i j : Int} (h : j ≠ 0) (h2 : j.natAbs.log2 < 9000) : opDiv (.int i) (.int j) = some (.v (.int (i.fdiv j))) := by
  show (if j ≠ 0 ∧ j.natAbs.log2 < 9000 then _ else _) = _
  rw [if_pos ⟨h, h2⟩]
theorem sp_draws (hc : Has dt e__law_cell) (hf : Has dt e__law_draws) {lv : Nat} {ns : List Int} {k many : Nat} {base : Int} (hk : k < 64) (hm : many ≤ 1000) (hb : 0 < base) (hb2 : base.natAbs.log2 < 9000) :
    LC (gN dt wh (lv + 2)) "_law_draws" [.v (scrD (ns.map .int)), .v (.int k), .v (.int many), .v (.int base)] fun r bs => (∃ is : List Int, r = .o (.list (is.map .int))) ∧ bs = [] := by
  refine LC.df hf rfl ?_
  simp [e__law_draws]
  have hm6 : many ≤ 1000000 := by omega
  refine (sp_cell hc hk).mono fun r bs ⟨⟨i, h3⟩, h4⟩ => ?_
  subst h3 h4
  obtain ⟨z, hz⟩ := pow18
  simp [hz]
  by_cases hg : z ≤ i
  all_goals
    simp [hg]
    with_reducible refine l_forI ?_
    simp [rng_nat hm6]
    refine ⟨fun m e => ∃ (rest : Int) (is : List Int) (s8 s9 : Option Sl), is.length = m ∧ isBor (some s8) = false ∧ isBor (some s9) = false ∧
      e = [some (Sl.val (scrD (List.map PyData.int ns))), some (Sl.val (PyData.int ↑k)), some (Sl.val (PyData.int ↑many)), some (Sl.val (PyData.int base)), some (Sl.val (.tuple (primesL.map .int))), some (Sl.val (PyData.int i)), some (Sl.val (PyData.int rest)), some (Sl.own (PyData.list (is.map .int))), s8, s9], ⟨_, [], none, none, rfl, rfl, rfl, rfl⟩, ?_, ?_⟩
    · rintro m d e hd ⟨rest, is, s8, s9, hl, b8, b9, rfl⟩
      obtain ⟨j1, rfl⟩ := ints_at0 hd
      obtain ⟨p1, e1, l1, u1⟩ := prime_at m
      obtain ⟨p2, e2, l2, u2⟩ := prime_at (3 * m + k)
      obtain ⟨p3, e3, l3, u3⟩ := prime_at (m + 5)
      simp only [opIx3_tup] at e1 e2 e3
      have f1 := Int.fmod_nonneg_of_pos i l1
      have f1' := Int.fmod_lt_of_pos i l1
      have hmm := abs_mul (i := 2 * (m : Int)) (j := (m : Int)) (a := 2000) (b := 1000) (by omega) (by omega)
      have g1 : opMul (.int 2) (.int (m : Int)) = some (.v (.int (2 * m))) := mul_b (by omega) (by omega)
      have g2 : opMul (.int (2 * (m : Int))) (.int (m : Int)) = some (.v (.int (2 * m * m))) := mul_b (by omega) (by omega)
      have g3 : opMul (.int (i.fmod p1)) (.int (48271 + 2 * (m : Int) * m)) = some (.v (.int (i.fmod p1 * (48271 + 2 * m * m)))) := mul_b (by omega) (by omega)
      have g4 : opMul (.int 7919) (.int ((m : Int) + 1)) = some (.v (.int (7919 * (m + 1)))) := mul_b (by omega) (by omega)
      have g5 : opMul (.int (7919 * ((m : Int) + 1))) (.int ((m : Int) + 1)) = some (.v (.int (7919 * (m + 1) * (m + 1)))) := mul_b (by omega) (by omega)
      have g6 : opMul (.int 104729) (.int (k : Int)) = some (.v (.int (104729 * k))) := mul_b (by omega) (by omega)
      have g7 : opMul (.int 3) (.int (m : Int)) = some (.v (.int (3 * m))) := mul_b (by omega) (by omega)
      generalize hq : i.fmod p1 * (48271 + 2 * (m : Int) * m) + 7919 * (m + 1) * (m + 1) + 104729 * k = q
      have f2 := Int.fmod_nonneg_of_pos q l2
      have f2' := Int.fmod_lt_of_pos q l2
      have g8 : opMul (.int (q.fmod p2)) (.int (q.fmod p2)) = some (.v (.int (q.fmod p2 * q.fmod p2))) := mul_b (by omega) (by omega)
      have hqq := abs_mul (i := q.fmod p2) (j := q.fmod p2) (a := 4294967296) (b := 4294967296) (by omega) (by omega)
      have g9 : opMul (.int (q.fmod p2 * q.fmod p2)) (.int (q.fmod p2)) = some (.v (.int (q.fmod p2 * q.fmod p2 * q.fmod p2))) := mul_b (by omega) (by omega)
      have g10 : opDiv (.int rest) (.int base) = some (.v (.int (rest.fdiv base))) := opDiv_ok (by omega) hb2
      simp [b8, b9, e1, e2, e3, show ¬ p1 = 0 by omega, show ¬ p2 = 0 by omega, show ¬ p3 = 0 by omega, g1, g2, g3, g4, g5, g6, g7, hq, g8, g9]
      generalize (q.fmod p2 * q.fmod p2 * q.fmod p2).fmod p3 = w
      have hfa : ∀ x : D, fAppend (.list (is.map .int)) [x] = some (.list (is.map .int ++ [x]), .none) := fun x => by
        show (if (is.map PyData.int).length < sizeLine then _ else _) = _
        rw [if_pos (len_ok' (by simp; omega))]
      have hb0 : ¬ base = 0 := by omega
      by_cases hr : 0 < rest
      all_goals
        simp [hr, isLstD, hfa, hb0, g10]
        exact ⟨_, is ++ [_], by simp [hl], _, rfl, _, rfl, rfl, by rw [List.map_append]; rfl, rfl, rfl⟩
    · rintro e ⟨rest, is, s8, s9, _, _, _, rfl⟩
      simp
      exact ⟨_, rfl⟩end
end RL
end
section
set_option Elab.async false
set_option linter.all false
set_option autoImplicit false
set_option maxRecDepth 100000
set_option maxHeartbeats 4000000
/-! T0: rules and sheets, typed -/
namespace RL
open PySem PySem.Spec L2
open PyProof.Rows hiding St

inductive Rule where
  | num (i : Int)
  | here (a : Str)
  | up (a : Str)
  | times (i : Int) (r : Rule)
  | sum (rs : List Rule)
  | first (rs : List Rule)
mutual
def Rule.enc : Rule → D
  | .num i => .tuple [.str "num", .int i]
  | .here a => .tuple [.str "here", .str a]
  | .up a => .tuple [.str "up", .str a]
  | .times i r => .tuple [.str "times", .int i, r.enc]
  | .sum rs => .tuple (.str "sum" :: encs rs)
  | .first rs => .tuple (.str "first" :: encs rs)
def encs : List Rule → List D
  | [] => []
  | r :: rs => r.enc :: encs rs
end
theorem encs_map : ∀ (rs : List Rule), encs rs = rs.map Rule.enc
  | [] => rfl
  | r :: rs => by simp [encs, encs_map rs]
/-- a rule so many deep at most, its names as P tells -/
def RuleOk (P : Str → Prop) : Nat → Rule → Prop
  | 0, _ => False
  | _ + 1, .num i => -99 ≤ i ∧ i ≤ 99
  | _ + 1, .here a => P a
  | _ + 1, .up a => P a
  | n + 1, .times i r => (-99 ≤ i ∧ i ≤ 99) ∧ RuleOk P n r
  | n + 1, .sum rs => (1 ≤ rs.length ∧ rs.length ≤ 3) ∧ ∀ r ∈ rs, RuleOk P n r
  | n + 1, .first rs => rs.length ≤ 3 ∧ ∀ r ∈ rs, RuleOk P n r
theorem RuleOk.mono {P Q : Str → Prop} (h : ∀ a, P a → Q a) : ∀ {n m : Nat} {r : Rule}, n ≤ m → RuleOk P n r → RuleOk Q m r
  | 0, _, _, _, h1 => h1.elim
  | n + 1, 0, _, hl, _ => by omega
  | n + 1, m + 1, .num i, _, h1 => h1
  | n + 1, m + 1, .here a, _, h1 => h a h1
  | n + 1, m + 1, .up a, _, h1 => h a h1
  | n + 1, m + 1, .times i r, hl, h1 => ⟨h1.1, RuleOk.mono h (by omega) h1.2⟩
  | n + 1, m + 1, .sum rs, hl, h1 => ⟨h1.1, fun r hr => RuleOk.mono h (by omega) (h1.2 r hr)⟩
  | n + 1, m + 1, .first rs, hl, h1 => ⟨h1.1, fun r hr => RuleOk.mono h (by omega) (h1.2 r hr)⟩
theorem isW_enc {P : Str → Prop} (h : ∀ a, P a → isNmS a = true) : ∀ {n : Nat} {r : Rule}, RuleOk P n r → isW n r.enc = true
  | 0, _, h1 => h1.elim
  | n + 1, .num i, h1 => by
    have h2 : -99 ≤ i ∧ i ≤ 99 := h1
    simp [Rule.enc, isW, isNum, inB, h2]
  | n + 1, .here a, h1 => by simp [Rule.enc, isW, isNm, h a h1]
  | n + 1, .up a, h1 => by simp [Rule.enc, isW, isNm, h a h1]
  | n + 1, .times i r, h1 => by
    have h2 : -99 ≤ i ∧ i ≤ 99 := h1.1
    simp [Rule.enc, isW, isNum, inB, h2, isW_enc h h1.2]
  | n + 1, .sum rs, h1 => by
    have h2 : 1 ≤ rs.length ∧ rs.length ≤ 3 := h1.1
    simp [Rule.enc, isW, encs_map, h2]
    exact fun r hr => isW_enc h (h1.2 r hr)
  | n + 1, .first rs, h1 => by
    have h2 : rs.length ≤ 3 := h1.1
    simp [Rule.enc, isW, encs_map, h2]
    exact fun r hr => isW_enc h (h1.2 r hr)
theorem isNmS_ok {a : Str} (h : isNmS a = true) : PyData.strOk a = true ∧ a.length ≤ 1000 := by
  simp only [isNmS, Bool.and_eq_true, decide_eq_true_eq, List.all_eq_true] at h
  refine ⟨?_, by omega⟩
  unfold PyData.strOk
  simp
  intro x hx
  have := h.2 a.cps[x] (by simp)
  simp [isAz] at this
  omega
theorem gd_str {m n : Nat} {s : Str} (h : PyData.strOk s = true ∧ s.length ≤ 1000) : Gd m n (.str s) := by cases n <;> exact h
theorem gd_int {m n : Nat} {i : Int} : Gd m n (.int i) := by cases n <;> trivial
theorem lit_ok (a : String) (h : a.toList.length ≤ 1000) : PyData.strOk (Str.ofString a) = true ∧ (Str.ofString a).length ≤ 1000 := by
  refine ⟨strOk_lit a, ?_⟩
  rw [Str.ofString_eq_toList]
  show (List.toArray (a.toList.map Char.toNat)).size ≤ 1000
  simp only [List.size_toArray, List.length_map]
  exact h
theorem gd_enc {P : Str → Prop} (h : ∀ a, P a → isNmS a = true) : ∀ {n : Nat} {r : Rule}, RuleOk P n r → Gd 4 n r.enc
  | 0, _, h1 => h1.elim
  | n + 1, .num i, h1 => ⟨by simp, by
      intro d hd
      simp at hd
      rcases hd with rfl | rfl
      · exact gd_str (lit_ok _ (by decide))
      · exact gd_int⟩
  | n + 1, .here a, h1 => ⟨by simp, by
      intro d hd
      simp at hd
      rcases hd with rfl | rfl
      · exact gd_str (lit_ok _ (by decide))
      · exact gd_str (isNmS_ok (h a h1))⟩
  | n + 1, .up a, h1 => ⟨by simp, by
      intro d hd
      simp at hd
      rcases hd with rfl | rfl
      · exact gd_str (lit_ok _ (by decide))
      · exact gd_str (isNmS_ok (h a h1))⟩
  | n + 1, .times i r, h1 => ⟨by simp, by
      intro d hd
      simp at hd
      rcases hd with rfl | rfl | rfl
      · exact gd_str (lit_ok _ (by decide))
      · exact gd_int
      · exact gd_enc h h1.2⟩
  | n + 1, .sum rs, h1 => ⟨by have h2 : 1 ≤ rs.length ∧ rs.length ≤ 3 := h1.1; simp [encs_map]; omega, by
      intro d hd
      simp [encs_map] at hd
      rcases hd with rfl | ⟨r, hr, rfl⟩
      · exact gd_str (lit_ok _ (by decide))
      · exact gd_enc h (h1.2 r hr)⟩
  | n + 1, .first rs, h1 => ⟨by have h2 : rs.length ≤ 3 := h1.1; simp [encs_map]; omega, by
      intro d hd
      simp [encs_map] at hd
      rcases hd with rfl | ⟨r, hr, rfl⟩
      · exact gd_str (lit_ok _ (by decide))
      · exact gd_enc h (h1.2 r hr)⟩
mutual
/-- the names behind some words -/
def Rule.nm (ws : List Str) : Rule → List Str
  | .num _ => []
  | .here a => if Str.ofString "here" ∈ ws then [a] else []
  | .up a => if Str.ofString "up" ∈ ws then [a] else []
  | .times _ r => r.nm ws
  | .sum rs => nms ws rs
  | .first rs => nms ws rs
def nms (ws : List Str) : List Rule → List Str
  | [] => []
  | r :: rs => r.nm ws ++ nms ws rs
end
theorem nms_flat {ws : List Str} : ∀ (rs : List Rule), nms ws rs = rs.flatMap (Rule.nm ws)
  | [] => rfl
  | r :: rs => by simp [nms, nms_flat rs]
theorem wordIn_no {ws : List Str} {w : Str} {r : List D} (h : ¬ w ∈ ws) : wordIn ws (.tuple (.str w :: r)) = [] := by
  unfold wordIn
  split
  · rename_i e
    cases e
    rw [if_neg h]
  · rfl
theorem flat_congr {α β : Type} {f g : α → List β} : ∀ {l : List α}, (∀ a ∈ l, f a = g a) → l.flatMap f = l.flatMap g
  | [], _ => rfl
  | a :: l, h => by
    simp only [List.flatMap_cons]
    rw [h a (by simp), flat_congr fun b hb => h b (by simp [hb])]
theorem behind_enc {P : Str → Prop} {ws : List Str} (hws : ∀ w ∈ ws, w = Str.ofString "here" ∨ w = Str.ofString "up") : ∀ {n : Nat} {r : Rule}, RuleOk P n r → behind ws n r.enc = r.nm ws
  | 0, _, h1 => h1.elim
  | n + 1, .num i, h1 => by
    simp [behind, Rule.enc, wordIn, partsD, Rule.nm]
  | n + 1, .here a, h1 => by simp [behind, Rule.enc, wordIn, partsD, Rule.nm]
  | n + 1, .up a, h1 => by simp [behind, Rule.enc, wordIn, partsD, Rule.nm]
  | n + 1, .times i r, h1 => by simp [behind, Rule.enc, wordIn, partsD, Rule.nm, behind_enc hws h1.2]
  | n + 1, .sum rs, h1 => by
    have e : wordIn ws (Rule.sum rs).enc = [] := by
      have : ¬ Str.ofString "sum" ∈ ws := fun z => by simpa using hws _ z
      exact wordIn_no this
    have e2 : partsD (Rule.sum rs).enc = rs.map Rule.enc := by simp [partsD, Rule.enc, encs_map]
    simp only [behind, e, e2, Rule.nm, nms_flat, List.nil_append]
    rw [List.flatMap_map]
    exact flat_congr fun r hr => behind_enc hws (h1.2 r hr)
  | n + 1, .first rs, h1 => by
    have e : wordIn ws (Rule.first rs).enc = [] := by
      have : ¬ Str.ofString "first" ∈ ws := fun z => by simpa using hws _ z
      exact wordIn_no this
    have e2 : partsD (Rule.first rs).enc = rs.map Rule.enc := by simp [partsD, Rule.enc, encs_map]
    simp only [behind, e, e2, Rule.nm, nms_flat, List.nil_append]
    rw [List.flatMap_map]
    exact flat_congr fun r hr => behind_enc hws (h1.2 r hr)
theorem nm_in {P : Str → Prop} {ws : List Str} : ∀ {n : Nat} {r : Rule}, RuleOk P n r → ∀ a ∈ r.nm ws, P a
  | 0, _, h1 => h1.elim
  | n + 1, .num i, h1 => by simp [Rule.nm]
  | n + 1, .here a, h1 => by
    intro b hb
    simp [Rule.nm] at hb
    rw [hb.2]; exact h1
  | n + 1, .up a, h1 => by
    intro b hb
    simp [Rule.nm] at hb
    rw [hb.2]; exact h1
  | n + 1, .times i r, h1 => by
    intro b hb
    exact nm_in h1.2 b (by simpa [Rule.nm] using hb)
  | n + 1, .sum rs, h1 => by
    intro b hb
    simp [Rule.nm, nms_flat] at hb
    obtain ⟨r, hr, hb⟩ := hb
    exact nm_in (h1.2 r hr) b hb
  | n + 1, .first rs, h1 => by
    intro b hb
    simp [Rule.nm, nms_flat] at hb
    obtain ⟨r, hr, hb⟩ := hb
    exact nm_in (h1.2 r hr) b hb

/-! ### sheets -/
abbrev Stg := List (Str × Rule)
abbrev Sheet := List (Str × Stg)
def encP (p : Str × Rule) : D := .tuple [.str p.1, p.2.enc]
def encS (s : Stg) : D := .tuple (s.map encP)
def encK (p : Str × Stg) : D := .tuple [.str p.1, encS p.2]
def Sheet.ds (sh : Sheet) : List D := sh.map encK
def Sheet.enc (sh : Sheet) : D := .tuple sh.ds
structure StgOk (P : Str → Prop) (n : Nat) (s : Stg) : Prop where
  len : s.length ≤ 4
  asc : asc (s.map (·.1)) = true
  nm : ∀ p ∈ s, P p.1
  rl : ∀ p ∈ s, RuleOk P n p.2
/-- a sheet of names that P tells -/
structure ShOk (P : Str → Prop) (n : Nat) (sh : Sheet) : Prop where
  l1 : 1 ≤ sh.length
  l4 : sh.length ≤ 4
  asc : RL.asc (sh.map (·.1)) = true
  kd : ∀ p ∈ sh, isNmS p.1 = true
  st : ∀ p ∈ sh, StgOk P n p.2
def Sheet.nm (sh : Sheet) : List Str := sh.flatMap fun p => p.2.flatMap fun q => q.1 :: q.2.nm hu
def Sheet.names (sh : Sheet) : List Str := (uniq sh.nm).mergeSort strLe
section
variable {P : Str → Prop} (hP : ∀ a, P a → isNmS a = true) {n : Nat} (hn : n ≤ 5)
include hP hn
theorem isSet_enc {s : Stg} (h : StgOk P n s) : isSet (encS s) = true := by
  have e : (s.map encP).map fstS = s.map (·.1) := by simp [encP, fstS]
  simp [isSet, encS, h.len, -List.map_map, e, h.asc]
  intro a r hq
  refine ⟨by simp [encP, isPr, isNm, hP _ (h.nm _ hq)], ?_⟩
  exact isW_enc hP ((h.rl _ hq).mono (fun _ h => h) hn)
theorem names_enc {sh : Sheet} (h : ShOk P n sh) : namesD sh.ds = sh.names := by
  unfold namesD Sheet.names
  congr 2
  unfold allN Sheet.ds Sheet.nm
  rw [List.flatMap_map]
  refine flat_congr fun p hp => ?_
  show ((p.2.map encP).flatMap stgN) = _
  rw [List.flatMap_map]
  refine flat_congr fun q hq => ?_
  show q.1 :: behind hu 5 q.2.enc = _
  rw [behind_enc (by simp [hu]) (((h.st p hp).rl q hq).mono (fun _ h => h) hn)]
end
end RL
end
section
set_option Elab.async false
set_option linter.all false
set_option autoImplicit false
set_option maxRecDepth 100000
set_option maxHeartbeats 4000000
/-! T1: typed sheets are sheets; ways, trees -/
namespace RL
open PySem PySem.Spec L2
open PyProof.Rows hiding St

theorem asc_pw : ∀ {l : List Str}, asc l = true ↔ l.Pairwise fun a b => sLt a b = true
  | [] => by simp [asc]
  | [a] => by simp [asc]
  | a :: b :: l => by
    rw [List.pairwise_cons, ← asc_pw (l := b :: l)]
    constructor
    · intro h
      exact ⟨asc_lt h, by simp [asc] at h; exact h.2⟩
    · rintro ⟨h1, h2⟩
      simp [asc, h1 b (by simp), h2]
theorem asc_sub {l m : List Str} (h : asc m = true) (s : l.Sublist m) : asc l = true := asc_pw.mpr ((asc_pw.mp h).sublist s)
section
variable {P : Str → Prop} {n : Nat}
theorem Sheet.nm_in {sh : Sheet} (h : ShOk P n sh) : ∀ a ∈ sh.nm, P a := by
  intro a ha
  simp only [Sheet.nm, List.mem_flatMap, List.mem_cons] at ha
  obtain ⟨p, hp, q, hq, ha⟩ := ha
  rcases ha with rfl | ha
  · exact (h.st p hp).nm q hq
  · exact RL.nm_in ((h.st p hp).rl q hq) a ha
theorem Sheet.names_mem {sh : Sheet} {a : Str} : a ∈ sh.names ↔ a ∈ sh.nm := by
  unfold Sheet.names
  rw [List.mem_mergeSort, mem_uniq]
theorem Sheet.names_nodup {sh : Sheet} : sh.names.Nodup := (List.mergeSort_perm _ _).nodup_iff.mpr (nodup_uniq _)
theorem Sheet.names_len {sh : Sheet} {N : List Str} (h : ShOk (· ∈ N) n sh) : sh.names.length ≤ N.length :=
  sh.names_nodup.length_le_of_subset fun a ha => Sheet.nm_in h a (Sheet.names_mem.mp ha)
variable (hP : ∀ a, P a → isNmS a = true)
include hP
theorem isSh_enc (hn : n ≤ 5) {sh : Sheet} (h : ShOk P n sh) (hl : sh.names.length ≤ 4) : isSh sh.enc = true := by
  have e : sh.ds.map fstS = sh.map (·.1) := by simp [Sheet.ds, encK, fstS]
  have e2 : sh.ds.length = sh.length := by simp [Sheet.ds]
  have e3 := names_enc hP hn h
  simp only [isSh, Sheet.enc, e, e2, e3, h.asc, decide_eq_true h.l1, decide_eq_true h.l4, decide_eq_true hl, Bool.and_true, Bool.true_and, List.all_eq_true]
  intro d hd
  simp only [Sheet.ds, List.mem_map] at hd
  obtain ⟨p, hp, rfl⟩ := hd
  simp only [encK, isPr, isNm, sndD, h.kd p hp, isSet_enc hP hn (h.st p hp), Bool.and_self]
theorem gd_stg {s : Stg} (h : StgOk P n s) : Gd 4 (n + 2) (encS s) := by
  refine ⟨by simpa [encS] using h.len, fun d hd => ?_⟩
  simp only [List.mem_map] at hd
  obtain ⟨p, hp, rfl⟩ := hd
  refine ⟨by simp, fun d hd => ?_⟩
  simp at hd
  rcases hd with rfl | rfl
  · exact gd_str (isNmS_ok (hP _ (h.nm p hp)))
  · exact (gd_enc hP (h.rl p hp))
theorem gd_sh {sh : Sheet} (h : ShOk P n sh) : Gd 4 (n + 4) sh.enc := by
  refine ⟨by simpa [Sheet.ds] using h.l4, fun d hd => ?_⟩
  simp only [Sheet.ds, List.mem_map] at hd
  obtain ⟨p, hp, rfl⟩ := hd
  refine ⟨by simp, fun d hd => ?_⟩
  simp at hd
  rcases hd with rfl | rfl
  · exact gd_str (isNmS_ok (h.kd p hp))
  · exact gd_stg hP (h.st p hp)
end
end RL
end
section
set_option Elab.async false
set_option linter.all false
set_option autoImplicit false
set_option maxRecDepth 100000
set_option maxHeartbeats 4000000
/-! S16: bags; what the law draws -/
namespace RL
open PySem PySem.Spec L2
open PyProof.Rows hiding St

/-- shut, so that simp leaves it -/
def Keep (p : Prop) (x : Tg p := ()) : Prop := p
theorem kp {p : Prop} (h : p) : Keep p := h
abbrev bagD (is : List Int) : D := .list (is.map .int)
/-- the defs of all laws, in a table -/
structure Lib (dt : List DefE) : Prop where
  cell : Has dt e__law_cell
  draws : Has dt e__law_draws
  bag : Has dt e__law_bag
  take : Has dt e__law_take
  choice : Has dt e__law_choice
  rule : Has dt e__law_rule
theorem shp_ints {is : List Int} : SeqAt.shaped (bagD is) = true := by
  have h : Gd is.length 1 (bagD is) := ⟨by simp, fun d hd => by
    obtain ⟨i, _, rfl⟩ := List.mem_map.mp hd
    exact gd_int⟩
  exact h.shp (by omega)
@[simp] theorem shp_nilL : SeqAt.shaped (.list []) = true := shp_ints (is := [])
theorem opNe_bag {is : List Int} : opNe (bagD is) (.list []) = some (.v (.bool (!is.isEmpty))) := by
  unfold opNe
  rw [if_pos ⟨shp_ints, shp_nilL⟩]
  cases is <;> simp [PyData.eqv, PyData.eqvAll]
theorem fPop_0 {i : Int} {is : List Int} : fPop (bagD (i :: is)) [.int 0] = some (bagD is, .int i) := by
  show (if -(2 ^ 63) ≤ (0 : Int) ∧ (0 : Int) < 2 ^ 63 then (seqIndex? 0 ((i :: is).map PyData.int).length).bind (fun j => (((i :: is).map PyData.int)[j]?).map fun d => (PyData.list (((i :: is).map PyData.int).eraseIdx j), d)) else none) = _
  rw [if_pos (by decide)]
  have : seqIndex? 0 ((i :: is).map PyData.int).length = some 0 := by
    simp [seqIndex?]
  rw [this]
  rfl
section
variable {dt : List DefE} {wh : Nat} {Q : R → List D → Prop}
theorem Lib.take_ (h : Lib dt) {lv : Nat} {bag : List Int} {n : Int} (hn : 0 < n) (hq : ∀ (i : Int) (bag' : List Int), 0 ≤ i → i < n → Q (.v (.int i)) [bagD bag']) :
    LC (gN dt wh (lv + 1)) "_law_take" [.b (bagD bag), .v (.int n)] Q := by
  refine LC.df h.take rfl ?_
  have hn0 : ¬ n = 0 := by omega
  cases bag with
  | nil =>
    simp [e__law_take, opNe_bag (is := []), hn0, opInt]
    simpa using hq 0 [] (by omega) (by omega)
  | cons i is =>
    have := opNe_bag (is := i :: is)
    have h2 := fPop_0 (i := i) (is := is)
    simp at this h2
    simp [e__law_take, this, hn0, opInt, h2, isLstD]
    exact hq _ _ (Int.fmod_nonneg_of_pos _ hn) (Int.fmod_lt_of_pos _ hn)
theorem Lib.choice_ (h : Lib dt) {lv : Nat} {bag : List Int} {ds : List D} (hn : ds ≠ []) (hq : ∀ (d : D) (bag' : List Int), d ∈ ds → Q (.v d) [bagD bag']) :
    LC (gN dt wh (lv + 2)) "_law_choice" [.b (bagD bag), .v (.list ds)] Q := by
  refine LC.df h.choice rfl ?_
  have hl : 0 < (ds.length : Int) := by
    have := List.length_pos_iff.mpr hn
    omega
  simp [e__law_choice]
  refine h.take_ hl fun i bag' h0 h1 => ?_
  obtain ⟨d, h2, h3⟩ := atI_ok h0 h1
  simp [h2]
  exact hq d bag' h3
theorem Lib.bag_ (h : Lib dt) {lv : Nat} {ns : List Int} {k : Nat} (hk : k < 64) (hq : ∀ bag : List Int, Q (.o (bagD bag)) []) :
    LC (gN dt wh (lv + 3)) "_law_bag" [.v (scrD (ns.map .int)), .v (.int k)] Q := by
  refine LC.df h.bag rfl ?_
  simp [e__law_bag]
  refine (sp_draws (many := 150) h.cell h.draws hk (by omega) (by omega) (by decide)).mono fun r bs ⟨⟨is, h1⟩, h2⟩ => ?_
  subst h1 h2
  simp
  exact hq is
end
/-- a comprehension without a condition, whose parts may change slots -/
theorem l_compI {g : G} {e : En} {it : IM} {t : TM} {m : EM} {sl : List Nat} {Q : R → En → Prop} (h : LI it g e fun ds e1 => ds.length < sizeLine ∧ calmSl e1 sl = true ∧ ∃ J : List D → En → Prop, J [] (wipeE e1 sl) ∧
    (∀ d acc e, ds[acc.length]? = some d → J acc e → Lo (t d e) fun e1 => LE m g e1 fun r e3 => J (acc ++ [r.d]) (wipeE e3 sl)) ∧ ∀ acc e, acc.length = ds.length → J acc e → Q (.o (.list acc)) (backE e1 e sl)) : LE (compM it t trueM m sl) g e Q := by
  refine l_compA (LI.mono h fun ds e1 ⟨h1, h2, J, h3, h4, h5⟩ => ⟨h1, h2, fun left acc e => ds.drop acc.length = left ∧ acc.length + left.length = ds.length ∧ J acc e, ⟨by simp, by simp, h3⟩, ?_, ?_⟩)
  · rintro d left acc e ⟨hd, hl, hj⟩
    have hx : ds[acc.length]? = some d := by
      have := congrArg (·[0]?) hd
      simpa using this
    have h6 : ds.drop (acc.length + 1) = left := by
      have := congrArg List.tail hd
      simpa using this
    refine Wo.mono (h4 d acc e hx hj) fun e1 h7 => ?_
    rw [l_trueM]
    refine LE.mono h7 fun r e3 h8 => ⟨by simpa using h6, by simp at hl ⊢; omega, h8⟩
  · rintro acc e ⟨hd, hl, hj⟩
    exact h5 acc e (by simpa using hl) hj
section
variable {dt : List DefE} {wh : Nat}
theorem Lib.rule_ (h : Lib dt) {names : List Str} (hne : names ≠ []) : ∀ {n lv : Nat} {bag : List Int} {Q : R → List D → Prop}, 1 ≤ n → n + 2 ≤ lv → n ≤ 100 → (hq : ∀ (r : Rule) (bag' : List Int), RuleOk (· ∈ names) n r → Q (.v r.enc) [bagD bag']) →
    LC (gN dt wh lv) "_law_rule" [.b (bagD bag), .v (.list (names.map .str)), .v (.int (n : Nat))] Q
  | 0, _, _, _, h1, _, _, _ => by omega
  | n + 1, 0, _, _, _, h2, _, _ => by omega
  | n + 1, lv + 1, bag, Q, h1, h2, h3, hq => by
    refine LC.df h.rule rfl ?_
    obtain ⟨lv, rfl⟩ : ∃ l, lv = l + 2 := ⟨lv - 2, by omega⟩
    have hnn : names.map PyData.str ≠ [] := by simpa using hne
    have hsub : ((n : Int) + 1 - 1) = (n : Int) := by omega
    have c0 : (List.map PyData.str names).length ≤ 1000 ∨ True := .inr trivial
    by_cases hn : 1 ≤ n
    case' pos =>
      have hn' : (1 : Int) < n + 1 := by omega
      simp [e__law_rule, hn']
      refine h.take_ (by omega) fun w bag1 w0 w1 => ?_
      have hw : w < 4 ∨ 1 ≤ n := .inr hn
    case' neg =>
      have hn' : ¬ (1 : Int) < n + 1 := by omega
      simp [e__law_rule, hn']
      refine h.take_ (by omega) fun w bag1 w0 w1 => ?_
      have hw : w < 4 ∨ 1 ≤ n := .inl w1
    all_goals
      clear hn' w1
      by_cases e0 : w = 0
      · subst e0
        simp [opNeg]
        refine h.choice_ (by simp) fun d bag2 hd => ?_
        have hd2 : ∃ i : Int, d = .int i ∧ -99 ≤ i ∧ i ≤ 99 := by
          simp at hd
          rcases hd with rfl | rfl | rfl | rfl | rfl | rfl | rfl | rfl <;> exact ⟨_, rfl, by decide, by decide⟩
        obtain ⟨i, rfl, hi⟩ := hd2
        simp
        exact hq (.num i) bag2 hi
      by_cases e3 : w < 4
      · simp [e0, e3]
        refine h.choice_ (by simp) fun d bag2 hd => ?_
        simp
        refine h.choice_ hnn fun d2 bag3 hd2 => ?_
        obtain ⟨a, ha, rfl⟩ := List.mem_map.mp hd2
        simp at hd
        rcases hd with rfl | rfl
        · simp
          exact hq (.here a) bag3 ha
        · simp
          exact hq (.up a) bag3 ha
      have hn1 : 1 ≤ n := by omega
      by_cases e4 : w = 4
      · subst e4
        simp [opNeg]
        refine h.choice_ (by simp) fun d bag2 hd => ?_
        have hd2 : ∃ i : Int, d = .int i ∧ -99 ≤ i ∧ i ≤ 99 := by
          simp at hd
          rcases hd with rfl | rfl | rfl | rfl | rfl <;> exact ⟨_, rfl, by decide, by decide⟩
        obtain ⟨i, rfl, hi⟩ := hd2
        simp [hsub]
        refine h.rule_ hne hn1 (by omega) (by omega) fun r bag3 hr => ?_
        simp
        exact hq (.times i r) bag3 ⟨hi, hr⟩
      by_cases e7 : w < 7
      case' pos => simp [e0, e3, e4, e7]
      case' neg => simp [e0, e3, e4, e7]
      all_goals
        refine h.choice_ (by simp) fun d bag2 hd => ?_
        have hd2 : ∃ i : Nat, d = .int i ∧ (w < 7 → 1 ≤ i) ∧ i ≤ 3 := by
          simp at hd
          first
            | (rcases hd with rfl | rfl | rfl | rfl <;> first | exact ⟨1, rfl, by omega, by omega⟩ | exact ⟨2, rfl, by omega, by omega⟩ | exact ⟨3, rfl, by omega, by omega⟩)
            | (rcases hd with rfl | rfl | rfl | rfl <;> first | exact ⟨0, rfl, by omega, by omega⟩ | exact ⟨1, rfl, by omega, by omega⟩ | exact ⟨2, rfl, by omega, by omega⟩ | exact ⟨3, rfl, by omega, by omega⟩)
            | (rcases hd with rfl | rfl | rfl <;> first | exact ⟨1, rfl, by omega, by omega⟩ | exact ⟨2, rfl, by omega, by omega⟩ | exact ⟨3, rfl, by omega, by omega⟩)
        obtain ⟨i, rfl, hi, hi3⟩ := hd2
        simp
        with_reducible refine l_compI ?_
        simp [rng_nat (show i ≤ 1000000 by omega), ints_len, calmSl]
        refine ⟨len_ok' (by omega), fun acc e => ∃ (rs : List Rule) (bag3 : List Int), acc = rs.map Rule.enc ∧ (∀ r ∈ rs, RuleOk (· ∈ names) n r) ∧ e = [some (Sl.bor (bagD bag3)), some (Sl.val (PyData.list (List.map PyData.str names))), some (Sl.val (PyData.int (↑n + 1))), some (Sl.val (PyData.int w)), some (Sl.val (PyData.int ↑i)), none, none], ⟨[], bag2, rfl, by simp, rfl⟩, ?_, ?_⟩
        · rintro d acc e hd3 ⟨rs, bag3, rfl, hrs, rfl⟩
          obtain ⟨_, rfl⟩ := ints_at0 hd3
          simp [hsub]
          refine h.rule_ hne hn1 (by omega) (by omega) fun r bag4 hr => ?_
          simp
          exact ⟨rs ++ [r], by simp, fun x hx => by
            rcases List.mem_append.mp hx with hx | hx
            · exact hrs x hx
            · simp at hx; subst hx; exact hr, _, rfl⟩
        · rintro acc e hl ⟨rs, bag3, rfl, hrs, rfl⟩
          have hl' : rs.length = i := by simpa using hl
          have hadd : ∀ z : D, opAdd (.tuple [z]) (.tuple (rs.map Rule.enc)) = some (.v (.tuple (z :: rs.map Rule.enc))) := fun z => by
            show (if [z].length + (rs.map Rule.enc).length ≤ sizeLine then _ else _) = _
            rw [if_pos (len_ok (by simp; omega))]
            rfl
          simp [opTuple, hadd, e7]
          first
            | (have := hq (.sum rs) bag3 ⟨⟨by omega, by omega⟩, hrs⟩
               simpa [Rule.enc, encs_map] using this)
            | (have := hq (.first rs) bag3 ⟨by omega, hrs⟩
               simpa [Rule.enc, encs_map] using this)
end
end RL
end
section
set_option Elab.async false
set_option linter.all false
set_option autoImplicit false
set_option maxRecDepth 100000
set_option maxHeartbeats 4000000
/-! S17: drawn sheets, ways, trees -/
namespace RL
open PySem PySem.Spec L2
open PyProof.Rows hiding St

def NN : List Str := ["a", "b", "c", "longname"].map Str.ofString
def KK : List Str := ["box", "cell", "list", "longkind"].map Str.ofString
structure GenSh (nk nn : Nat) (N : List Str) (sh : Sheet) : Prop where
  kd : ∃ m, 1 ≤ m ∧ m ≤ nk ∧ sh.map (·.1) = KK.take m
  nm : ∃ j, 1 ≤ j ∧ j ≤ nn ∧ N = NN.take j
  st : ∀ p ∈ sh, (p.2.map (·.1)).Sublist N
  rl : ∀ p ∈ sh, ∀ q ∈ p.2, RuleOk (· ∈ N) 3 q.2
theorem opSl_take {ds : List D} {j : Nat} : opSl (.list ds) none (some (j : Int)) = some (.o (.list (ds.take j))) := by
  show some (R.o (.list ((ds.drop (HT.sIx ds.length 0 none)).take (HT.sIx ds.length ds.length (some (j : Int)) - HT.sIx ds.length 0 none)))) = _
  rw [HT.sIx_nat, HT.sIx_none]
  simp
theorem fApp_ok {ds : List D} {d : D} (h : ds.length < 100000) : fAppend (.list ds) [d] = some (.list (ds ++ [d]), .none) := by
  show (if ds.length < sizeLine then _ else _) = _
  rw [if_pos (by have := sizeLine_big; omega)]
theorem NN_le {j : Nat} : (NN.take j).length ≤ 4 := by
  rw [List.length_take]
  exact Nat.min_le_right _ _
section
variable {dt : List DefE} {wh : Nat}
theorem Lib.sheet_ (h : Lib dt) (hs : Has dt e__law_sheet) {nk nn lv : Nat} (hk : 1 ≤ nk ∧ nk ≤ 4) (hn : 1 ≤ nn ∧ nn ≤ 4) (hl : 10 ≤ lv) {bag : List Int} {Q : R → List D → Prop}
    (hq : ∀ (sh : Sheet) (N : List Str) (bag' : List Int), GenSh nk nn N sh → Q (.v sh.enc) [bagD bag']) :
    LC (gN dt wh lv) "_law_sheet" [.b (bagD bag), .v (.int nk), .v (.int nn)] Q := by
  obtain ⟨lv, rfl⟩ : ∃ l, lv = l + 1 := ⟨lv - 1, by omega⟩
  refine LC.df hs rfl ?_
  simp [e__law_sheet]
  obtain ⟨lv, rfl⟩ : ∃ l, lv = l + 1 := ⟨lv - 1, by omega⟩
  refine h.take_ (by omega) fun i bag1 i0 i1 => ?_
  obtain ⟨i, rfl⟩ := Int.eq_ofNat_of_zero_le i0
  have e1 : (1 + (i : Int)) = ((1 + i : Nat) : Int) := by omega
  simp [e1, opSl_take, -Int.natCast_add]
  with_reducible refine l_forI ?_
  simp
  refine h.take_ (by omega) fun k bag2 k0 k1 => ?_
  obtain ⟨k, rfl⟩ := Int.eq_ofNat_of_zero_le k0
  have e2 : (1 + (k : Int)) = ((1 + k : Nat) : Int) := by omega
  have eN : [PyData.str (Str.ofString "a"), PyData.str (Str.ofString "b"), PyData.str (Str.ofString "c"), PyData.str (Str.ofString "longname")] = NN.map .str := rfl
  have eK : [PyData.str (Str.ofString "box"), PyData.str (Str.ofString "cell"), PyData.str (Str.ofString "list"), PyData.str (Str.ofString "longkind")] = KK.map .str := rfl
  simp [e2, opSl_take, -Int.natCast_add, itemsOf, seqOf]
  rw [eN, eK, ← List.map_take, ← List.map_take]
  obtain ⟨N, hN⟩ : ∃ N, N = NN.take (1 + i) := ⟨_, rfl⟩
  have hNl : N.length ≤ 4 := by rw [hN]; exact NN_le
  have hNe : N ≠ [] := by rw [hN, Nat.add_comm]; simp [NN]
  have hKl : (KK.take (1 + k)).length = 1 + k := by simp [KK]; omega
  rw [← hN]
  refine ⟨fun m e => Keep (∃ (sh : Sheet) (bag' : List Int) (s3 s5 s6 s7 : Option Sl), sh.length = m ∧ sh.map (·.1) = KK.take m ∧ (∀ p ∈ sh, (p.2.map (·.1)).Sublist N) ∧ (∀ p ∈ sh, ∀ q ∈ p.2, RuleOk (· ∈ N) 3 q.2) ∧
      (s3 = some (.own (.list (N.map .str))) ∨ s3 = some (.val (.list (N.map .str)))) ∧ isBor (some s5) = false ∧ isBor (some s6) = false ∧ isBor (some s7) = false ∧
      e = [some (Sl.bor (bagD bag')), some (Sl.val (PyData.int ↑nk)), some (Sl.val (PyData.int ↑nn)), s3, some (Sl.own (.list (sh.map encK))), s5, s6, s7]), ?_, ?_, ?_⟩
  · exact kp ⟨[], bag2, _, none, none, none, rfl, rfl, by simp, by simp, .inl rfl, rfl, rfl, rfl, rfl⟩
  · rintro m d e hd ⟨sh, bag3, s3, s5, s6, s7, hl1, hk1, hs1, hr1, h3, b5, b6, b7, rfl⟩
    simp [b5, b6]
    have hm : m < 1 + k := by
      have := (List.getElem?_eq_some_iff.mp hd).1
      simp only [List.length_map, hKl] at this
      exact this
    obtain ⟨a, ha, rfl⟩ : ∃ a, (KK.take (1 + k))[m]? = some a ∧ d = .str a := by
      rw [List.getElem?_map] at hd
      obtain ⟨a, h1, h2⟩ := Option.map_eq_some_iff.mp hd
      exact ⟨a, h1, h2.symm⟩
    with_reducible refine l_forI ?_
    have key : ∀ {X : List D → En → Prop}, X (N.map .str) [some (Sl.bor (bagD bag3)), some (Sl.val (PyData.int ↑nk)), some (Sl.val (PyData.int ↑nn)), some (.val (.list (N.map .str))),
      some (Sl.own (PyData.list (List.map encK sh))), some (Sl.val (.str a)), some (Sl.own (PyData.list [])), s7] → LI (itM (vrM 3)) (gN dt wh (lv + 1)) [some (Sl.bor (bagD bag3)), some (Sl.val (PyData.int ↑nk)), some (Sl.val (PyData.int ↑nn)), s3,
      some (Sl.own (PyData.list (List.map encK sh))), some (Sl.val (.str a)), some (Sl.own (PyData.list [])), s7] X := by
      intro X hX
      rcases h3 with rfl | rfl
      all_goals
        simp [itemsOf, seqOf]
        exact hX
    refine key ⟨fun j e => Keep (∃ (st : Stg) (bag' : List Int) (s7 : Option Sl), (st.map (·.1)).Sublist (N.take j) ∧ (∀ q ∈ st, RuleOk (· ∈ N) 3 q.2) ∧ isBor (some s7) = false ∧
      e = [some (Sl.bor (bagD bag')), some (Sl.val (PyData.int ↑nk)), some (Sl.val (PyData.int ↑nn)), some (.val (.list (N.map .str))),
      some (Sl.own (PyData.list (List.map encK sh))), some (Sl.val (.str a)), some (Sl.own (PyData.list (st.map encP))), s7]), kp ⟨[], bag3, s7, by simp, by simp, b7, rfl⟩, ?_, ?_⟩
    · rintro j d e hd2 ⟨st, bag4, s7, hst, hrl, b7, rfl⟩
      obtain ⟨b, hb, rfl⟩ : ∃ a, N[j]? = some a ∧ d = .str a := by
        rw [List.getElem?_map] at hd2
        obtain ⟨a, h1, h2⟩ := Option.map_eq_some_iff.mp hd2
        exact ⟨a, h1, h2.symm⟩
      have hj : N.take (j + 1) = N.take j ++ [b] := by rw [List.take_add_one, hb]; rfl
      have hbN : b ∈ N := List.mem_of_getElem? hb
      have hstl : st.length ≤ 4 := by
        have := hst.length_le
        simp at this; omega
      obtain ⟨lv, rfl⟩ : ∃ l, lv = l + 1 := ⟨lv - 1, by omega⟩
      simp [b7]
      refine h.take_ (by omega) fun w bag5 w0 w1 => ?_
      by_cases hw : 0 < w
      · simp [hw, isLstD]
        refine h.choice_ (by simp) fun d bag6 hd => ?_
        have hd2 : ∃ i : Nat, d = .int i ∧ 1 ≤ i ∧ i ≤ 3 := by
          simp at hd
          rcases hd with rfl | rfl | rfl <;> first | exact ⟨1, rfl, by omega, by omega⟩ | exact ⟨2, rfl, by omega, by omega⟩ | exact ⟨3, rfl, by omega, by omega⟩
        obtain ⟨i, rfl, hi, hi3⟩ := hd2
        simp
        refine h.rule_ hNe hi (by omega) (by omega) fun r bag7 hr => ?_
        simp [fApp_ok (show (st.map encP).length < 100000 by simp; omega)]
        refine kp ⟨st ++ [(b, r)], bag7, some (.val (.str b)), ?_, ?_, rfl, by simp [encP]⟩
        · rw [hj]; simpa using hst.append (List.Sublist.refl [b])
        · intro q hq
          rcases List.mem_append.mp hq with hq | hq
          · exact hrl _ hq
          · simp at hq; rw [hq]; exact hr.mono (fun _ h => h) hi3
      · simp [hw]
        exact kp ⟨st, _, _, by rw [hj]; exact hst.trans (List.sublist_append_left _ _), hrl, rfl, rfl⟩
    · rintro e ⟨st, bag4, s7, hst, hrl, b7, rfl⟩
      simp [isLstD, opTuple, fApp_ok (show (sh.map encK).length < 100000 by simp; omega)]
      have ha2 : KK[m]? = some a := by
        rw [List.getElem?_take, if_pos hm] at ha
        exact ha
      have hst2 : (st.map (·.1)).Sublist N := by
        have := hst
        rw [List.length_map, List.take_length] at this
        exact this
      refine kp ⟨sh ++ [(a, st)], bag4, some (.val (.list (N.map .str))), some (.val (.str a)), some (.own (.list (st.map encP))), s7, by simp [hl1], ?_, ?_, ?_, .inr rfl, rfl, rfl, b7, by simp [encK, encS]⟩
      · rw [List.map_append, hk1, List.take_add_one, ha2]; rfl
      · intro p hp
        rcases List.mem_append.mp hp with hp | hp
        · exact hs1 p hp
        · simp at hp; subst hp; exact hst2
      · intro p hp
        rcases List.mem_append.mp hp with hp | hp
        · exact hr1 p hp
        · simp at hp; subst hp; exact hrl
  · rintro e ⟨sh, bag3, s3, s5, s6, s7, hl1, hk1, hs1, hr1, h3, b5, b6, b7, rfl⟩
    simp [opTuple]
    refine hq sh N bag3 ⟨⟨1 + k, by omega, by omega, ?_⟩, ⟨1 + i, by omega, by omega, hN⟩, hs1, hr1⟩
    rw [hk1]
    simp [KK] at hKl ⊢
end

/-! ### what is known of drawn sheets -/
theorem NN_nm : ∀ a ∈ NN, isNmS a = true := by
  intro a ha
  simp [NN] at ha
  rcases ha with rfl | rfl | rfl | rfl <;> decide +kernel
theorem KK_nm : ∀ a ∈ KK, isNmS a = true := by
  intro a ha
  simp [KK] at ha
  rcases ha with rfl | rfl | rfl | rfl <;> decide +kernel
theorem NN_asc : asc NN = true := by decide +kernel
theorem KK_asc : asc KK = true := by decide +kernel
section
variable {nk nn : Nat} {N : List Str} {sh : Sheet} (g : GenSh nk nn N sh)
include g
theorem GenSh.N_nm : ∀ a ∈ N, isNmS a = true := by
  obtain ⟨j, _, _, rfl⟩ := g.nm
  exact fun a ha => NN_nm a (List.mem_of_mem_take ha)
theorem GenSh.N_asc : asc N = true := by
  obtain ⟨j, _, _, rfl⟩ := g.nm
  exact asc_sub NN_asc (List.take_sublist _ _)
theorem GenSh.N_len : N.length ≤ 4 := by
  obtain ⟨j, _, _, rfl⟩ := g.nm
  exact NN_le
theorem GenSh.N_ne : N ≠ [] := by
  obtain ⟨j, h1, _, rfl⟩ := g.nm
  obtain ⟨j, rfl⟩ : ∃ i, j = i + 1 := ⟨j - 1, by omega⟩
  simp [NN]
theorem GenSh.ok : ShOk (· ∈ N) 3 sh := by
  obtain ⟨m, h1, h2, h3⟩ := g.kd
  have hl : sh.length = (KK.take m).length := by rw [← h3]; simp
  have hk : KK.length = 4 := rfl
  rw [List.length_take, hk] at hl
  refine ⟨by omega, by omega, by rw [h3]; exact asc_sub KK_asc (List.take_sublist _ _), fun p hp => ?_, fun p hp => ?_⟩
  · have : p.1 ∈ sh.map (·.1) := List.mem_map.mpr ⟨p, hp, rfl⟩
    rw [h3] at this
    exact KK_nm _ (List.mem_of_mem_take this)
  · have hs := g.st p hp
    refine ⟨?_, asc_sub g.N_asc hs, fun q hq => hs.subset (List.mem_map.mpr ⟨q, hq, rfl⟩), g.rl p hp⟩
    have := hs.length_le
    have := g.N_len
    simp at *
    omega
theorem GenSh.names4 : sh.names.length ≤ 4 := Nat.le_trans (Sheet.names_len g.ok) g.N_len
theorem GenSh.isSh : isSh sh.enc = true := isSh_enc g.N_nm (by omega) g.ok g.names4
theorem GenSh.gd : Gd 4 7 sh.enc := gd_sh g.N_nm g.ok
end

/-! ### ways, trees -/
inductive Tree where
  | nd (k : Str) (ts : List Tree)
mutual
def Tree.enc : Tree → D
  | .nd k ts => .tuple [.str k, .tuple (tencs ts)]
def tencs : List Tree → List D
  | [] => []
  | t :: ts => t.enc :: tencs ts
end
theorem tencs_map : ∀ (ts : List Tree), tencs ts = ts.map Tree.enc
  | [] => rfl
  | t :: ts => by simp [tencs, tencs_map ts]
def TreeOk (ks : List Str) : Nat → Tree → Prop
  | 0, _ => False
  | n + 1, .nd k ts => k ∈ ks ∧ ts.length ≤ 3 ∧ ∀ t ∈ ts, TreeOk ks n t
theorem TreeOk.mono {ks : List Str} : ∀ {n m : Nat} {t : Tree}, n ≤ m → TreeOk ks n t → TreeOk ks m t
  | 0, _, _, _, h => h.elim
  | n + 1, 0, _, hl, _ => by omega
  | n + 1, m + 1, .nd k ts, hl, h => ⟨h.1, h.2.1, fun t ht => TreeOk.mono (by omega) (h.2.2 t ht)⟩
theorem isTr_enc {ks : List Str} : ∀ {n : Nat} {t : Tree}, TreeOk ks n t → isTr ks n t.enc = true
  | 0, _, h => h.elim
  | n + 1, .nd k ts, h => by
    simp [Tree.enc, isTr, isKd, h.1, tencs_map, h.2.1]
    exact fun t ht => isTr_enc (h.2.2 t ht)
theorem gd_tree {ks : List Str} (hk : ∀ a ∈ ks, isNmS a = true) : ∀ {n : Nat} {t : Tree}, TreeOk ks n t → Gd 4 (2 * n) t.enc
  | 0, _, h => h.elim
  | n + 1, .nd k ts, h => by
    have e : 2 * (n + 1) = 2 * n + 2 := by omega
    rw [e]
    refine ⟨by simp, fun d hd => ?_⟩
    simp at hd
    rcases hd with rfl | rfl
    · exact gd_str (isNmS_ok (hk _ h.1))
    · have h3 : ts.length ≤ 3 := h.2.1
      refine ⟨by simp [tencs_map]; omega, fun d hd => ?_⟩
      simp [tencs_map] at hd
      obtain ⟨t, ht, rfl⟩ := hd
      exact gd_tree hk (h.2.2 t ht)
section
variable {dt : List DefE} {wh : Nat}
theorem Lib.way_ (h : Lib dt) (hs : Has dt e__law_way) {most lv : Nat} {sh : Sheet} (h1 : 1 ≤ sh.length) (h4 : sh.length ≤ 4) (hm : 1 ≤ most ∧ most ≤ 1000) (hl : 4 ≤ lv) {bag : List Int} {Q : R → List D → Prop}
    (hq : ∀ (way : List Str) (bag' : List Int), 1 ≤ way.length → way.length ≤ most → (∀ k ∈ way, k ∈ sh.map (·.1)) → Q (.v (.tuple (way.map .str))) [bagD bag']) :
    LC (gN dt wh lv) "_law_way" [.b (bagD bag), .v sh.enc, .v (.int most)] Q := by
  obtain ⟨lv, rfl⟩ : ∃ l, lv = l + 3 := ⟨lv - 3, by omega⟩
  refine LC.df hs rfl ?_
  simp [e__law_way]
  refine l_compT (fun p => .str (fstS p)) ?_
  have hl : sh.ds.length ≤ 1000 := by simp [Sheet.ds]; omega
  have e : sh.ds.map (fun p => PyData.str (fstS p)) = (sh.map (·.1)).map .str := by simp [Sheet.ds, encK, fstS]
  simp [itemsOf, seqOf, calmSl, Sheet.enc, hl, e, -List.map_map]
  refine ⟨fun d hd => ?_, ?_⟩
  · simp only [Sheet.ds, List.mem_map] at hd
    obtain ⟨p, hp, rfl⟩ := hd
    simp [encK, fstS]
  · with_reducible refine l_compI ?_
    simp
    refine h.take_ (by omega) fun i bag1 i0 i1 => ?_
    obtain ⟨i, rfl⟩ := Int.eq_ofNat_of_zero_le i0
    have e1 : (1 + (i : Int)) = ((1 + i : Nat) : Int) := by omega
    have hne : (sh.map (·.1)).map PyData.str ≠ [] := by
      intro z
      simp at z
      subst z
      simp at h1
    simp [e1, -Int.natCast_add, rng_nat (show 1 + i ≤ 1000000 by omega), ints_len, calmSl, -List.map_map]
    refine ⟨len_ok' (by omega), fun acc e => Keep (∃ (way : List Str) (bag' : List Int) (s3 : Option Sl), acc = way.map .str ∧ (∀ k ∈ way, k ∈ sh.map (·.1)) ∧
      (s3 = some (.own (.list ((sh.map (·.1)).map .str))) ∨ s3 = some (.val (.list ((sh.map (·.1)).map .str)))) ∧
      e = [some (Sl.bor (bagD bag')), some (Sl.val (PyData.tuple sh.ds)), some (Sl.val (PyData.int ↑most)), s3, none, none, none]), kp ⟨[], bag1, _, rfl, by simp, .inl rfl, by simp⟩, ?_, ?_⟩
    · rintro d acc e hd ⟨way, bag2, s3, rfl, hw, h3, rfl⟩
      obtain ⟨_, rfl⟩ := ints_at0 hd
      rcases h3 with rfl | rfl
      all_goals
        simp [-List.map_map]
        refine h.choice_ hne fun d bag3 hd => ?_
        obtain ⟨a, ha, rfl⟩ := List.mem_map.mp hd
        simp [-List.map_map]
        have hka : ∀ k ∈ way ++ [a], k ∈ sh.map (·.1) := fun k hk => by
          rcases List.mem_append.mp hk with hk | hk
          · exact hw k hk
          · simp at hk; subst hk; exact ha
        refine kp ⟨way ++ [a], bag3, some (.val (.list ((sh.map (·.1)).map .str))), by simp, hka, .inr rfl, ?_⟩
        simp [-List.map_map]
    · rintro acc e hl ⟨way, bag2, s3, rfl, hw, h3, rfl⟩
      simp [opTuple]
      simp at hl
      exact hq way bag2 (by omega) (by omega) hw
theorem Lib.tree_ (h : Lib dt) (hs : Has dt e__law_tree) {ks : List Str} (hne : ks ≠ []) : ∀ {n lv : Nat} {bag : List Int} {Q : R → List D → Prop}, 1 ≤ n → n + 2 ≤ lv → (hq : ∀ (t : Tree) (bag' : List Int), TreeOk ks n t → Q (.v t.enc) [bagD bag']) →
    LC (gN dt wh lv) "_law_tree" [.b (bagD bag), .v (.list (ks.map .str)), .v (.int (n : Nat))] Q
  | 0, _, _, _, h1, _, _ => by omega
  | n + 1, 0, _, _, _, h2, _ => by omega
  | n + 1, lv + 1, bag, Q, h1, h2, hq => by
    refine LC.df hs rfl ?_
    obtain ⟨lv, rfl⟩ : ∃ l, lv = l + 2 := ⟨lv - 2, by omega⟩
    have hnn : ks.map PyData.str ≠ [] := by simpa using hne
    have hsub : ((n : Int) + 1 - 1) = (n : Int) := by omega
    by_cases hn : 1 ≤ n
    case' pos =>
      have hn' : (1 : Int) < n + 1 := by omega
      simp [e__law_tree, hn']
      refine h.choice_ (by simp) fun d bag1 hd => ?_
      have hd2 : ∃ i : Nat, d = .int i ∧ i ≤ 3 ∧ (1 ≤ i → 1 ≤ n) := by
        simp at hd
        rcases hd with rfl | rfl | rfl | rfl <;> first | exact ⟨0, rfl, by omega, by omega⟩ | exact ⟨1, rfl, by omega, by omega⟩ | exact ⟨2, rfl, by omega, by omega⟩ | exact ⟨3, rfl, by omega, by omega⟩
    case neg =>
      have hn' : ¬ (1 : Int) < n + 1 := by omega
      simp [e__law_tree, hn']
      refine h.choice_ hnn fun d2 bag3 hd2 => ?_
      obtain ⟨a, ha, rfl⟩ := List.mem_map.mp hd2
      simp
      with_reducible refine l_compI ?_
      have r0 := rng_nat (n := 0) (by omega)
      simp only [Int.natCast_zero] at r0
      simp [r0, intsD, calmSl]
      refine ⟨fun acc e => Keep (e = [some (Sl.bor (bagD bag3)), some (Sl.val (PyData.list (List.map PyData.str ks))), some (Sl.val (PyData.int (↑n + 1))), some (Sl.val (PyData.int 0)), none]), kp rfl, ?_⟩
      rintro acc e rfl he
      have he : e = [some (Sl.bor (bagD bag3)), some (Sl.val (PyData.list (List.map PyData.str ks))), some (Sl.val (PyData.int (↑n + 1))), some (Sl.val (PyData.int 0)), none] := he
      subst he
      simp [opTuple]
      exact hq (.nd a []) bag3 ⟨ha, by simp, by simp⟩
    obtain ⟨i, rfl, hi3, hi⟩ := hd2
    simp
    refine h.choice_ hnn fun d2 bag3 hd2 => ?_
    obtain ⟨a, ha, rfl⟩ := List.mem_map.mp hd2
    simp
    with_reducible refine l_compI ?_
    simp [rng_nat (show i ≤ 1000000 by omega), ints_len, calmSl]
    refine ⟨len_ok' (by omega), fun acc e => Keep (∃ (ts : List Tree) (bag' : List Int), acc = ts.map Tree.enc ∧ (∀ t ∈ ts, TreeOk ks n t) ∧ e = [some (Sl.bor (bagD bag')), some (Sl.val (PyData.list (List.map PyData.str ks))), some (Sl.val (PyData.int (↑n + 1))), some (Sl.val (PyData.int ↑i)), none]), kp ⟨[], bag3, rfl, by simp, rfl⟩, ?_, ?_⟩
    · rintro d acc e hd3 ⟨ts, bag4, rfl, hts, rfl⟩
      obtain ⟨hlt, rfl⟩ := ints_at0 hd3
      simp [hsub]
      refine h.tree_ hs hne (hi (by omega)) (by omega) fun t bag5 ht => ?_
      simp
      exact kp ⟨ts ++ [t], bag5, by simp, fun x hx => by
        rcases List.mem_append.mp hx with hx | hx
        · exact hts x hx
        · simp at hx; subst hx; exact ht, rfl⟩
    · rintro acc e hl ⟨ts, bag4, rfl, hts, rfl⟩
      simp at hl
      simp [opTuple]
      have := hq (.nd a ts) bag4 ⟨ha, by omega, hts⟩
      simpa [Tree.enc, tencs_map] using this
end
end RL
end
section
set_option Elab.async false
set_option linter.all false
set_option autoImplicit false
set_option maxRecDepth 100000
set_option maxHeartbeats 4000000
/-! S18: k01: bent values -/
namespace RL
open PySem PySem.Spec L2
open PyProof.Rows hiding St
def e__law_bent : DefE := ⟨"_law_bent", [("bag" : Str), ("value" : Str)], [("bag" : Str), ("value" : Str), ("way" : Str), ("odd" : Str), ("at" : Str)], [true, false], seqM (setM 2 (callM "_law_take" [.b 0, .v (cM (.int 8))])) (seqM (ifS (andM (tstM (un (.lz 1) (opIsi .tuple))) (andM (tstM (bin (.lz 1) (.eg (opV [] opTup)) opNe)) (tstM (bin (.lz 2) (.eg (cM (.int 1))) opGt)))) (seqM (setM 4 (callM "_law_take" [.b 0, .v (opM [.lz 1] (op1L opLen3))])) (seqM (ifS (tstM (bin (.lz 2) (.eg (cM (.int 2))) opEq)) (seqM (retM (bin (.eg (slM (.lz 1) none (some (vrM 4)))) (.eg (slM (.lz 1) (some (bin (.lz 4) (.eg (cM (.int 1))) opAdd)) none)) opAdd)) (nilM)) (nilM)) (seqM (ifS (tstM (bin (.lz 2) (.eg (cM (.int 3))) opEq)) (seqM (retM (bin (.eg (slM (.lz 1) none (some (bin (.lz 4) (.eg (cM (.int 1))) opAdd)))) (.eg (slM (.lz 1) (some (vrM 4)) none)) opAdd)) (nilM)) (nilM)) (seqM (ifS (andM (tstM (bin (.lz 2) (.eg (cM (.int 4))) opEq)) (tstM (bin (.eg (callM "_law_take" [.b 0, .v (cM (.int 3))])) (.eg (cM (.int 0))) opEq))) (seqM (retM (opM [.lz 1] (op1L opList))) (nilM)) (nilM)) (seqM (retM (bin (.eg (bin (.eg (slM (.lz 1) none (some (vrM 4)))) (.eg (opV [callM "_law_bent" [.b 0, .v (bin (.lz 1) (.lz 4) opIx3)]] opTup)) opAdd)) (.eg (slM (.lz 1) (some (bin (.lz 4) (.eg (cM (.int 1))) opAdd)) none)) opAdd)) (nilM)))))) (nilM)) (seqM (setM 3 (opV [cM (.none), cM (.bool true), cM (.int 0), cM (.int 99), cM (.int 100), un (.eg (cM (.int 99))) opNeg, un (.eg (cM (.int 100))) opNeg, cM (.str ""), cM (.str "a"), cM (.str "e"), cM (.str "box"), cM (.str "num"), cM (.str "here"), cM (.str "first"), cM (.str "A"), opV [] opTup, opV [] opLst] opLst)) (seqM (setM 3 (bin (.lz 3) (.eg (opV [cM (.str "toolongname"), cM (.str "justfits")] opLst)) opAdd)) (seqM (setM 3 (bin (.lz 3) (.eg (opV [opV [cM (.str "num"), cM (.int 1)] opTup, opV [cM (.str "here"), cM (.str "a")] opTup, opV [cM (.str "first")] opTup, opV [cM (.str "sum")] opTup, opV [cM (.str "times"), cM (.int 2), opV [cM (.str "num"), cM (.int 3)] opTup] opTup] opLst)) opAdd)) (seqM (setM 3 (bin (.lz 3) (.eg (opV [opV [cM (.str "a"), opV [cM (.str "num"), cM (.int 1)] opTup] opTup, opV [cM (.str "box"), opV [] opTup] opTup] opLst)) opAdd)) (seqM (retM (callM "_law_choice" [.b 0, .v (vrM 3)])) (nilM)))))))⟩
def oddM : SM := seqM (setM 3 (opV [cM (.none), cM (.bool true), cM (.int 0), cM (.int 99), cM (.int 100), un (.eg (cM (.int 99))) opNeg, un (.eg (cM (.int 100))) opNeg, cM (.str ""), cM (.str "a"), cM (.str "e"), cM (.str "box"), cM (.str "num"), cM (.str "here"), cM (.str "first"), cM (.str "A"), opV [] opTup, opV [] opLst] opLst)) (seqM (setM 3 (bin (.lz 3) (.eg (opV [cM (.str "toolongname"), cM (.str "justfits")] opLst)) opAdd)) (seqM (setM 3 (bin (.lz 3) (.eg (opV [opV [cM (.str "num"), cM (.int 1)] opTup, opV [cM (.str "here"), cM (.str "a")] opTup, opV [cM (.str "first")] opTup, opV [cM (.str "sum")] opTup, opV [cM (.str "times"), cM (.int 2), opV [cM (.str "num"), cM (.int 3)] opTup] opTup] opLst)) opAdd)) (seqM (setM 3 (bin (.lz 3) (.eg (opV [opV [cM (.str "a"), opV [cM (.str "num"), cM (.int 1)] opTup] opTup, opV [cM (.str "box"), opV [] opTup] opTup] opLst)) opAdd)) (seqM (retM (callM "_law_choice" [.b 0, .v (vrM 3)])) (nilM)))))
theorem bent_m : e__law_bent.m = seqM (setM 2 (callM "_law_take" [.b 0, .v (cM (.int 8))])) (seqM (ifS (andM (tstM (un (.lz 1) (opIsi .tuple))) (andM (tstM (bin (.lz 1) (.eg (opV [] opTup)) opNe)) (tstM (bin (.lz 2) (.eg (cM (.int 1))) opGt)))) (seqM (setM 4 (callM "_law_take" [.b 0, .v (opM [.lz 1] (op1L opLen3))])) (seqM (ifS (tstM (bin (.lz 2) (.eg (cM (.int 2))) opEq)) (seqM (retM (bin (.eg (slM (.lz 1) none (some (vrM 4)))) (.eg (slM (.lz 1) (some (bin (.lz 4) (.eg (cM (.int 1))) opAdd)) none)) opAdd)) (nilM)) (nilM)) (seqM (ifS (tstM (bin (.lz 2) (.eg (cM (.int 3))) opEq)) (seqM (retM (bin (.eg (slM (.lz 1) none (some (bin (.lz 4) (.eg (cM (.int 1))) opAdd)))) (.eg (slM (.lz 1) (some (vrM 4)) none)) opAdd)) (nilM)) (nilM)) (seqM (ifS (andM (tstM (bin (.lz 2) (.eg (cM (.int 4))) opEq)) (tstM (bin (.eg (callM "_law_take" [.b 0, .v (cM (.int 3))])) (.eg (cM (.int 0))) opEq))) (seqM (retM (opM [.lz 1] (op1L opList))) (nilM)) (nilM)) (seqM (retM (bin (.eg (bin (.eg (slM (.lz 1) none (some (vrM 4)))) (.eg (opV [callM "_law_bent" [.b 0, .v (bin (.lz 1) (.lz 4) opIx3)]] opTup)) opAdd)) (.eg (slM (.lz 1) (some (bin (.lz 4) (.eg (cM (.int 1))) opAdd)) none)) opAdd)) (nilM)))))) (nilM)) oddM) := rfl
def e__law_is_number : DefE := ⟨"_law_is_number", [("value" : Str)], [("value" : Str)], [false], seqM (retM (andV (un (.lz 0) (opIsi .int)) (andV (notV (un (.lz 0) (opIsi .bool))) (chM (un (.eg (cM (.int 99))) opNeg) (vrM 0) (cM (.int 99)) opLe opLe)))) (nilM)⟩
def e__law_is_word : DefE := ⟨"_law_is_word", [("value" : Str)], [("value" : Str), ("sign" : Str)], [false], seqM (ifS (orM (notM (tstM (un (.lz 0) (opIsi .str)))) (notM (tstM (chM (cM (.int 1)) (opM [.lz 0] (op1L opLen3)) (cM (.int 8)) opLe opLe)))) (seqM (retM (cM (.bool false))) (nilM)) (nilM)) (seqM (retM (bin (.eg (compM (itM (vrM 0)) (tgName 1) (notM (tstM (chM (cM (.str "a")) (vrM 1) (cM (.str "z")) opLe opLe))) (vrM 1) [1])) (.eg (opV [] opLst)) opEq)) (nilM))⟩
def e__law_is_rule : DefE := ⟨"_law_is_rule", [("value" : Str), ("deep" : Str)], [("value" : Str), ("deep" : Str), ("part" : Str)], [false, false], seqM (ifS (orM (notM (tstM (un (.lz 0) (opIsi .tuple)))) (orM (tstM (bin (.lz 0) (.eg (opV [] opTup)) opEq)) (orM (notM (tstM (un (.eg (bin (.lz 0) (.eg (cM (.int 0))) opIx3)) (opIsi .str)))) (tstM (bin (.lz 1) (.eg (cM (.int 0))) opEq))))) (seqM (retM (cM (.bool false))) (nilM)) (nilM)) (seqM (ifS (tstM (bin (.eg (bin (.lz 0) (.eg (cM (.int 0))) opIx3)) (.eg (cM (.str "num"))) opEq)) (seqM (retM (andV (bin (.eg (opM [.lz 0] (op1L opLen3))) (.eg (cM (.int 2))) opEq) (callM "_law_is_number" [.v (bin (.lz 0) (.eg (cM (.int 1))) opIx3)]))) (nilM)) (nilM)) (seqM (ifS (tstM (bin (.eg (bin (.lz 0) (.eg (cM (.int 0))) opIx3)) (.eg (opV [cM (.str "here"), cM (.str "up")] opTup)) opIn2)) (seqM (retM (andV (bin (.eg (opM [.lz 0] (op1L opLen3))) (.eg (cM (.int 2))) opEq) (callM "_law_is_word" [.v (bin (.lz 0) (.eg (cM (.int 1))) opIx3)]))) (nilM)) (nilM)) (seqM (ifS (tstM (bin (.eg (bin (.lz 0) (.eg (cM (.int 0))) opIx3)) (.eg (cM (.str "times"))) opEq)) (seqM (retM (andV (bin (.eg (opM [.lz 0] (op1L opLen3))) (.eg (cM (.int 3))) opEq) (andV (callM "_law_is_number" [.v (bin (.lz 0) (.eg (cM (.int 1))) opIx3)]) (callM "_law_is_rule" [.v (bin (.lz 0) (.eg (cM (.int 2))) opIx3), .v (bin (.lz 1) (.eg (cM (.int 1))) opSub)])))) (nilM)) (nilM)) (seqM (ifS (orM (andM (tstM (bin (.eg (bin (.lz 0) (.eg (cM (.int 0))) opIx3)) (.eg (cM (.str "sum"))) opEq)) (tstM (chM (cM (.int 2)) (opM [.lz 0] (op1L opLen3)) (cM (.int 4)) opLe opLe))) (andM (tstM (bin (.eg (bin (.lz 0) (.eg (cM (.int 0))) opIx3)) (.eg (cM (.str "first"))) opEq)) (tstM (bin (.eg (opM [.lz 0] (op1L opLen3))) (.eg (cM (.int 4))) opLe)))) (seqM (retM (bin (.eg (compM (itM (slM (.lz 0) (some (cM (.int 1))) none)) (tgName 2) (notM (tstM (callM "_law_is_rule" [.v (vrM 2), .v (bin (.lz 1) (.eg (cM (.int 1))) opSub)]))) (vrM 2) [2])) (.eg (opV [] opLst)) opEq)) (nilM)) (nilM)) (seqM (retM (cM (.bool false))) (nilM))))))⟩
def e__law_rising : DefE := ⟨"_law_rising", [("value" : Str), ("most" : Str)], [("value" : Str), ("most" : Str), ("pair" : Str), ("firsts" : Str)], [false, false], seqM (ifS (orM (notM (tstM (un (.lz 0) (opIsi .tuple)))) (tstM (bin (.eg (opM [.lz 0] (op1L opLen3))) (.lz 1) opGt))) (seqM (retM (cM (.bool false))) (nilM)) (nilM)) (seqM (forM (itM (vrM 0)) (tgName 2) (seqM (ifS (orM (notM (tstM (un (.lz 2) (opIsi .tuple)))) (orM (tstM (bin (.eg (opM [.lz 2] (op1L opLen3))) (.eg (cM (.int 2))) opNe)) (notM (tstM (callM "_law_is_word" [.v (bin (.lz 2) (.eg (cM (.int 0))) opIx3)]))))) (seqM (retM (cM (.bool false))) (nilM)) (nilM)) (nilM))) (seqM (setM 3 (compM (itM (vrM 0)) (tgName 2) (trueM) (bin (.lz 2) (.eg (cM (.int 0))) opIx3) [2])) (seqM (retM (bin (.lz 3) (.eg (un (.lz 3) opSortSet)) opEq)) (nilM))))⟩
def e__law_is_sheet : DefE := ⟨"_law_is_sheet", [("value" : Str)], [("value" : Str), ("kind" : Str), ("settings" : Str), ("name" : Str), ("rule" : Str)], [false], seqM (ifS (orM (notM (tstM (callM "_law_rising" [.v (vrM 0), .v (cM (.int 4))]))) (tstM (bin (.lz 0) (.eg (opV [] opTup)) opEq))) (seqM (retM (cM (.bool false))) (nilM)) (nilM)) (seqM (forM (itM (vrM 0)) (tgTup [tgName 1, tgName 2]) (seqM (ifS (orM (notM (tstM (callM "_law_rising" [.v (vrM 2), .v (cM (.int 4))]))) (tstM (bin (.eg (compM (itM (vrM 2)) (tgTup [tgName 3, tgName 4]) (notM (tstM (callM "_law_is_rule" [.v (vrM 4), .v (cM (.int 5))]))) (cM (.int 1)) [3, 4])) (.eg (opV [] opLst)) opNe))) (seqM (retM (cM (.bool false))) (nilM)) (nilM)) (nilM))) (seqM (retM (bin (.eg (opM [.eg (callM "_law_names" [.v (vrM 0)])] (op1L opLen3))) (.eg (cM (.int 4))) opLe)) (nilM)))⟩
def e__law_is_tree : DefE := ⟨"_law_is_tree", [("kinds" : Str), ("value" : Str), ("deep" : Str)], [("kinds" : Str), ("value" : Str), ("deep" : Str), ("part" : Str)], [false, false, false], seqM (ifS (orM (notM (tstM (un (.lz 1) (opIsi .tuple)))) (orM (tstM (bin (.eg (opM [.lz 1] (op1L opLen3))) (.eg (cM (.int 2))) opNe)) (orM (notM (tstM (un (.eg (bin (.lz 1) (.eg (cM (.int 0))) opIx3)) (opIsi .str)))) (tstM (bin (.eg (bin (.lz 1) (.eg (cM (.int 0))) opIx3)) (.lz 0) opNotIn2))))) (seqM (retM (cM (.bool false))) (nilM)) (nilM)) (seqM (ifS (orM (notM (tstM (un (.eg (bin (.lz 1) (.eg (cM (.int 1))) opIx3)) (opIsi .tuple)))) (orM (tstM (bin (.eg (opM [.eg (bin (.lz 1) (.eg (cM (.int 1))) opIx3)] (op1L opLen3))) (.eg (cM (.int 3))) opGt)) (tstM (bin (.lz 2) (.eg (cM (.int 0))) opEq)))) (seqM (retM (cM (.bool false))) (nilM)) (nilM)) (seqM (retM (bin (.eg (compM (itM (bin (.lz 1) (.eg (cM (.int 1))) opIx3)) (tgName 3) (notM (tstM (callM "_law_is_tree" [.v (vrM 0), .v (vrM 3), .v (bin (.lz 2) (.eg (cM (.int 1))) opSub)]))) (vrM 3) [3])) (.eg (opV [] opLst)) opEq)) (nilM)))⟩
def e__law_is_way : DefE := ⟨"_law_is_way", [("kinds" : Str), ("value" : Str)], [("kinds" : Str), ("value" : Str), ("kind" : Str)], [false, false], seqM (ifS (orM (notM (tstM (un (.lz 1) (opIsi .tuple)))) (notM (tstM (chM (cM (.int 1)) (opM [.lz 1] (op1L opLen3)) (cM (.int 10)) opLe opLe)))) (seqM (retM (cM (.bool false))) (nilM)) (nilM)) (seqM (retM (bin (.eg (compM (itM (vrM 1)) (tgName 2) (orM (notM (tstM (un (.lz 2) (opIsi .str)))) (tstM (bin (.lz 2) (.lz 0) opNotIn2))) (vrM 2) [2])) (.eg (opV [] opLst)) opEq)) (nilM))⟩
def e__law_told : DefE := ⟨"_law_told", [("one" : Str), ("other" : Str)], [("one" : Str), ("other" : Str)], [false, false], seqM (retM (andV (un (.lz 0) (opIsi .bool)) (bin (.lz 0) (.lz 1) opEq))) (nilM)⟩
theorem opSl_tk {ds : List D} {j : Nat} : opSl (.tuple ds) none (some (j : Int)) = some (.v (.tuple (ds.take j))) := by
  rw [opSl_tup, HT.sIx_nat, HT.sIx_none]
  simp
theorem opSl_dr {ds : List D} {j : Nat} : opSl (.tuple ds) (some (j : Int)) none = some (.v (.tuple (ds.drop j))) := by
  rw [opSl_tup, HT.sIx_nat, HT.sIx_none]
  simp only [Option.some.injEq, R.v.injEq, PyData.tuple.injEq]
  rw [List.take_of_length_le (by simp)]
  by_cases h : j ≤ ds.length
  · rw [Nat.min_eq_left h]
  · rw [Nat.min_eq_right (by omega), List.drop_of_length_le (by omega), List.drop_of_length_le (by omega)]
theorem opAdd_tup {xs ys : List D} (h : xs.length + ys.length ≤ 1000) : opAdd (.tuple xs) (.tuple ys) = some (.v (.tuple (xs ++ ys))) := by
  show (if xs.length + ys.length ≤ sizeLine then _ else _) = _
  rw [if_pos (len_ok h)]
theorem opNe_nil {ds : List D} (h : SeqAt.shaped (.tuple ds) = true) : opNe (.tuple ds) (.tuple []) = some (.v (.bool (!ds.isEmpty))) := by
  unfold opNe
  rw [if_pos ⟨h, shp_nil⟩, eqv_nil]
theorem opAdd_l {xs ys : List D} (h : xs.length + ys.length ≤ 1000) : opAdd (.list xs) (.list ys) = some (.o (.list (xs ++ ys))) := opAdd_lst h
def oddL : List D := [.none, .bool true, .int 0, .int 99, .int 100, .int (-99), .int (-100), .str "", .str "a", .str "e", .str "box", .str "num", .str "here", .str "first", .str "A", .tuple [], .list [], .str "toolongname", .str "justfits",
  .tuple [.str "num", .int 1], .tuple [.str "here", .str "a"], .tuple [.str "first"], .tuple [.str "sum"], .tuple [.str "times", .int 2, .tuple [.str "num", .int 3]], .tuple [.str "a", .tuple [.str "num", .int 1]], .tuple [.str "box", .tuple []]]
def gdB (m : Nat) : Nat → D → Bool
  | _, .none => true
  | _, .bool _ => true
  | _, .int _ => true
  | _, .str s => PyData.strOk s && decide (s.length ≤ 1000)
  | n + 1, .tuple ds => decide (ds.length ≤ m) && ds.all (gdB m n)
  | n + 1, .list ds => decide (ds.length ≤ m) && ds.all (gdB m n)
  | _, _ => false
theorem gdB_is {m : Nat} : ∀ {n : Nat} {d : D}, gdB m n d = true → Gd m n d
  | n, .none, _ => by cases n <;> trivial
  | n, .bool _, _ => by cases n <;> trivial
  | n, .int _, _ => by cases n <;> trivial
  | n, .str s, h => by
    refine gd_str ?_
    cases n <;> simpa [gdB] using h
  | n + 1, .tuple ds, h => by
    simp [gdB] at h
    exact ⟨h.1, fun d hd => gdB_is (h.2 d hd)⟩
  | n + 1, .list ds, h => by
    simp [gdB] at h
    exact ⟨h.1, fun d hd => gdB_is (h.2 d hd)⟩
  | 0, .tuple _, h => by simp [gdB] at h
  | 0, .list _, h => by simp [gdB] at h
  | 0, .dict _, h => by simp [gdB] at h
  | _ + 1, .dict _, h => by simp [gdB] at h
theorem oddL_gd {m k : Nat} (hm : 3 ≤ m) : ∀ d ∈ oddL, Gd m (k + 2) d := fun d hd =>
  (gdB_is (m := 3) (n := 2) (List.all_eq_true.mp (by decide +kernel : oddL.all (gdB 3 2) = true) d hd)).up (by omega) hm
theorem odd_ {dt : List DefE} {wh : Nat} (h : Lib dt) {lv m k : Nat} {bag0 bag : List Int} {v v2 : D} {s4 : Option Sl} {Q : R → List D → Prop} (hm : 3 ≤ m) (hq : ∀ (r : R) (bag' : List Int), Gd (m + 1) (k + 2) r.d → Q r [bagD bag']) :
    LS oddM (gN dt wh (lv + 2)) [some (.bor (bagD bag)), some (.val v), some (.val v2), none, s4] (fun f e => outL [.b (bagD bag0), .v v] Q f e) := by
  simp [oddM, opNeg]
  simp [opAdd_l]
  refine h.choice_ (by simp) fun d bag' hd => ?_
  simp
  exact hq _ _ ((oddL_gd (k := k) (show 3 ≤ m + 1 by omega)) d hd)
section
variable {dt : List DefE} {wh : Nat}
theorem Lib.bent_ (h : Lib dt) (hb : Has dt e__law_bent) : ∀ {k lv m : Nat} {v : D} {bag : List Int} {Q : R → List D → Prop}, Gd m k v → k + 4 ≤ lv → k ≤ 50 → 3 ≤ m → m ≤ 900 → (hq : ∀ (r : R) (bag' : List Int), Gd (m + 1) (k + 2) r.d → Q r [bagD bag']) →
    LC (gN dt wh lv) "_law_bent" [.b (bagD bag), .v v] Q
  | k, 0, m, v, bag, Q, hv, hl, _, _, _, hq => by omega
  | k, lv + 1, m, v, bag, Q, hv, hl, hk, hm3, hm, hq => by
    refine LC.df hb rfl ?_
    obtain ⟨lv, rfl⟩ : ∃ l, lv = l + 2 := ⟨lv - 2, by omega⟩
    rw [bent_m]
    simp [e__law_bent]
    refine h.take_ (by omega) fun w bag1 w0 w1 => ?_
    have hc := hv.can
    cases v with
    | tuple ds =>
      simp [opIsi, isTy, hc, PyData.isTuple, opNe_nil (hv.shp (by omega))]
      cases hds : ds.isEmpty with
      | true =>
        simp
        exact odd_ h hm3 hq
      | false =>
        by_cases hw : 1 < w
        case neg =>
          simp [hw]
          exact odd_ h hm3 hq
        obtain ⟨k, rfl, hdl, hd⟩ := hv.tup
        have hne : 0 < ds.length := by
          cases ds with
          | nil => simp at hds
          | cons _ _ => simp
        simp [hw]
        refine h.take_ (by omega) fun at_ bag2 a0 a1 => ?_
        obtain ⟨j, rfl⟩ := Int.eq_ofNat_of_zero_le a0
        have hj : j < ds.length := by omega
        have up : ∀ d ∈ ds, Gd (m + 1) (k + 2) d := fun d h => (hd d h).up (by omega) (by omega)
        have e1 : ((j : Int) + 1) = ((j + 1 : Nat) : Int) := by omega
        by_cases h2 : w = 2
        · simp [h2, e1, -Int.natCast_add, opSl_tk, opSl_dr]
          rw [opAdd_tup (by simp; omega)]
          simp
          exact hq _ _ ⟨by simp; omega, fun d h5 => up d (by
            simp at h5
            rcases h5 with h5 | h5
            · exact List.mem_of_mem_take h5
            · exact List.mem_of_mem_drop h5)⟩
        by_cases h3 : w = 3
        · simp [h3, e1, -Int.natCast_add, opSl_tk, opSl_dr]
          rw [opAdd_tup (by simp; omega)]
          simp
          exact hq _ _ ⟨by simp; omega, fun d h5 => up d (by
            simp at h5
            rcases h5 with h5 | h5
            · exact List.mem_of_mem_take h5
            · exact List.mem_of_mem_drop h5)⟩
        obtain ⟨x, hx⟩ : ∃ x, ds[j]? = some x := ⟨_, List.getElem?_eq_getElem hj⟩
        have hxm : x ∈ ds := List.mem_of_getElem? hx
        have hxa : atI ds (j : Int) = some x := atI_nat hx
        by_cases h4 : w = 4
        case' pos =>
          simp [h4]
          refine h.take_ (by omega) fun z bag3 z0 z1 => ?_
          by_cases hz : z = 0
          · simp [hz, opList]
            exact hq _ _ ⟨by omega, up⟩
          simp [hz, e1, -Int.natCast_add, opSl_tk, opSl_dr, hxa]
        case' neg =>
          simp [h2, h3, h4, e1, -Int.natCast_add, opSl_tk, opSl_dr, hxa]
        all_goals
          refine h.bent_ hb (hd x hxm) (by omega) (by omega) hm3 hm fun r bag4 hr => ?_
          simp
          rw [opAdd_tup (by simp; omega)]
          simp [e1, -Int.natCast_add, opSl_dr]
          rw [opAdd_tup (by simp; omega)]
          simp
          refine hq _ _ ⟨by simp; omega, fun d h5 => ?_⟩
          simp at h5
          rcases h5 with h5 | rfl | h5
          · exact up d (List.mem_of_mem_take h5)
          · exact hr
          · exact up d (List.mem_of_mem_drop h5)
    | _ =>
      simp [opIsi, isTy, hc, PyData.isTuple]
      exact odd_ h hm3 hq
end
end RL
end
section
set_option Elab.async false
set_option linter.all false
set_option autoImplicit false
set_option maxRecDepth 100000
set_option maxHeartbeats 4000000
/-! S19: k01: the law's own tests -/
namespace RL
open PySem PySem.Spec L2
open PyProof.Rows hiding St
theorem opEq_nilL {ds : List D} (h : SeqAt.shaped (.list ds) = true) : opEq (.list ds) (.list []) = some (.v (.bool ds.isEmpty)) := by
  unfold opEq
  rw [if_pos ⟨h, shp_nilL⟩]
  cases ds <;> simp [PyData.eqv, PyData.eqvAll]
theorem opNe_nilL {ds : List D} (h : SeqAt.shaped (.list ds) = true) : opNe (.list ds) (.list []) = some (.v (.bool (!ds.isEmpty))) := by
  unfold opNe
  rw [if_pos ⟨h, shp_nilL⟩]
  cases ds <;> simp [PyData.eqv, PyData.eqvAll]
theorem opEq_nilT {ds : List D} (h : SeqAt.shaped (.tuple ds) = true) : opEq (.tuple ds) (.tuple []) = some (.v (.bool ds.isEmpty)) := by
  unfold opEq
  rw [if_pos ⟨h, shp_nil⟩, eqv_nil]
def isAzD : D → Bool
  | .str s => s.cps.toList.all isAz
  | _ => false
theorem sLt_a (c : Nat) : sLt ⟨#[c]⟩ (Str.ofString "a") = decide (c < 97) := by
  rw [Str.ofString_eq_toList]
  have : ("a".toList.map Char.toNat) = [97] := by decide
  simp [sLt, this, List.cons_lt_cons_iff]
theorem sLt_z (c : Nat) : sLt (Str.ofString "z") ⟨#[c]⟩ = decide (122 < c) := by
  rw [Str.ofString_eq_toList]
  have : ("z".toList.map Char.toNat) = [122] := by decide
  simp [sLt, this, List.cons_lt_cons_iff]
@[simp] theorem opLe_str {a b : Str} : opLe (.str a) (.str b) = some (.v (.bool (!sLt b a))) := rfl
@[simp] theorem opLt_str {a b : Str} : opLt (.str a) (.str b) = some (.v (.bool (sLt a b))) := rfl
theorem gd_filter {m n : Nat} {ds : List D} {p : D → Bool} (h : ds.length ≤ m ∧ ∀ d ∈ ds, Gd m n d) : Gd m (n + 1) (.list (ds.filter p)) :=
  ⟨Nat.le_trans (List.length_filter_le _ _) h.1, fun d hd => h.2 d (List.mem_filter.mp hd).1⟩
theorem signs_gd {m n : Nat} {s : Str} (h : PyData.strOk s = true) : ∀ d ∈ s.cps.toList.map fun c => PyData.str ⟨#[c]⟩, Gd m n d := by
  intro d hd
  obtain ⟨c, hc, rfl⟩ := List.mem_map.mp hd
  refine gd_str ⟨?_, by show 1 ≤ 1000; omega⟩
  unfold PyData.strOk at h ⊢
  simp at h ⊢
  obtain ⟨i, hi, rfl⟩ := List.getElem_of_mem hc
  exact h i (by simpa using hi)
section
variable {dt : List DefE} {wh : Nat}
theorem sp_l_number (hf : Has dt e__law_is_number) {n : Nat} {v : D} (hv : v.canLay0 = true) :
    LC (gN dt wh (n + 1)) "_law_is_number" [.v v] fun r bs => r = .v (.bool (isNum v)) ∧ bs = [] := by
  refine LC.df hf rfl ?_
  clear hf
  cases v <;> simp [e__law_is_number, opIsi, isTy, hv, PyData.isInt, PyData.isBool, isNum, inB]
  rename_i i
  by_cases h : -99 ≤ i <;> simp [h]
theorem sp_l_word (hf : Has dt e__law_is_word) {n : Nat} {m k : Nat} {v : D} (hv : Gd m k v) :
    LC (gN dt wh (n + 1)) "_law_is_word" [.v v] fun r bs => r = .v (.bool (isNm v)) ∧ bs = [] := by
  refine LC.df hf rfl ?_
  clear hf
  have hc := hv.can
  cases v <;> simp [e__law_is_word, opIsi, isTy, hc, PyData.isStr, isNm]
  rename_i s
  have hs := hv.str
  have hl : s.cps.size ≤ 1000 := hs.2
  by_cases h1 : 1 ≤ (s.length : Int)
  · by_cases h2 : (s.length : Int) ≤ 8
    · have h3 : 1 ≤ s.length := by omega
      have h4 : s.length ≤ 8 := by omega
      simp [h1, h2, len_ok hs.2]
      refine l_compP (fun d => !isAzD d) id ?_
      simp [itemsOf, seqOf, signs, calmSl, len_ok' hl]
      refine ⟨fun c hc => ?_, ?_⟩
      · by_cases a1 : c < 97 <;> by_cases a2 : 122 < c <;> simp [sLt_a, sLt_z, a1, a2, isAzD, isAz] <;> omega
      · have hsh : SeqAt.shaped (.list ((s.cps.toList.map fun c => PyData.str ⟨#[c]⟩).filter fun d => !isAzD d)) = true := by
          refine (gd_filter (m := 1000) (n := 0) ⟨by simpa using hl, fun d hd => ?_⟩).shp (by omega)
          exact signs_gd hs.1 d hd
        rw [opEq_nilL hsh]
        simp [isNmS, h3, h4]
        rw [Bool.eq_iff_iff]
        simp [isAzD]
        exact ⟨fun h i x => h _ (Array.getElem_mem x), fun h a ha => by
          obtain ⟨i, x, rfl⟩ := Array.getElem_of_mem ha
          exact h i x⟩
    · have h3 : ¬ s.length ≤ 8 := by omega
      simp [h1, h2, h3, len_ok hs.2, isNmS]
  · have h3 : ¬ 1 ≤ s.length := by omega
    simp [h1, h3, len_ok hs.2, isNmS]
theorem opIn_trip {w a b c : Str} : opIn2 (.str w) (.tuple [.str a, .str b, .str c]) = if PyData.strOk w = true ∧ PyData.strOk a = true ∧ PyData.strOk b = true ∧ PyData.strOk c = true then some (.v (.bool (decide (a = w) || (decide (b = w) || decide (c = w))))) else none := by
  unfold opIn2 opIn
  simp [PyData.canLay0, PyData.depth, PyData.canLayAll0]
theorem sp_l_rule (hi : Has dt e__law_is_number) (hn : Has dt e__law_is_word) (hf : Has dt e__law_is_rule) : ∀ {n lv m k : Nat} {v : D}, Gd m k v → k ≤ 60 → m ≤ 999 → n + 2 ≤ lv →
    LC (gN dt wh lv) "_law_is_rule" [.v v, .v (.int (n : Nat))] fun r bs => r = .v (.bool (isW n v)) ∧ bs = []
  | n, 0, m, k, v, hv, hk, hm, hl => by omega
  | n, lv + 1, m, k, v, hv, hk, hm, hl => by
    refine LC.df hf rfl ?_
    have hc := hv.can
    have hs := hv.shp (by omega)
    cases v with
    | tuple ds =>
      obtain ⟨k, rfl, h1, h2⟩ := hv.tup
      cases ds with
      | nil => cases n <;> simp [e__law_is_rule, opIsi, isTy, hc, hs, PyData.isTuple, isW, opEq_nilT hs]
      | cons d ds =>
        have hd := h2 d (by simp)
        have hdc := hd.can
        cases d with
        | str w =>
          simp [e__law_is_rule, opIsi, isTy, hc, hs, PyData.isTuple, opEq_nilT hs, hdc, PyData.isStr]
          cases n with
          | zero => simp [isW, opEq_str]
          | succ n =>
            have hn1 : ¬ ((n : Int) + 1 = 0) := by omega
            have hdl : ds.length ≤ 1000 := by simp at h1; omega
            have hw := hd.str
            have hws : SeqAt.shaped (.str w) = true := by simp [SeqAt.shaped, PyData.canLay0, PyData.depth, hw.1]
            obtain ⟨lv, rfl⟩ : ∃ l, lv = l + 1 := ⟨lv - 1, by omega⟩
            have ih : ∀ d ∈ ds, LC (gN dt wh (lv + 1)) "_law_is_rule" [.v d, .v (.int (n : Nat))] fun r bs => r = .v (.bool (isW n d)) ∧ bs = [] := fun d hd => sp_l_rule hi hn hf (h2 d (by simp [hd])) (by omega) hm (by omega)
            simp [hn1, opEq_str hw.1]
            have hsub : ((n : Int) + 1 - 1) = (n : Int) := by omega
            by_cases w1 : w = Str.ofString "num"
            · subst w1
              simp [isW, opEq_str]
              by_cases h0 : ds.length = 1
              · obtain ⟨x, rfl⟩ := List.length_eq_one_iff.mp h0
                simp
                exact (sp_l_number hi (h2 x (by simp)).can).mono fun r bs ⟨h3, h4⟩ => by subst h3 h4; simp
              · have h0' : ¬ ((ds.length : Int) + 1) = 2 := by omega
                simp [h0', one_no h0]
            by_cases w2 : w = Str.ofString "here" ∨ w = Str.ofString "up"
            · have hin : opIn2 (.str w) (.tuple [.str (Str.ofString "here"), .str (Str.ofString "up")]) = some (.v (.bool true)) := by
                simp [opIn_pair, hw.1]
                rcases w2 with rfl | rfl <;> simp
              have e : isW (n + 1) (.tuple (.str w :: ds)) = one isNm ds := by simp only [isW, if_neg w1, if_pos w2]
              simp [e, w1, w2, hin, opEq_str]
              by_cases h0 : ds.length = 1
              · obtain ⟨x, rfl⟩ := List.length_eq_one_iff.mp h0
                simp
                exact (sp_l_word hn (h2 x (by simp))).mono fun r bs ⟨h3, h4⟩ => by subst h3 h4; simp [e]
              · have h0' : ¬ ((ds.length : Int) + 1) = 2 := by omega
                simp [h0', e, one_no h0]
            have hin : opIn2 (.str w) (.tuple [.str (Str.ofString "here"), .str (Str.ofString "up")]) = some (.v (.bool false)) := by
              simp [opIn_pair, hw.1]
              simpa [eq_comm] using w2
            by_cases w3 : w = Str.ofString "times"
            · subst w3
              simp [isW, hin, opEq_str]
              by_cases h0 : ds.length = 2
              · obtain ⟨x, y, rfl⟩ : ∃ x y, ds = [x, y] := by
                  match ds, h0 with
                  | [x, y], _ => exact ⟨x, y, rfl⟩
                simp
                refine (sp_l_number hi (h2 x (by simp)).can).mono fun r bs ⟨h3, h4⟩ => ?_
                subst h3 h4
                cases hx : isNum x with
                | false => simp [hx]
                | true =>
                  simp [hx, hsub]
                  refine (ih y (by simp)).mono fun r bs ⟨h3, h4⟩ => ?_
                  subst h3 h4
                  simp
              · have h0' : ¬ ((ds.length : Int) + 1) = 3 := by omega
                simp [h0', two_no h0]
            have e : isW (n + 1) (.tuple (.str w :: ds)) = if (w = Str.ofString "sum" ∧ 1 ≤ ds.length ∧ ds.length ≤ 3) ∨ (w = Str.ofString "first" ∧ ds.length ≤ 3) then ds.all (isW n) else false := by simp only [isW, if_neg w1, if_neg w2, if_neg w3]
            have hsh : ∀ p : D → Bool, SeqAt.shaped (.list (ds.filter p)) = true := fun p => (gd_filter (m := m) (n := k) (p := p) ⟨by simp at h1; omega, fun d hd => h2 d (by simp [hd])⟩).shp (by omega)
            have fin : (ds.filter fun d => !isW n d).isEmpty = ds.all (isW n) := by
              rw [Bool.eq_iff_iff]
              simp
            by_cases w4 : (w = Str.ofString "sum" ∧ 1 ≤ ds.length ∧ ds.length ≤ 3) ∨ (w = Str.ofString "first" ∧ ds.length ≤ 3)
            · have e' : isW (n + 1) (.tuple (.str w :: ds)) = ds.all (isW n) := by rw [e, if_pos w4]
              rcases w4 with ⟨rfl, h3, h4⟩ | ⟨rfl, h4⟩
              case' inl =>
                have h3' : (2 : Int) ≤ (ds.length : Int) + 1 := by omega
                have h4' : (ds.length : Int) + 1 ≤ 4 := by omega
                simp [e', hin, opEq_str, h3', h4']
              case' inr =>
                have h4' : (ds.length : Int) + 1 ≤ 4 := by omega
                simp [e', hin, opEq_str, h4']
              all_goals
                refine l_compP (fun d => !isW n d) id ?_
                simp [opSl_tail, itemsOf, seqOf, calmSl, hdl, hsub, opEq_nilL (hsh _), fin, e']
                intro d hd
                refine (ih d hd).mono fun r bs ⟨h3, h4⟩ => ?_
                subst h3 h4
                cases isW n d <;> simp
            · have e' : isW (n + 1) (.tuple (.str w :: ds)) = false := by rw [e, if_neg w4]
              clear e
              by_cases w5 : w = Str.ofString "sum"
              · subst w5
                by_cases h3 : (2 : Int) ≤ (ds.length : Int) + 1
                · by_cases h4 : (ds.length : Int) + 1 ≤ 4
                  · exact absurd (.inl ⟨rfl, by omega, by omega⟩) w4
                  · simp [e', hin, opEq_str, h3, h4]
                · simp [e', hin, opEq_str, h3]
              · by_cases w6 : w = Str.ofString "first"
                · subst w6
                  have h4 : ¬ (ds.length : Int) + 1 ≤ 4 := fun z => w4 (.inr ⟨rfl, by omega⟩)
                  simp [e', hin, opEq_str, h4]
                · simp [e', hin, opEq_str hw.1, w1, w2, w3, w5, w6]
        | _ => cases n <;> simp [e__law_is_rule, opIsi, isTy, hc, hs, PyData.isTuple, isW, opEq_nilT hs, hdc, PyData.isStr]
    | _ => cases n <;> simp [e__law_is_rule, opIsi, isTy, hc, PyData.isTuple, isW]
end
end RL
end
section
set_option Elab.async false
set_option linter.all false
set_option autoImplicit false
set_option maxRecDepth 100000
set_option maxHeartbeats 4000000
/-! S20: k01: the law's own tests, on -/
namespace RL
open PySem PySem.Spec L2
open PyProof.Rows hiding St
def isRi (n : Nat) : D → Bool
  | .tuple ds => decide (ds.length ≤ n) && (ds.all isPr && asc (ds.map fstS))
  | _ => false
theorem sLt_tr {a b c : Str} (h1 : sLt a b = true) (h2 : sLt b c = true) : sLt a c = true := by
  simp [sLt] at *
  exact List.lt_trans h1 h2
theorem strLe_of {a b : Str} (h : sLt a b = true) : strLe a b = true := by
  simp [sLt, strLe] at *
  exact List.le_of_lt h
theorem sLt_of {a b : Str} (h : strLe a b = true) (n : a ≠ b) : sLt a b = true := by
  simp [sLt, strLe] at *
  rcases List.le_iff_lt_or_eq.mp h with h1 | h1
  · exact h1
  · exact absurd (by cases a; cases b; simpa [Array.toList_inj] using h1) n
theorem uniq_id : ∀ {l : List Str}, l.Nodup → uniq l = l
  | [], _ => rfl
  | a :: l, h => by
    rw [List.nodup_cons] at h
    simp [uniq, uniq_id h.2, h.1]
theorem sort_asc {l : List Str} (h : asc l = true) : (uniq l).mergeSort strLe = l := by
  rw [uniq_id (asc_nodup h)]
  exact List.mergeSort_of_pairwise ((asc_pw.mp h).imp fun h => strLe_of h)
theorem asc_sort {l : List Str} (h : (uniq l).mergeSort strLe = l) : asc l = true := by
  have hs : l.Pairwise fun a b => strLe a b = true := by
    rw [← h]
    exact List.pairwise_mergeSort strLe_trans strLe_total _
  have hn : l.Nodup := by
    rw [← h]
    exact (List.mergeSort_perm _ _).nodup_iff.mpr (nodup_uniq _)
  refine asc_pw.mpr ?_
  have := hs.and hn
  exact this.imp fun ⟨h1, h2⟩ => sLt_of h1 h2
theorem eqv_strs : ∀ {l m : List Str}, PyData.eqvAll (l.map .str) (m.map .str) = decide (l = m)
  | [], [] => by simp [PyData.eqvAll]
  | [], _ :: _ => by simp [PyData.eqvAll]
  | _ :: _, [] => by simp [PyData.eqvAll]
  | a :: l, b :: m => by
    simp [PyData.eqvAll, eqv_strs (l := l) (m := m)]
theorem opEq_strs {l m : List Str} (h1 : SeqAt.shaped (.list (l.map .str)) = true) (h2 : SeqAt.shaped (.list (m.map .str)) = true) : opEq (.list (l.map .str)) (.list (m.map .str)) = some (.v (.bool (decide (l = m)))) := by
  unfold opEq
  rw [if_pos ⟨h1, h2⟩]
  simp [PyData.eqv, eqv_strs]
theorem shp_strs {l : List Str} (h : ∀ a ∈ l, PyData.strOk a = true ∧ a.length ≤ 1000) : SeqAt.shaped (.list (l.map .str)) = true := by
  have : Gd l.length 1 (.list (l.map .str)) := ⟨by simp, fun d hd => by
    obtain ⟨a, ha, rfl⟩ := List.mem_map.mp hd
    exact gd_str (h a ha)⟩
  exact this.shp (by omega)
section
variable {dt : List DefE} {wh : Nat}
theorem sp_l_rising (hw : Has dt e__law_is_word) (hf : Has dt e__law_rising) {lv m k n : Nat} {v : D} (hv : Gd m k v) (hk : k ≤ 60) (hm : m ≤ 999) (hn : n ≤ 100) (hl : 2 ≤ lv) :
    LC (gN dt wh lv) "_law_rising" [.v v, .v (.int n)] fun r bs => r = .v (.bool (isRi n v)) ∧ bs = [] := by
  obtain ⟨lv, rfl⟩ : ∃ l, lv = l + 2 := ⟨lv - 2, by omega⟩
  refine LC.df hf rfl ?_
  have hc := hv.can
  cases v with
  | tuple ds =>
    obtain ⟨k, rfl, h1, h2⟩ := hv.tup
    by_cases h4 : ds.length ≤ n
    · have h4' : ¬ (n : Int) < (ds.length : Int) := by omega
      simp [e__law_rising, opIsi, isTy, hc, PyData.isTuple, h4']
      refine l_forA ?_
      simp [itemsOf, seqOf]
      refine ⟨fun left e => Keep (∃ (done : List D) (s2 : Option Sl), ds = done ++ left ∧ (∀ d ∈ done, isPr d = true) ∧ (s2 = none ∨ ∃ z, s2 = some (.val z)) ∧ e = [some (.val (.tuple ds)), some (.val (.int n)), s2, none]), kp ⟨[], none, rfl, by simp, .inl rfl, rfl⟩, ?_, ?_⟩
      · rintro d left e ⟨done, s2, h5, h6, b2, rfl⟩
        have hd := h2 d (by rw [h5]; simp)
        have hno : isPr d = false → isRi n (.tuple ds) = false := fun h => by
          have : ds.all isPr = false := by rw [h5]; simp [h]
          simp [isRi, this]
        have hdc := hd.can
        have b2 : isBor (some s2) = false := by rcases b2 with rfl | ⟨z, rfl⟩ <;> rfl
        simp [b2]
        cases d with
        | tuple es =>
          simp [opIsi, isTy, hdc, PyData.isTuple]
          by_cases h0 : es.length = 2
          · obtain ⟨x, y, rfl⟩ : ∃ x y, es = [x, y] := by
              match es, h0 with
              | [x, y], _ => exact ⟨x, y, rfl⟩
            obtain ⟨k, rfl, _, h7⟩ := hd.tup
            simp [opNe_int]
            refine (sp_l_word hw (h7 x (by simp))).mono fun r bs ⟨h3, h4⟩ => ?_
            subst h3 h4
            cases hx : isNm x with
            | false => simp [hno (show isPr (.tuple [x, y]) = false from hx)]
            | true =>
              simp
              refine kp ⟨done ++ [.tuple [x, y]], _, by simp [h5], ?_, .inr ⟨_, rfl⟩, rfl⟩
              intro d hd
              rcases List.mem_append.mp hd with hd | hd
              · exact h6 d hd
              · simp at hd; subst hd; exact hx
          · have h0' : ¬ (es.length : Int) = 2 := by omega
            have hp : isPr (.tuple es) = false := by
              match es, h0 with
              | [], _ => rfl
              | [x], _ => rfl
              | [_, _], h => exact absurd rfl h
              | _ :: _ :: _ :: _, _ => rfl
            simp [opNe_int, h0', hno hp]
        | _ => simp [opIsi, isTy, hdc, PyData.isTuple, hno rfl]
      · rintro e ⟨done, s2, h5, h6, b2, rfl⟩
        simp at h5
        subst h5
        have hall : ds.all isPr = true := List.all_eq_true.mpr h6
        have hdl : ds.length ≤ 1000 := by omega
        refine l_compT (fun p => .str (fstS p)) ?_
        have e1 : ds.map (fun p => PyData.str (fstS p)) = (ds.map fstS).map .str := by simp
        simp [itemsOf, seqOf, calmSl, hdl, e1, -List.map_map]
        have hst : ∀ a ∈ ds.map fstS, PyData.strOk a = true ∧ a.length ≤ 1000 := by
          intro a ha
          obtain ⟨p, hp, rfl⟩ := List.mem_map.mp ha
          obtain ⟨a, x, rfl, hx⟩ := isPr_is (h6 p hp)
          exact isNmS_ok hx
        have hso : ∀ a ∈ (uniq (ds.map fstS)).mergeSort strLe, PyData.strOk a = true ∧ a.length ≤ 1000 := fun a ha => hst a (by simpa [List.mem_mergeSort, mem_uniq] using ha)
        refine ⟨?_, fun d hd => ?_, ?_⟩
        · rcases b2 with rfl | ⟨z, rfl⟩ <;> rfl
        · obtain ⟨a, x, rfl, _⟩ := isPr_is (h6 d hd)
          simp [fstS]
        · rw [opSortSet_map (by simp; omega)]
          simp [e1, -List.map_map]
          rw [opEq_strs (shp_strs hst) (shp_strs hso)]
          simp [isRi, h4, hall]
          rw [Bool.eq_iff_iff]
          simp
          exact ⟨fun h => asc_sort h.symm, fun h => (sort_asc h).symm⟩
    · have h4' : (n : Int) < (ds.length : Int) := by omega
      simp [e__law_rising, opIsi, isTy, hc, PyData.isTuple, h4', isRi, h4]
  | _ => simp [e__law_rising, opIsi, isTy, hc, PyData.isTuple, isRi]
end
end RL
end
section
set_option linter.all false
set_option autoImplicit false
/-! M1: rings, plain -/
namespace RM
variable {α : Type} [DecidableEq α]

/-- each leads to the next -/
def Lk (adj : α → List α) : α → List α → Prop
  | _, [] => True
  | a, b :: r => b ∈ adj a ∧ Lk adj b r
def lastD : α → List α → α
  | a, [] => a
  | _, b :: r => lastD b r
theorem lk_app {adj : α → List α} : ∀ {u : List α} {a : α} {v : List α}, Lk adj a (u ++ v) ↔ Lk adj a u ∧ Lk adj (lastD a u) v
  | [], a, v => by simp [Lk, lastD]
  | b :: u, a, v => by simp [Lk, lastD, lk_app (u := u), and_assoc]
theorem last_app : ∀ {u : List α} {a : α} {v : List α}, lastD a (u ++ v) = lastD (lastD a u) v
  | [], a, v => rfl
  | b :: u, a, v => by simp [lastD, last_app (u := u)]
theorem last_mem : ∀ {u : List α} {a : α}, lastD a u ∈ a :: u
  | [], a => by simp [lastD]
  | b :: u, a => by
    have := last_mem (u := u) (a := b)
    simp [lastD] at this ⊢
    exact .inr this
/-- a walk from a back to a -/
def Clo (adj : α → List α) (a : α) (t : List α) : Prop := Lk adj a t ∧ a ∈ adj (lastD a t)
abbrev Rch (adj : α → List α) : α → α → Prop := Relation.TransGen fun a b => b ∈ adj a
theorem rch_lk {adj : α → List α} : ∀ {t : List α} {a b : α}, Lk adj a t → b ∈ adj (lastD a t) → Rch adj a b
  | [], a, b, _, h => .single h
  | c :: t, a, b, h, hb => by
    have := rch_lk (t := t) h.2 hb
    exact Relation.TransGen.trans (.single h.1) this
theorem Clo.rch {adj : α → List α} {a : α} {t : List α} (h : Clo adj a t) : Rch adj a a := rch_lk h.1 h.2
theorem rch_walk {adj : α → List α} {a b : α} (h : Rch adj a b) : ∃ t, Lk adj a t ∧ b ∈ adj (lastD a t) := by
  induction h with
  | single h => exact ⟨[], trivial, h⟩
  | tail h1 h2 ih =>
    rename_i b c
    obtain ⟨t, h3, h4⟩ := ih
    refine ⟨t ++ [b], ?_, ?_⟩
    · rw [lk_app]; exact ⟨h3, h4, trivial⟩
    · rw [last_app]; exact h2
theorem not_nodup : ∀ {l : List α}, ¬ l.Nodup → ∃ x u v w, l = u ++ x :: (v ++ x :: w)
  | [], h => absurd List.nodup_nil h
  | a :: l, h => by
    by_cases ha : a ∈ l
    · obtain ⟨v, w, e⟩ := List.append_of_mem ha
      exact ⟨a, [], v, w, by simp [e]⟩
    · have : ¬ l.Nodup := fun z => h (List.nodup_cons.mpr ⟨ha, z⟩)
      obtain ⟨x, u, v, w, e⟩ := not_nodup this
      exact ⟨x, a :: u, v, w, by simp [e]⟩
theorem clo_short {adj : α → List α} {a : α} : ∀ (n : Nat) {t : List α}, t.length ≤ n → Clo adj a t → ∃ s, Clo adj a s ∧ (a :: s).Nodup ∧ s ⊆ t
  | n, t, hn, h => by
    by_cases hd : (a :: t).Nodup
    · exact ⟨t, h, hd, fun x hx => hx⟩
    by_cases ha : a ∈ t
    · obtain ⟨u, v, rfl⟩ := List.append_of_mem ha
      have h1 := lk_app.mp h.1
      have hn1 : u.length < n := by simp at hn; omega
      obtain ⟨s, h2, h3, h4⟩ := clo_short (n - 1) (t := u) (by omega) ⟨h1.1, h1.2.1⟩
      exact ⟨s, h2, h3, fun x hx => by simp [h4 hx]⟩
    · have ht : ¬ t.Nodup := fun z => hd (List.nodup_cons.mpr ⟨ha, z⟩)
      obtain ⟨x, u, v, w, rfl⟩ := not_nodup ht
      have h1 := lk_app.mp h.1
      have h2 := lk_app.mp h1.2.2
      have h5 : Clo adj a (u ++ x :: w) := by
        refine ⟨lk_app.mpr ⟨h1.1, h1.2.1, h2.2.2⟩, ?_⟩
        have := h.2
        simpa [last_app, lastD] using this
      have hn1 : (u ++ x :: w).length < n := by simp at hn ⊢; omega
      obtain ⟨s, h6, h7, h8⟩ := clo_short (n - 1) (t := u ++ x :: w) (by omega) h5
      refine ⟨s, h6, h7, fun y hy => ?_⟩
      have := h8 hy
      simp at this ⊢
      rcases this with h | h | h
      · exact .inl h
      · exact .inr (.inl h)
      · exact .inr (.inr (.inr (.inr h)))
termination_by n t => n
decreasing_by all_goals omega
/-- a ring, told from a on -/
def Ring (adj : α → List α) (a : α) (t : List α) : Prop := Clo adj a t ∧ (a :: t).Nodup
theorem ring_of {adj : α → List α} {a : α} (h : Rch adj a a) : ∃ t, Ring adj a t := by
  obtain ⟨t, h1, h2⟩ := rch_walk h
  obtain ⟨s, h3, h4, _⟩ := clo_short t.length (Nat.le_refl _) (a := a) ⟨h1, h2⟩
  exact ⟨s, h3, h4⟩
theorem Ring.turn {adj : α → List α} {a m : α} {u v : List α} (h : Ring adj a (u ++ m :: v)) : Ring adj m (v ++ a :: u) := by
  obtain ⟨⟨h1, h2⟩, h3⟩ := h
  have h4 := lk_app.mp h1
  have h5 : a ∈ adj (lastD m v) := by simpa [last_app, lastD] using h2
  refine ⟨⟨lk_app.mpr ⟨h4.2.2, h5, h4.1⟩, by simpa [last_app, lastD] using h4.2.1⟩, ?_⟩
  have p : (a :: (u ++ m :: v)).Perm (m :: (v ++ a :: u)) := by
    have e1 : a :: (u ++ m :: v) = (a :: u) ++ (m :: v) := by simp
    have e2 : m :: (v ++ a :: u) = (m :: v) ++ (a :: u) := by simp
    rw [e1, e2]
    exact List.perm_append_comm
  exact p.nodup_iff.mp h3
theorem ring_at {adj : α → List α} {a x : α} {t : List α} (h : Ring adj a t) (hx : x ∈ a :: t) : ∃ s, Ring adj x s ∧ ∀ y, y ∈ x :: s ↔ y ∈ a :: t := by
  rcases List.mem_cons.mp hx with rfl | hx
  · exact ⟨t, h, fun y => Iff.rfl⟩
  · obtain ⟨u, v, rfl⟩ := List.append_of_mem hx
    refine ⟨_, h.turn, fun y => ?_⟩
    simp
    constructor
    · rintro (h | h | h | h) <;> simp [h]
    · rintro (h | h | h | h) <;> simp [h]
theorem Ring.rch {adj : α → List α} {a x : α} {t : List α} (h : Ring adj a t) (hx : x ∈ a :: t) : Rch adj x x := by
  obtain ⟨s, h1, _⟩ := ring_at h hx
  exact h1.1.rch

/-! ### an order -/
structure Ord (lt : α → α → Bool) : Prop where
  irr : ∀ a, lt a a = false
  tr : ∀ a b c, lt a b = true → lt b c = true → lt a c = true
  tot : ∀ a b, a = b ∨ lt a b = true ∨ lt b a = true
theorem least {lt : α → α → Bool} (o : Ord lt) : ∀ (l : List α) (a : α), ∃ m ∈ a :: l, ∀ x ∈ a :: l, x = m ∨ lt m x = true
  | [], a => ⟨a, by simp, by simp⟩
  | b :: l, a => by
    obtain ⟨m, h1, h2⟩ := least o l b
    rcases o.tot a m with e | e | e
    · subst e
      exact ⟨a, by simp, fun x hx => by
        rcases List.mem_cons.mp hx with rfl | hx
        · exact .inl rfl
        · exact h2 x hx⟩
    · refine ⟨a, by simp, fun x hx => ?_⟩
      rcases List.mem_cons.mp hx with rfl | hx
      · exact .inl rfl
      · rcases h2 x hx with rfl | h
        · exact .inr e
        · exact .inr (o.tr _ _ _ e h)
    · refine ⟨m, List.mem_cons_of_mem _ h1, fun x hx => ?_⟩
      rcases List.mem_cons.mp hx with rfl | hx
      · exact .inr e
      · exact h2 x hx
/-- .. told from its least name on -/
def RingL (lt : α → α → Bool) (adj : α → List α) (a : α) (t : List α) : Prop := Ring adj a t ∧ ∀ x ∈ t, lt a x = true
theorem ringL_of {lt : α → α → Bool} (o : Ord lt) {adj : α → List α} {a : α} {t : List α} (h : Ring adj a t) : ∃ m s, RingL lt adj m s ∧ ∀ y, y ∈ m :: s ↔ y ∈ a :: t := by
  obtain ⟨m, h1, h2⟩ := least o t a
  obtain ⟨s, h3, h4⟩ := ring_at h h1
  refine ⟨m, s, ⟨h3, fun x hx => ?_⟩, h4⟩
  rcases h2 x ((h4 x).mp (by simp [hx])) with rfl | h
  · exact absurd hx (List.nodup_cons.mp h3.2).1
  · exact h

/-! ### the program's search -/
def rf (lt : α → α → Bool) (adj : α → List α) : Nat → α → List α → List (List α)
  | 0, _, _ => []
  | n + 1, h, t => (adj (lastD h t)).flatMap fun x => if x = h then [h :: t] else if lt h x = true ∧ x ∉ t then rf lt adj n h (t ++ [x]) else []
theorem rf_sound {lt : α → α → Bool} {adj : α → List α} : ∀ {n : Nat} {h : α} {t : List α} {p : List α}, p ∈ rf lt adj n h t →
    ∃ s, p = h :: (t ++ s) ∧ Lk adj (lastD h t) s ∧ h ∈ adj (lastD h (t ++ s)) ∧ s.Nodup ∧ ∀ x ∈ s, lt h x = true ∧ x ∉ t
  | 0, h, t, p, hp => by simp [rf] at hp
  | n + 1, h, t, p, hp => by
    simp only [rf, List.mem_flatMap] at hp
    obtain ⟨x, hx, hp⟩ := hp
    split at hp
    · rename_i e
      subst e
      simp at hp
      subst hp
      exact ⟨[], by simp, trivial, by simpa using hx, List.nodup_nil, by simp⟩
    · split at hp
      · rename_i ne h1
        obtain ⟨s, rfl, h2, h3, h4, h5⟩ := rf_sound hp
        have e : lastD h (t ++ [x]) = x := by simp [last_app, lastD]
        rw [e] at h2
        refine ⟨x :: s, by simp, ⟨hx, h2⟩, by simpa using h3, List.nodup_cons.mpr ⟨fun z => ?_, h4⟩, fun y hy => ?_⟩
        · exact (h5 x z).2 (by simp)
        · rcases List.mem_cons.mp hy with rfl | hy
          · exact h1
          · have := h5 y hy
            exact ⟨this.1, fun z => this.2 (by simp [z])⟩
      · cases hp
theorem rf_complete {lt : α → α → Bool} (o : Ord lt) {adj : α → List α} : ∀ {s : List α} {n : Nat} {h : α} {t : List α}, s.length < n → Lk adj (lastD h t) s → h ∈ adj (lastD h (t ++ s)) → s.Nodup → (∀ x ∈ s, lt h x = true ∧ x ∉ t) →
    h :: (t ++ s) ∈ rf lt adj n h t
  | s, 0, h, t, hn, _, _, _, _ => by omega
  | [], n + 1, h, t, hn, h1, h2, h3, h4 => by
    simp only [rf, List.mem_flatMap]
    exact ⟨h, by simpa using h2, by simp⟩
  | x :: s, n + 1, h, t, hn, h1, h2, h3, h4 => by
    simp only [rf, List.mem_flatMap]
    have hx := h4 x (by simp)
    have ne : x ≠ h := by
      rintro rfl
      rw [o.irr] at hx
      cases hx.1
    refine ⟨x, h1.1, ?_⟩
    rw [if_neg ne, if_pos hx]
    have e : lastD h (t ++ [x]) = x := by simp [last_app, lastD]
    have := rf_complete o (s := s) (n := n) (h := h) (t := t ++ [x]) (by simp at hn; omega) (by rw [e]; exact h1.2) (by simpa using h2) (List.nodup_cons.mp h3).2 (fun y hy => ⟨(h4 y (by simp [hy])).1, fun z => by
      simp at z
      rcases z with z | rfl
      · exact (h4 y (by simp [hy])).2 z
      · exact (List.nodup_cons.mp h3).1 hy⟩)
    simpa using this
theorem lk_sub {adj : α → List α} {ns : List α} (hns : ∀ a b, b ∈ adj a → b ∈ ns) : ∀ {t : List α} {a : α}, Lk adj a t → t ⊆ ns
  | [], _, _ => fun x hx => by cases hx
  | c :: t, a, h => fun x hx => by
    rcases List.mem_cons.mp hx with rfl | hx
    · exact hns _ _ h.1
    · exact lk_sub hns h.2 hx
theorem rf_nil {lt : α → α → Bool} (o : Ord lt) {adj : α → List α} {n : Nat} {a : α} {p : List α} {ns : List α} (hn : ns.length ≤ n) (hns : ∀ a b, b ∈ adj a → b ∈ ns) :
    p ∈ rf lt adj n a [] ↔ ∃ s, p = a :: s ∧ RingL lt adj a s := by
  constructor
  · intro h
    obtain ⟨s, rfl, h1, h2, h3, h4⟩ := rf_sound h
    refine ⟨s, by simp, ⟨⟨h1, by simpa using h2⟩, List.nodup_cons.mpr ⟨fun z => ?_, h3⟩⟩, fun x hx => (h4 x hx).1⟩
    have := (h4 a z).1
    rw [o.irr] at this
    cases this
  · rintro ⟨s, rfl, ⟨⟨h1, h2⟩, h3⟩, h4⟩
    have hs : a :: s ⊆ ns := by
      intro x hx
      rcases List.mem_cons.mp hx with rfl | hx
      · exact hns _ _ h2
      · exact lk_sub hns h1 hx
    have hl := h3.length_le_of_subset hs
    simp at hl
    exact rf_complete o (t := []) (by omega) h1 (by simpa using h2) (List.nodup_cons.mp h3).2 fun x hx => ⟨h4 x hx, by simp⟩

/-! ### the law's closure -/
def grow (adj : α → List α) (seen : List α) : List α := seen.foldl (fun s one => s ++ (adj one).filter fun o => decide (o ∉ s)) seen
def growN (adj : α → List α) : Nat → List α → List α
  | 0, s => s
  | n + 1, s => growN adj n (grow adj s)
theorem fold_sub {adj : α → List α} : ∀ (l s : List α), s ⊆ l.foldl (fun s one => s ++ (adj one).filter fun o => decide (o ∉ s)) s
  | [], s => fun x hx => hx
  | a :: l, s => fun x hx => by
    rw [List.foldl_cons]
    exact fold_sub l _ (by simp [hx])
theorem fold_has {adj : α → List α} {x y : α} : ∀ {l s : List α}, x ∈ l → y ∈ adj x → y ∈ l.foldl (fun s one => s ++ (adj one).filter fun o => decide (o ∉ s)) s
  | a :: l, s, hx, hy => by
    rw [List.foldl_cons]
    rcases List.mem_cons.mp hx with rfl | hx
    · refine fold_sub l _ ?_
      by_cases h : y ∈ s
      · simp [h]
      · simp [h, hy]
    · exact fold_has hx hy
theorem fold_in {adj : α → List α} {P : α → Prop} (hP : ∀ x y, P x → y ∈ adj x → P y) : ∀ {l s : List α}, (∀ x ∈ l, P x) → (∀ x ∈ s, P x) → ∀ x ∈ l.foldl (fun s one => s ++ (adj one).filter fun o => decide (o ∉ s)) s, P x
  | [], s, _, hs => hs
  | a :: l, s, hl, hs => by
    rw [List.foldl_cons]
    refine fold_in hP (fun x hx => hl x (by simp [hx])) fun x hx => ?_
    simp at hx
    rcases hx with hx | hx
    · exact hs x hx
    · exact hP a x (hl a (by simp)) hx.1
theorem grow_in {adj : α → List α} {P : α → Prop} (hP : ∀ x y, P x → y ∈ adj x → P y) : ∀ {n : Nat} {s : List α}, (∀ x ∈ s, P x) → ∀ x ∈ growN adj n s, P x
  | 0, s, h => h
  | n + 1, s, h => grow_in hP (n := n) (fold_in hP h h)
theorem grow_sub {adj : α → List α} : ∀ {n : Nat} {s : List α}, s ⊆ growN adj n s
  | 0, s => fun x hx => hx
  | n + 1, s => fun x hx => grow_sub (n := n) (fold_sub s s hx)
theorem grow_walk {adj : α → List α} : ∀ {t : List α} {n : Nat} {s : List α} {a : α}, t.length < n → a ∈ s → Lk adj a t → ∀ b ∈ adj (lastD a t), b ∈ growN adj n s
  | t, 0, s, a, hn, _, _ => by omega
  | [], n + 1, s, a, _, ha, _ => fun b hb => grow_sub (n := n) (fold_has ha hb)
  | c :: t, n + 1, s, a, hn, ha, h => grow_walk (t := t) (n := n) (by simp at hn; omega) (fold_has ha h.1) h.2
theorem grow_ring {adj : α → List α} {ns : List α} {n : Nat} (hn : ns.length ≤ n) (hns : ∀ a b, b ∈ adj a → b ∈ ns) {a : α} : a ∈ growN adj n (adj a) ↔ Rch adj a a := by
  constructor
  · intro h
    exact grow_in (P := fun x => Rch adj a x) (fun x y hx hy => .tail hx hy) (fun x hx => .single hx) a h
  · intro h
    obtain ⟨t, ⟨h1, h2⟩, h3⟩ := ring_of h
    cases t with
    | nil => exact grow_sub (n := n) h2
    | cons b t =>
      have hs : b :: t ⊆ ns := lk_sub hns h1
      have hl := (List.nodup_cons.mp h3).2.length_le_of_subset hs
      simp at hl
      exact grow_walk (t := t) (n := n) (a := b) (by omega) h1.1 h1.2 a h2
end RM
end
section
set_option Elab.async false
set_option linter.all false
set_option autoImplicit false
set_option maxRecDepth 100000
set_option maxHeartbeats 4000000
/-! T2: dicts by names; typed comprehensions; values, typed -/
namespace RL
open PySem PySem.Spec L2
open PyProof.Rows hiding St

abbrev dct (l : List (Str × D)) : D := .dict (sd l)
theorem sd_find {a : Str} : ∀ {l : List (Str × D)}, dFind (sd l) (.inr a) = l.lookup a
  | [] => rfl
  | (b, d) :: l => by
    have ih := sd_find (a := a) (l := l)
    unfold dFind sd at ih ⊢
    rw [List.map_cons, List.find?_cons, List.lookup_cons]
    by_cases h : b = a
    · subst h
      simp [keyK]
    · have h2 : (a == b) = false := by simp [Ne.symm h]
      have h3 : decide (keyK (PyData.str b) = some (.inr a)) = false := by simp [keyK, h]
      rw [h3, h2]
      exact ih
theorem scr_sd {l : List (Str × D)} : scrOf (dct l) = none := by
  cases l with
  | nil => rfl
  | cons p l => rfl
@[simp] theorem opIx3_sd {l : List (Str × D)} {a : Str} : opIx3 (dct l) (.str a) = (l.lookup a).map .v := by
  unfold opIx3
  rw [scr_sd]
  simp only [opIx2, keyOf_sd, sd_find]
@[simp] theorem opIn2_sd' {s : Str} {l : List (Str × D)} : opIn2 (.str s) (dct l) = some (.v (.bool (decide (s ∈ l.map (·.1))))) := opIn2_sd
@[simp] theorem opNotIn2_sd {s : Str} {l : List (Str × D)} : opNotIn2 (.str s) (dct l) = some (.v (.bool (!decide (s ∈ l.map (·.1))))) := by
  unfold opNotIn2
  simp only [keyOf_sd, sd_has]
@[simp] theorem opGet_sd {s : Str} {l : List (Str × D)} {z : D} : opGet (dct l) [.str s, z] = some (.v ((l.lookup s).getD z)) := by
  unfold opGet
  simp only [keyOf_sd, sd_find]
theorem sd_keys {l : List (Str × D)} : (sd l).map (·.1) = (l.map (·.1)).map .str := by simp [sd]
@[simp] theorem items_sd {l : List (Str × D)} : itemsOf (dct l) = some ((l.map (·.1)).map .str) := by
  show dKeys (sd l) = _
  unfold dKeys
  have := sd_allK (l := l)
  unfold allK at this
  rw [if_pos this, sd_keys]
theorem opSorted_sd {l : List (Str × D)} (h : l.length < 64) : opSorted (dct l) = some (.o (.list (((l.map (·.1)).mergeSort strLe).map .str))) := by
  show (strsOf ((sd l).map (·.1))).bind _ = _
  rw [sd_keys, strsOf_map]
  simp [h, strSort_eq]
@[simp] theorem isDct_sd {l : List (Str × D)} : isDctD (dct l) = true := by
  show (allK (sd l) || allT (sd l)) = true
  rw [sd_allK]; rfl
theorem pairs_sd : ∀ {l : List (Str × D)}, pairsOf (l.map fun p => .tuple [.str p.1, p.2]) = some (sd l)
  | [] => rfl
  | (a, d) :: l => by
    rw [List.map_cons]
    show (pairsOf (l.map fun p => .tuple [.str p.1, p.2])).map _ = _
    rw [pairs_sd]
    rfl
theorem dictOf_sd {l : List (Str × D)} (hn : (l.map (·.1)).Nodup) (hl : l.length ≤ 1000) : dictOf (l.map fun p => .tuple [.str p.1, p.2]) = some (.o (dct l)) := by
  unfold dictOf
  have h := sd_merge l [] (by simpa using hn)
  have h' : dMerge [] (sd l) = sd l := by simpa [sd] using h
  rw [pairs_sd]
  simp only [Option.bind_some, sd_allK, List.length_map, if_true, h']
  rw [if_pos (len_ok hl)]
theorem opDict_l {l : List (Str × D)} (hn : (l.map (·.1)).Nodup) (hl : l.length ≤ 1000) : opDict (.list (l.map fun p => .tuple [.str p.1, p.2])) = some (.o (dct l)) := dictOf_sd hn hl
theorem opDict_t {l : List (Str × D)} (hn : (l.map (·.1)).Nodup) (hl : l.length ≤ 1000) : opDict (.tuple (l.map fun p => .tuple [.str p.1, p.2])) = some (.o (dct l)) := dictOf_sd hn hl
theorem opDict_d {l : List (Str × D)} : opDict (dct l) = some (.o (dct l)) := by
  show (if allK (sd l) = true then _ else _) = _
  rw [if_pos sd_allK]
theorem fSet_new {l : List (Str × D)} {a : Str} {d : D} (h : ¬ a ∈ l.map (·.1)) (hl : l.length ≤ 1000) : fSet (dct l) (.str a) d = some (dct (l ++ [(a, d)])) := by
  unfold fSet
  simp only [keyOf_sd]
  rw [if_pos (len_ok' (by simpa [sd] using hl)), sd_put h]

/-! ### typed comprehensions -/
section
variable {g : G} {e : En}
/-- .. of a typed list; the parts leave the slots -/
theorem l_compTy {α : Type} {it : IM} {t : TM} {m : EM} {sl : List Nat} {Q : R → En → Prop} (en f : α → D) (h : LI it g e fun ds e1 => ∃ xs : List α, ds = xs.map en ∧ xs.length < sizeLine ∧ calmSl e1 sl = true ∧
    (∀ x ∈ xs, Lo (t (en x) (wipeE e1 sl)) fun e2 => LE m g e2 fun r e4 => r.d = f x ∧ wipeE e4 sl = wipeE e1 sl) ∧ Q (.o (.list (xs.map f))) (backE e1 (wipeE e1 sl) sl)) : LE (compM it t trueM m sl) g e Q := by
  refine l_compI (LI.mono h fun ds e1 ⟨xs, h0, h1, h2, h3, h4⟩ => ?_)
  subst h0
  refine ⟨by simpa using h1, h2, fun acc e => acc = (xs.map f).take acc.length ∧ e = wipeE e1 sl, ⟨by simp, rfl⟩, ?_, ?_⟩
  · rintro d acc e hd ⟨ha, rfl⟩
    rw [List.getElem?_map] at hd
    obtain ⟨x, hx, rfl⟩ := Option.map_eq_some_iff.mp hd
    refine Wo.mono (h3 x (List.mem_of_getElem? hx)) fun e2 h5 => LE.mono h5 fun r e4 ⟨h6, h7⟩ => ⟨?_, h7⟩
    rw [List.length_append, List.length_singleton, List.take_add_one, ← ha, List.getElem?_map, hx]
    simp [h6]
  · rintro acc e hl ⟨ha, rfl⟩
    have : acc = xs.map f := by
      rw [ha, hl, List.length_map, List.take_of_length_le (by simp)]
    rw [this]
    exact h4
/-- .. with a condition -/
theorem l_compPy {α : Type} {it : IM} {t : TM} {c : BM} {m : EM} {sl : List Nat} {Q : R → En → Prop} (en : α → D) (p : α → Bool) (f : α → D) (h : LI it g e fun ds e1 => ∃ xs : List α, ds = xs.map en ∧ xs.length < sizeLine ∧ calmSl e1 sl = true ∧
    (∀ x ∈ xs, Lo (t (en x) (wipeE e1 sl)) fun e2 => LB c g e2 fun b e3 => b = p x ∧ (if p x = true then LE m g e3 fun r e4 => r.d = f x ∧ wipeE e4 sl = wipeE e1 sl else wipeE e3 sl = wipeE e1 sl)) ∧
    Q (.o (.list ((xs.filter p).map f))) (backE e1 (wipeE e1 sl) sl)) : LE (compM it t c m sl) g e Q := by
  refine l_compA (LI.mono h fun ds e1 ⟨xs, h0, h1, h2, h3, h4⟩ => ?_)
  subst h0
  refine ⟨by simpa using h1, h2, fun left acc e => (∃ done rest, xs = done ++ rest ∧ left = rest.map en ∧ acc = (done.filter p).map f) ∧ e = wipeE e1 sl, ⟨⟨[], xs, rfl, rfl, rfl⟩, rfl⟩, ?_, ?_⟩
  · rintro d left acc e ⟨⟨done, rest, e2, e3, e4⟩, rfl⟩
    cases rest with
    | nil => cases e3
    | cons x rest =>
      rw [List.map_cons] at e3
      injection e3 with e5 e6
      subst e5 e6
      refine Wo.mono (h3 x (by rw [e2]; simp)) fun e5 h5 => WB.mono h5 fun b e6 ⟨hb, h6⟩ => ?_
      subst hb
      cases hp : p x with
      | true =>
        rw [hp, if_pos rfl] at h6
        refine WE.mono h6 fun r e7 ⟨h7, h8⟩ => ⟨⟨done ++ [x], rest, by rw [e2]; simp, rfl, ?_⟩, h8⟩
        rw [e4, h7, List.filter_append, List.map_append]
        simp [hp]
      | false =>
        rw [hp, if_neg (by simp)] at h6
        refine ⟨⟨done ++ [x], rest, by rw [e2]; simp, rfl, ?_⟩, h6⟩
        rw [e4, List.filter_append]
        simp [hp]
  · rintro acc e ⟨⟨done, rest, e2, e3, e4⟩, rfl⟩
    have : rest = [] := by
      cases rest with
      | nil => rfl
      | cons _ _ => cases e3
    subst this
    rw [List.append_nil] at e2
    subst e2 e4
    exact h4
end

/-- a loop over a typed list -/
theorem l_forTy {g : G} {e : En} {α : Type} {it : IM} {t : TM} {body : SM} {Q : Fl_ → En → Prop} (en : α → D) (h : LI it g e fun ds e1 => ∃ xs : List α, ds = xs.map en ∧ ∃ J : Nat → En → Prop, J 0 e1 ∧ (∀ i x e, xs[i]? = some x → J i e → Lo (t (en x) e) fun e1 => LS body g e1 fun f e2 => match f with
    | .nx => J (i + 1) e2
    | .ct => J (i + 1) e2
    | .bk => Q .nx e2
    | .rt x => Q (.rt x) e2) ∧ ∀ e, J xs.length e → Q .nx e) : LS (forM it t body) g e Q := by
  refine l_forI (LI.mono h fun ds e1 ⟨xs, h0, J, h1, h2, h3⟩ => ⟨J, h1, fun i d e hd hj => ?_, fun e hj => h3 e (by rw [h0, List.length_map] at hj; exact hj)⟩)
  subst h0
  rw [List.getElem?_map] at hd
  obtain ⟨x, hx, rfl⟩ := Option.map_eq_some_iff.mp hd
  exact h2 i x e hx hj
/-! ### values -/
abbrev Val := Option Int
def encV : Val → D
  | none => .none
  | some i => .int i
def sumO (l : List Val) : Val := if none ∈ l then none else some ((l.filterMap id).sum)
def firstO (l : List Val) : Val := (l.filterMap id).head?
/-- the value of a rule, by so many steps at most -/
def ev (s : Stg) (bad : List Str) (ab : Str → Val) : Nat → Rule → Option Val
  | 0, _ => none
  | _ + 1, .num i => some (some i)
  | _ + 1, .up a => some (ab a)
  | n + 1, .here a => match s.lookup a with
    | none => some (ab a)
    | some r => if a ∈ bad then some none else ev s bad ab n r
  | n + 1, .times i r => (ev s bad ab n r).map fun v => v.map (i * ·)
  | n + 1, .sum rs => (rs.mapM (ev s bad ab n)).map sumO
  | n + 1, .first rs => (rs.mapM (ev s bad ab n)).map firstO
end RL
end
section
set_option Elab.async false
set_option linter.all false
set_option autoImplicit false
set_option maxRecDepth 100000
set_option maxHeartbeats 4000000
/-! T3: values of rules: bounds, ends -/
namespace RL
open PySem PySem.Spec L2
open PyProof.Rows hiding St

theorem lookup_mem {β : Type} {a : Str} {b : β} : ∀ {l : List (Str × β)}, l.lookup a = some b → (a, b) ∈ l
  | [], h => by cases h
  | (c, d) :: l, h => by
    rw [List.lookup_cons] at h
    by_cases hc : a = c
    · subst hc
      simp at h
      simp [h]
    · have : (a == c) = false := by simp [hc]
      rw [this] at h
      exact List.mem_cons_of_mem _ (lookup_mem h)
theorem lookup_isSome {β : Type} {a : Str} : ∀ {l : List (Str × β)}, (l.lookup a).isSome = true ↔ a ∈ l.map (·.1)
  | [] => by simp
  | (c, d) :: l => by
    rw [List.lookup_cons]
    by_cases hc : a = c
    · subst hc
      simp
    · have : (a == c) = false := by simp [hc]
      rw [this]
      simp [hc, lookup_isSome (l := l)]
theorem lookup_map {β γ : Type} {a : Str} {f : β → γ} : ∀ {l : List (Str × β)}, (l.map fun p => (p.1, f p.2)).lookup a = (l.lookup a).map f
  | [] => rfl
  | (c, d) :: l => by
    rw [List.map_cons, List.lookup_cons, List.lookup_cons]
    cases a == c with
    | true => rfl
    | false => exact lookup_map
def small (m : Nat) (v : Val) : Prop := ∀ i, v = some i → i.natAbs < 2 ^ m
theorem small.up {m n : Nat} {v : Val} (h : small m v) (hn : m ≤ n) : small n v := fun i hi => Nat.lt_of_lt_of_le (h i hi) (Nat.pow_le_pow_right (by omega) hn)
theorem abs_sum {b : Nat} : ∀ {l : List Int}, (∀ i ∈ l, i.natAbs < b) → l.sum.natAbs ≤ l.length * b
  | [], _ => by simp
  | i :: l, h => by
    have h1 := h i (by simp)
    have h2 := abs_sum (l := l) fun j hj => h j (by simp [hj])
    simp only [List.sum_cons, List.length_cons, Nat.succ_mul]
    omega
theorem mapM_all {α β : Type} {f : α → Option β} : ∀ {l : List α} {vs : List β}, l.mapM f = some vs → vs.length = l.length ∧ ∀ v ∈ vs, ∃ a ∈ l, f a = some v
  | [], vs, h => by
    simp at h; subst h; simp
  | a :: l, vs, h => by
    simp only [List.mapM_cons, Option.pure_def, Option.bind_eq_bind, Option.bind_eq_some_iff, Option.some.injEq] at h
    obtain ⟨v, h1, ws, h2, rfl⟩ := h
    obtain ⟨h3, h4⟩ := mapM_all h2
    refine ⟨by simp [h3], fun x hx => ?_⟩
    rcases List.mem_cons.mp hx with rfl | hx
    · exact ⟨a, by simp, h1⟩
    · obtain ⟨b, hb, h5⟩ := h4 x hx
      exact ⟨b, by simp [hb], h5⟩
theorem mapM_map {α β : Type} {f : α → Option β} {z : β} : ∀ {l : List α} {vs : List β}, l.mapM f = some vs → vs = l.map (fun a => (f a).getD z) ∧ ∀ a ∈ l, ∃ v, f a = some v
  | [], vs, h => by simp at h; subst h; simp
  | a :: l, vs, h => by
    simp only [List.mapM_cons, Option.pure_def, Option.bind_eq_bind, Option.bind_eq_some_iff, Option.some.injEq] at h
    obtain ⟨v, h1, ws, h2, rfl⟩ := h
    obtain ⟨h3, h4⟩ := mapM_map (z := z) h2
    refine ⟨by rw [List.map_cons, h1, ← h3]; rfl, fun b hb => ?_⟩
    rcases List.mem_cons.mp hb with rfl | hb
    · exact ⟨v, h1⟩
    · exact h4 b hb
theorem mapM_of {α β : Type} {f : α → Option β} : ∀ {l : List α}, (∀ a ∈ l, ∃ v, f a = some v) → ∃ vs, l.mapM f = some vs
  | [], _ => ⟨[], by simp⟩
  | a :: l, h => by
    obtain ⟨v, hv⟩ := h a (by simp)
    obtain ⟨vs, hvs⟩ := mapM_of (l := l) fun b hb => h b (by simp [hb])
    exact ⟨v :: vs, by simp [hv, hvs]⟩
theorem sumO_small {m : Nat} {vs : List Val} (h : ∀ v ∈ vs, small m v) (hl : vs.length ≤ 3) : small (m + 2) (sumO vs) := by
  intro i hi
  unfold sumO at hi
  split at hi
  · cases hi
  · cases hi
    have h1 : ∀ i ∈ vs.filterMap id, i.natAbs < 2 ^ m := fun i hi => by
      simp at hi
      exact h _ hi i rfl
    have h2 := abs_sum h1
    have h3 := List.length_filterMap_le id vs
    have h4 : (vs.filterMap id).length * 2 ^ m ≤ 3 * 2 ^ m := Nat.mul_le_mul_right _ (by omega)
    have h5 : 2 ^ (m + 2) = 4 * 2 ^ m := by rw [Nat.pow_add]; omega
    have h6 : 0 < 2 ^ m := Nat.pos_of_ne_zero (by simp)
    omega
theorem firstO_small {m : Nat} {vs : List Val} (h : ∀ v ∈ vs, small m v) : small m (firstO vs) := by
  intro i hi
  unfold firstO at hi
  have := List.mem_of_mem_head? hi
  simp at this
  exact h _ this i rfl
theorem ev_small {P : Str → Prop} {s : Stg} {bad : List Str} {ab : Str → Val} {m : Nat} (hs : ∀ a r, s.lookup a = some r → RuleOk P 5 r) (hab : ∀ a, small m (ab a)) :
    ∀ {n k : Nat} {r : Rule} {v : Val}, RuleOk P k r → ev s bad ab n r = some v → small (m + 7 * n) v
  | 0, _, _, _, _, h => by cases h
  | n + 1, 0, _, _, h, _ => h.elim
  | n + 1, k + 1, .num i, v, h1, h => by
    cases h
    have h2 : -99 ≤ i ∧ i ≤ 99 := h1
    intro j hj
    cases hj
    have : 2 ^ 7 ≤ 2 ^ (m + 7 * (n + 1)) := Nat.pow_le_pow_right (by omega) (by omega)
    have : (2 : Nat) ^ 7 = 128 := rfl
    omega
  | n + 1, k + 1, .up a, v, h1, h => by
    cases h
    exact (hab a).up (by omega)
  | n + 1, k + 1, .here a, v, h1, h => by
    simp only [ev] at h
    split at h
    · cases h
      exact (hab a).up (by omega)
    · rename_i r hr
      split at h
      · cases h
        intro i hi; cases hi
      · exact (ev_small hs hab (hs a r hr) h).up (by omega)
  | n + 1, k + 1, .times i r, v, h1, h => by
    simp only [ev] at h
    obtain ⟨w, hw, rfl⟩ := Option.map_eq_some_iff.mp h
    have h2 := ev_small hs hab h1.2 hw
    have h3 : -99 ≤ i ∧ i ≤ 99 := h1.1
    intro j hj
    obtain ⟨x, rfl, rfl⟩ := Option.map_eq_some_iff.mp hj
    have h4 := h2 x rfl
    have h5 := abs_mul (i := i) (j := x) (a := 99) (b := 2 ^ (m + 7 * n)) (by omega) (by omega)
    have h6 : 2 ^ (m + 7 * (n + 1)) = 128 * 2 ^ (m + 7 * n) := by
      rw [show m + 7 * (n + 1) = (m + 7 * n) + 7 by omega, Nat.pow_add]; omega
    have h7 : 0 < 2 ^ (m + 7 * n) := Nat.pos_of_ne_zero (by simp)
    omega
  | n + 1, k + 1, .sum rs, v, h1, h => by
    simp only [ev] at h
    obtain ⟨ws, hw, rfl⟩ := Option.map_eq_some_iff.mp h
    obtain ⟨h2, h3⟩ := mapM_all hw
    have hl : rs.length ≤ 3 := h1.1.2
    exact (sumO_small (m := m + 7 * n) (fun w hwm => by
      obtain ⟨a, ha, e⟩ := h3 w hwm
      exact ev_small hs hab (h1.2 a ha) e) (by omega)).up (by omega)
  | n + 1, k + 1, .first rs, v, h1, h => by
    simp only [ev] at h
    obtain ⟨ws, hw, rfl⟩ := Option.map_eq_some_iff.mp h
    obtain ⟨h2, h3⟩ := mapM_all hw
    exact (firstO_small (m := m + 7 * n) (fun w hwm => by
      obtain ⟨a, ha, e⟩ := h3 w hwm
      exact ev_small hs hab (h1.2 a ha) e)).up (by omega)
/-! ### each name that is in no ring comes to an end -/
def hd : List Str := [Str.ofString "here"]
/-- the names that are set and to which a name leads -/
def leads (s : Stg) (a : Str) : List Str := match s.lookup a with
  | some r => (r.nm hd).filter fun b => (s.lookup b).isSome
  | none => []
theorem ev_ends {P : Str → Prop} {s : Stg} {bad : List Str} {ab : Str → Val} (hs : ∀ a r, s.lookup a = some r → RuleOk P 5 r) (hbad : ∀ a, RM.Rch (leads s) a a → a ∈ bad) :
    ∀ {n k : Nat} {r : Rule} {vs : List Str}, RuleOk P k r → (∀ b ∈ r.nm hd, (s.lookup b).isSome = true → ∀ v ∈ vs, RM.Rch (leads s) v b) → vs.Nodup → (∀ v ∈ vs, v ∈ s.map (·.1) ∧ ¬ v ∈ bad) →
      k + 6 * (s.length - vs.length) < n → ∃ v, ev s bad ab n r = some v
  | 0, k, r, vs, _, _, _, _, hn => by omega
  | n + 1, 0, r, vs, h, _, _, _, hn => h.elim
  | n + 1, k + 1, .num i, vs, h1, h2, h3, h4, hn => ⟨_, rfl⟩
  | n + 1, k + 1, .up a, vs, h1, h2, h3, h4, hn => ⟨_, rfl⟩
  | n + 1, k + 1, .here a, vs, h1, h2, h3, h4, hn => by
    simp only [ev]
    cases hr : s.lookup a with
    | none => exact ⟨_, rfl⟩
    | some r =>
      dsimp only
      by_cases hb : a ∈ bad
      · rw [if_pos hb]
        exact ⟨_, rfl⟩
      · rw [if_neg hb]
        have ha : ∀ v ∈ vs, RM.Rch (leads s) v a := h2 a (by simp [Rule.nm, hd]) (by rw [hr]; rfl)
        have hav : a ∉ vs := fun z => hb (hbad a (ha a z))
        have hak : a ∈ s.map (·.1) := List.mem_map.mpr ⟨(a, r), lookup_mem hr, rfl⟩
        have hnd : (a :: vs).Nodup := List.nodup_cons.mpr ⟨hav, h3⟩
        have hle := hnd.length_le_of_subset (l₂ := s.map (·.1)) fun x hx => by
          rcases List.mem_cons.mp hx with rfl | hx
          · exact hak
          · exact (h4 x hx).1
        simp at hle
        refine ev_ends hs hbad (vs := a :: vs) (hs a r hr) (fun b hb2 hb3 v hv => ?_) hnd (fun v hv => ?_) (by simp; omega)
        · have step : b ∈ leads s a := by
            unfold leads
            rw [hr]
            simp [hb2, hb3]
          rcases List.mem_cons.mp hv with rfl | hv
          · exact .single step
          · exact .tail (ha v hv) step
        · rcases List.mem_cons.mp hv with rfl | hv
          · exact ⟨hak, hb⟩
          · exact h4 v hv
  | n + 1, k + 1, .times i r, vs, h1, h2, h3, h4, hn => by
    simp only [ev]
    obtain ⟨v, hv⟩ := ev_ends (ab := ab) hs hbad (n := n) (k := k) (r := r) (vs := vs) h1.2 (fun b hb => h2 b (by simpa [Rule.nm] using hb)) h3 h4 (by omega)
    rw [hv]
    exact ⟨_, rfl⟩
  | n + 1, k + 1, .sum rs, vs, h1, h2, h3, h4, hn => by
    simp only [ev]
    obtain ⟨ws, hw⟩ := mapM_of (f := ev s bad ab n) (l := rs) fun r hr => ev_ends (ab := ab) hs hbad (n := n) (k := k) (vs := vs) (h1.2 r hr) (fun b hb => h2 b (by simp [Rule.nm, nms_flat]; exact ⟨r, hr, hb⟩)) h3 h4 (by omega)
    rw [hw]
    exact ⟨_, rfl⟩
  | n + 1, k + 1, .first rs, vs, h1, h2, h3, h4, hn => by
    simp only [ev]
    obtain ⟨ws, hw⟩ := mapM_of (f := ev s bad ab n) (l := rs) fun r hr => ev_ends (ab := ab) hs hbad (n := n) (k := k) (vs := vs) (h1.2 r hr) (fun b hb => h2 b (by simp [Rule.nm, nms_flat]; exact ⟨r, hr, hb⟩)) h3 h4 (by omega)
    rw [hw]
    exact ⟨_, rfl⟩
end RL
end
section
set_option Elab.async false
set_option linter.all false
set_option autoImplicit false
set_option maxRecDepth 100000
set_option maxHeartbeats 4000000
/-! T4: value_by -/
namespace RL
open PySem PySem.Spec L2
open PyProof.Rows hiding St
def e_value_by : DefE := ⟨"value_by", [("rule" : Str), ("rules" : Str), ("bad" : Str), ("above" : Str)], [("rule" : Str), ("rules" : Str), ("bad" : Str), ("above" : Str), ("word" : Str), ("parts" : Str), ("part" : Str)], [false, false, false, false], seqM (setM 4 (bin (.lz 0) (.eg (cM (.int 0))) opIx3)) (seqM (ifS (tstM (bin (.lz 4) (.eg (cM (.str "num"))) opEq)) (seqM (retM (bin (.lz 0) (.eg (cM (.int 1))) opIx3)) (nilM)) (nilM)) (seqM (ifS (orM (tstM (bin (.lz 4) (.eg (cM (.str "up"))) opEq)) (andM (tstM (bin (.lz 4) (.eg (cM (.str "here"))) opEq)) (tstM (bin (.eg (bin (.lz 0) (.eg (cM (.int 1))) opIx3)) (.lz 1) opNotIn2)))) (seqM (retM (mtM (.lz 3) isDctD [bin (.lz 0) (.eg (cM (.int 1))) opIx3, cM (.none)] opGet)) (nilM)) (nilM)) (seqM (ifS (tstM (bin (.lz 4) (.eg (cM (.str "here"))) opEq)) (seqM (retM (ifM (tstM (bin (.eg (bin (.lz 0) (.eg (cM (.int 1))) opIx3)) (.lz 2) opIn2)) (cM (.none)) (callM "value_by" [.v (bin (.lz 1) (.eg (bin (.lz 0) (.eg (cM (.int 1))) opIx3)) opIx3), .v (vrM 1), .v (vrM 2), .v (vrM 3)]))) (nilM)) (nilM)) (seqM (ifS (tstM (bin (.lz 4) (.eg (cM (.str "times"))) opEq)) (seqM (setM 6 (callM "value_by" [.v (bin (.lz 0) (.eg (cM (.int 2))) opIx3), .v (vrM 1), .v (vrM 2), .v (vrM 3)])) (seqM (retM (ifM (tstM (bin (.lz 6) (.eg (cM (.none))) opIs)) (cM (.none)) (bin (.eg (bin (.lz 0) (.eg (cM (.int 1))) opIx3)) (.lz 6) opMul))) (nilM))) (nilM)) (seqM (setM 5 (compM (itM (slM (.lz 0) (some (cM (.int 1))) none)) (tgName 6) (trueM) (callM "value_by" [.v (vrM 6), .v (vrM 1), .v (vrM 2), .v (vrM 3)]) [6])) (seqM (ifS (tstM (bin (.lz 4) (.eg (cM (.str "sum"))) opEq)) (seqM (retM (ifM (tstM (bin (.eg (cM (.none))) (.lz 5) opIn2)) (cM (.none)) (opM [.lz 5] (op1L opSum)))) (nilM)) (nilM)) (seqM (setM 5 (compM (itM (vrM 5)) (tgName 6) (tstM (bin (.lz 6) (.eg (cM (.none))) opIsNot)) (vrM 6) [6])) (seqM (retM (ifM (tstM (bin (.lz 5) (.eg (opV [] opLst)) opNe)) (bin (.lz 5) (.eg (cM (.int 0))) opIx3) (cM (.none)))) (nilM)))))))))⟩
def e__law_value : DefE := ⟨"_law_value", [("rule" : Str), ("rules" : Str), ("bad" : Str), ("above" : Str)], [("rule" : Str), ("rules" : Str), ("bad" : Str), ("above" : Str), ("word" : Str), ("parts" : Str), ("some" : Str), ("part" : Str)], [false, false, false, false], seqM (setM 4 (bin (.lz 0) (.eg (cM (.int 0))) opIx3)) (seqM (ifS (tstM (bin (.lz 4) (.eg (cM (.str "num"))) opEq)) (seqM (retM (bin (.lz 0) (.eg (cM (.int 1))) opIx3)) (nilM)) (nilM)) (seqM (ifS (orM (tstM (bin (.lz 4) (.eg (cM (.str "up"))) opEq)) (andM (tstM (bin (.lz 4) (.eg (cM (.str "here"))) opEq)) (tstM (bin (.eg (bin (.lz 0) (.eg (cM (.int 1))) opIx3)) (.lz 1) opNotIn2)))) (seqM (retM (mtM (.lz 3) isDctD [bin (.lz 0) (.eg (cM (.int 1))) opIx3, cM (.none)] opGet)) (nilM)) (nilM)) (seqM (ifS (andM (tstM (bin (.lz 4) (.eg (cM (.str "here"))) opEq)) (tstM (bin (.eg (bin (.lz 0) (.eg (cM (.int 1))) opIx3)) (.lz 2) opIn2))) (seqM (retM (cM (.none))) (nilM)) (nilM)) (seqM (ifS (tstM (bin (.lz 4) (.eg (cM (.str "here"))) opEq)) (seqM (retM (callM "_law_value" [.v (bin (.lz 1) (.eg (bin (.lz 0) (.eg (cM (.int 1))) opIx3)) opIx3), .v (vrM 1), .v (vrM 2), .v (vrM 3)])) (nilM)) (nilM)) (seqM (ifS (tstM (bin (.lz 4) (.eg (cM (.str "times"))) opEq)) (seqM (setM 7 (callM "_law_value" [.v (bin (.lz 0) (.eg (cM (.int 2))) opIx3), .v (vrM 1), .v (vrM 2), .v (vrM 3)])) (seqM (retM (ifM (tstM (bin (.lz 7) (.eg (cM (.none))) opIs)) (cM (.none)) (bin (.eg (bin (.lz 0) (.eg (cM (.int 1))) opIx3)) (.lz 7) opMul))) (nilM))) (nilM)) (seqM (setM 5 (compM (itM (slM (.lz 0) (some (cM (.int 1))) none)) (tgName 7) (trueM) (callM "_law_value" [.v (vrM 7), .v (vrM 1), .v (vrM 2), .v (vrM 3)]) [7])) (seqM (ifS (tstM (bin (.lz 4) (.eg (cM (.str "sum"))) opEq)) (seqM (retM (ifM (tstM (bin (.eg (cM (.none))) (.lz 5) opIn2)) (cM (.none)) (opM [.lz 5] (op1L opSum)))) (nilM)) (nilM)) (seqM (setM 6 (compM (itM (vrM 5)) (tgName 7) (tstM (bin (.lz 7) (.eg (cM (.none))) opIsNot)) (vrM 7) [7])) (seqM (retM (ifM (tstM (bin (.lz 6) (.eg (opV [] opLst)) opNe)) (bin (.lz 6) (.eg (cM (.int 0))) opIx3) (cM (.none)))) (nilM))))))))))⟩
/-- the rules of a kind, as the program holds them; values above -/
abbrev rulesD (s : Stg) : D := dct (s.map fun p => (p.1, p.2.enc))
abbrev aboveD (ab : List (Str × Val)) : D := dct (ab.map fun p => (p.1, encV p.2))
def look (ab : List (Str × Val)) (a : Str) : Val := (ab.lookup a).join
@[simp] theorem allO_l {okT : D → Bool} {e : En} {i : Nat} : allO okT e [.inl i] = ((getI e i).map okT).getD false := by
  unfold allO
  simp only [getOs, getO_l]
  cases getI e i <;> simp
theorem opIn_strsL {w : Str} {ws : List Str} (h : PyData.strOk w = true) (hs : ∀ a ∈ ws, PyData.strOk a = true) : opIn2 (.str w) (.list (ws.map .str)) = some (.v (.bool (decide (w ∈ ws)))) := by
  have e : PyData.canLayAll0 (ws.map .str) = true := canAll fun d hd => by
    obtain ⟨a, ha, rfl⟩ := List.mem_map.mp hd
    simp [PyData.canLay0, hs a ha]
  unfold opIn2 opIn
  simp [PyData.canLay0, PyData.depth, h, e]
  rw [Bool.eq_iff_iff]
  simp
theorem encV_none {v : Val} : isNn (encV v) = v.isNone := by cases v <;> rfl
theorem get_above {ab : List (Str × Val)} {a : Str} : ((ab.map fun p => (p.1, encV p.2)).lookup a).getD .none = encV (look ab a) := by
  rw [lookup_map]
  unfold look
  cases ab.lookup a with
  | none => rfl
  | some v => cases v <;> rfl
theorem keys_rules {s : Stg} : (s.map fun p => (p.1, p.2.enc)).map (·.1) = s.map (·.1) := by simp
theorem opIn_none {vs : List Val} (h : vs.length ≤ 1000) : opIn2 .none (.list (vs.map encV)) = some (.v (.bool (decide (none ∈ vs)))) := by
  have hc : PyData.canLayAll0 (vs.map encV) = true := canAll fun d hd => by
    obtain ⟨v, _, rfl⟩ := List.mem_map.mp hd
    cases v <;> simp [encV, PyData.canLay0]
  unfold opIn2 opIn
  simp [PyData.canLay0, PyData.depth, hc]
  rw [Bool.eq_iff_iff]
  simp
  constructor
  · rintro ⟨v, hv, e⟩
    cases v with
    | none => exact hv
    | some i => simp [encV, PyData.eqv] at e
  · intro h
    exact ⟨none, h, by simp [encV, PyData.eqv]⟩
theorem intsOf_vals : ∀ {vs : List Val}, none ∉ vs → intsOf (vs.map encV) = some (vs.filterMap id)
  | [], _ => rfl
  | none :: vs, h => absurd (by simp) h
  | some i :: vs, h => by
    have ih := intsOf_vals (vs := vs) fun z => h (by simp [z])
    show (intsOf (vs.map encV)).map _ = _
    rw [ih]
    simp
theorem opSum_vals {vs : List Val} (h : none ∉ vs) : opSum (.list (vs.map encV)) = some (.v (encV (sumO vs))) := by
  show (intsOf (vs.map encV)).map _ = _
  rw [intsOf_vals h]
  simp [sumO, h, encV]
theorem firstO_filter {vs : List Val} : firstO (vs.filter fun v => v.isSome) = firstO vs := by
  unfold firstO
  congr 1
  induction vs with
  | nil => rfl
  | cons v vs ih => cases v <;> simp [ih]
section
variable {dt : List DefE} {wh : Nat} {P : Str → Prop} {s : Stg} {bad : List Str} {ab : List (Str × Val)} {m : Nat}
theorem sp_value_by (hP : ∀ a, P a → isNmS a = true) (hf : Has dt e_value_by) (hs : ∀ a r, s.lookup a = some r → RuleOk P 5 r) (hab : ∀ a, small m (look ab a)) (hbd : ∀ a ∈ bad, PyData.strOk a = true) (hm : m ≤ 1000000) :
    ∀ {n k lv : Nat} {r : Rule} {v : Val}, RuleOk P k r → ev s bad (look ab) n r = some v → n ≤ lv → n ≤ 1000 →
      LC (gN dt wh lv) "value_by" [.v r.enc, .v (rulesD s), .v (.list (bad.map .str)), .v (aboveD ab)] fun r bs => r = .v (encV v) ∧ bs = []
  | 0, _, _, _, _, _, h, _, _ => by cases h
  | n + 1, 0, _, _, _, h, _, _, _ => h.elim
  | n + 1, k + 1, lv, r, v, h1, h, hl, hn => by
    obtain ⟨lv, rfl⟩ : ∃ l, lv = l + 1 := ⟨lv - 1, by omega⟩
    refine LC.df hf rfl ?_
    cases r with
    | num i =>
      cases h
      simp [e_value_by, Rule.enc, opEq_str, encV]
    | up a =>
      cases h
      simp [e_value_by, Rule.enc, opEq_str, get_above]
    | here a =>
      have hak : PyData.strOk a = true := (isNmS_ok (hP a h1)).1
      have hin : opIn2 (.str a) (.list (bad.map .str)) = some (.v (.bool (decide (a ∈ bad)))) := opIn_strsL hak hbd
      simp only [ev] at h
      cases hr : s.lookup a with
      | none =>
        rw [hr] at h
        cases h
        have hni : ¬ a ∈ s.map (·.1) := fun z => by
          have := lookup_isSome.mpr z
          rw [hr] at this
          cases this
        have hni2 : ¬ a ∈ (s.map fun p => (p.1, p.2.enc)).map (·.1) := by rw [keys_rules]; exact hni
        simp [e_value_by, Rule.enc, opEq_str, get_above, hni2, -List.map_map]
      | some r =>
        rw [hr] at h
        dsimp only at h
        have hi : a ∈ s.map (·.1) := lookup_isSome.mp (by rw [hr]; rfl)
        have hi2 : a ∈ (s.map fun p => (p.1, p.2.enc)).map (·.1) := by rw [keys_rules]; exact hi
        by_cases hb : a ∈ bad
        · rw [if_pos hb] at h
          cases h
          simp [e_value_by, Rule.enc, opEq_str, hi2, hin, hb, encV, -List.map_map]
        · rw [if_neg hb] at h
          simp [e_value_by, Rule.enc, opEq_str, hi2, hin, hb, lookup_map, hr, -List.map_map]
          refine (sp_value_by hP hf hs hab hbd hm (hs a r hr) h (by omega) (by omega)).mono fun r bs ⟨h3, h4⟩ => ?_
          subst h3 h4
          simp
    | times i r =>
      simp only [ev] at h
      obtain ⟨w, hw, rfl⟩ := Option.map_eq_some_iff.mp h
      simp [e_value_by, Rule.enc, opEq_str]
      refine (sp_value_by hP hf hs hab hbd hm h1.2 hw (by omega) (by omega)).mono fun r bs ⟨h3, h4⟩ => ?_
      subst h3 h4
      cases w with
      | none => simp [encV, opIs, opIsN, isNn]
      | some x =>
        have hsm := ev_small hs hab h1.2 hw x rfl
        have hi99 : -99 ≤ i ∧ i ≤ 99 := h1.1
        have hmul : opMul (.int i) (.int x) = some (.v (.int (i * x))) := opMul_ok (mulOk_of (m := 7) (by have : (2 : Nat) ^ 7 = 128 := rfl; omega) hsm (by omega))
        simp [encV, opIs, opIsN, isNn, hmul]
    | sum rs =>
      simp only [ev] at h
      obtain ⟨ws, hw, rfl⟩ := Option.map_eq_some_iff.mp h
      obtain ⟨hws, hall⟩ := mapM_map (z := none) hw
      have hl3 : rs.length ≤ 3 := h1.1.2
      have hrl : rs.length < sizeLine := len_ok' (by omega)
      simp [e_value_by, Rule.enc, opEq_str, encs_map]
      refine l_compTy Rule.enc (fun r => encV ((ev s bad (look ab) n r).getD none)) ?_
      simp [opSl_tail, itemsOf, seqOf, calmSl]
      refine ⟨rs, rfl, hrl, fun x hx => ?_, ?_⟩
      · obtain ⟨v, hv⟩ := hall x hx
        refine (sp_value_by hP hf hs hab hbd hm (h1.2 x hx) hv (by omega) (by omega)).mono fun r bs ⟨h3, h4⟩ => ?_
        subst h3 h4
        simp [hv]
      · have e1 : rs.map (fun r => encV ((ev s bad (look ab) n r).getD none)) = ws.map encV := by rw [hws]; simp
        rw [e1]
        have hwl : ws.length ≤ 1000 := by rw [hws]; simp; omega
        by_cases hn0 : none ∈ ws
        · simp [opEq_str, opIn_none hwl, hn0, sumO, encV]
        · simp [opEq_str, opIn_none hwl, hn0, opSum_vals hn0]
    | first rs =>
      simp only [ev] at h
      obtain ⟨ws, hw, rfl⟩ := Option.map_eq_some_iff.mp h
      obtain ⟨hws, hall⟩ := mapM_map (z := none) hw
      have hl3 : rs.length ≤ 3 := h1.1
      have hrl : rs.length < sizeLine := len_ok' (by omega)
      simp [e_value_by, Rule.enc, opEq_str, encs_map]
      refine l_compTy Rule.enc (fun r => encV ((ev s bad (look ab) n r).getD none)) ?_
      simp [opSl_tail, itemsOf, seqOf, calmSl]
      refine ⟨rs, rfl, hrl, fun x hx => ?_, ?_⟩
      · obtain ⟨v, hv⟩ := hall x hx
        refine (sp_value_by hP hf hs hab hbd hm (h1.2 x hx) hv (by omega) (by omega)).mono fun r bs ⟨h3, h4⟩ => ?_
        subst h3 h4
        simp [hv]
      · have e1 : rs.map (fun r => encV ((ev s bad (look ab) n r).getD none)) = ws.map encV := by rw [hws]; simp
        rw [e1]
        have hwl : ws.length ≤ 1000 := by rw [hws]; simp; omega
        simp [opEq_str]
        refine l_compPy encV (fun v => v.isSome) encV ?_
        simp [itemsOf, seqOf, calmSl]
        refine ⟨ws, rfl, len_ok' (by omega), fun x hx => ?_, ?_⟩
        · cases x <;> simp [encV, opIsNot, opNotN, isNn]
        · have hsh : SeqAt.shaped (.list ((ws.filter fun v => v.isSome).map encV)) = true := by
            have : Gd 1000 1 (.list ((ws.filter fun v => v.isSome).map encV)) := ⟨by
              rw [List.length_map]
              exact Nat.le_trans (List.length_filter_le _ _) hwl, fun d hd => by
              obtain ⟨v, _, rfl⟩ := List.mem_map.mp hd
              cases v <;> trivial⟩
            exact this.shp (by omega)
          rw [opNe_nilL hsh]
          cases hf : ws.filter fun v => v.isSome with
          | nil =>
            have hfn : firstO ws = none := by
              rw [← firstO_filter, hf]; rfl
            simp [hfn, encV]
          | cons x xs =>
            have hfx : firstO ws = x := by
              have hx : x.isSome = true := by
                have : x ∈ ws.filter fun v => v.isSome := by rw [hf]; simp
                exact (List.mem_filter.mp this).2
              rw [← firstO_filter, hf]
              cases x with
              | none => cases hx
              | some i => rfl
            simp [hfx]
end
end RL
end
section
set_option Elab.async false
set_option linter.all false
set_option autoImplicit false
set_option maxRecDepth 100000
set_option maxHeartbeats 4000000
/-! T5: the law's values of rules -/
namespace RL
open PySem PySem.Spec L2
open PyProof.Rows hiding St
section
variable {dt : List DefE} {wh : Nat} {P : Str → Prop} {s : Stg} {bad : List Str} {ab : List (Str × Val)} {m : Nat}
theorem sp_l_value (hP : ∀ a, P a → isNmS a = true) (hf : Has dt e__law_value) (hs : ∀ a r, s.lookup a = some r → RuleOk P 5 r) (hab : ∀ a, small m (look ab a)) (hbd : ∀ a ∈ bad, PyData.strOk a = true) (hm : m ≤ 1000000) :
    ∀ {n k lv : Nat} {r : Rule} {v : Val}, RuleOk P k r → ev s bad (look ab) n r = some v → n ≤ lv → n ≤ 1000 →
      LC (gN dt wh lv) "_law_value" [.v r.enc, .v (rulesD s), .v (.list (bad.map .str)), .v (aboveD ab)] fun r bs => r = .v (encV v) ∧ bs = []
  | 0, _, _, _, _, _, h, _, _ => by cases h
  | n + 1, 0, _, _, _, h, _, _, _ => h.elim
  | n + 1, k + 1, lv, r, v, h1, h, hl, hn => by
    obtain ⟨lv, rfl⟩ : ∃ l, lv = l + 1 := ⟨lv - 1, by omega⟩
    refine LC.df hf rfl ?_
    cases r with
    | num i =>
      cases h
      simp [e__law_value, Rule.enc, opEq_str, encV]
    | up a =>
      cases h
      simp [e__law_value, Rule.enc, opEq_str, get_above]
    | here a =>
      have hak : PyData.strOk a = true := (isNmS_ok (hP a h1)).1
      have hin : opIn2 (.str a) (.list (bad.map .str)) = some (.v (.bool (decide (a ∈ bad)))) := opIn_strsL hak hbd
      simp only [ev] at h
      cases hr : s.lookup a with
      | none =>
        rw [hr] at h
        cases h
        have hni : ¬ a ∈ s.map (·.1) := fun z => by
          have := lookup_isSome.mpr z
          rw [hr] at this
          cases this
        have hni2 : ¬ a ∈ (s.map fun p => (p.1, p.2.enc)).map (·.1) := by rw [keys_rules]; exact hni
        simp [e__law_value, Rule.enc, opEq_str, get_above, hni2, -List.map_map]
      | some r =>
        rw [hr] at h
        dsimp only at h
        have hi : a ∈ s.map (·.1) := lookup_isSome.mp (by rw [hr]; rfl)
        have hi2 : a ∈ (s.map fun p => (p.1, p.2.enc)).map (·.1) := by rw [keys_rules]; exact hi
        by_cases hb : a ∈ bad
        · rw [if_pos hb] at h
          cases h
          simp [e__law_value, Rule.enc, opEq_str, hi2, hin, hb, encV, -List.map_map]
        · rw [if_neg hb] at h
          simp [e__law_value, Rule.enc, opEq_str, hi2, hin, hb, lookup_map, hr, -List.map_map]
          refine (sp_l_value hP hf hs hab hbd hm (hs a r hr) h (by omega) (by omega)).mono fun r bs ⟨h3, h4⟩ => ?_
          subst h3 h4
          simp
    | times i r =>
      simp only [ev] at h
      obtain ⟨w, hw, rfl⟩ := Option.map_eq_some_iff.mp h
      simp [e__law_value, Rule.enc, opEq_str]
      refine (sp_l_value hP hf hs hab hbd hm h1.2 hw (by omega) (by omega)).mono fun r bs ⟨h3, h4⟩ => ?_
      subst h3 h4
      cases w with
      | none => simp [encV, opIs, opIsN, isNn]
      | some x =>
        have hsm := ev_small hs hab h1.2 hw x rfl
        have hi99 : -99 ≤ i ∧ i ≤ 99 := h1.1
        have hmul : opMul (.int i) (.int x) = some (.v (.int (i * x))) := opMul_ok (mulOk_of (m := 7) (by have : (2 : Nat) ^ 7 = 128 := rfl; omega) hsm (by omega))
        simp [encV, opIs, opIsN, isNn, hmul]
    | sum rs =>
      simp only [ev] at h
      obtain ⟨ws, hw, rfl⟩ := Option.map_eq_some_iff.mp h
      obtain ⟨hws, hall⟩ := mapM_map (z := none) hw
      have hl3 : rs.length ≤ 3 := h1.1.2
      have hrl : rs.length < sizeLine := len_ok' (by omega)
      simp [e__law_value, Rule.enc, opEq_str, encs_map]
      refine l_compTy Rule.enc (fun r => encV ((ev s bad (look ab) n r).getD none)) ?_
      simp [opSl_tail, itemsOf, seqOf, calmSl]
      refine ⟨rs, rfl, hrl, fun x hx => ?_, ?_⟩
      · obtain ⟨v, hv⟩ := hall x hx
        refine (sp_l_value hP hf hs hab hbd hm (h1.2 x hx) hv (by omega) (by omega)).mono fun r bs ⟨h3, h4⟩ => ?_
        subst h3 h4
        simp [hv]
      · have e1 : rs.map (fun r => encV ((ev s bad (look ab) n r).getD none)) = ws.map encV := by rw [hws]; simp
        rw [e1]
        have hwl : ws.length ≤ 1000 := by rw [hws]; simp; omega
        by_cases hn0 : none ∈ ws
        · simp [opEq_str, opIn_none hwl, hn0, sumO, encV]
        · simp [opEq_str, opIn_none hwl, hn0, opSum_vals hn0]
    | first rs =>
      simp only [ev] at h
      obtain ⟨ws, hw, rfl⟩ := Option.map_eq_some_iff.mp h
      obtain ⟨hws, hall⟩ := mapM_map (z := none) hw
      have hl3 : rs.length ≤ 3 := h1.1
      have hrl : rs.length < sizeLine := len_ok' (by omega)
      simp [e__law_value, Rule.enc, opEq_str, encs_map]
      refine l_compTy Rule.enc (fun r => encV ((ev s bad (look ab) n r).getD none)) ?_
      simp [opSl_tail, itemsOf, seqOf, calmSl]
      refine ⟨rs, rfl, hrl, fun x hx => ?_, ?_⟩
      · obtain ⟨v, hv⟩ := hall x hx
        refine (sp_l_value hP hf hs hab hbd hm (h1.2 x hx) hv (by omega) (by omega)).mono fun r bs ⟨h3, h4⟩ => ?_
        subst h3 h4
        simp [hv]
      · have e1 : rs.map (fun r => encV ((ev s bad (look ab) n r).getD none)) = ws.map encV := by rw [hws]; simp
        rw [e1]
        have hwl : ws.length ≤ 1000 := by rw [hws]; simp; omega
        simp [opEq_str]
        refine l_compPy encV (fun v => v.isSome) encV ?_
        simp [itemsOf, seqOf, calmSl]
        refine ⟨ws, rfl, len_ok' (by omega), fun x hx => ?_, ?_⟩
        · cases x <;> simp [encV, opIsNot, opNotN, isNn]
        · have hsh : SeqAt.shaped (.list ((ws.filter fun v => v.isSome).map encV)) = true := by
            have : Gd 1000 1 (.list ((ws.filter fun v => v.isSome).map encV)) := ⟨by
              rw [List.length_map]
              exact Nat.le_trans (List.length_filter_le _ _) hwl, fun d hd => by
              obtain ⟨v, _, rfl⟩ := List.mem_map.mp hd
              cases v <;> trivial⟩
            exact this.shp (by omega)
          rw [opNe_nilL hsh]
          cases hf : ws.filter fun v => v.isSome with
          | nil =>
            have hfn : firstO ws = none := by
              rw [← firstO_filter, hf]; rfl
            simp [hfn, encV]
          | cons x xs =>
            have hfx : firstO ws = x := by
              have hx : x.isSome = true := by
                have : x ∈ ws.filter fun v => v.isSome := by rw [hf]; simp
                exact (List.mem_filter.mp this).2
              rw [← firstO_filter, hf]
              cases x with
              | none => cases hx
              | some i => rfl
            simp [hfx]
end
end RL
end
section
set_option Elab.async false
set_option linter.all false
set_option autoImplicit false
set_option maxRecDepth 100000
set_option maxHeartbeats 4000000
/-! S21: the law's names; sheets, trees, ways by the law -/
namespace RL
open PySem PySem.Spec L2
open PyProof.Rows hiding St
theorem opSl_tail2 {x y : D} {ds : List D} : opSl (.tuple (x :: y :: ds)) (some 2) none = some (.v (.tuple ds)) := opSl_dr (ds := x :: y :: ds) (j := 2)
section
variable {dt : List DefE} {wh : Nat}
theorem bnd_le5 {n : Nat} (h : n ≤ 5) : bnd n ≤ 121 := by
  match n, h with
  | 0, _ => decide
  | 1, _ => decide
  | 2, _ => decide
  | 3, _ => decide
  | 4, _ => decide
  | 5, _ => decide
theorem beh_loop {ws : List Str} {n lv : Nat} {d : D} {ps : List D} {IT : IM} {Q : Fl_ → En → Prop}
    (hli : ∀ X : List D → En → Prop, X ps [some (.val d), some (.val (.tuple (ws.map .str))), some (.own (.list [])), none] → LI IT (gN dt wh lv) [some (.val d), some (.val (.tuple (ws.map .str))), some (.own (.list [])), none] X)
    (ih : ∀ x ∈ ps, LC (gN dt wh lv) "_law_behind" [.v x, .v (.tuple (ws.map .str))] fun r bs => r = .o (.list ((behind ws n x).map .str)) ∧ bs = []) (hpl : ps.length ≤ 3) (hbl : ∀ x ∈ ps, (behind ws n x).length ≤ 121)
    (hq : ∀ s3, Q .nx [some (.val d), some (.val (.tuple (ws.map .str))), some (.own (.list ((ps.flatMap (behind ws n)).map .str))), s3]) :
    LS (forM IT (tgName 3) (seqM (setM 2 (bin (.lz 2) (.eg (callM "_law_behind" [.v (vrM 3), .v (vrM 1)])) opAdd)) nilM)) (gN dt wh lv) [some (.val d), some (.val (.tuple (ws.map .str))), some (.own (.list [])), none] Q := by
  with_reducible refine l_forI (hli _ ?_)
  refine ⟨fun i e => Keep (∃ s3, isBor (some s3) = false ∧ e = [some (.val d), some (.val (.tuple (ws.map .str))), some (.own (.list (((ps.take i).flatMap (behind ws n)).map .str))), s3]), kp ⟨none, rfl, rfl⟩, ?_, ?_⟩
  · rintro i x e hx ⟨s3, b3, rfl⟩
    have hxm := List.mem_of_getElem? hx
    have hfl : ((ps.take i).flatMap (behind ws n)).length ≤ 363 := by
      have h1 := flat_len (ds := ps.take i) (f := behind ws n) (b := 121) fun y hy => hbl y (List.mem_of_mem_take hy)
      have h2 : (ps.take i).length * 121 ≤ 3 * 121 := Nat.mul_le_mul_right _ (by simp; omega)
      omega
    have hb := hbl x hxm
    simp [b3]
    refine (ih x hxm).mono fun r bs ⟨h3, h4⟩ => ?_
    subst h3 h4
    simp
    rw [opAdd_lst (by simp only [List.length_map]; omega)]
    simp
    refine kp ⟨some (.val x), rfl, ?_⟩
    rw [List.take_add_one, hx]
    simp
  · rintro e ⟨s3, b3, rfl⟩
    rw [List.take_length]
    exact hq s3
theorem sp_l_behind (hf : Has dt e__law_behind) {ws : List Str} (hws : ∀ w ∈ ws, w = Str.ofString "here" ∨ w = Str.ofString "up") : ∀ {n lv : Nat} {d : D}, isW n d = true → n ≤ 6 → n + 1 ≤ lv →
    LC (gN dt wh lv) "_law_behind" [.v d, .v (.tuple (ws.map .str))] fun r bs => r = .o (.list ((behind ws n d).map .str)) ∧ bs = []
  | 0, lv, d, h, _, _ => by simp [isW] at h
  | n + 1, lv, d, h, hn, hl => by
    obtain ⟨lv, rfl⟩ : ∃ l, lv = l + 2 := ⟨lv - 2, by omega⟩
    refine LC.df hf rfl ?_
    have hr := isW_is h
    have hwo : ∀ a ∈ ws, PyData.strOk a = true := fun a ha => by rcases hws a ha with rfl | rfl <;> simp
    have hin : ∀ {w : Str}, PyData.strOk w = true → opIn2 (.str w) (.tuple (ws.map .str)) = some (.v (.bool (decide (w ∈ ws)))) := fun h => opIn_strs h hwo
    cases hr with
    | num i =>
      have : ¬ Str.ofString "num" ∈ ws := fun z => by simpa using hws _ z
      simp [e__law_behind, opIn_trip, hin, this, behind, wordIn, partsD]
    | nm w a hw ha =>
      have hwk : PyData.strOk w = true := by rcases hw with rfl | rfl <;> simp
      by_cases hi : w ∈ ws
      · rcases hw with rfl | rfl <;> simp [e__law_behind, opIn_trip, hin, hi, behind, wordIn, partsD]
      · rcases hw with rfl | rfl <;> simp [e__law_behind, opIn_trip, hin, hi, behind, wordIn, partsD]
    | tm i y hy =>
      have hbe : behind ws (n + 1) (.tuple [.str (Str.ofString "times"), .int i, y]) = [y].flatMap (behind ws n) := by simp [behind, wordIn, partsD]
      simp [e__law_behind, opIn_trip]
      refine beh_loop (ps := [y]) (n := n) (fun X hX => by simpa [opEq_str, opSl_tail2, itemsOf, seqOf] using hX) (fun x hx => ?_) (by simp) (fun x hx => ?_) fun s3 => ?_
      · simp at hx; subst hx
        exact sp_l_behind hf hws hy (by omega) (by omega)
      · simp at hx; subst hx
        have := behind_len (ws := ws) hy
        have := bnd_le5 (n := n) (by omega)
        omega
      · simp [hbe]
    | sm w r hw hl3 hr =>
      have hwn : ¬ w ∈ ws := fun z => by rcases hw with rfl | rfl <;> simpa using hws _ z
      have hbe : behind ws (n + 1) (.tuple (.str w :: r)) = r.flatMap (behind ws n) := by
        have : partsD (.tuple (.str w :: r)) = r := by rcases hw with rfl | rfl <;> simp [partsD]
        simp only [behind, wordIn_no hwn, this, List.nil_append]
      have e0 : opIn2 (.str w) (.tuple [.str (Str.ofString "num"), .str (Str.ofString "here"), .str (Str.ofString "up")]) = some (.v (.bool false)) := by
        rcases hw with rfl | rfl <;> simp [opIn_trip]
      have e1 : opEq (.str w) (.str (Str.ofString "times")) = some (.v (.bool false)) := by
        rcases hw with rfl | rfl <;> simp [opEq_str]
      simp [e__law_behind, e0]
      refine beh_loop (ps := r) (n := n) (fun X hX => by simpa [e1, opSl_tail, itemsOf, seqOf] using hX) (fun x hx => ?_) hl3 (fun x hx => ?_) fun s3 => ?_
      · exact sp_l_behind hf hws (hr x hx) (by omega) (by omega)
      · have := behind_len (ws := ws) (hr x hx)
        have := bnd_le5 (n := n) (by omega)
        omega
      · simp [hbe]
end
end RL
end
section
set_option Elab.async false
set_option linter.all false
set_option autoImplicit false
set_option maxRecDepth 100000
set_option maxHeartbeats 4000000
/-! T6: leads -/
namespace RL
open PySem PySem.Spec L2
open PyProof.Rows hiding St
def e_leads_of : DefE := ⟨"leads_of", [("settings" : Str)], [("settings" : Str), ("rules" : Str), ("found" : Str), ("name" : Str), ("rule" : Str), ("other" : Str)], [false], seqM (setM 1 (opM [.lz 0] (op1L opDict))) (seqM (setM 2 (newDM)) (seqM (forM (itM (vrM 0)) (tgTup [tgName 3, tgName 4]) (seqM (setIxM 2 (vrM 3) (compM (itM (un (.eg (callM "named_in" [.v (vrM 4), .v (opV [cM (.str "here")] opTup)])) opSortSet)) (tgName 5) (tstM (bin (.lz 5) (.lz 1) opIn2)) (vrM 5) [5])) (nilM))) (seqM (retM (mvM 2)) (nilM))))⟩
def e_rings_from : DefE := ⟨"rings_from", [("steps" : Str), ("path" : Str)], [("steps" : Str), ("path" : Str), ("found" : Str), ("name" : Str)], [false, false], seqM (setM 2 (opV [] opLst)) (seqM (forM (itM (bin (.lz 0) (.eg (bin (.lz 1) (.eg (un (.eg (cM (.int 1))) opNeg)) opIx3)) opIx3)) (tgName 3) (seqM (ifS (tstM (bin (.lz 3) (.eg (bin (.lz 1) (.eg (cM (.int 0))) opIx3)) opEq)) (seqM (setM 2 (bin (.lz 2) (.eg (opV [vrM 1] opLst)) opAdd)) (nilM)) (seqM (ifS (andM (tstM (bin (.lz 3) (.eg (bin (.lz 1) (.eg (cM (.int 0))) opIx3)) opGt)) (tstM (bin (.lz 3) (.lz 1) opNotIn2))) (seqM (setM 2 (bin (.lz 2) (.eg (callM "rings_from" [.v (vrM 0), .v (bin (.lz 1) (.eg (opV [vrM 3] opTup)) opAdd)])) opAdd)) (nilM)) (nilM)) (nilM))) (nilM))) (seqM (retM (mvM 2)) (nilM)))⟩
def e_all_rings : DefE := ⟨"all_rings", [("settings" : Str)], [("settings" : Str), ("steps" : Str), ("found" : Str), ("name" : Str)], [false], seqM (setM 1 (callM "leads_of" [.v (vrM 0)])) (seqM (setM 2 (opV [] opLst)) (seqM (forM (itM (opM [.lz 1] (op1L opSorted))) (tgName 3) (seqM (setM 2 (bin (.lz 2) (.eg (callM "rings_from" [.v (vrM 1), .v (opV [vrM 3] opTup)])) opAdd)) (nilM))) (seqM (retM (mvM 2)) (nilM))))⟩
def e_names_in_rings : DefE := ⟨"names_in_rings", [("settings" : Str)], [("settings" : Str), ("found" : Str), ("path" : Str)], [false], seqM (setM 1 (opV [] opLst)) (seqM (forM (itM (callM "all_rings" [.v (vrM 0)])) (tgName 2) (seqM (setM 1 (bin (.lz 1) (.eg (opM [.lz 2] (op1L opList))) opAdd)) (nilM))) (seqM (retM (un (.lz 1) opSortSet)) (nilM)))⟩
def e__law_leads : DefE := ⟨"_law_leads", [("settings" : Str)], [("settings" : Str), ("found" : Str), ("name" : Str), ("rule" : Str), ("one" : Str)], [false], seqM (setM 1 (newDM)) (seqM (forM (itM (vrM 0)) (tgTup [tgName 2, tgName 3]) (seqM (setIxM 1 (vrM 2) (compM (itM (un (.eg (callM "_law_behind" [.v (vrM 3), .v (opV [cM (.str "here")] opTup)])) opSortSet)) (tgName 4) (tstM (bin (.lz 4) (.eg (opM [.lz 0] (op1L opDict))) opIn2)) (vrM 4) [4])) (nilM))) (seqM (retM (mvM 1)) (nilM)))⟩
def e__law_bad : DefE := ⟨"_law_bad", [("settings" : Str)], [("settings" : Str), ("name" : Str), ("leads" : Str), ("found" : Str), ("seen" : Str), ("turn_so" : Str), ("one" : Str), ("other" : Str)], [false], seqM (parM [2, 3] [callM "_law_leads" [.v (vrM 0)], opV [] opLst]) (seqM (forM (itM (compM (itM (vrM 2)) (tgName 6) (tstM (bin (.eg (bin (.lz 2) (.lz 6) opIx3)) (.eg (opV [] opLst)) opNe)) (vrM 6) [6])) (tgName 1) (seqM (setM 4 (opM [.eg (bin (.lz 2) (.lz 1) opIx3)] (op1L opList))) (seqM (forM (itM (vrM 2)) (tgName 5) (seqM (forM (itM (opM [.lz 4] (op1L opList))) (tgName 6) (seqM (setM 4 (bin (.lz 4) (.eg (compM (itM (bin (.lz 2) (.lz 6) opIx3)) (tgName 7) (tstM (bin (.lz 7) (.lz 4) opNotIn2)) (vrM 7) [7])) opAdd)) (nilM))) (nilM))) (seqM (ifS (tstM (bin (.lz 1) (.lz 4) opIn2)) (seqM (exprM (mutM 3 isLstD [vrM 1] fAppend)) (nilM)) (nilM)) (nilM))))) (seqM (retM (opM [.lz 3] (op1L opSorted))) (nilM)))⟩
/-- the names to which a rule leads, as the program tells them -/
def ld1 (ks : List Str) (r : Rule) : List Str := ((uniq (r.nm hd)).mergeSort strLe).filter fun b => decide (b ∈ ks)
def ldL (ks : List Str) (s : Stg) : List (Str × List Str) := s.map fun p => (p.1, ld1 ks p.2)
abbrev strsD (l : List Str) : D := .list (l.map .str)
abbrev ldD (l : List (Str × List Str)) : D := dct (l.map fun p => (p.1, strsD p.2))
theorem flat_lenA {α β : Type} {f : α → List β} {b : Nat} : ∀ {l : List α}, (∀ d ∈ l, (f d).length ≤ b) → (l.flatMap f).length ≤ l.length * b
  | [], _ => by simp
  | d :: l, h => by
    have h1 := h d (by simp)
    have h2 := flat_lenA (l := l) fun x hx => h x (by simp [hx])
    simp only [List.flatMap_cons, List.length_append, List.length_cons, Nat.succ_mul]
    omega
theorem nodup_take {α : Type} {l : List α} {i : Nat} {a : α} (hn : l.Nodup) (h : l[i]? = some a) : a ∉ l.take i := by
  have e : l = l.take i ++ l.drop i := (List.take_append_drop i l).symm
  have h2 : l.drop i = a :: l.drop (i + 1) := by
    obtain ⟨hl, e⟩ := List.getElem?_eq_some_iff.mp h
    rw [List.drop_eq_getElem_cons hl, e]
  rw [e, List.nodup_append] at hn
  intro z
  exact hn.2.2 a z a (by rw [h2]; simp) rfl
theorem nm_len {P : Str → Prop} {ws : List Str} : ∀ {n : Nat} {r : Rule}, RuleOk P n r → n ≤ 5 → (r.nm ws).length ≤ bnd n
  | 0, _, h, _ => h.elim
  | n + 1, .num i, h, _ => by simp [Rule.nm]
  | n + 1, .here a, h, _ => by
    simp only [Rule.nm, bnd]
    split <;> simp
  | n + 1, .up a, h, _ => by
    simp only [Rule.nm, bnd]
    split <;> simp
  | n + 1, .times i r, h, hn => by
    have := nm_len (ws := ws) h.2 (by omega)
    simp only [Rule.nm, bnd]
    omega
  | n + 1, .sum rs, h, hn => by
    have h1 := flat_lenA (l := rs) (f := Rule.nm ws) (b := bnd n) fun r hr => nm_len (h.2 r hr) (by omega)
    have h2 : rs.length ≤ 3 := h.1.2
    have h3 : rs.length * bnd n ≤ 3 * bnd n := Nat.mul_le_mul_right _ h2
    simp only [Rule.nm, nms_flat, bnd]
    omega
  | n + 1, .first rs, h, hn => by
    have h1 := flat_lenA (l := rs) (f := Rule.nm ws) (b := bnd n) fun r hr => nm_len (h.2 r hr) (by omega)
    have h2 : rs.length ≤ 3 := h.1
    have h3 : rs.length * bnd n ≤ 3 * bnd n := Nat.mul_le_mul_right _ h2
    simp only [Rule.nm, nms_flat, bnd]
    omega
theorem ld1_len {P : Str → Prop} {r : Rule} {n : Nat} (h : RuleOk P n r) (hn : n ≤ 5) : (uniq (r.nm hd)).length ≤ 121 := by
  have h1 := uniq_len (r.nm hd)
  have h2 := nm_len (ws := hd) h hn
  have h3 := bnd_le5 hn
  omega
theorem keysN {s : Stg} {P : Str → Prop} {n : Nat} (h : StgOk P n s) : (s.map (·.1)).Nodup := asc_nodup h.asc
theorem opDict_stg {s : Stg} {P : Str → Prop} {n : Nat} (h : StgOk P n s) : opDict (encS s) = some (.o (rulesD s)) := by
  have e : encS s = .tuple ((s.map fun p => (p.1, p.2.enc)).map fun p => .tuple [.str p.1, p.2]) := by
    simp [encS, encP]
  rw [e]
  exact opDict_t (by rw [keys_rules]; exact keysN h) (by simp; have := h.len; omega)
section
variable {dt : List DefE} {wh : Nat} {P : Str → Prop} {s : Stg}
theorem sp_leads_of (hP : ∀ a, P a → isNmS a = true) (h1 : Has dt e_parts_of) (h2 : Has dt e_named_in) (hf : Has dt e_leads_of) (hs : StgOk P 5 s) {lv : Nat} (hl : 8 ≤ lv) :
    LC (gN dt wh lv) "leads_of" [.v (encS s)] fun r bs => r = .o (ldD (ldL (s.map (·.1)) s)) ∧ bs = [] := by
  obtain ⟨lv, rfl⟩ : ∃ l, lv = l + 1 := ⟨lv - 1, by omega⟩
  refine LC.df hf rfl ?_
  have hdc := opDict_stg hs
  have hs4 := hs.len
  simp [e_leads_of, hdc]
  refine l_forTy encP ?_
  simp [encS, itemsOf, seqOf]
  refine ⟨s, rfl, fun i e => Keep (∃ s3 s4, isBor (some s3) = false ∧ isBor (some s4) = false ∧ e = [some (.val (encS s)), some (.own (rulesD s)), some (.own (ldD (ldL (s.map (·.1)) (s.take i)))), s3, s4, none]), kp ⟨none, none, rfl, rfl, rfl⟩, ?_, ?_⟩
  · rintro i a r e hp ⟨s3, s4, b3, b4, rfl⟩
    have hpm := List.mem_of_getElem? hp
    simp [encP, b3, b4]
    have hr : RuleOk P 5 r := hs.rl _ hpm
    have hb := ld1_len hr (by omega)
    refine l_compPy PyData.str (fun b => decide (b ∈ s.map (·.1))) PyData.str ?_
    simp
    refine (sp_named_in (ws := hd) h1 h2 (by simp [hd]) (isW_enc hP hr) (by omega) (by omega)).mono fun r' bs ⟨h3, h4⟩ => ?_
    subst h3 h4
    rw [behind_enc (by simp [hd]) hr]
    have hnl : (r.nm hd).length + 1 < 4096 := by
      have h5 : (r.nm hd).length ≤ 121 := Nat.le_trans (nm_len (ws := hd) hr (by omega)) (bnd_le5 (by omega))
      omega
    simp [opSortSet_map hnl, itemsOf, seqOf, calmSl]
    refine ⟨_, rfl, ?_, ?_⟩
    · rw [(List.mergeSort_perm _ _).length_eq]
      exact len_ok' (by omega)
    · have hfr : ¬ a ∈ ((ldL (s.map (·.1)) (s.take i)).map fun p => (p.1, strsD p.2)).map (·.1) := by
        have := nodup_take (l := s.map (·.1)) (i := i) (a := a) (keysN hs) (by rw [List.getElem?_map, hp]; rfl)
        have e : ((ldL (s.map (·.1)) (s.take i)).map fun p => (p.1, strsD p.2)).map (·.1) = (s.map (·.1)).take i := by
          simp [ldL, List.map_take, Function.comp_def]
        rw [e]
        exact this
      rw [fSet_new hfr (by simp [ldL]; omega)]
      rw [lo_some]
      refine kp ⟨some (.val (.str a)), some (.val r.enc), rfl, rfl, ?_⟩
      rw [List.take_add_one, hp]
      simp [ldL, ld1]
  · rintro e ⟨s3, s4, b3, b4, rfl⟩
    simp
end
end RL
end
section
set_option Elab.async false
set_option linter.all false
set_option autoImplicit false
set_option maxRecDepth 100000
set_option maxHeartbeats 4000000
/-! T7: the law's leads; rings -/
namespace RL
open PySem PySem.Spec L2
open PyProof.Rows hiding St
section
variable {dt : List DefE} {wh : Nat} {P : Str → Prop} {s : Stg}
theorem sp_l_leads (hP : ∀ a, P a → isNmS a = true) (h2 : Has dt e__law_behind) (hf : Has dt e__law_leads) (hs : StgOk P 5 s) {lv : Nat} (hl : 8 ≤ lv) :
    LC (gN dt wh lv) "_law_leads" [.v (encS s)] fun r bs => r = .o (ldD (ldL (s.map (·.1)) s)) ∧ bs = [] := by
  obtain ⟨lv, rfl⟩ : ∃ l, lv = l + 1 := ⟨lv - 1, by omega⟩
  refine LC.df hf rfl ?_
  have hdc := opDict_stg hs
  have hs4 := hs.len
  simp [e__law_leads, hdc]
  refine l_forTy encP ?_
  simp [encS, itemsOf, seqOf]
  refine ⟨s, rfl, fun i e => Keep (∃ s3 s4, isBor (some s3) = false ∧ isBor (some s4) = false ∧ e = [some (.val (encS s)), some (.own (ldD (ldL (s.map (·.1)) (s.take i)))), s3, s4, none]), kp ⟨none, none, rfl, rfl, rfl⟩, ?_, ?_⟩
  · rintro i a r e hp ⟨s3, s4, b3, b4, rfl⟩
    have hpm := List.mem_of_getElem? hp
    simp [encP, b3, b4]
    have hr : RuleOk P 5 r := hs.rl _ hpm
    have hb := ld1_len hr (by omega)
    refine l_compPy PyData.str (fun b => decide (b ∈ s.map (·.1))) PyData.str ?_
    simp
    refine (sp_l_behind (ws := hd) h2 (by simp [hd]) (isW_enc hP hr) (by omega) (by omega)).mono fun r' bs ⟨h3, h4⟩ => ?_
    subst h3 h4
    rw [behind_enc (by simp [hd]) hr]
    have hnl : (r.nm hd).length + 1 < 4096 := by
      have h5 : (r.nm hd).length ≤ 121 := Nat.le_trans (nm_len (ws := hd) hr (by omega)) (bnd_le5 (by omega))
      omega
    simp [opSortSet_map hnl, itemsOf, seqOf, calmSl, hdc]
    refine ⟨_, rfl, ?_, ?_⟩
    · rw [(List.mergeSort_perm _ _).length_eq]
      exact len_ok' (by omega)
    · have hfr : ¬ a ∈ ((ldL (s.map (·.1)) (s.take i)).map fun p => (p.1, strsD p.2)).map (·.1) := by
        have := nodup_take (l := s.map (·.1)) (i := i) (a := a) (keysN hs) (by rw [List.getElem?_map, hp]; rfl)
        have e : ((ldL (s.map (·.1)) (s.take i)).map fun p => (p.1, strsD p.2)).map (·.1) = (s.map (·.1)).take i := by
          simp [ldL, List.map_take, Function.comp_def]
        rw [e]
        exact this
      rw [fSet_new hfr (by simp [ldL]; omega)]
      rw [lo_some]
      refine kp ⟨some (.val (.str a)), some (.val r.enc), rfl, rfl, ?_⟩
      rw [List.take_add_one, hp]
      simp [ldL, ld1]
  · rintro e ⟨s3, s4, b3, b4, rfl⟩
    simp
end
/-! ### the graph of a kind -/
def adjS (s : Stg) (a : Str) : List Str := ((ldL (s.map (·.1)) s).lookup a).getD []
theorem adj_mem {s : Stg} {a b : Str} : b ∈ adjS s a ↔ b ∈ leads s a := by
  unfold adjS leads ldL
  rw [lookup_map]
  cases s.lookup a with
  | none => simp
  | some r =>
    simp only [Option.map_some, Option.getD_some, ld1, List.mem_filter, List.mem_mergeSort, mem_uniq, decide_eq_true_eq, lookup_isSome]
theorem adj_key {s : Stg} {a b : Str} (h : b ∈ adjS s a) : b ∈ s.map (·.1) := by
  rw [adj_mem] at h
  unfold leads at h
  split at h
  · exact lookup_isSome.mp (List.mem_filter.mp h).2
  · cases h
theorem ordS : RM.Ord sLt where
  irr a := by simp [sLt]
  tr a b c h1 h2 := sLt_tr h1 h2
  tot a b := by
    by_cases h : a = b
    · exact .inl h
    · by_cases h1 : strLe a b = true
      · exact .inr (.inl (sLt_of h1 h))
      · have := strLe_total a b
        simp [h1] at this
        exact .inr (.inr (sLt_of this (Ne.symm h)))
theorem rch_congr {α : Type} [DecidableEq α] {f g : α → List α} (h : ∀ a b, b ∈ f a ↔ b ∈ g a) {a b : α} : RM.Rch f a b ↔ RM.Rch g a b := by
  constructor
  · intro z
    induction z with
    | single h1 => exact .single ((h _ _).mp h1)
    | tail _ h2 ih => exact .tail ih ((h _ _).mp h2)
  · intro z
    induction z with
    | single h1 => exact .single ((h _ _).mpr h1)
    | tail _ h2 ih => exact .tail ih ((h _ _).mpr h2)
end RL
end
section
set_option Elab.async false
set_option linter.all false
set_option autoImplicit false
set_option maxRecDepth 100000
set_option maxHeartbeats 4000000
/-! T8: rings -/
namespace RL
open PySem PySem.Spec L2
open PyProof.Rows hiding St
abbrev pathD (p : List Str) : D := .tuple (p.map .str)
theorem part_len {α β : Type} [DecidableEq α] {F : α → List β} {h : α} {L : Nat} : ∀ {l : List α}, (∀ x ∈ l, x = h → (F x).length ≤ 1) → (∀ x ∈ l, x ≠ h → (F x).length ≤ L) →
    (l.flatMap F).length ≤ (l.filter fun x => decide (x = h)).length + (l.filter fun x => decide (x ≠ h)).length * L
  | [], _, _ => by simp
  | a :: l, h1, h2 => by
    have ih := part_len (l := l) (fun x hx => h1 x (by simp [hx])) (fun x hx => h2 x (by simp [hx]))
    simp only [List.flatMap_cons, List.length_append]
    by_cases e : a = h
    · have := h1 a (by simp) e
      rw [List.filter_cons_of_pos (by simp [e]), List.filter_cons_of_neg (by simp [e])]
      simp only [List.length_cons]
      omega
    · have := h2 a (by simp) e
      rw [List.filter_cons_of_neg (by simp [e]), List.filter_cons_of_pos (by simp [e])]
      simp only [List.length_cons, Nat.succ_mul]
      omega
def rb : Nat → Nat
  | 0 => 0
  | n + 1 => 1 + 3 * rb n
theorem rf_len {ks : List Str} {adj : Str → List Str} (hk : ks.length ≤ 4) (ha : ∀ a, (adj a).Nodup) (hs : ∀ a b, b ∈ adj a → b ∈ ks) {h : Str} (hh : h ∈ ks) : ∀ {n : Nat} {t : List Str}, (RM.rf sLt adj n h t).length ≤ rb n
  | 0, _ => by simp [RM.rf]
  | n + 1, t => by
    have hl : ∀ {l : List Str}, l.Nodup → (∀ b ∈ l, b ∈ ks) → (l.filter fun x => decide (x ≠ h)).length ≤ 3 := by
      intro l hn hl
      have h1 : (h :: l.filter fun x => decide (x ≠ h)).Nodup := List.nodup_cons.mpr ⟨by simp, hn.sublist List.filter_sublist⟩
      have h2 := h1.length_le_of_subset (l₂ := ks) fun x hx => by
        rcases List.mem_cons.mp hx with rfl | hx
        · exact hh
        · exact hl x (List.mem_filter.mp hx).1
      simp at h2 ⊢
      omega
    have hl1 : ∀ {l : List Str}, l.Nodup → (l.filter fun x => decide (x = h)).length ≤ 1 := by
      intro l hn
      have h1 : (l.filter fun x => decide (x = h)).Nodup := hn.sublist List.filter_sublist
      have h2 := h1.length_le_of_subset (l₂ := [h]) fun x hx => by simp at hx; simp [hx]
      simpa using h2
    simp only [RM.rf]
    have h3 := part_len (l := adj (RM.lastD h t)) (h := h) (L := rb n) (F := fun x => if x = h then [h :: t] else if sLt h x = true ∧ x ∉ t then RM.rf sLt adj n h (t ++ [x]) else []) (fun x _ e => by simp [e]) (fun x _ e => by
      rw [if_neg e]
      split
      · exact rf_len hk ha hs hh
      · simp)
    have h4 := hl (ha (RM.lastD h t)) (fun b hb => hs _ b hb)
    have h5 := hl1 (ha (RM.lastD h t))
    have h6 : ((adj (RM.lastD h t)).filter fun x => decide (x ≠ h)).length * rb n ≤ 3 * rb n := Nat.mul_le_mul_right _ h4
    simp only [rb]
    omega
theorem adj_nodup {s : Stg} {a : Str} : (adjS s a).Nodup := by
  unfold adjS ldL
  rw [lookup_map]
  cases s.lookup a with
  | none => simp
  | some r => exact ((List.mergeSort_perm _ _).nodup_iff.mpr (nodup_uniq _)).sublist List.filter_sublist
theorem ld_look {s : Stg} {a : Str} (h : a ∈ s.map (·.1)) : ((ldL (s.map (·.1)) s).map fun p => (p.1, strsD p.2)).lookup a = some (strsD (adjS s a)) := by
  rw [lookup_map]
  unfold adjS
  have : ((ldL (s.map (·.1)) s).lookup a).isSome = true := by
    rw [lookup_isSome]
    simpa [ldL] using h
  obtain ⟨l, hl⟩ := Option.isSome_iff_exists.mp this
  rw [hl]
  rfl
theorem last_get {α : Type} : ∀ {t : List α} {h : α}, (h :: t)[t.length]? = some (RM.lastD h t)
  | [], h => rfl
  | b :: t, h => by
    have := last_get (t := t) (h := b)
    simpa [RM.lastD] using this
theorem atI_last {t : List Str} {h : Str} : atI ((h :: t).map PyData.str) (-1) = some (.str (RM.lastD h t)) := by
  unfold atI ixN
  have h1 : ¬ (0 : Int) ≤ -1 := by omega
  have h2 : -((((h :: t).map PyData.str).length : Nat) : Int) ≤ -1 := by simp; omega
  rw [if_neg h1, if_pos h2]
  have h3 : ((-1 : Int) + (((h :: t).map PyData.str).length : Nat)).toNat = t.length := by simp; omega
  rw [h3, Option.bind_some, List.getElem?_map, last_get]
  rfl
theorem opNotIn_strsT {w : Str} {ws : List Str} (h : PyData.strOk w = true) (hs : ∀ a ∈ ws, PyData.strOk a = true) : opNotIn2 (.str w) (.tuple (ws.map .str)) = some (.v (.bool (!decide (w ∈ ws)))) := by
  have e : PyData.canLayAll0 (ws.map .str) = true := canAll fun d hd => by
    obtain ⟨a, ha, rfl⟩ := List.mem_map.mp hd
    simp [PyData.canLay0, hs a ha]
  have e2 : opIn (.str w) (.tuple (ws.map .str)) = some (.v (.bool (decide (w ∈ ws)))) := by
    unfold opIn
    simp [PyData.canLay0, PyData.depth, h, e]
    rw [Bool.eq_iff_iff]
    simp
  show notR (opIn _ _) = _
  rw [e2]; rfl
section
variable {dt : List DefE} {wh : Nat} {P : Str → Prop} {s : Stg}
theorem sp_rings_from (hP : ∀ a, P a → isNmS a = true) (hf : Has dt e_rings_from) (hs : StgOk P 5 s) :
    ∀ {n lv : Nat} {h : Str} {t : List Str}, (h :: t).Nodup → (∀ x ∈ h :: t, x ∈ s.map (·.1)) → s.length ≤ n + t.length → n ≤ 4 → n + 1 ≤ lv →
      LC (gN dt wh lv) "rings_from" [.v (ldD (ldL (s.map (·.1)) s)), .v (pathD (h :: t))] fun r bs => r = .o (.list ((RM.rf sLt (adjS s) n h t).map pathD)) ∧ bs = []
  | 0, lv, h, t, hn, hk, hl, _, _ => by
    have := hn.length_le_of_subset (l₂ := s.map (·.1)) (fun x hx => hk x hx)
    simp at this
    omega
  | n + 1, lv, h, t, hn, hk, hl, h4, hlv => by
    obtain ⟨lv, rfl⟩ : ∃ l, lv = l + 1 := ⟨lv - 1, by omega⟩
    refine LC.df hf rfl ?_
    have hok : ∀ a ∈ s.map (·.1), PyData.strOk a = true := fun a ha => by
      obtain ⟨p, hp, rfl⟩ := List.mem_map.mp ha
      exact (isNmS_ok (hP _ (hs.nm p hp))).1
    have hlast : RM.lastD h t ∈ s.map (·.1) := hk _ RM.last_mem
    have hal := atI_last (t := t) (h := h)
    have hlk := ld_look hlast
    simp [e_rings_from]
    refine l_forTy PyData.str ?_
    simp only [List.map_cons] at hal
    simp [opNeg, hal, hlk, itemsOf, seqOf, -List.map_map]
    have hks4 : (s.map (·.1)).length ≤ 4 := by simpa using hs.len
    have hrl : ∀ {n : Nat} {t : List Str}, (RM.rf sLt (adjS s) n h t).length ≤ rb n := rf_len hks4 (fun a => adj_nodup) (fun a b => adj_key) (hk h (by simp))
    let F : Str → List (List Str) := fun x => if x = h then [h :: t] else if sLt h x = true ∧ x ∉ t then RM.rf sLt (adjS s) n h (t ++ [x]) else []
    have hF : RM.rf sLt (adjS s) (n + 1) h t = (adjS s (RM.lastD h t)).flatMap F := rfl
    have hFl : ∀ x, (F x).length ≤ 40 := fun x => by
      show (if x = h then [h :: t] else if sLt h x = true ∧ x ∉ t then RM.rf sLt (adjS s) n h (t ++ [x]) else []).length ≤ 40
      have := hrl (n := n) (t := t ++ [x])
      have : rb n ≤ 40 := by
        have h3 : n ≤ 3 := by omega
        match n, h3 with
        | 0, _ => decide
        | 1, _ => decide
        | 2, _ => decide
        | 3, _ => decide
      split
      · simp
      · split
        · omega
        · simp
    have hadjl : (adjS s (RM.lastD h t)).length ≤ 4 := by
      have := (adj_nodup (s := s) (a := RM.lastD h t)).length_le_of_subset (l₂ := s.map (·.1)) fun x hx => adj_key hx
      omega
    refine ⟨_, rfl, fun i e => Keep (∃ s3, isBor (some s3) = false ∧ e = [some (.val (ldD (ldL (s.map (·.1)) s))), some (.val (pathD (h :: t))), some (.own (.list ((((adjS s (RM.lastD h t)).take i).flatMap F).map pathD))), s3]), kp ⟨none, rfl, rfl⟩, ?_, ?_⟩
    · rintro i x e hx ⟨s3, b3, rfl⟩
      have hxm := List.mem_of_getElem? hx
      have hxk := adj_key hxm
      have hacc : (((adjS s (RM.lastD h t)).take i).flatMap F).length ≤ 160 := by
        have h1 := flat_lenA (l := (adjS s (RM.lastD h t)).take i) (f := F) (b := 40) fun x _ => hFl x
        have h2 : ((adjS s (RM.lastD h t)).take i).length * 40 ≤ 4 * 40 := Nat.mul_le_mul_right _ (by rw [List.length_take]; omega)
        omega
      have hnext : ((adjS s (RM.lastD h t)).take (i + 1)).flatMap F = ((adjS s (RM.lastD h t)).take i).flatMap F ++ F x := by
        rw [List.take_add_one, hx]
        simp
      have hh := hok h (hk h (by simp))
      have hx0 := hok x hxk
      have hnin : opNotIn2 (.str x) (pathD (h :: t)) = some (.v (.bool (!decide (x ∈ h :: t)))) := opNotIn_strsT hx0 fun a ha => hok a (hk a ha)
      have hadd : ∀ l : List (List Str), l.length ≤ 40 → opAdd (.list ((((adjS s (RM.lastD h t)).take i).flatMap F).map pathD)) (.list (l.map pathD)) = some (.o (.list (((((adjS s (RM.lastD h t)).take i).flatMap F) ++ l).map pathD))) := fun l hl => by
        rw [opAdd_lst (by simp only [List.length_map]; omega), List.map_append]
      simp [b3, opEq_str hx0 hh]
      by_cases e : x = h
      · have hFx : F x = [h :: t] := by show (if x = h then _ else _) = _; rw [if_pos e]
        have := hadd [h :: t] (by simp)
        simp only [List.map_cons, List.map_nil] at this
        simp [e, this]
        exact kp ⟨some (.val (.str h)), rfl, by rw [hnext, hFx, List.map_append]; rfl⟩
      · by_cases g : sLt h x = true
        · by_cases ht : x ∈ t
          · have hFx : F x = [] := by show (if x = h then _ else _) = _; rw [if_neg e, if_neg (fun z => z.2 ht)]
            simp [e, g, hnin, ht, opGt]
            exact kp ⟨some (.val (.str x)), rfl, by rw [hnext, hFx, List.append_nil]⟩
          · have hFx : F x = RM.rf sLt (adjS s) n h (t ++ [x]) := by show (if x = h then _ else _) = _; rw [if_neg e, if_pos ⟨g, ht⟩]
            simp [e, g, hnin, ht, opGt]
            have htl : t.length ≤ 4 := by
              have := (List.nodup_cons.mp hn).2.length_le_of_subset (l₂ := s.map (·.1)) (fun x hx => hk x (by simp [hx]))
              omega
            rw [opAdd_tup (by simp; omega)]
            simp
            have ih := sp_rings_from hP hf hs (n := n) (lv := lv) (h := h) (t := t ++ [x]) (by
              rw [List.nodup_cons] at hn ⊢
              refine ⟨?_, ?_⟩
              · simp [hn.1, Ne.symm e]
              · rw [List.nodup_append]
                exact ⟨hn.2, by simp, fun a ha b hb => by simp at hb; subst hb; rintro rfl; exact ht ha⟩) (fun y hy => by
              rcases List.mem_cons.mp hy with rfl | hy
              · exact hk _ (by simp)
              · rcases List.mem_append.mp hy with hy | hy
                · exact hk y (by simp [hy])
                · simp at hy; subst hy; exact hxk) (by simp; omega) (by omega) (by omega)
            have e5 : pathD (h :: (t ++ [x])) = .tuple (.str h :: (t.map .str ++ [.str x])) := by simp
            rw [e5] at ih
            refine ih.mono fun r bs ⟨h3, h4⟩ => ?_
            subst h3 h4
            simp
            rw [hadd _ (by rw [← hFx]; exact hFl x)]
            simp
            exact kp ⟨some (.val (.str x)), rfl, by rw [hnext, hFx, List.map_append]; rfl⟩
        · have hFx : F x = [] := by show (if x = h then _ else _) = _; rw [if_neg e, if_neg (fun z => g z.1)]
          simp [e, g, opGt]
          exact kp ⟨some (.val (.str x)), rfl, by rw [hnext, hFx, List.append_nil]⟩
    · rintro e ⟨s3, b3, rfl⟩
      simp [hF]
end
end RL
end
section
set_option Elab.async false
set_option linter.all false
set_option autoImplicit false
set_option maxRecDepth 100000
set_option maxHeartbeats 4000000
/-! T9: names in rings -/
namespace RL
open PySem PySem.Spec L2
open PyProof.Rows hiding St
/-- all rings of settings -/
def allR (s : Stg) : List (List Str) := (s.map (·.1)).flatMap fun a => RM.rf sLt (adjS s) s.length a []
def badL (s : Stg) : List Str := (uniq (allR s).flatten).mergeSort strLe
theorem ring_in {s : Stg} {p : List Str} (h : p ∈ allR s) : ∃ a t, p = a :: t ∧ RM.RingL sLt (adjS s) a t ∧ a ∈ s.map (·.1) := by
  simp only [allR, List.mem_flatMap] at h
  obtain ⟨a, ha, h⟩ := h
  obtain ⟨t, rfl, hr⟩ := (RM.rf_nil ordS (ns := s.map (·.1)) (by simp) (fun a b => adj_key)).mp h
  exact ⟨a, t, rfl, hr, ha⟩
theorem in_ring {s : Stg} {a : Str} {t : List Str} (h : RM.RingL sLt (adjS s) a t) : a :: t ∈ allR s := by
  simp only [allR, List.mem_flatMap]
  exact ⟨a, adj_key h.1.1.2, (RM.rf_nil ordS (ns := s.map (·.1)) (by simp) (fun a b => adj_key)).mpr ⟨t, rfl, h⟩⟩
theorem ring_sub {s : Stg} {p : List Str} (h : p ∈ allR s) : p.Nodup ∧ ∀ x ∈ p, x ∈ s.map (·.1) := by
  obtain ⟨a, t, rfl, hr, ha⟩ := ring_in h
  refine ⟨hr.1.2, fun x hx => ?_⟩
  rcases List.mem_cons.mp hx with rfl | hx
  · exact ha
  · exact RM.lk_sub (ns := s.map (·.1)) (fun a b => adj_key) hr.1.1.1 hx
theorem bad_is {s : Stg} {a : Str} : a ∈ badL s ↔ RM.Rch (leads s) a a := by
  rw [← rch_congr (f := adjS s) fun a b => adj_mem]
  unfold badL
  rw [List.mem_mergeSort, mem_uniq, List.mem_flatten]
  constructor
  · rintro ⟨p, hp, ha⟩
    obtain ⟨b, t, rfl, hr, _⟩ := ring_in hp
    exact hr.1.rch ha
  · intro h
    obtain ⟨t, ht⟩ := RM.ring_of h
    obtain ⟨m, u, hr, hm⟩ := RM.ringL_of ordS ht
    exact ⟨m :: u, in_ring hr, (hm a).mpr (by simp)⟩
theorem bad_key {s : Stg} {a : Str} (h : a ∈ badL s) : a ∈ s.map (·.1) := by
  unfold badL at h
  rw [List.mem_mergeSort, mem_uniq, List.mem_flatten] at h
  obtain ⟨p, hp, ha⟩ := h
  exact (ring_sub hp).2 a ha
theorem asc_srt {l : List Str} : asc ((uniq l).mergeSort strLe) = true := by
  refine asc_pw.mpr ?_
  have h1 := List.pairwise_mergeSort strLe_trans strLe_total (uniq l)
  have h2 : ((uniq l).mergeSort strLe).Nodup := (List.mergeSort_perm _ _).nodup_iff.mpr (nodup_uniq _)
  exact (h1.and h2).imp fun ⟨h3, h4⟩ => sLt_of h3 h4
theorem asc_eq {l m : List Str} (hl : asc l = true) (hm : asc m = true) (h : ∀ a, a ∈ l ↔ a ∈ m) : l = m := by
  rw [← sort_asc hl, ← sort_asc hm]
  refine List.Perm.eq_of_pairwise (le := fun a b => strLe a b = true) (fun a b _ _ h1 h2 => strLe_anti a b h1 h2) (List.pairwise_mergeSort strLe_trans strLe_total _) (List.pairwise_mergeSort strLe_trans strLe_total _) ?_
  refine (List.mergeSort_perm _ _).trans (List.Perm.trans ?_ (List.mergeSort_perm _ _).symm)
  exact (List.perm_ext_iff_of_nodup (nodup_uniq _) (nodup_uniq _)).mpr fun a => by rw [mem_uniq, mem_uniq]; exact h a
theorem rb40 {n : Nat} (h : n ≤ 4) : rb n ≤ 40 := by
  match n, h with
  | 0, _ => decide
  | 1, _ => decide
  | 2, _ => decide
  | 3, _ => decide
  | 4, _ => decide
section
variable {dt : List DefE} {wh : Nat} {P : Str → Prop} {s : Stg}
theorem all_len (hs : StgOk P 5 s) : (allR s).length ≤ 160 := by
  have hks4 : (s.map (·.1)).length ≤ 4 := by simpa using hs.len
  have h1 := flat_lenA (l := s.map (·.1)) (f := fun a => RM.rf sLt (adjS s) s.length a []) (b := 40) fun a ha => by
    have h2 : (RM.rf sLt (adjS s) s.length a []).length ≤ rb s.length := rf_len hks4 (fun a => adj_nodup) (fun a b => adj_key) ha
    have h3 : rb s.length ≤ 40 := by
      have := hs.len
      match s.length, this with
      | 0, _ => decide
      | 1, _ => decide
      | 2, _ => decide
      | 3, _ => decide
      | 4, _ => decide
    omega
  have h4 : (s.map (·.1)).length * 40 ≤ 4 * 40 := Nat.mul_le_mul_right _ hks4
  unfold allR
  omega
theorem sp_all_rings (hP : ∀ a, P a → isNmS a = true) (h1 : Has dt e_parts_of) (h2 : Has dt e_named_in) (h3 : Has dt e_leads_of) (h4 : Has dt e_rings_from) (hf : Has dt e_all_rings) (hs : StgOk P 5 s) {lv : Nat} (hl : 9 ≤ lv) :
    LC (gN dt wh lv) "all_rings" [.v (encS s)] fun r bs => r = .o (.list ((allR s).map pathD)) ∧ bs = [] := by
  obtain ⟨lv, rfl⟩ : ∃ l, lv = l + 1 := ⟨lv - 1, by omega⟩
  refine LC.df hf rfl ?_
  have hs4 := hs.len
  simp [e_all_rings]
  refine (sp_leads_of hP h1 h2 h3 hs (by omega)).mono fun r bs ⟨h5, h6⟩ => ?_
  subst h5 h6
  simp
  refine l_forTy PyData.str ?_
  have hk1 : ((ldL (s.map (·.1)) s).map fun p => (p.1, strsD p.2)).map (·.1) = s.map (·.1) := by simp [ldL, Function.comp_def]
  have hso := opSorted_sd (l := (ldL (s.map (·.1)) s).map fun p => (p.1, strsD p.2)) (by simp [ldL]; omega)
  rw [hk1, List.mergeSort_of_pairwise ((asc_pw.mp hs.asc).imp fun h => strLe_of h)] at hso
  simp [hso, itemsOf, seqOf, -List.map_map]
  refine ⟨s.map (·.1), rfl, fun i e => Keep (∃ s1 s3, (s1 = some (.own (ldD (ldL (s.map (·.1)) s))) ∨ s1 = some (.val (ldD (ldL (s.map (·.1)) s)))) ∧ isBor (some s3) = false ∧
    e = [some (.val (encS s)), s1, some (.own (.list ((((s.map (·.1)).take i).flatMap fun a => RM.rf sLt (adjS s) s.length a []).map pathD))), s3]), kp ⟨_, none, .inl rfl, rfl, rfl⟩, ?_, ?_⟩
  · rintro i x e hx ⟨s1, s3, d1, b3, rfl⟩
    have hxk : x ∈ s.map (·.1) := List.mem_of_getElem? hx
    have hks4 : (s.map (·.1)).length ≤ 4 := by simpa using hs4
    have hl40 : ∀ a ∈ s.map (·.1), (RM.rf sLt (adjS s) s.length a []).length ≤ 40 := fun a ha => by
      have h2 : (RM.rf sLt (adjS s) s.length a []).length ≤ rb s.length := rf_len hks4 (fun a => adj_nodup) (fun a b => adj_key) ha
      have := rb40 hs4
      omega
    have hacc : (((s.map (·.1)).take i).flatMap fun a => RM.rf sLt (adjS s) s.length a []).length ≤ 160 := by
      have h1 := flat_lenA (l := (s.map (·.1)).take i) (f := fun a => RM.rf sLt (adjS s) s.length a []) (b := 40) fun a ha => hl40 a (List.mem_of_mem_take ha)
      have h2 : ((s.map (·.1)).take i).length * 40 ≤ 4 * 40 := Nat.mul_le_mul_right _ (by rw [List.length_take]; omega)
      omega
    have hlx := hl40 x hxk
    have hr := sp_rings_from (wh := wh) (lv := lv) (n := s.length) (h := x) (t := []) hP h4 hs (by simp) (by simpa using hxk) (by simp) (by omega) (by omega)
    rcases d1 with rfl | rfl
    all_goals
      simp [b3, -List.map_map]
      refine hr.mono fun r bs ⟨h7, h8⟩ => ?_
      subst h7 h8
      simp [-List.map_map]
      rw [opAdd_lst (by simp only [List.length_map]; omega)]
      simp [-List.map_map]
      refine kp ⟨_, some (.val (.str x)), .inr rfl, rfl, ?_⟩
      rw [List.take_add_one, hx]
      simp
  · rintro e ⟨s1, s3, d1, b3, rfl⟩
    rw [List.take_length]
    simp [allR]
theorem sp_names_in_rings (hP : ∀ a, P a → isNmS a = true) (h1 : Has dt e_parts_of) (h2 : Has dt e_named_in) (h3 : Has dt e_leads_of) (h4 : Has dt e_rings_from) (h5 : Has dt e_all_rings) (hf : Has dt e_names_in_rings) (hs : StgOk P 5 s) {lv : Nat} (hl : 10 ≤ lv) :
    LC (gN dt wh lv) "names_in_rings" [.v (encS s)] fun r bs => r = .o (.list ((badL s).map .str)) ∧ bs = [] := by
  obtain ⟨lv, rfl⟩ : ∃ l, lv = l + 1 := ⟨lv - 1, by omega⟩
  refine LC.df hf rfl ?_
  have hs4 := hs.len
  have hal := all_len hs
  have hfl : ∀ l : List (List Str), (∀ p ∈ l, p.length ≤ 4) → l.length ≤ 160 → l.flatten.length ≤ 640 := fun l h h2 => by
    have h3 := flat_lenA (l := l) (f := id) (b := 4) h
    have h4 : l.length * 4 ≤ 160 * 4 := Nat.mul_le_mul_right _ h2
    rw [List.flatMap_id] at h3
    omega
  have hp4 : ∀ p ∈ allR s, p.length ≤ 4 := fun p hp => by
    obtain ⟨h1, h2⟩ := ring_sub hp
    have := h1.length_le_of_subset (l₂ := s.map (·.1)) fun x hx => h2 x hx
    simp at this
    omega
  simp [e_names_in_rings]
  refine l_forTy pathD ?_
  simp
  refine (sp_all_rings hP h1 h2 h3 h4 h5 hs (by omega)).mono fun r bs ⟨h6, h7⟩ => ?_
  subst h6 h7
  simp [itemsOf, seqOf]
  refine ⟨allR s, rfl, fun i e => Keep (∃ s2, isBor (some s2) = false ∧ e = [some (.val (encS s)), some (.own (.list ((((allR s).take i).flatten).map .str))), s2]), kp ⟨none, rfl, rfl⟩, ?_, ?_⟩
  · rintro i p e hp ⟨s2, b2, rfl⟩
    have hpm := List.mem_of_getElem? hp
    have h8 := hfl ((allR s).take i) (fun p hp => hp4 p (List.mem_of_mem_take hp)) (by rw [List.length_take]; omega)
    have h9 := hp4 p hpm
    simp [b2, opList, -List.map_flatten]
    rw [opAdd_lst (by simp only [List.length_map]; omega)]
    simp [-List.map_flatten]
    refine kp ⟨some (.val (pathD p)), rfl, ?_⟩
    rw [List.take_add_one, hp]
    simp
  · rintro e ⟨s2, b2, rfl⟩
    rw [List.take_length]
    have h8 := hfl (allR s) hp4 hal
    simp [-List.map_flatten]
    rw [opSortSet_map (by omega)]
    simp [badL]
end
end RL
end
section
set_option Elab.async false
set_option linter.all false
set_option autoImplicit false
set_option maxRecDepth 100000
set_option maxHeartbeats 4000000
/-! T10: the law's names in rings -/
namespace RL
open PySem PySem.Spec L2
open PyProof.Rows hiding St
def stp (s : Stg) (l : List Str) (one : Str) : List Str := l ++ (adjS s one).filter fun o => decide (o ∉ l)
theorem grow_stp {s : Stg} {l : List Str} : RM.grow (adjS s) l = l.foldl (stp s) l := rfl
theorem growN_succ {s : Stg} : ∀ {n : Nat} {l : List Str}, RM.growN (adjS s) (n + 1) l = RM.grow (adjS s) (RM.growN (adjS s) n l)
  | 0, l => rfl
  | n + 1, l => by
    show RM.growN (adjS s) (n + 1) (RM.grow (adjS s) l) = _
    rw [growN_succ (n := n)]
    rfl
def nsub (s : Stg) (l : List Str) : Prop := l.Nodup ∧ ∀ a ∈ l, a ∈ s.map (·.1)
theorem nsub.len {s : Stg} {l : List Str} (h : nsub s l) (hs : s.length ≤ 4) : l.length ≤ 4 := by
  have := h.1.length_le_of_subset (l₂ := s.map (·.1)) fun x hx => h.2 x hx
  simp at this
  omega
theorem nsub.stp {s : Stg} {l : List Str} {a : Str} (h : nsub s l) : nsub s (stp s l a) := by
  refine ⟨?_, fun x hx => ?_⟩
  · unfold RL.stp
    rw [List.nodup_append]
    refine ⟨h.1, adj_nodup.sublist List.filter_sublist, fun x hx y hy => ?_⟩
    rintro rfl
    have := (List.mem_filter.mp hy).2
    simp at this
    exact this hx
  · rcases List.mem_append.mp hx with hx | hx
    · exact h.2 x hx
    · exact adj_key (List.mem_filter.mp hx).1
theorem nsub.fold {s : Stg} : ∀ {m l : List Str}, nsub s l → nsub s (m.foldl (RL.stp s) l)
  | [], _, h => h
  | _ :: m, _, h => nsub.fold (m := m) h.stp
theorem nsub.grow {s : Stg} {l : List Str} (h : nsub s l) : ∀ {n : Nat}, nsub s (RM.growN (adjS s) n l)
  | 0 => h
  | n + 1 => by
    rw [growN_succ]
    exact nsub.fold h.grow
theorem nsub.adj {s : Stg} {a : Str} : nsub s (adjS s a) := ⟨adj_nodup, fun x hx => adj_key hx⟩
def lawIn (s : Stg) (a : Str) : Bool := decide (a ∈ RM.growN (adjS s) s.length (adjS s a))
def lawBad (s : Stg) : List Str := ((s.map (·.1)).filter fun a => !(adjS s a).isEmpty).filter (lawIn s)
theorem lawBad_eq {s : Stg} {P : Str → Prop} (hs : StgOk P 5 s) : lawBad s = badL s := by
  refine asc_eq (asc_sub hs.asc (List.filter_sublist.trans List.filter_sublist)) asc_srt fun a => ?_
  rw [bad_is, ← rch_congr (f := adjS s) fun a b => adj_mem]
  simp only [lawBad, List.mem_filter, lawIn, decide_eq_true_eq]
  rw [RM.grow_ring (ns := s.map (·.1)) (by simp) (fun a b => adj_key)]
  constructor
  · exact fun h => h.2
  · intro h
    refine ⟨⟨?_, ?_⟩, h⟩
    · obtain ⟨t, ht⟩ := RM.ring_of h
      exact adj_key ht.1.2
    · obtain ⟨t, h1, h2⟩ := RM.rch_walk h
      have : adjS s a ≠ [] := by
        cases t with
        | nil => intro z; rw [show RM.lastD a [] = a from rfl, z] at h2; cases h2
        | cons b t => intro z; have := h1.1; rw [z] at this; cases this
      simp [this]
theorem dLe_str {a b : Str} : dLe (.str a) (.str b) = strLe a b := congrFun (congrFun (W.dataLe_str (fun x : Str => x)) a) b
theorem opSorted_strs {l : List Str} (ha : asc l = true) (hl : l.length ≤ 1000) (hs : ∀ a ∈ l, PyData.strOk a = true) : opSorted (strsD l) = some (.o (strsD l)) := by
  have h1 : sortOk (l.map .str) = true := by
    have e1 : (l.map PyData.str).all noTup = true := by simp [noTup]
    have e2 : (l.map PyData.str).all (fun d => (l.map PyData.str).all fun e => W.alike d e) = true := by
      simp [List.all_eq_true]
      intro a _ b _
      rfl
    have e3 : (l.map PyData.str).all (fun d => decide (d.depth ≤ 50)) = true := by simp [PyData.depth]
    have e4 : (l.map PyData.str).all PyData.canLay0 = true := by
      simp [PyData.canLay0]
      exact hs
    have e5 : decide ((l.map PyData.str).length ≤ 16777216) = true := by simp; omega
    unfold sortOk
    rw [e1, e2, e3, e4, e5]
    simp
  show (if (sortOk (l.map .str) || keyedOk (l.map .str)) = true then some (R.o (.list ((l.map PyData.str).mergeSort dLe))) else none) = _
  rw [if_pos (by rw [h1]; rfl), List.mergeSort_of_pairwise]
  rw [List.pairwise_map]
  exact (asc_pw.mp ha).imp fun h => by rw [dLe_str]; exact strLe_of h
@[simp] theorem items_l {ds : List D} : itemsOf (.list ds) = some ds := rfl
@[simp] theorem items_t {ds : List D} : itemsOf (.tuple ds) = some ds := rfl
section
variable {dt : List DefE} {wh : Nat} {P : Str → Prop} {s : Stg}
theorem sp_l_bad (hP : ∀ a, P a → isNmS a = true) (h1 : Has dt e__law_behind) (h2 : Has dt e__law_leads) (hf : Has dt e__law_bad) (hs : StgOk P 5 s) {lv : Nat} (hl : 9 ≤ lv) :
    LC (gN dt wh lv) "_law_bad" [.v (encS s)] fun r bs => r = .o (.list ((badL s).map .str)) ∧ bs = [] := by
  obtain ⟨lv, rfl⟩ : ∃ l, lv = l + 1 := ⟨lv - 1, by omega⟩
  refine LC.df hf rfl ?_
  have hs4 := hs.len
  have hok : ∀ a ∈ s.map (·.1), PyData.strOk a = true ∧ a.length ≤ 1000 := fun a ha => by
    obtain ⟨p, hp, rfl⟩ := List.mem_map.mp ha
    exact isNmS_ok (hP _ (hs.nm p hp))
  rw [← lawBad_eq hs]
  simp [e__law_bad]
  refine (sp_l_leads hP h1 h2 hs (by omega)).mono fun r bs ⟨h5, h6⟩ => ?_
  subst h5 h6
  simp
  refine l_forTy PyData.str ?_
  simp
  refine l_compPy PyData.str (fun a => !(adjS s a).isEmpty) PyData.str ?_
  have hk1 : ((ldL (s.map (·.1)) s).map fun p => (p.1, strsD p.2)).map (·.1) = s.map (·.1) := by simp [ldL, Function.comp_def]
  simp only [l_itM, l_vrM]
  simp [calmSl, hk1, -List.map_map]
  refine ⟨s.map (·.1), rfl, len_ok' (by simp; omega), fun x hx => ?_, _, rfl, ?_⟩
  · have hlk := ld_look hx
    have hsh : SeqAt.shaped (strsD (adjS s x)) = true := shp_strs fun a ha => hok a (adj_key ha)
    cases he : (adjS s x).isEmpty <;> simp [hlk, opNe_nilL hsh, he, -List.map_map]
  refine ⟨fun i e => Keep (∃ s1 s4 s5 s6, isBor (some s1) = false ∧ isBor (some s4) = false ∧ isBor (some s5) = false ∧ isBor (some s6) = false ∧
    e = [some (.val (encS s)), s1, some (.val (ldD (ldL (s.map (·.1)) s))), some (.own (strsD (((((s.map (·.1)).filter fun a => !(adjS s a).isEmpty).take i).filter (lawIn s))))), s4, s5, s6, none]), kp ⟨none, none, none, none, rfl, rfl, rfl, rfl, by simp⟩, ?_, ?_⟩
  · rintro i a e ha ⟨s1, s4, s5, s6, b1, b4, b5, b6, rfl⟩
    have ham := List.mem_of_getElem? ha
    have hak : a ∈ s.map (·.1) := (List.mem_filter.mp ham).1
    have hlk := ld_look hak
    simp [b1, b4, hlk, opList, -List.map_map]
    refine l_forTy PyData.str ?_
    simp [hk1, -List.map_map]
    refine ⟨s.map (·.1), rfl, fun j e => Keep (∃ s5 s6, isBor (some s5) = false ∧ isBor (some s6) = false ∧
      e = [some (.val (encS s)), some (.val (.str a)), some (.val (ldD (ldL (s.map (·.1)) s))), some (.own (strsD (((((s.map (·.1)).filter fun a => !(adjS s a).isEmpty).take i).filter (lawIn s))))), some (.own (strsD (RM.growN (adjS s) j (adjS s a)))), s5, s6, none]), kp ⟨s5, s6, b5, b6, rfl⟩, ?_, ?_⟩
    · rintro j x e hx ⟨s5, s6, b5, b6, rfl⟩
      simp [b5, -List.map_map]
      refine l_forTy PyData.str ?_
      simp [opList, -List.map_map]
      have hns := nsub.adj (s := s) (a := a) |>.grow (n := j)
      refine ⟨_, rfl, fun q e => Keep (∃ s6, isBor (some s6) = false ∧
        e = [some (.val (encS s)), some (.val (.str a)), some (.val (ldD (ldL (s.map (·.1)) s))), some (.own (strsD (((((s.map (·.1)).filter fun a => !(adjS s a).isEmpty).take i).filter (lawIn s))))), some (.own (strsD (((RM.growN (adjS s) j (adjS s a)).take q).foldl (stp s) (RM.growN (adjS s) j (adjS s a))))), some (.val (.str x)), s6, none]), kp ⟨s6, b6, rfl⟩, ?_, ?_⟩
      · rintro q y e hy ⟨s6, b6, rfl⟩
        have hyk := hns.2 y (List.mem_of_getElem? hy)
        have hlk2 := ld_look hyk
        have hn2 : nsub s (((RM.growN (adjS s) j (adjS s a)).take q).foldl (stp s) (RM.growN (adjS s) j (adjS s a))) := nsub.fold hns
        simp [b6, -List.map_map]
        refine l_compPy PyData.str (fun o => decide (o ∉ ((RM.growN (adjS s) j (adjS s a)).take q).foldl (stp s) (RM.growN (adjS s) j (adjS s a)))) PyData.str ?_
        have hfl := hn2.len hs4
        have hst : ∀ o ∈ ((RM.growN (adjS s) j (adjS s a)).take q).foldl (stp s) (RM.growN (adjS s) j (adjS s a)), PyData.strOk o = true := fun o ho => (hok o (hn2.2 o ho)).1
        have hnext : ((RM.growN (adjS s) j (adjS s a)).take (q + 1)).foldl (stp s) (RM.growN (adjS s) j (adjS s a)) = stp s (((RM.growN (adjS s) j (adjS s a)).take q).foldl (stp s) (RM.growN (adjS s) j (adjS s a))) y := by
          rw [List.take_add_one, hy]
          simp
        have hadl := (nsub.adj (s := s) (a := y)).len hs4
        generalize ((RM.growN (adjS s) j (adjS s a)).take q).foldl (stp s) (RM.growN (adjS s) j (adjS s a)) = acc at *
        simp [hlk2, calmSl, -List.map_map]
        refine ⟨adjS s y, rfl, len_ok' (by omega), fun o ho => ?_, ?_⟩
        · rw [opNotIn_strs (hok o (adj_key ho)).1 hst]
          by_cases hoa : o ∈ acc <;> simp [hoa]
        · have hfl2 := List.length_filter_le (fun o => !decide (o ∈ acc)) (adjS s y)
          rw [opAdd_lst (by simp only [List.length_map]; omega)]
          simp [-List.map_map]
          refine kp ⟨some (.val (.str y)), rfl, ?_⟩
          rw [hnext]
          simp [stp]
      · rintro e ⟨s6, b6, rfl⟩
        rw [List.take_length, ← grow_stp, ← growN_succ]
        exact kp ⟨_, _, rfl, b6, rfl⟩
    · rintro e ⟨s5, s6, b5, b6, rfl⟩
      have hns := nsub.adj (s := s) (a := a) |>.grow (n := s.length)
      have hin := opIn_strsL (w := a) (ws := RM.growN (adjS s) s.length (adjS s a)) (hok a hak).1 fun x hx => (hok x (hns.2 x hx)).1
      have hnext : ((((s.map (·.1)).filter fun a => !(adjS s a).isEmpty).take (i + 1)).filter (lawIn s)) = ((((s.map (·.1)).filter fun a => !(adjS s a).isEmpty).take i).filter (lawIn s)) ++ (if lawIn s a = true then [a] else []) := by
        rw [List.take_add_one, ha]
        simp [List.filter_cons]
      have hacl : ((((s.map (·.1)).filter fun a => !(adjS s a).isEmpty).take i).filter (lawIn s)).length ≤ 4 := by
        have h1 := List.length_filter_le (lawIn s) (((s.map (·.1)).filter fun a => !(adjS s a).isEmpty).take i)
        have h2 := List.length_filter_le (fun a => !(adjS s a).isEmpty) (s.map (·.1))
        rw [List.length_take] at h1
        simp only [List.length_map] at h2
        omega
      generalize ((((s.map (·.1)).filter fun a => !(adjS s a).isEmpty).take i).filter (lawIn s)) = acc at *
      simp only [List.length_map]
      by_cases hl : a ∈ RM.growN (adjS s) s.length (adjS s a)
      · have hla : lawIn s a = true := by simp [lawIn, hl]
        simp [hin, hl, isLstD, fApp_ok (show (acc.map PyData.str).length < 100000 by simp; omega), -List.map_map]
        refine kp ⟨some (.val (.str a)), some (.own (strsD (RM.growN (adjS s) s.length (adjS s a)))), s5, s6, rfl, rfl, b5, b6, ?_⟩
        rw [hnext, hla]
        simp
      · have hla : lawIn s a = false := by simp [lawIn, hl]
        simp [hin, hl, -List.map_map]
        refine kp ⟨some (.val (.str a)), some (.own (strsD (RM.growN (adjS s) s.length (adjS s a)))), s5, s6, rfl, rfl, b5, b6, ?_⟩
        rw [hnext, hla]
        simp
  · rintro e ⟨s1, s4, s5, s6, b1, b4, b5, b6, rfl⟩
    rw [List.take_length]
    have hbad : (((s.map (·.1)).filter fun a => !(adjS s a).isEmpty).filter (lawIn s)) = lawBad s := rfl
    rw [hbad]
    have hsub : (lawBad s).Sublist (s.map (·.1)) := List.filter_sublist.trans List.filter_sublist
    have hso := opSorted_strs (l := lawBad s) (asc_sub hs.asc hsub) (by
      have := hsub.length_le
      simp at this
      omega) fun a ha => (hok a (hsub.subset ha)).1
    simp [hso]
end
end RL
end
section
set_option Elab.async false
set_option linter.all false
set_option autoImplicit false
set_option maxRecDepth 100000
set_option maxHeartbeats 4000000
/-! T11: values of nodes and ways -/
namespace RL
open PySem PySem.Spec L2
open PyProof.Rows hiding St
def e_rules_of : DefE := ⟨"rules_of", [("sheet" : Str)], [("sheet" : Str), ("kind" : Str), ("settings" : Str)], [false], seqM (retM (opM [.eg (compM (itM (vrM 0)) (tgTup [tgName 1, tgName 2]) (trueM) (opV [vrM 1, opV [opM [.lz 2] (op1L opDict), callM "names_in_rings" [.v (vrM 2)]] opTup] opTup) [1, 2])] (op1L opDict))) (nilM)⟩
def e_values_below : DefE := ⟨"values_below", [("known" : Str), ("kind" : Str), ("above" : Str)], [("known" : Str), ("kind" : Str), ("above" : Str), ("rules" : Str), ("bad" : Str), ("name" : Str)], [false, false, false], seqM (asgM (tgTup [tgName 3, tgName 4]) (bin (.lz 0) (.lz 1) opIx3)) (seqM (retM (opM [.eg (compM (itM (vrM 2)) (tgName 5) (trueM) (opV [vrM 5, callM "value_by" [.v (opV [cM (.str "here"), vrM 5] opTup), .v (vrM 3), .v (vrM 4), .v (vrM 2)]] opTup) [5])] (op1L opDict))) (nilM))⟩
def e_values_from : DefE := ⟨"values_from", [("sheet" : Str), ("way" : Str), ("above" : Str)], [("sheet" : Str), ("way" : Str), ("above" : Str), ("known" : Str), ("kind" : Str)], [false, false, false], seqM (setM 3 (callM "rules_of" [.v (vrM 0)])) (seqM (forM (itM (vrM 1)) (tgName 4) (seqM (setM 2 (callM "values_below" [.v (vrM 3), .v (vrM 4), .v (vrM 2)])) (nilM))) (seqM (retM (mvM 2)) (nilM)))⟩
def e_no_values : DefE := ⟨"no_values", [("names" : Str)], [("names" : Str), ("name" : Str)], [false], seqM (retM (opM [.eg (compM (itM (vrM 0)) (tgName 1) (trueM) (opV [vrM 1, cM (.none)] opTup) [1])] (op1L opDict))) (nilM)⟩
def e_values_at : DefE := ⟨"values_at", [("sheet" : Str), ("way" : Str), ("names" : Str)], [("sheet" : Str), ("way" : Str), ("names" : Str)], [false, false, false], seqM (retM (callM "values_from" [.v (vrM 0), .v (vrM 1), .v (callM "no_values" [.v (vrM 2)])])) (nilM)⟩
def e_as_pairs : DefE := ⟨"as_pairs", [("values" : Str)], [("values" : Str), ("name" : Str)], [false], seqM (retM (opM [.eg (compM (itM (opM [.lz 0] (op1L opSorted))) (tgName 1) (trueM) (opV [vrM 1, bin (.lz 0) (.lz 1) opIx3] opTup) [1])] (op1L opTuple))) (nilM)⟩
def e_need_way : DefE := ⟨"need_way", [("sheet" : Str), ("value" : Str)], [("sheet" : Str), ("value" : Str)], [false, false], seqM (ifS (notM (tstM (callM "is_way" [.v (vrM 0), .v (vrM 1)]))) (seqM (stuckM) (nilM)) (nilM)) (nilM)⟩
def e_need_tree : DefE := ⟨"need_tree", [("sheet" : Str), ("value" : Str)], [("sheet" : Str), ("value" : Str)], [false, false], seqM (ifS (notM (tstM (callM "is_tree" [.v (vrM 0), .v (vrM 1)]))) (seqM (stuckM) (nilM)) (nilM)) (nilM)⟩
def e_values : DefE := ⟨"values", [("sheet" : Str), ("way" : Str)], [("sheet" : Str), ("way" : Str)], [false, false], seqM (exprM (callM "need_sheet" [.v (vrM 0)])) (seqM (exprM (callM "need_way" [.v (vrM 0), .v (vrM 1)])) (seqM (retM (callM "as_pairs" [.v (callM "values_at" [.v (vrM 0), .v (vrM 1), .v (callM "names_in" [.v (vrM 0)])])])) (nilM)))⟩
def e__law_machine : DefE := ⟨"_law_machine", [("sheet" : Str)], [("sheet" : Str), ("kind" : Str), ("settings" : Str)], [false], seqM (retM (opM [.eg (compM (itM (vrM 0)) (tgTup [tgName 1, tgName 2]) (trueM) (opV [vrM 1, opV [opM [.lz 2] (op1L opDict), callM "_law_bad" [.v (vrM 2)]] opTup] opTup) [1, 2])] (op1L opDict))) (nilM)⟩
def e__law_node : DefE := ⟨"_law_node", [("machine" : Str), ("kind" : Str), ("above" : Str), ("names" : Str)], [("machine" : Str), ("kind" : Str), ("above" : Str), ("names" : Str), ("rules" : Str), ("bad" : Str), ("name" : Str)], [false, false, false, false], seqM (asgM (tgTup [tgName 4, tgName 5]) (bin (.lz 0) (.lz 1) opIx3)) (seqM (retM (opM [.eg (compM (itM (vrM 3)) (tgName 6) (trueM) (opV [vrM 6, callM "_law_value" [.v (opV [cM (.str "here"), vrM 6] opTup), .v (vrM 4), .v (vrM 5), .v (vrM 2)]] opTup) [6])] (op1L opDict))) (nilM))⟩
def e__law_end : DefE := ⟨"_law_end", [("sheet" : Str), ("way" : Str), ("above" : Str), ("names" : Str)], [("sheet" : Str), ("way" : Str), ("above" : Str), ("names" : Str), ("machine" : Str), ("kind" : Str)], [false, false, false, false], seqM (setM 4 (callM "_law_machine" [.v (vrM 0)])) (seqM (forM (itM (vrM 1)) (tgName 5) (seqM (setM 2 (callM "_law_node" [.v (vrM 4), .v (vrM 5), .v (vrM 2), .v (vrM 3)])) (nilM))) (seqM (retM (mvM 2)) (nilM)))⟩
def e__law_pairs : DefE := ⟨"_law_pairs", [("known" : Str)], [("known" : Str), ("name" : Str)], [false], seqM (retM (opM [.eg (compM (itM (opM [.lz 0] (op1L opSorted))) (tgName 1) (trueM) (opV [vrM 1, bin (.lz 0) (.lz 1) opIx3] opTup) [1])] (op1L opTuple))) (nilM)⟩
abbrev Row := List (Str × Val)
def valAt (s : Stg) (ab : Row) (a : Str) : Val := (ev s (badL s) (look ab) 32 (.here a)).getD none
def nodeV (s : Stg) (ab : Row) : Row := ab.map fun p => (p.1, valAt s ab p.1)
def nodeK (sh : Sheet) (ab : Row) (k : Str) : Row := match sh.lookup k with
  | some s => nodeV s ab
  | none => ab
def endV (sh : Sheet) (ab : Row) (way : List Str) : Row := way.foldl (nodeK sh) ab
def nov (names : List Str) : Row := names.map fun a => (a, none)
def pairsV (ab : Row) : D := .tuple (ab.map fun p => .tuple [.str p.1, encV p.2])
abbrev kindD (s : Stg) : D := .tuple [rulesD s, strsD (badL s)]
abbrev knownD (sh : Sheet) : D := dct (sh.map fun p => (p.1, kindD p.2))
theorem stg_rules {P : Str → Prop} {n : Nat} {s : Stg} (h : StgOk P n s) : ∀ a r, s.lookup a = some r → RuleOk P n r := fun a r hr => h.rl _ (lookup_mem hr)
theorem val_is {P : Str → Prop} {s : Stg} {ab : Row} {a : Str} (h : StgOk P 5 s) (ha : P a) : ev s (badL s) (look ab) 32 (.here a) = some (valAt s ab a) := by
  have h4 := h.len
  obtain ⟨v, hv⟩ := ev_ends (s := s) (bad := badL s) (ab := look ab) (n := 32) (k := 1) (r := .here a) (vs := []) (stg_rules h) (fun a ha => bad_is.mpr ha) ha (by simp) (by simp) (by simp) (by simp; omega)
  unfold valAt
  rw [hv]
  rfl
theorem val_small {P : Str → Prop} {s : Stg} {ab : Row} {a : Str} {m : Nat} (h : StgOk P 5 s) (ha : P a) (hab : ∀ a, small m (look ab a)) : small (m + 224) (valAt s ab a) :=
  by
  have h1 := ev_small (n := 32) (stg_rules h) hab (k := 1) (r := .here a) ha (val_is h ha)
  have e : m + 7 * 32 = m + 224 := by omega
  rw [e] at h1
  exact h1
theorem look_map {f : Str → Val} {l : List Str} {a : Str} : look (l.map fun b => (b, f b)) a = if a ∈ l then f a else none := by
  unfold look
  induction l with
  | nil => rfl
  | cons b l ih =>
    rw [List.map_cons, List.lookup_cons]
    by_cases h : a = b
    · subst h; simp
    · have : (a == b) = false := by simp [h]
      rw [this]
      simp only [List.mem_cons, h, false_or]
      exact ih
theorem look_small {f : Str → Val} {l : List Str} {m : Nat} (h : ∀ a ∈ l, small m (f a)) (a : Str) : small m (look (l.map fun b => (b, f b)) a) := by
  rw [look_map]
  split
  · exact h a ‹_›
  · intro i hi; cases hi
theorem nodeV_eq {s : Stg} {ab : Row} : nodeV s ab = (ab.map (·.1)).map fun a => (a, valAt s ab a) := by simp [nodeV]
theorem nodeV_keys {s : Stg} {ab : Row} : (nodeV s ab).map (·.1) = ab.map (·.1) := by simp [nodeV]
theorem nodeK_keys {sh : Sheet} {ab : Row} {k : Str} : (nodeK sh ab k).map (·.1) = ab.map (·.1) := by
  unfold nodeK
  split
  · exact nodeV_keys
  · rfl
theorem endV_keys {sh : Sheet} : ∀ {way : List Str} {ab : Row}, (endV sh ab way).map (·.1) = ab.map (·.1)
  | [], _ => rfl
  | k :: way, ab => by
    show (endV sh (nodeK sh ab k) way).map (·.1) = _
    rw [endV_keys (way := way), nodeK_keys]
/-- a row of names that P tells, in order, below 2 ^ m -/
structure RowOk (P : Str → Prop) (m : Nat) (ab : Row) : Prop where
  nm : ∀ a ∈ ab.map (·.1), P a
  asc : asc (ab.map (·.1)) = true
  len : ab.length ≤ 60
  sm : ∀ a, small m (look ab a)
theorem RowOk.node {P : Str → Prop} {m : Nat} {ab : Row} {sh : Sheet} {k : Str} (r : RowOk P m ab) (ok : ShOk P 5 sh) : RowOk P (m + 224) (nodeK sh ab k) := by
  refine ⟨by rw [nodeK_keys]; exact r.nm, by rw [nodeK_keys]; exact r.asc, ?_, ?_⟩
  · have := congrArg List.length (nodeK_keys (sh := sh) (ab := ab) (k := k))
    simp only [List.length_map] at this
    rw [this]; exact r.len
  · unfold nodeK
    split
    · rename_i s hs
      rw [nodeV_eq]
      exact look_small fun a ha => val_small (ok.st _ (lookup_mem hs)) (r.nm a ha) r.sm
    · exact fun a => (r.sm a).up (by omega)
theorem RowOk.way {P : Str → Prop} {sh : Sheet} (ok : ShOk P 5 sh) : ∀ {way : List Str} {m : Nat} {ab : Row}, RowOk P m ab → RowOk P (m + 224 * way.length) (endV sh ab way)
  | [], m, ab, r => r
  | k :: way, m, ab, r => by
    have := RowOk.way ok (way := way) (r.node (k := k) ok)
    have e : m + 224 * (k :: way).length = m + 224 + 224 * way.length := by simp only [List.length_cons]; omega
    rw [e]
    exact this
theorem nov_ok {P : Str → Prop} {names : List Str} (h : ∀ a ∈ names, P a) (ha : RL.asc names = true) (hl : names.length ≤ 60) : RowOk P 0 (nov names) := by
  have e : (nov names).map (·.1) = names := by simp [nov, Function.comp_def]
  refine ⟨by rw [e]; exact h, by rw [e]; exact ha, by simpa [nov] using hl, fun a => ?_⟩
  exact look_small (f := fun _ => none) (fun a _ i hi => by cases hi) a
theorem row_nodup {P : Str → Prop} {m : Nat} {ab : Row} (r : RowOk P m ab) : (ab.map (·.1)).Nodup := asc_nodup r.asc
theorem lookup_of {β : Type} {a : Str} {b : β} : ∀ {l : List (Str × β)}, (l.map (·.1)).Nodup → (a, b) ∈ l → l.lookup a = some b
  | [], _, h => by cases h
  | (c, d) :: l, hn, h => by
    rw [List.lookup_cons]
    rw [List.map_cons, List.nodup_cons] at hn
    rcases List.mem_cons.mp h with h1 | h1
    · cases h1; simp
    · have : (a == c) = false := by
        simp only [beq_eq_false_iff_ne, ne_eq]
        intro e
        exact hn.1 (List.mem_map.mpr ⟨_, h1, e⟩)
      rw [this]
      exact lookup_of hn.2 h1
section
variable {dt : List DefE} {wh : Nat} {P : Str → Prop}
structure Rings (dt : List DefE) : Prop where
  po : Has dt e_parts_of
  ni : Has dt e_named_in
  lo : Has dt e_leads_of
  rf : Has dt e_rings_from
  ar : Has dt e_all_rings
  nr : Has dt e_names_in_rings
theorem Rings.bad (h : Rings dt) (hP : ∀ a, P a → isNmS a = true) {s : Stg} (hs : StgOk P 5 s) {lv : Nat} (hl : 10 ≤ lv) :
    LC (gN dt wh lv) "names_in_rings" [.v (encS s)] fun r bs => r = .o (strsD (badL s)) ∧ bs = [] := sp_names_in_rings hP h.po h.ni h.lo h.rf h.ar h.nr hs hl
theorem kinds_nodup {sh : Sheet} {n : Nat} (ok : ShOk P n sh) : (sh.map (·.1)).Nodup := asc_nodup ok.asc
theorem sp_rules_of (h : Rings dt) (hP : ∀ a, P a → isNmS a = true) (hf : Has dt e_rules_of) {sh : Sheet} (ok : ShOk P 5 sh) {lv : Nat} (hl : 11 ≤ lv) :
    LC (gN dt wh lv) "rules_of" [.v sh.enc] fun r bs => r = .o (knownD sh) ∧ bs = [] := by
  obtain ⟨lv, rfl⟩ : ∃ l, lv = l + 1 := ⟨lv - 1, by omega⟩
  refine LC.df hf rfl ?_
  have h4 := ok.l4
  simp [e_rules_of]
  refine l_compTy encK (fun p => .tuple [.str p.1, kindD p.2]) ?_
  simp [calmSl, Sheet.enc, Sheet.ds]
  refine ⟨sh, rfl, len_ok' (by omega), fun k s hp => ?_, ?_⟩
  · have hs : StgOk P 5 s := ok.st _ hp
    simp [encK, opDict_stg hs]
    refine (h.bad hP hs (by omega)).mono fun r bs ⟨h5, h6⟩ => ?_
    subst h5 h6
    simp
  · have := opDict_l (l := sh.map fun p => (p.1, kindD p.2)) (by simpa [Function.comp_def] using kinds_nodup ok) (by simp; omega)
    simp only [List.map_map, Function.comp_def] at this
    simp [this]
theorem sp_values_below (hP : ∀ a, P a → isNmS a = true) (hv : Has dt e_value_by) (hf : Has dt e_values_below) {sh : Sheet} (ok : ShOk P 5 sh) {ab : Row} {m : Nat} (ro : RowOk P m ab) (hm : m ≤ 1000000) {k : Str} (hk : k ∈ sh.map (·.1)) {lv : Nat} (hl : 34 ≤ lv) :
    LC (gN dt wh lv) "values_below" [.v (knownD sh), .v (.str k), .v (aboveD ab)] fun r bs => r = .o (aboveD (nodeK sh ab k)) ∧ bs = [] := by
  obtain ⟨lv, rfl⟩ : ∃ l, lv = l + 1 := ⟨lv - 1, by omega⟩
  refine LC.df hf rfl ?_
  obtain ⟨s, hs⟩ := Option.isSome_iff_exists.mp (lookup_isSome.mpr hk)
  have hso : StgOk P 5 s := ok.st _ (lookup_mem hs)
  have hr := ro.len
  have hbd : ∀ a ∈ badL s, PyData.strOk a = true := fun a ha => by
    obtain ⟨p, hp, rfl⟩ := List.mem_map.mp (bad_key ha)
    exact (isNmS_ok (hP _ (hso.nm p hp))).1
  simp [e_values_below, lookup_map, hs]
  refine l_compTy PyData.str (fun d => match d with | a => .tuple [.str a, encV (valAt s ab a)]) ?_
  simp [calmSl]
  refine ⟨ab.map (·.1), by simp, len_ok' (by simp; omega), fun a ha => ?_, ?_⟩
  · refine (sp_value_by (k := 1) (r := .here a) hP hv (stg_rules hso) ro.sm hbd hm (ro.nm a ha) (val_is hso (ro.nm a ha)) (by omega) (by omega)).mono fun r bs ⟨h5, h6⟩ => ?_
    subst h5 h6
    simp
  · have := opDict_l (l := (nodeV s ab).map fun p => (p.1, encV p.2)) (by simpa [Function.comp_def, nodeV] using row_nodup ro) (by simp [nodeV]; omega)
    simp only [List.map_map, Function.comp_def, nodeV] at this
    have e : nodeK sh ab k = nodeV s ab := by unfold nodeK; rw [hs]
    rw [e]
    simp [this, nodeV, Function.comp_def]
theorem sp_values_from (h : Rings dt) (hP : ∀ a, P a → isNmS a = true) (hv : Has dt e_value_by) (hro : Has dt e_rules_of) (hvb : Has dt e_values_below) (hf : Has dt e_values_from) {sh : Sheet} (ok : ShOk P 5 sh) {ab : Row} {m : Nat} (ro : RowOk P m ab) {way : List Str} (hm : m + 224 * way.length ≤ 1000000)
    (hk : ∀ k ∈ way, k ∈ sh.map (·.1)) {lv : Nat} (hl : 35 ≤ lv) :
    LC (gN dt wh lv) "values_from" [.v sh.enc, .v (.tuple (way.map .str)), .v (aboveD ab)] fun r bs => r.d = aboveD (endV sh ab way) ∧ bs = [] := by
  obtain ⟨lv, rfl⟩ : ∃ l, lv = l + 1 := ⟨lv - 1, by omega⟩
  refine LC.df hf rfl ?_
  simp [e_values_from]
  refine (sp_rules_of h hP hro ok (by omega)).mono fun r bs ⟨h5, h6⟩ => ?_
  subst h5 h6
  simp
  refine l_forTy PyData.str ?_
  simp
  refine ⟨way, rfl, fun i e => Keep (∃ s2 s3 s4, (s2 = some (.val (aboveD (endV sh ab (way.take i)))) ∨ s2 = some (.own (aboveD (endV sh ab (way.take i))))) ∧ (s3 = some (.val (knownD sh)) ∨ s3 = some (.own (knownD sh))) ∧ isBor (some s4) = false ∧
    e = [some (.val sh.enc), some (.val (.tuple (way.map .str))), s2, s3, s4]), kp ⟨_, _, none, .inl rfl, .inr rfl, rfl, rfl⟩, ?_, ?_⟩
  · rintro i k e hk2 ⟨s2, s3, s4, d2, d3, b4, rfl⟩
    have hkm := hk k (List.mem_of_getElem? hk2)
    have hlt : i < way.length := (List.getElem?_eq_some_iff.mp hk2).1
    have hr := RowOk.way ok (way := way.take i) ro
    have hle : 224 * (way.take i).length ≤ 224 * way.length := Nat.mul_le_mul_left _ (by rw [List.length_take]; omega)
    have sp := sp_values_below (wh := wh) (lv := lv) hP hv hvb ok hr (by omega) hkm (by omega)
    have hn : endV sh ab (way.take (i + 1)) = nodeK sh (endV sh ab (way.take i)) k := by
      rw [List.take_add_one, hk2]
      simp [endV]
    rcases d2 with rfl | rfl
    all_goals
      rcases d3 with rfl | rfl
      all_goals
        simp [b4]
        refine sp.mono fun r bs ⟨h7, h8⟩ => ?_
        subst h7 h8
        simp
        exact kp ⟨_, _, _, .inr (by rw [hn]), .inl rfl, rfl, rfl⟩
  · rintro e ⟨s2, s3, s4, d2, d3, b4, rfl⟩
    rw [List.take_length] at d2
    rcases d2 with rfl | rfl <;> simp
theorem sp_no_values (hf : Has dt e_no_values) {names : List Str} (hn : names.Nodup) (hl : names.length ≤ 60) {lv : Nat} (hlv : 1 ≤ lv) :
    LC (gN dt wh lv) "no_values" [.v (strsD names)] fun r bs => r = .o (aboveD (nov names)) ∧ bs = [] := by
  obtain ⟨lv, rfl⟩ : ∃ l, lv = l + 1 := ⟨lv - 1, by omega⟩
  refine LC.df hf rfl ?_
  simp [e_no_values]
  refine l_compTy PyData.str (fun a => .tuple [.str a, .none]) ?_
  simp [calmSl]
  refine ⟨names, rfl, len_ok' (by omega), ?_⟩
  have := opDict_l (l := names.map fun a => (a, PyData.none)) (by simpa [Function.comp_def] using hn) (by simp; omega)
  simp only [List.map_map, Function.comp_def] at this
  simp [this, nov, Function.comp_def, encV]
theorem sp_as_pairs (hf : Has dt e_as_pairs) {ab : Row} {m : Nat} (ro : RowOk P m ab) {lv : Nat} (hlv : 1 ≤ lv) :
    LC (gN dt wh lv) "as_pairs" [.v (aboveD ab)] fun r bs => r = .v (pairsV ab) ∧ bs = [] := by
  obtain ⟨lv, rfl⟩ : ∃ l, lv = l + 1 := ⟨lv - 1, by omega⟩
  refine LC.df hf rfl ?_
  have hlen := ro.len
  have hso := opSorted_sd (l := ab.map fun p => (p.1, encV p.2)) (by simp; omega)
  have hk : (ab.map fun p => (p.1, encV p.2)).map (·.1) = ab.map (·.1) := by simp
  rw [hk, List.mergeSort_of_pairwise ((asc_pw.mp ro.asc).imp fun h => strLe_of h)] at hso
  simp [e_as_pairs]
  refine l_compTy (fun p : Str × Val => .str p.1) (fun p => .tuple [.str p.1, encV p.2]) ?_
  simp [hso, calmSl, -List.map_map]
  refine ⟨ab, by simp, len_ok' (by omega), fun a v hav => ?_, ?_⟩
  · have hlk : (ab.map fun p => (p.1, encV p.2)).lookup a = some (encV v) := by
      rw [lookup_map, lookup_of (row_nodup ro) hav]; rfl
    simp [hlk]
  · simp [opTuple, pairsV]
theorem sp_values_at (h : Rings dt) (hP : ∀ a, P a → isNmS a = true) (hv : Has dt e_value_by) (hro : Has dt e_rules_of) (hvb : Has dt e_values_below) (hvf : Has dt e_values_from) (hnv : Has dt e_no_values) (hf : Has dt e_values_at) {sh : Sheet} (ok : ShOk P 5 sh)
    {names : List Str} (hn : ∀ a ∈ names, P a) (ha : asc names = true) (hnl : names.length ≤ 60) {way : List Str} (hm : way.length ≤ 1000) (hk : ∀ k ∈ way, k ∈ sh.map (·.1)) {lv : Nat} (hl : 36 ≤ lv) :
    LC (gN dt wh lv) "values_at" [.v sh.enc, .v (.tuple (way.map .str)), .v (strsD names)] fun r bs => r.d = aboveD (endV sh (nov names) way) ∧ bs = [] := by
  obtain ⟨lv, rfl⟩ : ∃ l, lv = l + 1 := ⟨lv - 1, by omega⟩
  refine LC.df hf rfl ?_
  simp [e_values_at]
  refine (sp_no_values hnv (asc_nodup ha) hnl (by omega)).mono fun r bs ⟨h5, h6⟩ => ?_
  subst h5 h6
  simp
  refine (sp_values_from h hP hv hro hvb hvf ok (nov_ok hn ha hnl) (by omega) hk (by omega)).mono fun r bs ⟨h5, h6⟩ => ?_
  subst h6
  simp [h5]
end
end RL
end
section
set_option Elab.async false
set_option linter.all false
set_option autoImplicit false
set_option maxRecDepth 100000
set_option maxHeartbeats 4000000
/-! T12: values of nodes and ways by the law -/
namespace RL
open PySem PySem.Spec L2
open PyProof.Rows hiding St
structure LRings (dt : List DefE) : Prop where
  be : Has dt e__law_behind
  le : Has dt e__law_leads
  ba : Has dt e__law_bad
section
variable {dt : List DefE} {wh : Nat} {P : Str → Prop}
theorem LRings.bad (h : LRings dt) (hP : ∀ a, P a → isNmS a = true) {s : Stg} (hs : StgOk P 5 s) {lv : Nat} (hl : 10 ≤ lv) :
    LC (gN dt wh lv) "_law_bad" [.v (encS s)] fun r bs => r = .o (strsD (badL s)) ∧ bs = [] := sp_l_bad hP h.be h.le h.ba hs (by omega)
theorem sp_l_machine (h : LRings dt) (hP : ∀ a, P a → isNmS a = true) (hf : Has dt e__law_machine) {sh : Sheet} (ok : ShOk P 5 sh) {lv : Nat} (hl : 11 ≤ lv) :
    LC (gN dt wh lv) "_law_machine" [.v sh.enc] fun r bs => r = .o (knownD sh) ∧ bs = [] := by
  obtain ⟨lv, rfl⟩ : ∃ l, lv = l + 1 := ⟨lv - 1, by omega⟩
  refine LC.df hf rfl ?_
  have h4 := ok.l4
  simp [e__law_machine]
  refine l_compTy encK (fun p => .tuple [.str p.1, kindD p.2]) ?_
  simp [calmSl, Sheet.enc, Sheet.ds]
  refine ⟨sh, rfl, len_ok' (by omega), fun k s hp => ?_, ?_⟩
  · have hs : StgOk P 5 s := ok.st _ hp
    simp [encK, opDict_stg hs]
    refine (h.bad hP hs (by omega)).mono fun r bs ⟨h5, h6⟩ => ?_
    subst h5 h6
    simp
  · have := opDict_l (l := sh.map fun p => (p.1, kindD p.2)) (by simpa [Function.comp_def] using kinds_nodup ok) (by simp; omega)
    simp only [List.map_map, Function.comp_def] at this
    simp [this]
theorem sp_l_node (hP : ∀ a, P a → isNmS a = true) (hv : Has dt e__law_value) (hf : Has dt e__law_node) {sh : Sheet} (ok : ShOk P 5 sh) {ab : Row} {m : Nat} (ro : RowOk P m ab) (hm : m ≤ 1000000) {k : Str} (hk : k ∈ sh.map (·.1)) {lv : Nat} (hl : 34 ≤ lv) :
    LC (gN dt wh lv) "_law_node" [.v (knownD sh), .v (.str k), .v (aboveD ab), .v (strsD (ab.map (·.1)))] fun r bs => r = .o (aboveD (nodeK sh ab k)) ∧ bs = [] := by
  obtain ⟨lv, rfl⟩ : ∃ l, lv = l + 1 := ⟨lv - 1, by omega⟩
  refine LC.df hf rfl ?_
  obtain ⟨s, hs⟩ := Option.isSome_iff_exists.mp (lookup_isSome.mpr hk)
  have hso : StgOk P 5 s := ok.st _ (lookup_mem hs)
  have hr := ro.len
  have hbd : ∀ a ∈ badL s, PyData.strOk a = true := fun a ha => by
    obtain ⟨p, hp, rfl⟩ := List.mem_map.mp (bad_key ha)
    exact (isNmS_ok (hP _ (hso.nm p hp))).1
  simp [e__law_node, lookup_map, hs]
  refine l_compTy PyData.str (fun d => match d with | a => .tuple [.str a, encV (valAt s ab a)]) ?_
  simp [calmSl]
  refine ⟨ab.map (·.1), by simp, len_ok' (by simp; omega), fun a ha => ?_, ?_⟩
  · refine (sp_l_value (k := 1) (r := .here a) hP hv (stg_rules hso) ro.sm hbd hm (ro.nm a ha) (val_is hso (ro.nm a ha)) (by omega) (by omega)).mono fun r bs ⟨h5, h6⟩ => ?_
    subst h5 h6
    simp
  · have := opDict_l (l := (nodeV s ab).map fun p => (p.1, encV p.2)) (by simpa [Function.comp_def, nodeV] using row_nodup ro) (by simp [nodeV]; omega)
    simp only [List.map_map, Function.comp_def, nodeV] at this
    have e : nodeK sh ab k = nodeV s ab := by unfold nodeK; rw [hs]
    rw [e]
    simp [this, nodeV, Function.comp_def]
theorem sp_l_end (h : LRings dt) (hP : ∀ a, P a → isNmS a = true) (hv : Has dt e__law_value) (hro : Has dt e__law_machine) (hvb : Has dt e__law_node) (hf : Has dt e__law_end) {sh : Sheet} (ok : ShOk P 5 sh) {ab : Row} {m : Nat} (ro : RowOk P m ab) {way : List Str} (hm : m + 224 * way.length ≤ 1000000)
    (hk : ∀ k ∈ way, k ∈ sh.map (·.1)) {lv : Nat} (hl : 35 ≤ lv) :
    LC (gN dt wh lv) "_law_end" [.v sh.enc, .v (.tuple (way.map .str)), .v (aboveD ab), .v (strsD (ab.map (·.1)))] fun r bs => r.d = aboveD (endV sh ab way) ∧ bs = [] := by
  obtain ⟨lv, rfl⟩ : ∃ l, lv = l + 1 := ⟨lv - 1, by omega⟩
  refine LC.df hf rfl ?_
  simp [e__law_end]
  refine (sp_l_machine h hP hro ok (by omega)).mono fun r bs ⟨h5, h6⟩ => ?_
  subst h5 h6
  simp
  refine l_forTy PyData.str ?_
  simp
  refine ⟨way, rfl, fun i e => Keep (∃ s2 s3 s4, (s2 = some (.val (aboveD (endV sh ab (way.take i)))) ∨ s2 = some (.own (aboveD (endV sh ab (way.take i))))) ∧ (s3 = some (.val (knownD sh)) ∨ s3 = some (.own (knownD sh))) ∧ isBor (some s4) = false ∧
    e = [some (.val sh.enc), some (.val (.tuple (way.map .str))), s2, some (.val (strsD (ab.map (·.1)))), s3, s4]), kp ⟨_, _, none, .inl rfl, .inr rfl, rfl, rfl⟩, ?_, ?_⟩
  · rintro i k e hk2 ⟨s2, s3, s4, d2, d3, b4, rfl⟩
    have hkm := hk k (List.mem_of_getElem? hk2)
    have hlt : i < way.length := (List.getElem?_eq_some_iff.mp hk2).1
    have hr := RowOk.way ok (way := way.take i) ro
    have hle : 224 * (way.take i).length ≤ 224 * way.length := Nat.mul_le_mul_left _ (by rw [List.length_take]; omega)
    have sp := sp_l_node (wh := wh) (lv := lv) hP hv hvb ok hr (by omega) hkm (by omega)
    rw [endV_keys] at sp
    have hn : endV sh ab (way.take (i + 1)) = nodeK sh (endV sh ab (way.take i)) k := by
      rw [List.take_add_one, hk2]
      simp [endV]
    rcases d2 with rfl | rfl
    all_goals
      rcases d3 with rfl | rfl
      all_goals
        simp [b4]
        refine sp.mono fun r bs ⟨h7, h8⟩ => ?_
        subst h7 h8
        simp
        exact kp ⟨_, _, _, .inr (by rw [hn]), .inl rfl, rfl, rfl⟩
  · rintro e ⟨s2, s3, s4, d2, d3, b4, rfl⟩
    rw [List.take_length] at d2
    rcases d2 with rfl | rfl <;> simp
theorem sp_l_pairs (hf : Has dt e__law_pairs) {ab : Row} {m : Nat} (ro : RowOk P m ab) {lv : Nat} (hlv : 1 ≤ lv) :
    LC (gN dt wh lv) "_law_pairs" [.v (aboveD ab)] fun r bs => r = .v (pairsV ab) ∧ bs = [] := by
  obtain ⟨lv, rfl⟩ : ∃ l, lv = l + 1 := ⟨lv - 1, by omega⟩
  refine LC.df hf rfl ?_
  have hlen := ro.len
  have hso := opSorted_sd (l := ab.map fun p => (p.1, encV p.2)) (by simp; omega)
  have hk : (ab.map fun p => (p.1, encV p.2)).map (·.1) = ab.map (·.1) := by simp
  rw [hk, List.mergeSort_of_pairwise ((asc_pw.mp ro.asc).imp fun h => strLe_of h)] at hso
  simp [e__law_pairs]
  refine l_compTy (fun p : Str × Val => .str p.1) (fun p => .tuple [.str p.1, encV p.2]) ?_
  simp [hso, calmSl, -List.map_map]
  refine ⟨ab, by simp, len_ok' (by omega), fun a v hav => ?_, ?_⟩
  · have hlk : (ab.map fun p => (p.1, encV p.2)).lookup a = some (encV v) := by
      rw [lookup_map, lookup_of (row_nodup ro) hav]; rfl
    simp [hlk]
  · simp [opTuple, pairsV]
end
end RL
end
section
set_option Elab.async false
set_option linter.all false
set_option autoImplicit false
set_option maxRecDepth 100000
set_option maxHeartbeats 4000000
/-! T13: places and values of trees -/
namespace RL
open PySem PySem.Spec L2
open PyProof.Rows hiding St
def e_all_places : DefE := ⟨"all_places", [("tree" : Str), ("place" : Str), ("way" : Str)], [("tree" : Str), ("place" : Str), ("way" : Str), ("found" : Str), ("kind" : Str), ("parts" : Str), ("at" : Str), ("part" : Str)], [false, false, false], seqM (asgM (tgTup [tgName 4, tgName 5]) (vrM 0)) (seqM (setM 3 (opV [opV [vrM 1, bin (.lz 2) (.eg (opV [vrM 4] opTup)) opAdd] opTup] opLst)) (seqM (forM (enumM (vrM 5)) (tgTup [tgName 6, tgName 7]) (seqM (setM 3 (bin (.lz 3) (.eg (callM "all_places" [.v (vrM 7), .v (bin (.lz 1) (.eg (opV [vrM 6] opTup)) opAdd), .v (bin (.lz 2) (.eg (opV [vrM 4] opTup)) opAdd)])) opAdd)) (nilM))) (seqM (retM (mvM 3)) (nilM))))⟩
def e_told : DefE := ⟨"told", [("sheet" : Str), ("tree" : Str)], [("sheet" : Str), ("tree" : Str), ("names" : Str), ("place" : Str), ("way" : Str)], [false, false], seqM (exprM (callM "need_sheet" [.v (vrM 0)])) (seqM (exprM (callM "need_tree" [.v (vrM 0), .v (vrM 1)])) (seqM (setM 2 (callM "names_in" [.v (vrM 0)])) (seqM (retM (compM (itM (callM "all_places" [.v (vrM 1), .v (opV [] opTup), .v (opV [] opTup)])) (tgTup [tgName 3, tgName 4]) (trueM) (opV [vrM 3, callM "as_pairs" [.v (callM "values_at" [.v (vrM 0), .v (vrM 4), .v (vrM 2)])]] opTup) [3, 4])) (nilM))))⟩
def e__law_nodes : DefE := ⟨"_law_nodes", [("machine" : Str), ("tree" : Str), ("place" : Str), ("above" : Str), ("names" : Str)], [("machine" : Str), ("tree" : Str), ("place" : Str), ("above" : Str), ("names" : Str), ("here" : Str), ("found" : Str), ("at" : Str), ("part" : Str)], [false, false, false, false, false], seqM (setM 5 (callM "_law_node" [.v (vrM 0), .v (bin (.lz 1) (.eg (cM (.int 0))) opIx3), .v (vrM 3), .v (vrM 4)])) (seqM (setM 6 (opV [opV [vrM 2, callM "_law_pairs" [.v (vrM 5)]] opTup] opLst)) (seqM (forM (enumM (bin (.lz 1) (.eg (cM (.int 1))) opIx3)) (tgTup [tgName 7, tgName 8]) (seqM (setM 6 (bin (.lz 6) (.eg (callM "_law_nodes" [.v (vrM 0), .v (vrM 8), .v (bin (.lz 2) (.eg (opV [vrM 7] opTup)) opAdd), .v (vrM 5), .v (vrM 4)])) opAdd)) (nilM))) (seqM (retM (mvM 6)) (nilM))))⟩
abbrev placeD (pl : List Nat) : D := .tuple (pl.map fun i => .int (i : Nat))
def plD (p : List Nat × List Str) : D := .tuple [placeD p.1, pathD p.2]
def rowD (p : List Nat × Row) : D := .tuple [placeD p.1, pairsV p.2]
mutual
def plT : Tree → List Nat → List Str → List (List Nat × List Str)
  | .nd k ts, pl, w => (pl, w ++ [k]) :: plTs ts 0 pl (w ++ [k])
def plTs : List Tree → Nat → List Nat → List Str → List (List Nat × List Str)
  | [], _, _, _ => []
  | t :: ts, i, pl, w => plT t (pl ++ [i]) w ++ plTs ts (i + 1) pl w
end
theorem plTs_flat : ∀ {ts : List Tree} {i : Nat} {pl : List Nat} {w : List Str}, plTs ts i pl w = (ts.zipIdx i).flatMap fun p => plT p.1 (pl ++ [p.2]) w
  | [], _, _, _ => by simp [plTs]
  | t :: ts, i, pl, w => by simp [plTs, plTs_flat (ts := ts)]
mutual
def ndT (sh : Sheet) : Tree → List Nat → Row → List (List Nat × Row)
  | .nd k ts, pl, ab => (pl, nodeK sh ab k) :: ndTs sh ts 0 pl (nodeK sh ab k)
def ndTs (sh : Sheet) : List Tree → Nat → List Nat → Row → List (List Nat × Row)
  | [], _, _, _ => []
  | t :: ts, i, pl, ab => ndT sh t (pl ++ [i]) ab ++ ndTs sh ts (i + 1) pl ab
end
theorem ndTs_flat {sh : Sheet} : ∀ {ts : List Tree} {i : Nat} {pl : List Nat} {ab : Row}, ndTs sh ts i pl ab = (ts.zipIdx i).flatMap fun p => ndT sh p.1 (pl ++ [p.2]) ab
  | [], _, _, _ => by simp [ndTs]
  | t :: ts, i, pl, w => by simp [ndTs, ndTs_flat (ts := ts)]
mutual
theorem nd_pl {sh : Sheet} {ab : Row} : ∀ (t : Tree) (pl : List Nat) (w : List Str), ndT sh t pl (endV sh ab w) = (plT t pl w).map fun p => (p.1, endV sh ab p.2)
  | .nd k ts, pl, w => by
    have e : nodeK sh (endV sh ab w) k = endV sh ab (w ++ [k]) := by simp [endV]
    simp only [ndT, plT, List.map_cons, e]
    rw [nds_pl ts 0 pl (w ++ [k])]
theorem nds_pl {sh : Sheet} {ab : Row} : ∀ (ts : List Tree) (i : Nat) (pl : List Nat) (w : List Str), ndTs sh ts i pl (endV sh ab w) = (plTs ts i pl w).map fun p => (p.1, endV sh ab p.2)
  | [], _, _, _ => by simp [ndTs, plTs]
  | t :: ts, i, pl, w => by
    simp only [ndTs, plTs, List.map_append]
    rw [nd_pl t (pl ++ [i]) w, nds_pl ts (i + 1) pl w]
end
def nb : Nat → Nat
  | 0 => 0
  | n + 1 => 1 + 3 * nb n
theorem nb6 {n : Nat} (h : n ≤ 6) : nb n ≤ 364 := by
  match n, h with
  | 0, _ => decide
  | 1, _ => decide
  | 2, _ => decide
  | 3, _ => decide
  | 4, _ => decide
  | 5, _ => decide
  | 6, _ => decide
theorem plT_len {ks : List Str} : ∀ {n : Nat} {t : Tree} {pl : List Nat} {w : List Str}, TreeOk ks n t → (plT t pl w).length ≤ nb n
  | 0, _, _, _, h => h.elim
  | n + 1, .nd k ts, pl, w, h => by
    simp only [plT, plTs_flat, List.length_cons, nb]
    have h1 := flat_lenA (l := ts.zipIdx 0) (f := fun p => plT p.1 (pl ++ [p.2]) (w ++ [k])) (b := nb n) fun p hp => plT_len (h.2.2 p.1 (List.fst_mem_of_mem_zipIdx hp))
    have h3 : ts.length ≤ 3 := h.2.1
    have h2 : (ts.zipIdx 0).length * nb n ≤ 3 * nb n := Nat.mul_le_mul_right _ (by simpa using h3)
    omega
theorem ndT_len {sh : Sheet} {ks : List Str} : ∀ {n : Nat} {t : Tree} {pl : List Nat} {w : Row}, TreeOk ks n t → (ndT sh t pl w).length ≤ nb n
  | 0, _, _, _, h => h.elim
  | n + 1, .nd k ts, pl, w, h => by
    simp only [ndT, ndTs_flat, List.length_cons, nb]
    have h1 := flat_lenA (l := ts.zipIdx 0) (f := fun p => ndT sh p.1 (pl ++ [p.2]) (nodeK sh w k)) (b := nb n) fun p hp => ndT_len (h.2.2 p.1 (List.fst_mem_of_mem_zipIdx hp))
    have h3 : ts.length ≤ 3 := h.2.1
    have h2 : (ts.zipIdx 0).length * nb n ≤ 3 * nb n := Nat.mul_le_mul_right _ (by simpa using h3)
    omega
theorem numbered_map {α : Type} {f : α → D} : ∀ {xs : List α} {i : Nat}, numbered i (xs.map f) = (xs.zipIdx i).map fun p => .tuple [.int (p.2 : Nat), f p.1]
  | [], _ => rfl
  | x :: xs, i => by simp [numbered, numbered_map (xs := xs)]
section
variable {dt : List DefE} {wh : Nat} {P : Str → Prop}
theorem sp_all_places (hf : Has dt e_all_places) {ks : List Str} : ∀ {n lv : Nat} {t : Tree} {pl : List Nat} {w : List Str}, TreeOk ks n t → n ≤ 6 → pl.length + n ≤ 100 → w.length + n ≤ 100 → n ≤ lv →
    LC (gN dt wh lv) "all_places" [.v t.enc, .v (placeD pl), .v (pathD w)] fun r bs => r = .o (.list ((plT t pl w).map plD)) ∧ bs = []
  | 0, _, _, _, _, h, _, _, _, _ => h.elim
  | n + 1, lv, .nd k ts, pl, w, h, h6, hpl, hw, hl => by
    obtain ⟨lv, rfl⟩ : ∃ l, lv = l + 1 := ⟨lv - 1, by omega⟩
    refine LC.df hf rfl ?_
    have h3 : ts.length ≤ 3 := h.2.1
    have hadd : opAdd (pathD w) (.tuple [.str k]) = some (.v (pathD (w ++ [k]))) := by
      rw [opAdd_tup (by simp; omega)]; simp
    have hnm : numbered 0 (ts.map Tree.enc) = (ts.zipIdx 0).map fun p => .tuple [.int (p.2 : Nat), p.1.enc] := numbered_map
    simp [e_all_places, Tree.enc, tencs_map, hadd]
    refine l_forTy (fun p : Tree × Nat => .tuple [.int (p.2 : Nat), p.1.enc]) ?_
    simp [seqOf, hnm]
    let F : Tree × Nat → List (List Nat × List Str) := fun p => plT p.1 (pl ++ [p.2]) (w ++ [k])
    have hFl : ∀ p ∈ ts.zipIdx 0, (F p).length ≤ 364 := fun p hp => Nat.le_trans (plT_len (h.2.2 p.1 (List.fst_mem_of_mem_zipIdx hp))) (nb6 (by omega))
    have htot : plT (.nd k ts) pl w = (pl, w ++ [k]) :: (ts.zipIdx 0).flatMap F := by simp only [plT, plTs_flat, F]
    refine ⟨ts.zipIdx 0, rfl, fun i e => Keep (∃ s6 s7, isBor (some s6) = false ∧ isBor (some s7) = false ∧
      e = [some (.val (.tuple [.str k, .tuple (ts.map Tree.enc)])), some (.val (placeD pl)), some (.val (pathD w)), some (.own (.list (((pl, w ++ [k]) :: ((ts.zipIdx 0).take i).flatMap F).map plD))), some (.val (.str k)), some (.val (.tuple (ts.map Tree.enc))), s6, s7]), kp ⟨none, none, rfl, rfl, rfl⟩, ?_, ?_⟩
    · rintro i t j e hx ⟨s6, s7, b6, b7, rfl⟩
      have hxm := List.mem_of_getElem? hx
      have hacc : (((ts.zipIdx 0).take i).flatMap F).length ≤ 1092 := by
        have h1 := flat_lenA (l := (ts.zipIdx 0).take i) (f := F) (b := 364) fun x hx => hFl x (List.mem_of_mem_take hx)
        have h2 : ((ts.zipIdx 0).take i).length * 364 ≤ 3 * 364 := Nat.mul_le_mul_right _ (by rw [List.length_take, List.length_zipIdx]; omega)
        omega
      have hadp : opAdd (placeD pl) (.tuple [.int (j : Nat)]) = some (.v (placeD (pl ++ [j]))) := by
        rw [opAdd_tup (by simp; omega)]; simp
      have hnx : ((pl, w ++ [k]) :: ((ts.zipIdx 0).take (i + 1)).flatMap F) = ((pl, w ++ [k]) :: ((ts.zipIdx 0).take i).flatMap F) ++ plT t (pl ++ [j]) (w ++ [k]) := by
        rw [List.take_add_one, hx]
        simp [F]
      have hlF := hFl _ hxm
      have ih := sp_all_places hf (n := n) (lv := lv) (t := t) (pl := pl ++ [j]) (w := w ++ [k]) (h.2.2 t (List.fst_mem_of_mem_zipIdx hxm)) (by omega) (by simp; omega) (by simp; omega) (by omega)
      generalize hA : ((pl, w ++ [k]) :: ((ts.zipIdx 0).take i).flatMap F) = A at *
      have hAl : A.length ≤ 1093 := by rw [← hA]; simp only [List.length_cons]; omega
      simp [b6, b7, hadp, hadd]
      refine ih.mono fun r bs ⟨h5, h6⟩ => ?_
      subst h5 h6
      simp
      rw [opAdd_lst2 (by simp only [List.length_map]; have : (plT t (pl ++ [j]) (w ++ [k])).length ≤ 364 := hlF; omega)]
      simp
      refine kp ⟨some (.val (.int j)), some (.val t.enc), rfl, rfl, ?_⟩
      rw [hnx, List.map_append]
      rfl
    · rintro e ⟨s6, s7, b6, b7, rfl⟩
      rw [List.take_length]
      simp [htot]
end
end RL
end
section
set_option Elab.async false
set_option linter.all false
set_option autoImplicit false
set_option maxRecDepth 100000
set_option maxHeartbeats 4000000
/-! T14: values of trees -/
namespace RL
open PySem PySem.Spec L2
open PyProof.Rows hiding St
/-- a typed comprehension whose parts may change slots, as J tells -/
theorem l_compTj {g : G} {e : En} {α : Type} {it : IM} {t : TM} {m : EM} {sl : List Nat} {Q : R → En → Prop} (en f : α → D) (h : LI it g e fun ds e1 => ∃ xs : List α, ds = xs.map en ∧ xs.length < sizeLine ∧ calmSl e1 sl = true ∧ ∃ J : En → Prop, J (wipeE e1 sl) ∧
    (∀ x ∈ xs, ∀ e, J e → Lo (t (en x) e) fun e2 => LE m g e2 fun r e4 => r.d = f x ∧ J (wipeE e4 sl)) ∧ ∀ e, J e → Q (.o (.list (xs.map f))) (backE e1 e sl)) : LE (compM it t trueM m sl) g e Q := by
  refine l_compI (LI.mono h fun ds e1 ⟨xs, h0, h1, h2, J, h3, h4, h5⟩ => ?_)
  subst h0
  refine ⟨by simpa using h1, h2, fun acc e => acc = (xs.map f).take acc.length ∧ J e, ⟨by simp, h3⟩, ?_, ?_⟩
  · rintro d acc e hd ⟨ha, hj⟩
    rw [List.getElem?_map] at hd
    obtain ⟨x, hx, rfl⟩ := Option.map_eq_some_iff.mp hd
    refine Wo.mono (h4 x (List.mem_of_getElem? hx) e hj) fun e2 h5 => LE.mono h5 fun r e4 ⟨h6, h7⟩ => ⟨?_, h7⟩
    rw [List.length_append, List.length_singleton, List.take_add_one, ← ha, List.getElem?_map, hx]
    simp [h6]
  · rintro acc e hl ⟨ha, hj⟩
    have : acc = xs.map f := by
      rw [ha, hl, List.length_map, List.take_of_length_le (by simp)]
    rw [this]
    exact h5 e hj
structure Rows (dt : List DefE) : Prop where
  rg : Rings dt
  prog : Prog dt
  iw : Has dt e_is_way
  itw : Has dt e_is_tree_within
  it : Has dt e_is_tree
  nw : Has dt e_need_way
  vb : Has dt e_value_by
  ro : Has dt e_rules_of
  vl : Has dt e_values_below
  vf : Has dt e_values_from
  nv : Has dt e_no_values
  va : Has dt e_values_at
  ap : Has dt e_as_pairs
structure LRows (dt : List DefE) : Prop where
  rg : LRings dt
  va : Has dt e__law_value
  ma : Has dt e__law_machine
  no : Has dt e__law_node
  en : Has dt e__law_end
  pa : Has dt e__law_pairs
/-- a sheet as it is asked: named by P, four names at most -/
structure Full (P : Str → Prop) (sh : Sheet) : Prop where
  hP : ∀ a, P a → isNmS a = true
  ok : ShOk P 5 sh
  n4 : sh.names.length ≤ 4
theorem GenSh.full {nk nn : Nat} {N : List Str} {sh : Sheet} (g : GenSh nk nn N sh) : Full (· ∈ N) sh := by
  refine ⟨g.N_nm, ?_, g.names4⟩
  have h := g.ok
  exact ⟨h.l1, h.l4, h.asc, h.kd, fun p hp => ⟨(h.st p hp).len, (h.st p hp).asc, (h.st p hp).nm, fun q hq => ((h.st p hp).rl q hq).mono (fun _ h => h) (by omega)⟩⟩
section
variable {P : Str → Prop} {sh : Sheet} (f : Full P sh)
include f
theorem Full.isSh : isSh sh.enc = true := isSh_enc f.hP (by omega) f.ok f.n4
theorem Full.gd : Gd 4 9 sh.enc := gd_sh f.hP f.ok
theorem Full.names : ∀ a ∈ sh.names, P a := fun a ha => Sheet.nm_in f.ok a (Sheet.names_mem.mp ha)
theorem Full.asc : asc sh.names = true := asc_srt
theorem Full.kd : sh.ds.map fstS = sh.map (·.1) := by simp [Sheet.ds, encK, fstS]
theorem Full.nmD : namesD sh.ds = sh.names := names_enc f.hP (by omega) f.ok
theorem Full.row : RowOk P 0 (nov sh.names) := nov_ok f.names f.asc (by have := f.n4; omega)
theorem Full.gdw {way : List Str} (hk : ∀ k ∈ way, k ∈ sh.map (·.1)) (hl : way.length ≤ 1000) : Gd 1000 1 (.tuple (way.map .str)) := ⟨by simpa using hl, fun d hd => by
  obtain ⟨a, ha, rfl⟩ := List.mem_map.mp hd
  obtain ⟨p, hp, rfl⟩ := List.mem_map.mp (hk a ha)
  exact gd_str (isNmS_ok (f.ok.kd p hp))⟩
end
/-- the values at the end of a way -/
def valuesT (sh : Sheet) (way : List Str) : Row := endV sh (nov sh.names) way
section
variable {dt : List DefE} {wh : Nat} {P : Str → Prop} {sh : Sheet}
theorem Full.need (f : Full P sh) (h : Prog dt) {lv : Nat} (hl : 11 ≤ lv) : LC (gN dt wh lv) "need_sheet" [.v sh.enc] fun r bs => r = .v .none ∧ bs = [] := h.need f.gd (by omega) (by omega) hl f.isSh
theorem Full.nin (f : Full P sh) (h : Prog dt) {lv : Nat} (hl : 8 ≤ lv) : LC (gN dt wh lv) "names_in" [.v sh.enc] fun r bs => r = .o (strsD sh.names) ∧ bs = [] := by
  obtain ⟨_, e, _, hd4, _, hkd, _⟩ := isSh_is f.isSh
  cases e
  have := sp_names_in (wh := wh) h.po h.ni h.na hd4 hkd hl
  rw [f.nmD] at this
  exact this
theorem Full.nway (f : Full P sh) (h : Rows dt) {way : List Str} (h1 : 1 ≤ way.length) (h10 : way.length ≤ 10) (hk : ∀ k ∈ way, k ∈ sh.map (·.1)) {lv : Nat} (hl : 13 ≤ lv) :
    LC (gN dt wh lv) "need_way" [.v sh.enc, .v (pathD way)] fun r bs => r = .v .none ∧ bs = [] := by
  obtain ⟨lv, rfl⟩ : ∃ l, lv = l + 1 := ⟨lv - 1, by omega⟩
  refine LC.df h.nw rfl ?_
  simp [e_need_way]
  refine (h.prog.way h.iw f.gd (by omega) (by omega) f.isSh (f.gdw hk (by omega)) (by omega) (by omega) (by omega)).mono fun r bs ⟨h3, h4⟩ => ?_
  subst h3 h4
  have : isWy (sh.ds.map fstS) (pathD way) = true := by
    rw [f.kd]
    simp [isWy, h1, h10, isKd]
    simpa using hk
  simp [this]
theorem Full.at (f : Full P sh) (h : Rows dt) {way : List Str} (hm : way.length ≤ 1000) (hk : ∀ k ∈ way, k ∈ sh.map (·.1)) {lv : Nat} (hl : 36 ≤ lv) :
    LC (gN dt wh lv) "values_at" [.v sh.enc, .v (pathD way), .v (strsD sh.names)] fun r bs => r.d = aboveD (valuesT sh way) ∧ bs = [] :=
  sp_values_at h.rg f.hP h.vb h.ro h.vl h.vf h.nv h.va f.ok f.names f.asc (by have := f.n4; omega) hm hk hl
theorem Full.rowT (f : Full P sh) {way : List Str} : RowOk P (0 + 224 * way.length) (valuesT sh way) := RowOk.way f.ok f.row
theorem Full.pairs (f : Full P sh) (h : Rows dt) {way : List Str} {lv : Nat} (hl : 1 ≤ lv) :
    LC (gN dt wh lv) "as_pairs" [.v (aboveD (valuesT sh way))] fun r bs => r = .v (pairsV (valuesT sh way)) ∧ bs = [] := sp_as_pairs h.ap f.rowT hl
theorem Full.values (f : Full P sh) (h : Rows dt) (hf : Has dt e_values) {way : List Str} (h1 : 1 ≤ way.length) (h10 : way.length ≤ 10) (hk : ∀ k ∈ way, k ∈ sh.map (·.1)) {lv : Nat} (hl : 37 ≤ lv) :
    LC (gN dt wh lv) "values" [.v sh.enc, .v (pathD way)] fun r bs => r = .v (pairsV (valuesT sh way)) ∧ bs = [] := by
  obtain ⟨lv, rfl⟩ : ∃ l, lv = l + 1 := ⟨lv - 1, by omega⟩
  refine LC.df hf rfl ?_
  simp [e_values]
  refine (f.need h.prog (by omega)).mono fun r bs ⟨h3, h4⟩ => ?_
  subst h3 h4
  simp
  refine (f.nway h h1 h10 hk (by omega)).mono fun r bs ⟨h3, h4⟩ => ?_
  subst h3 h4
  simp
  refine (f.nin h.prog (by omega)).mono fun r bs ⟨h3, h4⟩ => ?_
  subst h3 h4
  simp
  refine (f.at h (by omega) hk (by omega)).mono fun r bs ⟨h3, h4⟩ => ?_
  subst h4
  simp [h3]
  refine (f.pairs h (by omega)).mono fun r bs ⟨h3, h4⟩ => ?_
  subst h3 h4
  simp
theorem plT_way {ks : List Str} : ∀ {n : Nat} {t : Tree} {pl : List Nat} {w : List Str}, TreeOk ks n t → (∀ k ∈ w, k ∈ ks) → ∀ p ∈ plT t pl w, (∀ k ∈ p.2, k ∈ ks) ∧ 1 ≤ p.2.length ∧ p.2.length ≤ w.length + n
  | 0, _, _, _, h, _ => h.elim
  | n + 1, .nd k ts, pl, w, h, hw => by
    intro p hp
    have hw2 : ∀ x ∈ w ++ [k], x ∈ ks := fun x hx => by
      rcases List.mem_append.mp hx with hx | hx
      · exact hw x hx
      · simp at hx; subst hx; exact h.1
    simp only [plT, plTs_flat, List.mem_cons, List.mem_flatMap] at hp
    rcases hp with rfl | ⟨q, hq, hp⟩
    · exact ⟨hw2, by simp, by simp⟩
    · obtain ⟨g1, g2, g3⟩ := plT_way (h.2.2 q.1 (List.fst_mem_of_mem_zipIdx hq)) hw2 p hp
      exact ⟨g1, g2, by simp at g3; omega⟩
def toldT (sh : Sheet) (t : Tree) : List (List Nat × Row) := (plT t [] []).map fun p => (p.1, valuesT sh p.2)
theorem Full.told (f : Full P sh) (h : Rows dt) (hap : Has dt e_all_places) (hnt : Has dt e_need_tree) (hf : Has dt e_told) {t : Tree} (ht : TreeOk (sh.map (·.1)) 6 t) {lv : Nat} (hl : 37 ≤ lv) :
    LC (gN dt wh lv) "told" [.v sh.enc, .v t.enc] fun r bs => r = .o (.list ((toldT sh t).map rowD)) ∧ bs = [] := by
  obtain ⟨lv, rfl⟩ : ∃ l, lv = l + 2 := ⟨lv - 2, by omega⟩
  refine LC.df hf rfl ?_
  simp [e_told]
  refine (f.need h.prog (by omega)).mono fun r bs ⟨h3, h4⟩ => ?_
  subst h3 h4
  simp
  have hnt2 : LC (gN dt wh (lv + 1)) "need_tree" [.v sh.enc, .v t.enc] fun r bs => r = .v .none ∧ bs = [] := by
    refine LC.df hnt rfl ?_
    simp [e_need_tree]
    have hgt := gd_tree (fun a ha => by
      obtain ⟨p, hp, rfl⟩ := List.mem_map.mp ha
      exact f.ok.kd p hp) ht
    refine (h.prog.tree h.itw h.it f.gd (by omega) (by omega) f.isSh hgt (by omega) (by omega) (by omega)).mono fun r bs ⟨h3, h4⟩ => ?_
    subst h3 h4
    have : isTr (sh.ds.map fstS) 6 t.enc = true := by rw [f.kd]; exact isTr_enc ht
    simp [this]
  refine hnt2.mono fun r bs ⟨h3, h4⟩ => ?_
  subst h3 h4
  simp
  refine (f.nin h.prog (by omega)).mono fun r bs ⟨h3, h4⟩ => ?_
  subst h3 h4
  simp
  refine l_compTj plD (fun p => rowD (p.1, valuesT sh p.2)) ?_
  simp
  have hpl := sp_all_places (wh := wh) (lv := lv + 1) (pl := []) (w := []) hap ht (by omega) (by simp) (by simp) (by omega)
  refine hpl.mono fun r bs ⟨h3, h4⟩ => ?_
  subst h3 h4
  have hlen := Nat.le_trans (plT_len (pl := []) (w := []) ht) (nb6 (by omega))
  simp [calmSl]
  refine ⟨plT t [] [], rfl, len_ok' (by omega), fun e => Keep (∃ s2, (s2 = some (.own (strsD sh.names)) ∨ s2 = some (.val (strsD sh.names))) ∧ e = [some (.val sh.enc), some (.val t.enc), s2, none, none]), kp ⟨_, .inl rfl, rfl⟩, ?_, ?_⟩
  · rintro pl w hp e ⟨s2, d2, rfl⟩
    obtain ⟨g1, g2, g3⟩ := plT_way ht (by simp) _ hp
    simp at g3
    have sp := f.at h (way := w) (wh := wh) (lv := lv + 1) (by omega) g1 (by omega)
    have e0 : plD (pl, w) = .tuple [placeD pl, pathD w] := rfl
    rcases d2 with rfl | rfl
    all_goals
      simp [e0]
      refine sp.mono fun r bs ⟨h5, h6⟩ => ?_
      subst h6
      simp [h5]
      refine (f.pairs h (by omega)).mono fun r bs ⟨h7, h8⟩ => ?_
      subst h7 h8
      simp [rowD]
      exact kp ⟨_, .inr rfl, rfl⟩
  · rintro e ⟨s2, d2, rfl⟩
    simp [toldT, List.map_map, Function.comp_def]
end
end RL
end
section
set_option Elab.async false
set_option linter.all false
set_option autoImplicit false
set_option maxRecDepth 100000
set_option maxHeartbeats 4000000
/-! T15: values of trees by the law -/
namespace RL
open PySem PySem.Spec L2
open PyProof.Rows hiding St
section
variable {dt : List DefE} {wh : Nat} {P : Str → Prop} {sh : Sheet}
theorem sp_l_nodes (f : Full P sh) (h : LRows dt) (hf : Has dt e__law_nodes) : ∀ {n lv m : Nat} {t : Tree} {pl : List Nat} {ab : Row}, TreeOk (sh.map (·.1)) n t → RowOk P m ab → m + 224 * n ≤ 100000 → n ≤ 6 → pl.length + n ≤ 100 → n + 36 ≤ lv →
    LC (gN dt wh lv) "_law_nodes" [.v (knownD sh), .v t.enc, .v (placeD pl), .v (aboveD ab), .v (strsD (ab.map (·.1)))] fun r bs => r = .o (.list ((ndT sh t pl ab).map rowD)) ∧ bs = []
  | 0, _, _, _, _, _, h, _, _, _, _, _ => h.elim
  | n + 1, lv, m, .nd k ts, pl, ab, ht, ro, hm, h6, hpl, hl => by
    obtain ⟨lv, rfl⟩ : ∃ l, lv = l + 1 := ⟨lv - 1, by omega⟩
    refine LC.df hf rfl ?_
    have h3 : ts.length ≤ 3 := ht.2.1
    have hnm : numbered 0 (ts.map Tree.enc) = (ts.zipIdx 0).map fun p => .tuple [.int (p.2 : Nat), p.1.enc] := numbered_map
    have ro2 := ro.node (k := k) f.ok
    simp [e__law_nodes, Tree.enc, tencs_map]
    refine (sp_l_node f.hP h.va h.no f.ok ro (by omega) ht.1 (by omega)).mono fun r bs ⟨h7, h8⟩ => ?_
    subst h7 h8
    simp
    refine (sp_l_pairs h.pa ro2 (by omega)).mono fun r bs ⟨h7, h8⟩ => ?_
    subst h7 h8
    simp
    refine l_forTy (fun p : Tree × Nat => .tuple [.int (p.2 : Nat), p.1.enc]) ?_
    simp [seqOf, hnm]
    let F : Tree × Nat → List (List Nat × Row) := fun p => ndT sh p.1 (pl ++ [p.2]) (nodeK sh ab k)
    have hFl : ∀ p ∈ ts.zipIdx 0, (F p).length ≤ 364 := fun p hp => Nat.le_trans (ndT_len (ht.2.2 p.1 (List.fst_mem_of_mem_zipIdx hp))) (nb6 (by omega))
    have htot : ndT sh (.nd k ts) pl ab = (pl, nodeK sh ab k) :: (ts.zipIdx 0).flatMap F := by simp only [ndT, ndTs_flat, F]
    refine ⟨ts.zipIdx 0, rfl, fun i e => Keep (∃ s5 s7 s8, (s5 = some (.own (aboveD (nodeK sh ab k))) ∨ s5 = some (.val (aboveD (nodeK sh ab k)))) ∧ isBor (some s7) = false ∧ isBor (some s8) = false ∧
      e = [some (.val (knownD sh)), some (.val (.tuple [.str k, .tuple (ts.map Tree.enc)])), some (.val (placeD pl)), some (.val (aboveD ab)), some (.val (strsD (ab.map (·.1)))), s5, some (.own (.list (((pl, nodeK sh ab k) :: ((ts.zipIdx 0).take i).flatMap F).map rowD))), s7, s8]), kp ⟨_, none, none, .inr rfl, rfl, rfl, rfl⟩, ?_, ?_⟩
    · rintro i t j e hx ⟨s5, s7, s8, d5, b7, b8, rfl⟩
      have hxm := List.mem_of_getElem? hx
      have hacc : (((ts.zipIdx 0).take i).flatMap F).length ≤ 1092 := by
        have h1 := flat_lenA (l := (ts.zipIdx 0).take i) (f := F) (b := 364) fun x hx => hFl x (List.mem_of_mem_take hx)
        have h2 : ((ts.zipIdx 0).take i).length * 364 ≤ 3 * 364 := Nat.mul_le_mul_right _ (by rw [List.length_take, List.length_zipIdx]; omega)
        omega
      have hadp : opAdd (placeD pl) (.tuple [.int (j : Nat)]) = some (.v (placeD (pl ++ [j]))) := by
        rw [opAdd_tup (by simp; omega)]; simp
      have hnx : ((pl, nodeK sh ab k) :: ((ts.zipIdx 0).take (i + 1)).flatMap F) = ((pl, nodeK sh ab k) :: ((ts.zipIdx 0).take i).flatMap F) ++ ndT sh t (pl ++ [j]) (nodeK sh ab k) := by
        rw [List.take_add_one, hx]
        simp [F]
      have hlF := hFl _ hxm
      have ih := sp_l_nodes f h hf (n := n) (lv := lv) (t := t) (pl := pl ++ [j]) (ab := nodeK sh ab k) (ht.2.2 t (List.fst_mem_of_mem_zipIdx hxm)) ro2 (by omega) (by omega) (by simp; omega) (by omega)
      rw [nodeK_keys] at ih
      generalize hA : ((pl, nodeK sh ab k) :: ((ts.zipIdx 0).take i).flatMap F) = A at *
      have hAl : A.length ≤ 1093 := by rw [← hA]; simp only [List.length_cons]; omega
      rcases d5 with rfl | rfl
      all_goals
        simp [b7, b8, hadp]
        refine ih.mono fun r bs ⟨h5, h6⟩ => ?_
        subst h5 h6
        simp
        rw [opAdd_lst2 (by simp only [List.length_map]; have : (ndT sh t (pl ++ [j]) (nodeK sh ab k)).length ≤ 364 := hlF; omega)]
        simp
        refine kp ⟨_, some (.val (.int j)), some (.val t.enc), .inr rfl, rfl, rfl, ?_⟩
        rw [hnx, List.map_append]
        rfl
    · rintro e ⟨s5, s7, s8, d5, b7, b8, rfl⟩
      rw [List.take_length]
      simp [htot]
end
end RL
end
section
set_option Elab.async false
set_option linter.all false
set_option autoImplicit false
set_option maxRecDepth 100000
set_option maxHeartbeats 4000000
/-! S22: the law's names; sheets, trees, ways by the law -/
namespace RL
open PySem PySem.Spec L2
open PyProof.Rows hiding St
section
variable {dt : List DefE} {wh : Nat}
theorem sp_l_names (hn : Has dt e__law_behind) (hf : Has dt e__law_names) {lv : Nat} {ds : List D} (hl4 : ds.length ≤ 4) (hk : ∀ p ∈ ds, KdOk p) (hl : 8 ≤ lv) :
    LC (gN dt wh lv) "_law_names" [.v (.tuple ds)] fun r bs => r = .o (.list ((namesD ds).map .str)) ∧ bs = [] := by
  obtain ⟨lv, rfl⟩ : ∃ l, lv = l + 1 := ⟨lv - 1, by omega⟩
  refine LC.df hf rfl ?_
  simp [e__law_names]
  refine l_forA ?_
  simp [itemsOf, seqOf]
  refine ⟨fun left e => ∃ done s2 s3 s4 s5, ds = done ++ left ∧ isBor (some s2) = false ∧ isBor (some s3) = false ∧ isBor (some s4) = false ∧ isBor (some s5) = false ∧ e = [some (.val (.tuple ds)), some (.own (.list ((allN done).map .str))), s2, s3, s4, s5], ⟨[], none, none, none, none, rfl, rfl, rfl, rfl, rfl, by simp [allN]⟩, ?_, ?_⟩
  · rintro p left e ⟨done, s2, s3, s4, s5, h5, b2, b3, b4, b5, rfl⟩
    obtain ⟨a, qs, rfl, hq4, hq⟩ := hk p (by rw [h5]; simp)
    have hdone : (allN done).length ≤ 1952 := allN_len (by have := congrArg List.length h5; simp at this; omega) fun p hp => hk p (by rw [h5]; simp [hp])
    simp [b2, b3]
    refine l_forA ?_
    simp [itemsOf, seqOf]
    refine ⟨fun qleft e => ∃ qdone s4 s5, qs = qdone ++ qleft ∧ isBor (some s4) = false ∧ isBor (some s5) = false ∧ e = [some (.val (.tuple ds)), some (.own (.list ((allN done ++ qdone.flatMap stgN).map .str))), some (.val (.str a)), some (.val (.tuple qs)), s4, s5], ⟨[], s4, s5, rfl, b4, b5, by simp⟩, ?_, ?_⟩
    · rintro q qleft e ⟨qdone, s4, s5, h6, b4, b5, rfl⟩
      obtain ⟨b, r, rfl, hr⟩ := hq q (by rw [h6]; simp)
      have hqd : (qdone.flatMap stgN).length ≤ 488 := by
        have h1 := flat_len (ds := qdone) (f := stgN) (b := 122) fun q h => stgN_len (hq q (by rw [h6]; simp [h]))
        have h2 := congrArg List.length h6
        simp at h2
        have h3 : qdone.length * 122 ≤ 4 * 122 := Nat.mul_le_mul_right _ (by omega)
        omega
      have hbl := behind_len (ws := hu) hr
      have e5 : bnd 5 = 121 := by decide
      simp [b4, b5]
      rw [opAdd_lst2 (by simp only [List.length_map, List.length_append, List.length_cons, List.length_nil]; omega)]
      simp
      refine (sp_l_behind (ws := hu) hn (by simp [hu]) hr (by omega) (by omega)).mono fun r' bs ⟨h3, h4⟩ => ?_
      subst h3 h4
      simp
      rw [opAdd_lst2 (by simp only [List.length_map, List.length_append, List.length_cons, List.length_nil]; omega)]
      simp
      refine ⟨qdone ++ [.tuple [.str b, r]], by simp [h6], ?_⟩
      simp [stgN, fstS, sndD]
    · rintro e ⟨qdone, s4, s5, h6, b4, b5, rfl⟩
      simp at h6
      subst h6
      refine ⟨done ++ [.tuple [.str a, .tuple qs]], by simp [h5], ?_⟩
      simp [allN, knN, kidsD, sndD, b4, b5]
      exact ⟨_, rfl, _, rfl, _, b4, _, b5, rfl, rfl, rfl, rfl⟩
  · rintro e ⟨done, s2, s3, s4, s5, h5, b2, b3, b4, b5, rfl⟩
    simp at h5
    subst h5
    have := allN_len hl4 hk
    simp
    rw [opSortSet_map (by omega)]
    simp [namesD]
def okP (p : D) : Bool := isRi 4 (sndD p) && (kidsD (sndD p)).all fun q => isW 5 (sndD q)
theorem okP_is {a : Str} {x : D} : okP (.tuple [.str a, x]) = (isRi 4 x && (kidsD x).all fun q => isW 5 (sndD q)) := rfl
theorem kidsD_t {qs : List D} : kidsD (.tuple qs) = qs := rfl
theorem okP_kd {a : Str} {x : D} (h : okP (.tuple [.str a, x]) = true) : KdOk (.tuple [.str a, x]) := by
  rw [okP_is, Bool.and_eq_true] at h
  obtain ⟨h1, h2⟩ := h
  cases x with
  | tuple qs =>
    rw [kidsD_t] at h2
    simp [isRi] at h1
    refine ⟨a, qs, rfl, h1.1, fun q hq => ?_⟩
    obtain ⟨b, y, rfl, _⟩ := isPr_is (h1.2.1 q hq)
    exact ⟨b, y, rfl, List.all_eq_true.mp h2 _ hq⟩
  | _ => cases h1
theorem isSh_ri {ds : List D} : isSh (.tuple ds) = (isRi 4 (.tuple ds) && (!ds.isEmpty && (ds.all okP && decide ((namesD ds).length ≤ 4)))) := by
  have e : ds.all (fun p => isPr p && isSet (sndD p)) = (ds.all isPr && ds.all okP) := by
    rw [Bool.eq_iff_iff]
    simp only [List.all_eq_true, Bool.and_eq_true]
    have k : ∀ x : D, isSet x = (isRi 4 x && (kidsD x).all fun q => isW 5 (sndD q)) := by
      intro x
      cases x with
      | tuple qs =>
        show (decide (qs.length ≤ 4) && (qs.all (fun p => isPr p && isW 5 (sndD p)) && asc (qs.map fstS))) = ((decide (qs.length ≤ 4) && (qs.all isPr && asc (qs.map fstS))) && qs.all fun q => isW 5 (sndD q))
        rw [Bool.eq_iff_iff]
        simp only [List.all_eq_true, Bool.and_eq_true]
        constructor
        · rintro ⟨h1, h2, h3⟩
          exact ⟨⟨h1, fun q hq => (h2 q hq).1, h3⟩, fun q hq => (h2 q hq).2⟩
        · rintro ⟨⟨h1, h2, h3⟩, h4⟩
          exact ⟨h1, fun q hq => ⟨h2 q hq, h4 q hq⟩, h3⟩
      | _ => rfl
    constructor
    · intro h
      exact ⟨fun p hp => (h p hp).1, fun p hp => by have := (h p hp).2; rw [k] at this; exact this⟩
    · rintro ⟨h1, h2⟩ p hp
      exact ⟨h1 p hp, by rw [k]; exact h2 p hp⟩
  show ((decide (1 ≤ ds.length) && decide (ds.length ≤ 4)) && (ds.all (fun p => isPr p && isSet (sndD p)) && asc (ds.map fstS) && decide ((namesD ds).length ≤ 4))) = ((decide (ds.length ≤ 4) && (ds.all isPr && asc (ds.map fstS))) && (!ds.isEmpty && (ds.all okP && decide ((namesD ds).length ≤ 4))))
  rw [e]
  have e2 : decide (1 ≤ ds.length) = !ds.isEmpty := by cases ds <;> simp
  rw [e2]
  cases ds.isEmpty <;> cases decide (ds.length ≤ 4) <;> cases ds.all isPr <;> cases ds.all okP <;> cases asc (ds.map fstS) <;> simp
theorem sp_l_sheet (hi : Has dt e__law_is_number) (hw : Has dt e__law_is_word) (hr : Has dt e__law_is_rule) (hri : Has dt e__law_rising) (hb : Has dt e__law_behind) (hn : Has dt e__law_names) (hf : Has dt e__law_is_sheet) {lv m k : Nat} {v : D} (hv : Gd m k v) (hk : k ≤ 60) (hm : m ≤ 999) (hl : 10 ≤ lv) :
    LC (gN dt wh lv) "_law_is_sheet" [.v v] fun r bs => r = .v (.bool (isSh v)) ∧ bs = [] := by
  obtain ⟨lv, rfl⟩ : ∃ l, lv = l + 1 := ⟨lv - 1, by omega⟩
  refine LC.df hf rfl ?_
  simp [e__law_is_sheet]
  refine (sp_l_rising (n := 4) hw hri hv hk hm (by omega) (by omega)).mono fun r bs ⟨h3, h4⟩ => ?_
  subst h3 h4
  cases v with
  | tuple ds =>
    obtain ⟨k, rfl, h1, h2⟩ := hv.tup
    rw [isSh_ri]
    cases hri4 : isRi 4 (.tuple ds) with
    | false => simp
    | true =>
      simp [opEq_nilT (hv.shp (by omega))]
      cases hds : ds.isEmpty with
      | true => simp
      | false =>
        have hpr : ∀ p ∈ ds, isPr p = true := by
          simp [isRi] at hri4
          exact hri4.2.1
        have hd4 : ds.length ≤ 4 := by
          simp [isRi] at hri4
          exact hri4.1
        simp
        refine l_forA ?_
        simp [itemsOf, seqOf]
        refine ⟨fun left e => Keep (∃ (done : List D) (s1 s2 : Option Sl), ds = done ++ left ∧ (∀ p ∈ done, okP p = true) ∧ isBor (some s1) = false ∧ isBor (some s2) = false ∧ e = [some (.val (.tuple ds)), s1, s2, none, none]), kp ⟨[], none, none, rfl, by simp, rfl, rfl, rfl⟩, ?_, ?_⟩
        · rintro p left e ⟨done, s1, s2, h5, h6, b1, b2, rfl⟩
          have hp := h2 p (by rw [h5]; simp)
          obtain ⟨a, x, rfl, ha⟩ := isPr_is (hpr p (by rw [h5]; simp))
          obtain ⟨k, rfl, _, h7⟩ := hp.tup
          have hno : okP (.tuple [.str a, x]) = false → ds.all okP = false := fun h => by
            rw [h5]
            simp [h]
          simp [b1, b2]
          refine (sp_l_rising (n := 4) hw hri (h7 x (by simp)) (by omega) hm (by omega) (by omega)).mono fun r bs ⟨h3, h4⟩ => ?_
          subst h3 h4
          cases hx : isRi 4 x with
          | false => simp [hno (by simp [okP_is, hx])]
          | true =>
            simp
            have hxt : ∃ qs, x = .tuple qs ∧ qs.length ≤ 4 ∧ ∀ q ∈ qs, isPr q = true := by
              cases x with
              | tuple qs =>
                simp [isRi] at hx
                exact ⟨qs, rfl, hx.1, hx.2.1⟩
              | _ => cases hx
            obtain ⟨qs, rfl, hq4, hqp⟩ := hxt
            obtain ⟨k, rfl, _, h8⟩ := (h7 (.tuple qs) (by simp)).tup
            refine l_compP (fun q => !isW 5 (sndD q)) (fun _ => .int 1) ?_
            have hql : qs.length < sizeLine := len_ok' (by omega)
            simp [itemsOf, seqOf, calmSl, hql]
            refine ⟨fun q hq => ?_, ?_⟩
            · obtain ⟨b, y, rfl, hb⟩ := isPr_is (hqp q hq)
              obtain ⟨k, rfl, _, h9⟩ := (h8 _ hq).tup
              simp
              refine (sp_l_rule (n := 5) hi hw hr (h9 y (by simp)) (by omega) hm (by omega)).mono fun r bs ⟨h3, h4⟩ => ?_
              subst h3 h4
              cases hy : isW 5 y <;> simp [sndD, hy]
            · have hgd : Gd 999 1 (.list (List.map (fun _ => PyData.int 1) (List.filter (fun q => !isW 5 (sndD q)) qs))) := ⟨by
                simp only [List.length_map]
                have := List.length_filter_le (fun q => !isW 5 (sndD q)) qs
                omega, fun d hd => by
                obtain ⟨_, _, rfl⟩ := List.mem_map.mp hd
                exact gd_int⟩
              rw [opNe_nilL (hgd.shp (by omega))]
              cases hall : qs.all fun q => isW 5 (sndD q) with
              | true =>
                have e : (List.map (fun _ => PyData.int 1) (List.filter (fun q => !isW 5 (sndD q)) qs)).isEmpty = true := by
                  simp at hall ⊢
                  exact hall
                simp only [e]
                simp
                refine kp ⟨done ++ [.tuple [.str a, .tuple qs]], some (.val (.str a)), some (.val (.tuple qs)), by simp [h5], ?_, rfl, rfl, rfl⟩
                intro p hp
                rcases List.mem_append.mp hp with hp | hp
                · exact h6 p hp
                · simp at hp; subst hp
                  rw [okP_is, hx, kidsD_t, hall]; rfl
              | false =>
                have e : (List.map (fun _ => PyData.int 1) (List.filter (fun q => !isW 5 (sndD q)) qs)).isEmpty = false := by
                  rw [← Bool.not_eq_true]
                  intro z
                  simp at z
                  have : (qs.all fun q => isW 5 (sndD q)) = true := by simpa using z
                  rw [this] at hall
                  cases hall
                simp only [e]
                simp [hno (by rw [okP_is, hx, kidsD_t, hall]; rfl)]
        · rintro e ⟨done, s1, s2, h5, h6, b1, b2, rfl⟩
          simp at h5
          subst h5
          have hall : ds.all okP = true := List.all_eq_true.mpr h6
          simp
          refine (sp_l_names hb hn hd4 (fun p hp => ?_) (by omega)).mono fun r bs ⟨h3, h4⟩ => ?_
          · obtain ⟨a, x, rfl, ha⟩ := isPr_is (hpr p hp)
            exact okP_kd (h6 _ hp)
          · subst h3 h4
            simp [hall]
            omega
  | _ => simp [isRi, isSh]
end
end RL
end
section
set_option Elab.async false
set_option linter.all false
set_option autoImplicit false
set_option maxRecDepth 100000
set_option maxHeartbeats 4000000
/-! V0: what laws want at their end -/
namespace RL
open PySem PySem.Spec L2
open PyProof.Rows hiding St
theorem lvr_ov {e : En} {i : Nat} {s : Option Sl} {d : D} {Q : R → En → Prop} (h : s = some (.own d) ∨ s = some (.val d)) (he : e[i]? = some s) : Lvr (some s) e i Q = Q (.v d) (e.set i (some (.val d))) := by
  rcases h with rfl | rfl
  · rfl
  · show Q (.v d) e = _
    have : e.set i (some (.val d)) = e := by
      obtain ⟨hi, h2⟩ := List.getElem?_eq_some_iff.mp he
      rw [← h2, List.set_getElem_self]
    rw [this]
theorem opNe_self {d : D} (h : SeqAt.shaped d = true) : opNe d d = some (.v (.bool false)) := by
  unfold opNe
  rw [if_pos ⟨h, h⟩]
  have : d.canLay0 = true := by
    unfold SeqAt.shaped at h
    simp at h
    exact h.1
  rw [SeqAt.eqv_refl d this]
  rfl
theorem opEq_self {d : D} (h : SeqAt.shaped d = true) : opEq d d = some (.v (.bool true)) := by
  unfold opEq
  rw [if_pos ⟨h, h⟩]
  have : d.canLay0 = true := by
    unfold SeqAt.shaped at h
    simp at h
    exact h.1
  rw [SeqAt.eqv_refl d this]
theorem gd_pairs {P : Str → Prop} {m : Nat} {ab : Row} (hP : ∀ a, P a → isNmS a = true) (r : RowOk P m ab) : Gd 60 2 (pairsV ab) := by
  refine ⟨by simpa using r.len, fun d hd => ?_⟩
  obtain ⟨p, hp, rfl⟩ := List.mem_map.mp hd
  refine ⟨by simp, fun d hd => ?_⟩
  simp at hd
  rcases hd with rfl | rfl
  · exact gd_str (isNmS_ok (hP _ (r.nm p.1 (List.mem_map.mpr ⟨p, hp, rfl⟩))))
  · cases p.2 <;> trivial
theorem opSl_dl {xs : List D} {x : D} : opSl (.list (xs ++ [x])) none (some (-1)) = some (.o (.list xs)) := by
  show some (R.o (.list (((xs ++ [x]).drop (HT.sIx (xs ++ [x]).length 0 none)).take (HT.sIx (xs ++ [x]).length (xs ++ [x]).length (some (-1)) - HT.sIx (xs ++ [x]).length 0 none)))) = _
  have h : HT.sIx (xs ++ [x]).length (xs ++ [x]).length (some (-1)) = xs.length := by
    simp [HT.sIx]
    omega
  rw [h, HT.sIx_none]
  simp
theorem plT_place {ks : List Str} : ∀ {n : Nat} {t : Tree} {pl : List Nat} {w : List Str}, TreeOk ks n t → ∀ p ∈ plT t pl w, p.1.length ≤ pl.length + n
  | 0, _, _, _, h => h.elim
  | n + 1, .nd k ts, pl, w, h => by
    intro p hp
    simp only [plT, plTs_flat, List.mem_cons, List.mem_flatMap] at hp
    rcases hp with rfl | ⟨q, hq, hp⟩
    · simp
    · have := plT_place (h.2.2 q.1 (List.fst_mem_of_mem_zipIdx hq)) p hp
      simp at this
      omega
theorem gd_told {P : Str → Prop} {sh : Sheet} (f : Full P sh) {t : Tree} (ht : TreeOk (sh.map (·.1)) 6 t) : Gd 1000 8 (.list ((toldT sh t).map rowD)) := by
  have hl := Nat.le_trans (plT_len (pl := []) (w := []) ht) (nb6 (by omega))
  refine ⟨by simp only [toldT, List.length_map]; omega, fun d hd => ?_⟩
  obtain ⟨p, hp, rfl⟩ := List.mem_map.mp hd
  simp only [toldT, List.mem_map] at hp
  obtain ⟨q, hq, rfl⟩ := hp
  refine ⟨by simp, fun d hd => ?_⟩
  simp at hd
  rcases hd with rfl | rfl
  · have h100 : q.1.length ≤ 6 := by
      have := plT_place ht (pl := []) (w := []) q hq
      simpa using this
    have : Gd 1000 1 (placeD q.1) := ⟨by simp; omega, fun d hd => by
      obtain ⟨i, _, rfl⟩ := List.mem_map.mp hd
      exact gd_int⟩
    exact this.up (n' := 6) (by omega) (by omega)
  · exact (gd_pairs f.hP f.rowT).up (n' := 6) (by omega) (by omega)
/-- .. with a condition; the parts keep J of the slots -/
theorem l_compPj {g : G} {e : En} {α : Type} {it : IM} {t : TM} {c : BM} {m : EM} {sl : List Nat} {Q : R → En → Prop} (en : α → D) (p : α → Bool) (f : α → D) (h : LI it g e fun ds e1 => ∃ xs : List α, ds = xs.map en ∧ xs.length < sizeLine ∧ calmSl e1 sl = true ∧
    ∃ J : En → Prop, J (wipeE e1 sl) ∧ (∀ x ∈ xs, ∀ e, J e → Lo (t (en x) e) fun e2 => LB c g e2 fun b e3 => b = p x ∧ (if p x = true then LE m g e3 fun r e4 => r.d = f x ∧ J (wipeE e4 sl) else J (wipeE e3 sl))) ∧
    ∀ e, J e → Q (.o (.list ((xs.filter p).map f))) (backE e1 e sl)) : LE (compM it t c m sl) g e Q := by
  refine l_compA (LI.mono h fun ds e1 ⟨xs, h0, h1, h2, J, hj, h3, h4⟩ => ?_)
  subst h0
  refine ⟨by simpa using h1, h2, fun left acc e => (∃ done rest, xs = done ++ rest ∧ left = rest.map en ∧ acc = (done.filter p).map f) ∧ J e, ⟨⟨[], xs, rfl, rfl, rfl⟩, hj⟩, ?_, ?_⟩
  · rintro d left acc e ⟨⟨done, rest, e2, e3, e4⟩, hje⟩
    cases rest with
    | nil => cases e3
    | cons x rest =>
      rw [List.map_cons] at e3
      injection e3 with e5 e6
      subst e5 e6
      refine Wo.mono (h3 x (by rw [e2]; simp) e hje) fun e5 h5 => WB.mono h5 fun b e6 ⟨hb, h6⟩ => ?_
      subst hb
      cases hp : p x with
      | true =>
        rw [hp, if_pos rfl] at h6
        refine WE.mono h6 fun r e7 ⟨h7, h8⟩ => ⟨⟨done ++ [x], rest, by rw [e2]; simp, rfl, ?_⟩, h8⟩
        rw [e4, h7, List.filter_append, List.map_append]
        simp [hp]
      | false =>
        rw [hp, if_neg (by simp)] at h6
        refine ⟨⟨done ++ [x], rest, by rw [e2]; simp, rfl, ?_⟩, h6⟩
        rw [e4, List.filter_append]
        simp [hp]
  · rintro acc e ⟨⟨done, rest, e2, e3, e4⟩, hje⟩
    have : rest = [] := by
      cases rest with
      | nil => rfl
      | cons _ _ => cases e3
    subst this
    rw [List.append_nil] at e2
    subst e2 e4
    exact h4 e hje
end RL
end
section
set_option Elab.async false
set_option linter.all false
set_option autoImplicit false
set_option maxRecDepth 100000
set_option maxHeartbeats 4000000
/-! V1: typed dicts whose keys are tuples -/
namespace RL
open PySem PySem.Spec L2
open PyProof.Rows hiding St
/-- keys that are told by tuples -/
structure TKey {κ : Type} (en : κ → D) (nk : κ → NestedKey) : Prop where
  key : ∀ x, keyT (en x) = some (nk x)
  inj : ∀ x y, nk x = nk y → x = y
section
variable {κ : Type} [DecidableEq κ]
def td (en : κ → D) (l : List (κ × D)) : List (D × D) := l.map fun p => (en p.1, p.2)
/-- what stands at a key -/
def lookK (l : List (κ × D)) (a : κ) : Option D := (l.find? fun p => decide (p.1 = a)).map (·.2)
def putL (l : List (κ × D)) (a : κ) (d : D) : List (κ × D) := if a ∈ l.map (·.1) then l.map (fun p => if p.1 = a then (p.1, d) else p) else l ++ [(a, d)]
theorem lookK_mem {l : List (κ × D)} {a : κ} {d : D} (nd : (l.map (·.1)).Nodup) (h : (a, d) ∈ l) : lookK l a = some d := by
  induction l with
  | nil => cases h
  | cons q l ih =>
    rw [List.map_cons, List.nodup_cons] at nd
    unfold lookK
    rw [List.find?_cons]
    rcases List.mem_cons.mp h with e | h
    · subst e
      simp
    · have : decide (q.1 = a) = false := by
        refine decide_eq_false fun e => nd.1 ?_
        rw [e]
        exact List.mem_map.mpr ⟨_, h, rfl⟩
      rw [this]
      exact ih nd.2 h
variable {en : κ → D} {nk : κ → NestedKey} (K : TKey en nk)
include K
theorem TKey.tup (x : κ) : ∃ ds, en x = .tuple ds := by
  obtain ⟨ds, h, _⟩ := keyT_is (K.key x)
  exact ⟨ds, h⟩
theorem TKey.keyK (x : κ) : RL.keyK (en x) = none := by
  obtain ⟨ds, h⟩ := K.tup x
  rw [h]; rfl
theorem TKey.keyOf (x : κ) (kvs : List (D × D)) : RL.keyOf (en x) kvs = none := by
  unfold RL.keyOf
  rw [K.keyK]
  split <;> rfl
theorem td_allT {l : List (κ × D)} : allT (td en l) = true := by
  unfold allT td
  rw [List.all_map, List.all_eq_true]
  intro p _
  show (keyT (en p.1)).isSome = true
  rw [K.key]; rfl
theorem TKey.keyOfT (x : κ) {l : List (κ × D)} : RL.keyOfT (en x) (td en l) = some (nk x) := by
  unfold RL.keyOfT
  rw [if_pos (td_allT K), K.key]
theorem TKey.dec (x y : κ) : decide (keyT (en x) = some (nk y)) = decide (x = y) := by
  rw [K.key]
  by_cases h : x = y
  · subst h; simp
  · have : ¬ nk x = nk y := fun z => h (K.inj _ _ z)
    simp [h, this]
theorem td_find {a : κ} : ∀ {l : List (κ × D)}, tFind (td en l) (nk a) = lookK l a
  | [] => rfl
  | p :: l => by
    have ih := td_find (a := a) (l := l)
    unfold tFind td at ih ⊢
    rw [List.map_cons, List.find?_cons]
    have h0 : decide (keyT (en p.1, p.2).1 = some (nk a)) = decide (p.1 = a) := K.dec _ _
    rw [h0]
    unfold lookK at ih ⊢
    rw [List.find?_cons]
    by_cases h : p.1 = a
    · rw [decide_eq_true h]; rfl
    · rw [decide_eq_false h]
      exact ih
theorem td_has {a : κ} {l : List (κ × D)} : tHas (td en l) (nk a) = decide (a ∈ l.map (·.1)) := by
  unfold tHas td
  rw [List.any_map, Bool.eq_iff_iff, List.any_eq_true, decide_eq_true_eq, List.mem_map]
  constructor
  · rintro ⟨p, hp, h⟩
    refine ⟨p, hp, ?_⟩
    have h' : decide (keyT (en p.1) = some (nk a)) = true := h
    rw [K.dec] at h'
    exact of_decide_eq_true h'
  · rintro ⟨p, hp, rfl⟩
    refine ⟨p, hp, ?_⟩
    show decide (keyT (en p.1) = some (nk p.1)) = true
    rw [K.dec]; simp
theorem td_put {a : κ} {d : D} {l : List (κ × D)} : tPut (td en l) (en a) (nk a) d = td en (putL l a d) := by
  unfold tPut putL
  rw [td_has K]
  by_cases h : a ∈ l.map (·.1)
  · rw [if_pos (by simpa using h), if_pos h]
    unfold td
    rw [List.map_map, List.map_map]
    refine List.map_congr_left fun p _ => ?_
    show (if keyT (en p.1) = some (nk a) then (en p.1, d) else (en p.1, p.2)) = (en (if p.1 = a then (p.1, d) else p).1, (if p.1 = a then (p.1, d) else p).2)
    by_cases hp : p.1 = a
    · rw [if_pos (by rw [hp, K.key]), if_pos hp]
    · rw [if_neg (by rw [K.key]; intro z; exact hp (K.inj _ _ (Option.some.inj z))), if_neg hp]
  · rw [if_neg (by simpa using h), if_neg h]
    simp [td]
theorem td_merge : ∀ (l : List (κ × D)) (acc : List (κ × D)), ((acc ++ l).map (·.1)).Nodup → tMerge (td en acc) (td en l) = td en (acc ++ l)
  | [], acc, _ => by simp [tMerge, td]
  | p :: l, acc, nd => by
    have hn : p.1 ∉ acc.map (·.1) := by
      rw [List.map_append, List.map_cons, List.nodup_append] at nd
      exact fun h => nd.2.2 _ h _ (by simp) rfl
    have e : tMerge (td en acc) (td en (p :: l)) = tMerge (tPut (td en acc) (en p.1) (nk p.1) p.2) (td en l) := by
      show tMerge (match keyT (en p.1) with | some q => tPut (td en acc) (en p.1) q p.2 | none => td en acc) (td en l) = _
      rw [K.key]
    have e2 : putL acc p.1 p.2 = acc ++ [p] := by
      unfold putL
      rw [if_neg hn]
    rw [e, td_put K, e2, td_merge l (acc ++ [p]) (by simpa using nd)]
    simp
theorem scr_td {l : List (κ × D)} : scrOf (.dict (td en l)) = none := by
  cases l with
  | nil => rfl
  | cons p l =>
    obtain ⟨ds, h⟩ := K.tup p.1
    show scrOf (.dict ((en p.1, p.2) :: td en l)) = none
    rw [h]; rfl
theorem opIx3_td {l : List (κ × D)} {a : κ} : opIx3 (.dict (td en l)) (en a) = (lookK l a).map .v := by
  unfold opIx3
  rw [scr_td K]
  simp only [opIx2, K.keyOf, K.keyOfT, Option.bind_some, td_find K]
theorem opGet_td {l : List (κ × D)} {a : κ} {z : D} : opGet (.dict (td en l)) [en a, z] = some (.v ((lookK l a).getD z)) := by
  simp only [opGet, K.keyOf, K.keyOfT, Option.map_some, td_find K]
theorem opIn2_td {l : List (κ × D)} {a : κ} : opIn2 (en a) (.dict (td en l)) = some (.v (.bool (decide (a ∈ l.map (·.1))))) := by
  simp only [opIn2, K.keyOf, K.keyOfT, Option.map_some, td_has K]
theorem opNotIn2_td {l : List (κ × D)} {a : κ} : opNotIn2 (en a) (.dict (td en l)) = some (.v (.bool (!decide (a ∈ l.map (·.1))))) := by
  simp only [opNotIn2, K.keyOf, K.keyOfT, Option.map_some, td_has K]
theorem fSet_td {l : List (κ × D)} {a : κ} {d : D} (hl : l.length < 1000000) : fSet (.dict (td en l)) (en a) d = some (.dict (td en (putL l a d))) := by
  simp only [fSet, K.keyOf, K.keyOfT, Option.map_some, td_put K]
  rw [if_pos]
  have := sizeLine_big
  simp only [td, List.length_map]
  omega
theorem isDct_td {l : List (κ × D)} : isDctD (.dict (td en l)) = true := by
  show (allK (td en l) || allT (td en l)) = true
  rw [td_allT K, Bool.or_true]
theorem pairs_td : ∀ {l : List (κ × D)}, pairsOf (l.map fun p => .tuple [en p.1, p.2]) = some (td en l)
  | [] => rfl
  | (a, d) :: l => by
    rw [List.map_cons]
    show (pairsOf (l.map fun p => .tuple [en p.1, p.2])).map _ = _
    rw [pairs_td]
    rfl
theorem dictOf_td {l : List (κ × D)} (hn : (l.map (·.1)).Nodup) (hl : l.length ≤ 1000) : dictOf (l.map fun p => .tuple [en p.1, p.2]) = some (.o (.dict (td en l))) := by
  unfold dictOf
  rw [pairs_td K]
  simp only [Option.bind_some, List.length_map]
  rw [if_pos (len_ok hl)]
  cases l with
  | nil => rfl
  | cons p l =>
    have h0 : allK (td en (p :: l)) = false := by
      unfold allK td
      rw [List.map_cons, List.all_cons]
      show ((RL.keyK (en p.1)).isSome && _) = false
      rw [K.keyK]; rfl
    have hm := td_merge K (p :: l) [] (by simpa using hn)
    rw [h0, if_neg (by simp), if_pos (td_allT K)]
    have hm' : tMerge [] (td en (p :: l)) = td en (p :: l) := hm
    rw [hm']
end
/-! ### places -/
def plNK (p : List Nat) : NestedKey := .tup (p.map fun i : Nat => .num (i : Int))
theorem keyNs_ints : ∀ (p : List Nat), keyNs (p.map fun i => PyData.int (i : Nat)) = some (p.map fun i : Nat => NestedKey.num (i : Int))
  | [] => rfl
  | i :: p => by
    show (keyN (.int i)).bind (fun k => (keyNs _).map fun ks => k :: ks) = _
    rw [keyNs_ints p]
    rfl
theorem depth_nums : ∀ (p : List Nat), NestedKey.depthAll (p.map fun i : Nat => NestedKey.num (i : Int)) = 0
  | [] => rfl
  | i :: p => by
    show max (NestedKey.depth (.num i)) (NestedKey.depthAll _) = 0
    rw [depth_nums p]
    rfl
theorem plKey : TKey (fun p : List Nat => placeD p) plNK where
  key p := by
    show (if isTup (placeD p) = true then (keyN (placeD p)).bind (fun k => if k.depth ≤ 8 then some k else none) else none) = _
    rw [if_pos (show isTup (placeD p) = true from rfl)]
    show ((keyNs _).map NestedKey.tup).bind _ = _
    rw [keyNs_ints]
    show (if (NestedKey.tup _).depth ≤ 8 then some _ else none) = _
    rw [if_pos]
    · rfl
    · show NestedKey.depthAll _ + 1 ≤ 8
      rw [depth_nums]; omega
  inj p q h := by
    have h' : (p.map fun i : Nat => NestedKey.num (i : Int)) = q.map fun i : Nat => NestedKey.num (i : Int) := by
      injection h
    refine (List.map_inj_right fun a b e => ?_).mp h'
    injection e with e
    exact Int.ofNat.inj e

/-! ### the order of places -/
def LtP : List Nat → List Nat → Prop
  | [], _ :: _ => True
  | _, [] => False
  | i :: p, j :: q => i < j ∨ i = j ∧ LtP p q
theorem LtP.app : ∀ {c p q : List Nat}, LtP p q → LtP (c ++ p) (c ++ q)
  | [], _, _, h => h
  | _ :: c, _, _, h => .inr ⟨rfl, LtP.app h⟩
theorem LtP.ne : ∀ {p q : List Nat}, LtP p q → p ≠ q
  | [], _ :: _, _, e => by cases e
  | [], [], h, _ => h.elim
  | _ :: _, [], h, _ => h.elim
  | i :: p, j :: q, h, e => by
    injection e with e1 e2
    rcases h with h | ⟨_, h⟩
    · omega
    · exact h.ne e2
mutual
theorem plT_pre : ∀ (t : Tree) (pl : List Nat) (w : List Str), ∀ a ∈ plT t pl w, ∃ r, a.1 = pl ++ r
  | .nd k ts, pl, w => by
    intro a ha
    simp only [plT, List.mem_cons] at ha
    rcases ha with rfl | ha
    · exact ⟨[], by simp⟩
    · obtain ⟨j, r, _, e⟩ := plTs_pre ts 0 pl (w ++ [k]) a ha
      exact ⟨_, e⟩
theorem plTs_pre : ∀ (ts : List Tree) (i : Nat) (pl : List Nat) (w : List Str), ∀ a ∈ plTs ts i pl w, ∃ j r, i ≤ j ∧ a.1 = pl ++ j :: r
  | [], _, _, _ => by intro a ha; simp [plTs] at ha
  | t :: ts, i, pl, w => by
    intro a ha
    simp only [plTs, List.mem_append] at ha
    rcases ha with ha | ha
    · obtain ⟨r, e⟩ := plT_pre t (pl ++ [i]) w a ha
      exact ⟨i, r, Nat.le_refl _, by rw [e]; simp⟩
    · obtain ⟨j, r, h, e⟩ := plTs_pre ts (i + 1) pl w a ha
      exact ⟨j, r, by omega, e⟩
end
mutual
theorem plT_asc : ∀ (t : Tree) (pl : List Nat) (w : List Str), (plT t pl w).Pairwise fun a b => LtP a.1 b.1
  | .nd k ts, pl, w => by
    simp only [plT]
    refine List.pairwise_cons.mpr ⟨fun b hb => ?_, plTs_asc ts 0 pl (w ++ [k])⟩
    obtain ⟨j, r, _, e⟩ := plTs_pre ts 0 pl (w ++ [k]) b hb
    rw [e]
    have := LtP.app (c := pl) (p := []) (q := j :: r) trivial
    simpa using this
theorem plTs_asc : ∀ (ts : List Tree) (i : Nat) (pl : List Nat) (w : List Str), (plTs ts i pl w).Pairwise fun a b => LtP a.1 b.1
  | [], _, _, _ => by simp [plTs]
  | t :: ts, i, pl, w => by
    simp only [plTs]
    refine List.pairwise_append.mpr ⟨plT_asc t (pl ++ [i]) w, plTs_asc ts (i + 1) pl w, fun a ha b hb => ?_⟩
    obtain ⟨r, e1⟩ := plT_pre t (pl ++ [i]) w a ha
    obtain ⟨j, r', hj, e2⟩ := plTs_pre ts (i + 1) pl w b hb
    rw [e1, e2, List.append_assoc]
    exact LtP.app (.inl (by omega))
end
theorem toks_place : ∀ {p q : List Nat}, LtP p q → PyProof.Rows.lexLt PyProof.Rows.itemOrd (W.keyToksAll (q.map fun i => PyData.int (i : Nat))) (W.keyToksAll (p.map fun i => PyData.int (i : Nat))) = false
  | [], _ :: _, _ => by
    rw [List.map_cons, W.toks_all_cons]
    rfl
  | [], [], h => h.elim
  | _ :: _, [], h => h.elim
  | i :: p, j :: q, h => by
    rw [List.map_cons, List.map_cons, W.toks_all_cons, W.toks_all_cons, PyProof.Rows.lex_self (O := PyProof.Rows.itemOrd)]
    show PyProof.Rows.lexLt PyProof.Rows.itemOrd (.inl (j : Int) :: W.keyToksAll (q.map fun i => PyData.int (i : Nat))) (.inl (i : Int) :: W.keyToksAll (p.map fun i => PyData.int (i : Nat))) = false
    by_cases e : i = j
    · subst e
      rcases h with h | ⟨_, h⟩
      · omega
      · rw [PyProof.Rows.lex_self (O := PyProof.Rows.itemOrd)]
        exact toks_place h
    · rcases h with h | ⟨h, _⟩
      · rw [PyProof.Rows.lex_diff (O := PyProof.Rows.itemOrd) (by simp; omega)]
        show decide ((j : Int) < (i : Int)) = false
        simp
        omega
      · exact absurd h e
theorem dLe_place {p q : List Nat} (h : LtP p q) : dLe (placeD p) (placeD q) = true := by
  show (!W.dataLt (placeD q) (placeD p)) = true
  rw [W.dataLt_tuple, toks_place h]
  rfl
theorem alike_ints : ∀ {p q : List Nat}, W.alikeAll (p.map fun i => PyData.int (i : Nat)) (q.map fun i => PyData.int (i : Nat)) = true
  | [], _ => rfl
  | _ :: _, [] => rfl
  | a :: p, b :: q => by
    show (true && W.alikeAll (p.map fun i => PyData.int (i : Nat)) (q.map fun i => PyData.int (i : Nat))) = true
    rw [alike_ints]; rfl
theorem depth_place : ∀ {p : List Nat}, PyData.depthAll (p.map fun i => PyData.int (i : Nat)) = 0
  | [] => rfl
  | a :: p => by
    show max (PyData.depth (.int a)) (PyData.depthAll (p.map fun i => PyData.int (i : Nat))) = 0
    rw [depth_place]; rfl
theorem can_place : ∀ {p : List Nat}, PyData.canLayAll0 (p.map fun i => PyData.int (i : Nat)) = true
  | [] => rfl
  | a :: p => by
    show (true && PyData.canLayAll0 (p.map fun i => PyData.int (i : Nat))) = true
    rw [can_place]; rfl
/-- places in order stay so -/
theorem opSorted_places {l : List (List Nat)} (ha : l.Pairwise LtP) (hl : l.length ≤ 100000) : opSorted (.list (l.map fun p => placeD p)) = some (.o (.list (l.map fun p => placeD p))) := by
  have h1 : sortOk (l.map fun p => placeD p) = true := by
    have e1 : (l.map fun p => placeD p).all isTup = true := List.all_eq_true.mpr fun d hd => by
      obtain ⟨a, _, rfl⟩ := List.mem_map.mp hd
      rfl
    have e2 : (l.map fun p => placeD p).all (fun d => (l.map fun p => placeD p).all fun e => W.alike d e) = true := List.all_eq_true.mpr fun d hd => List.all_eq_true.mpr fun e he => by
      obtain ⟨a, _, rfl⟩ := List.mem_map.mp hd
      obtain ⟨b, _, rfl⟩ := List.mem_map.mp he
      exact alike_ints
    have e3 : (l.map fun p => placeD p).all (fun d => decide (d.depth ≤ 50)) = true := List.all_eq_true.mpr fun d hd => by
      obtain ⟨a, _, rfl⟩ := List.mem_map.mp hd
      show decide (PyData.depthAll _ + 1 ≤ 50) = true
      rw [depth_place]; rfl
    have e4 : (l.map fun p => placeD p).all PyData.canLay0 = true := List.all_eq_true.mpr fun d hd => by
      obtain ⟨a, _, rfl⟩ := List.mem_map.mp hd
      exact can_place
    have e5 : decide ((l.map fun p => placeD p).length ≤ 16777216) = true := by simp; omega
    unfold sortOk
    rw [e1, e2, e3, e4, e5]
    rfl
  show (if (sortOk _ || keyedOk _) = true then some (R.o (.list (_))) else none) = _
  rw [if_pos (by rw [h1]; rfl), List.mergeSort_of_pairwise]
  rw [List.pairwise_map]
  exact ha.imp fun h => dLe_place h
end RL
end
section
set_option Elab.async false
set_option linter.all false
set_option autoImplicit false
set_option maxRecDepth 100000
set_option maxHeartbeats 4000000
/-! K04: the way alone -/
namespace RL
open PySem PySem.Spec L2
open PyProof.Rows hiding St
def e__law_branch : DefE := ⟨"_law_branch", [("bag" : Str), ("kinds" : Str), ("way" : Str)], [("bag" : Str), ("kinds" : Str), ("way" : Str), ("before" : Str), ("below" : Str), ("behind" : Str), ("others" : Str), ("part" : Str), ("place" : Str), ("part_so" : Str)], [true, false, false], seqM (ifS (tstM (bin (.eg (opM [.lz 2] (op1L opLen3))) (.eg (cM (.int 1))) opEq)) (seqM (setM 6 (opM [.eg (compM (rngM [callM "_law_take" [.b 0, .v (cM (.int 3))]]) (tgName 9) (trueM) (opV [callM "_law_choice" [.b 0, .v (vrM 1)], opV [] opTup] opTup) [9])] (op1L opTuple))) (seqM (retM (opV [opV [bin (.lz 2) (.eg (cM (.int 0))) opIx3, vrM 6] opTup, opV [] opTup] opTup)) (nilM))) (nilM)) (seqM (asgM (tgTup [tgName 7, tgName 8]) (callM "_law_branch" [.b 0, .v (vrM 1), .v (slM (.lz 2) (some (cM (.int 1))) none)])) (seqM (setM 3 (opM [.eg (compM (rngM [callM "_law_take" [.b 0, .v (cM (.int 2))]]) (tgName 9) (trueM) (opV [callM "_law_choice" [.b 0, .v (vrM 1)], opV [] opTup] opTup) [9])] (op1L opTuple))) (seqM (setM 4 (opV [callM "_law_choice" [.b 0, .v (vrM 1)], opV [] opTup] opTup)) (seqM (setM 5 (opM [.eg (compM (rngM [callM "_law_take" [.b 0, .v (cM (.int 2))]]) (tgName 9) (trueM) (opV [callM "_law_choice" [.b 0, .v (vrM 1)], opV [vrM 4] opTup] opTup) [9])] (op1L opTuple))) (seqM (retM (opV [opV [bin (.lz 2) (.eg (cM (.int 0))) opIx3, bin (.eg (bin (.lz 3) (.eg (opV [vrM 7] opTup)) opAdd)) (.lz 5) opAdd] opTup, bin (.eg (opV [opM [.lz 3] (op1L opLen3)] opTup)) (.lz 8) opAdd] opTup)) (nilM))))))⟩
def e_law : DefE := ⟨"law", [("script" : Str)], [("script" : Str), ("k" : Str), ("bag" : Str), ("sheet" : Str), ("kinds" : Str), ("turn_so" : Str), ("way" : Str), ("again_so" : Str), ("found" : Str), ("size" : Str), ("tree" : Str), ("place" : Str), ("kind" : Str), ("settings" : Str), ("one" : Str)], [false], seqM (forM (rngM [cM (.int 6)]) (tgName 1) (seqM (setM 2 (callM "_law_bag" [.v (vrM 0), .v (vrM 1)])) (seqM (setM 3 (callM "_law_sheet" [.b 2, .v (cM (.int 4)), .v (cM (.int 4))])) (seqM (setM 4 (compM (itM (vrM 3)) (tgTup [tgName 12, tgName 13]) (trueM) (vrM 12) [12, 13])) (seqM (forM (rngM [cM (.int 3)]) (tgName 5) (seqM (setM 6 (callM "_law_way" [.b 2, .v (vrM 3), .v (cM (.int 4))])) (seqM (forM (rngM [cM (.int 2)]) (tgName 7) (seqM (asgM (tgTup [tgName 10, tgName 11]) (callM "_law_branch" [.b 2, .v (vrM 4), .v (vrM 6)])) (seqM (setM 8 (callM "told" [.v (vrM 3), .v (vrM 10)])) (seqM (ifS (orM (tstM (bin (.eg (bin (.eg (opM [.lz 8] (op1L opDict))) (.lz 11) opIx3)) (.eg (callM "values" [.v (vrM 3), .v (vrM 6)])) opNe)) (tstM (bin (.eg (bin (.lz 8) (.eg (cM (.int 0))) opIx3)) (.eg (opV [opV [] opTup, callM "values" [.v (vrM 3), .v (slM (.lz 6) none (some (cM (.int 1))))]] opTup)) opNe))) (seqM (retM (cM (.bool false))) (nilM)) (nilM)) (seqM (ifS (tstM (bin (.eg (compM (itM (vrM 8)) (tgName 14) (trueM) (bin (.lz 14) (.eg (cM (.int 0))) opIx3) [14])) (.eg (opM [.eg (compM (itM (vrM 8)) (tgName 14) (trueM) (bin (.lz 14) (.eg (cM (.int 0))) opIx3) [14])] (op1L opSorted))) opNe)) (seqM (retM (cM (.bool false))) (nilM)) (nilM)) (seqM (forM (rngM [opM [.lz 11] (op1L opLen3)]) (tgName 9) (seqM (ifS (tstM (bin (.eg (bin (.eg (opM [.lz 8] (op1L opDict))) (.eg (slM (.lz 11) none (some (vrM 9)))) opIx3)) (.eg (callM "values" [.v (vrM 3), .v (slM (.lz 6) none (some (bin (.lz 9) (.eg (cM (.int 1))) opAdd)))])) opNe)) (seqM (retM (cM (.bool false))) (nilM)) (nilM)) (nilM))) (nilM))))))) (nilM)))) (nilM)))))) (seqM (retM (cM (.bool true))) (nilM))⟩
theorem opLen3_pl {p : List Nat} : opLen3 (placeD p) = some (.v (.int p.length)) := by
  show some (R.v (.int ((p.map fun i => PyData.int (i : Nat)).length))) = _
  rw [List.length_map]
/-- a way in a tree, down to a place -/
def PathT : Tree → List Nat → List Str → Prop
  | .nd k _, [], w => w = [k]
  | .nd k ts, i :: p, w => ∃ w' t, w = k :: w' ∧ ts[i]? = some t ∧ PathT t p w'
theorem path_pl : ∀ {p : List Nat} {t : Tree} {w : List Str}, PathT t p w → p.length + 1 = w.length ∧ ∀ j, j ≤ p.length → ∀ pl w0, (pl ++ p.take j, w0 ++ w.take (j + 1)) ∈ plT t pl w0
  | [], .nd k ts, w, h => by
    have h' : w = [k] := h
    subst h'
    refine ⟨rfl, fun j hj pl w0 => ?_⟩
    have : j = 0 := by simpa using hj
    subst this
    simp [plT]
  | i :: p, .nd k ts, w, h => by
    obtain ⟨w', t, rfl, ht, hp⟩ := h
    obtain ⟨h1, h2⟩ := path_pl hp
    refine ⟨by simp [h1], fun j hj pl w0 => ?_⟩
    cases j with
    | zero => simp [plT]
    | succ j =>
      have h3 := h2 j (by simpa using hj) (pl ++ [i]) (w0 ++ [k])
      simp only [plT, plTs_flat, List.mem_cons, List.mem_flatMap]
      refine .inr ⟨(t, i), ?_, ?_⟩
      · rw [List.mem_zipIdx_iff_getElem?]
        simpa using ht
      · simpa using h3
theorem len1 {e : En} {i : Nat} {w : List Str} (h : getI e i = some (pathD w)) : True := trivial
theorem Lib.branch_ {dt : List DefE} {wh : Nat} (h : Lib dt) (hs : Has dt e__law_branch) {ks : List Str} (hne : ks ≠ []) : ∀ {way : List Str} {lv : Nat} {bag : List Int} {Q : R → List D → Prop}, 1 ≤ way.length → way.length ≤ 10 → (∀ k ∈ way, k ∈ ks) → way.length + 3 ≤ lv →
    (hq : ∀ (t : Tree) (place : List Nat) (bag' : List Int), TreeOk ks (way.length + 2) t → PathT t place way → Q (.v (.tuple [t.enc, placeD place])) [bagD bag']) →
    LC (gN dt wh lv) "_law_branch" [.b (bagD bag), .v (.list (ks.map .str)), .v (pathD way)] Q
  | [], _, _, _, h1, _, _, _, _ => by simp at h1
  | k :: way, lv, bag, Q, h1, h10, hk, h2, hq => by
    obtain ⟨lv, rfl⟩ : ∃ l, lv = l + 4 := ⟨lv - 4, by simp at h2; omega⟩
    refine LC.df hs rfl ?_
    have hnn : ks.map PyData.str ≠ [] := by simpa using hne
    have hkk : k ∈ ks := hk k (by simp)
    cases way with
    | nil =>
      simp [e__law_branch]
      with_reducible refine l_compI ?_
      simp
      refine h.take_ (by omega) fun i bag1 i0 i1 => ?_
      obtain ⟨i, rfl⟩ := Int.eq_ofNat_of_zero_le i0
      simp [rng_nat (show i ≤ 1000000 by omega), ints_len, calmSl, -List.map_map]
      refine ⟨len_ok' (by omega), fun acc e => Keep (∃ (ts : List Tree) (bag' : List Int), acc = ts.map Tree.enc ∧ (∀ t ∈ ts, TreeOk ks 1 t) ∧ e = [some (Sl.bor (bagD bag')), some (Sl.val (.list (ks.map .str))), some (Sl.val (.tuple [.str k])), none, none, none, none, none, none, none]), kp ⟨[], bag1, rfl, by simp, rfl⟩, ?_, ?_⟩
      · rintro d acc e hd3 ⟨ts, bag4, rfl, hts, rfl⟩
        obtain ⟨hlt, rfl⟩ := ints_at0 hd3
        simp [-List.map_map]
        refine h.choice_ hnn fun d2 bag3 hd2 => ?_
        obtain ⟨a, ha, rfl⟩ := List.mem_map.mp hd2
        simp [-List.map_map]
        refine kp ⟨ts ++ [.nd a []], bag3, by simp [Tree.enc, tencs], fun x hx => ?_, rfl⟩
        rcases List.mem_append.mp hx with hx | hx
        · exact hts x hx
        · simp at hx; subst hx; exact ⟨ha, by simp, by simp⟩
      · rintro acc e hl ⟨ts, bag4, rfl, hts, rfl⟩
        simp at hl
        simp [opTuple, -List.map_map]
        have := hq (.nd k ts) [] bag4 ⟨hkk, by omega, fun t ht => (hts t ht).mono (by simp)⟩ rfl
        simpa [Tree.enc, tencs_map, placeD] using this
    | cons k2 way =>
      have hlen : ¬ ((way.length : Int) + 1 + 1 = 1) := by omega
      have hsl : opSl (pathD (k :: k2 :: way)) (some 1) none = some (.v (pathD (k2 :: way))) := opSl_tl
      simp [e__law_branch, hlen, hsl]
      refine Lib.branch_ h hs hne (way := k2 :: way) (lv := lv + 3) (by simp) (by simp at h10 ⊢; omega) (fun x hx => hk x (by simp at hx ⊢; right; exact hx)) (by simp at h2 ⊢; omega) fun t place bag1 htr hpt => ?_
      simp
      -- before
      with_reducible refine l_compI ?_
      simp
      refine h.take_ (by omega) fun i bag2 i0 i1 => ?_
      obtain ⟨i, rfl⟩ := Int.eq_ofNat_of_zero_le i0
      simp [rng_nat (show i ≤ 1000000 by omega), ints_len, calmSl, -List.map_map]
      refine ⟨len_ok' (by omega), fun acc e => Keep (∃ (ts : List Tree) (bag' : List Int), acc = ts.map Tree.enc ∧ (∀ t ∈ ts, TreeOk ks 1 t) ∧ e = [some (Sl.bor (bagD bag')), some (Sl.val (.list (ks.map .str))), some (Sl.val (pathD (k :: k2 :: way))), none, none, none, none, some (.val t.enc), some (.val (placeD place)), none]), kp ⟨[], bag2, rfl, by simp, rfl⟩, ?_, ?_⟩
      · rintro d acc e hd3 ⟨ts, bag4, rfl, hts, rfl⟩
        obtain ⟨hlt, rfl⟩ := ints_at0 hd3
        simp [-List.map_map]
        refine h.choice_ hnn fun d2 bag3 hd2 => ?_
        obtain ⟨a, ha, rfl⟩ := List.mem_map.mp hd2
        simp [-List.map_map]
        refine kp ⟨ts ++ [.nd a []], bag3, by simp [Tree.enc, tencs], fun x hx => ?_, rfl⟩
        rcases List.mem_append.mp hx with hx | hx
        · exact hts x hx
        · simp at hx; subst hx; exact ⟨ha, by simp, by simp⟩
      rintro acc e hl ⟨bs, bag3, rfl, hbs, rfl⟩
      simp at hl
      simp [opTuple, -List.map_map]
      refine h.choice_ hnn fun d2 bag4 hd2 => ?_
      obtain ⟨b, hb, rfl⟩ := List.mem_map.mp hd2
      simp [-List.map_map]
      with_reducible refine l_compI ?_
      simp [-List.map_map]
      refine h.take_ (by omega) fun i2 bag5 i0 i2' => ?_
      obtain ⟨i2, rfl⟩ := Int.eq_ofNat_of_zero_le i0
      simp [rng_nat (show i2 ≤ 1000000 by omega), ints_len, calmSl, -List.map_map]
      refine ⟨len_ok' (by omega), fun acc e => Keep (∃ (ts : List Tree) (bag' : List Int), acc = ts.map Tree.enc ∧ (∀ t ∈ ts, TreeOk ks 2 t) ∧ e = [some (Sl.bor (bagD bag')), some (Sl.val (.list (ks.map .str))), some (Sl.val (pathD (k :: k2 :: way))), some (.val (.tuple (bs.map Tree.enc))), some (.val (.tuple [.str b, .tuple []])), none, none, some (.val t.enc), some (.val (placeD place)), none]), kp ⟨[], bag5, rfl, by simp, rfl⟩, ?_, ?_⟩
      · rintro d acc e hd3 ⟨ts, bag4, rfl, hts, rfl⟩
        obtain ⟨hlt, rfl⟩ := ints_at0 hd3
        simp [-List.map_map]
        refine h.choice_ hnn fun d2 bag3 hd2 => ?_
        obtain ⟨a, ha, rfl⟩ := List.mem_map.mp hd2
        simp [-List.map_map]
        refine kp ⟨ts ++ [.nd a [.nd b []]], bag3, by simp [Tree.enc, tencs], fun x hx => ?_, rfl⟩
        rcases List.mem_append.mp hx with hx | hx
        · exact hts x hx
        · simp at hx; subst hx
          refine ⟨ha, by simp, fun t ht => ?_⟩
          simp at ht; subst ht
          exact ⟨hb, by simp, by simp⟩
      · rintro acc e hl2 ⟨cs, bag6, rfl, hcs, rfl⟩
        simp at hl2
        have a1 := opAdd_tup (xs := bs.map Tree.enc) (ys := [t.enc]) (by simp; omega)
        have a2 := opAdd_tup (xs := bs.map Tree.enc ++ [t.enc]) (ys := cs.map Tree.enc) (by simp; omega)
        have hpl := (path_pl hpt).1
        have a3 := opAdd_tup (xs := [PyData.int bs.length]) (ys := place.map fun i => .int (i : Nat)) (by simp at hpl h10 ⊢; omega)
        simp [opTuple, a1, a2, a3, -List.map_map]
        have := hq (.nd k (bs ++ [t] ++ cs)) (bs.length :: place) bag6 ⟨hkk, by simp; omega, fun x hx => ?_⟩ ⟨k2 :: way, t, rfl, ?_, hpt⟩
        · simp [Tree.enc, tencs_map] at this
          exact this
        · simp at hx
          rcases hx with hx | hx | hx
          · exact (hbs x hx).mono (by simp)
          · subst hx; exact htr.mono (by simp)
          · exact (hcs x hx).mono (by simp)
        · simp
structure K04 (dt : List DefE) : Prop where
  lib : Lib dt
  rows : Rows dt
  nt : Has dt e_need_tree
  vs : Has dt e_values
  pl : Has dt e_all_places
  to : Has dt e_told
  ls : Has dt e__law_sheet
  lw : Has dt e__law_way
  br : Has dt e__law_branch
  law : Has dt e_law
section
variable {dt : List DefE} {wh : Nat}
theorem law_lc (h : K04 dt) {ns : List Int} : LC (gN dt wh 60) "law" [.v (scrD (ns.map .int))] fun r bs => r = .v (.bool true) ∧ bs = [] := by
  refine LC.df h.law rfl ?_
  simp [e_law]
  with_reducible refine l_forI ?_
  have r6 := rng_nat (n := 6) (by omega)
  have r3 := rng_nat (n := 3) (by omega)
  have r2 := rng_nat (n := 2) (by omega)
  simp only [Int.cast_ofNat_Int] at r6 r3 r2
  simp [r6]
  refine ⟨fun i e => Keep (∃ (s1 s2 s3 s4 s5 s6 s7 s8 s9 s10 s11 : Option Sl), isBor (some s1) = false ∧ isBor (some s2) = false ∧ isBor (some s3) = false ∧ isBor (some s4) = false ∧ isBor (some s5) = false ∧ isBor (some s6) = false ∧ isBor (some s7) = false ∧ isBor (some s8) = false ∧ isBor (some s9) = false ∧ isBor (some s10) = false ∧ isBor (some s11) = false ∧
    e = [some (.val (scrD (ns.map .int))), s1, s2, s3, s4, s5, s6, s7, s8, s9, s10, s11, none, none, none]), kp ⟨none, none, none, none, none, none, none, none, none, none, none, rfl, rfl, rfl, rfl, rfl, rfl, rfl, rfl, rfl, rfl, rfl, rfl⟩, ?_, ?_⟩
  · rintro k d e hd ⟨s1, s2, s3, s4, s5, s6, s7, s8, s9, s10, s11, b1, b2, b3, b4, b5, b6, b7, b8, b9, b10, b11, rfl⟩
    obtain ⟨hk8, rfl⟩ := ints_at0 hd
    simp [b1]
    refine h.lib.bag_ (by omega) fun bag => ?_
    simp [b2]
    refine h.lib.sheet_ (nk := 4) (nn := 4) h.ls (by omega) (by omega) (by omega) fun sh N bag1 g => ?_
    have f := g.full
    have ok := f.ok
    simp [b3]
    refine l_compTy encK (fun p => .str p.1) ?_
    have l4 := ok.l4
    simp [calmSl, Sheet.enc, Sheet.ds]
    refine ⟨sh, rfl, len_ok' (by omega), fun a st hp => ?_, ?_⟩
    · simp [encK]
    obtain ⟨ks, hkeq⟩ : ∃ ks, sh.map (·.1) = ks := ⟨_, rfl⟩
    have hkne : ks ≠ [] := by
      intro z
      have := ok.l1
      rw [z] at hkeq
      simp at hkeq
      subst hkeq
      simp at this
    have e1 : sh.map (fun p => PyData.str p.1) = ks.map .str := by rw [← hkeq]; simp
    rw [e1]
    simp [b4]
    with_reducible refine l_forI ?_
    simp [r3]
    refine ⟨fun i e => Keep (∃ (s4 s5 s6 s7 s8 s9 s10 s11 : Option Sl) (bag : List Int), (s4 = some (.own (strsD ks)) ∨ s4 = some (.val (strsD ks))) ∧ isBor (some s5) = false ∧ isBor (some s6) = false ∧ isBor (some s7) = false ∧ isBor (some s8) = false ∧ isBor (some s9) = false ∧ isBor (some s10) = false ∧ isBor (some s11) = false ∧
      e = [some (.val (scrD (ns.map .int))), some (.val (.int k)), some (.own (bagD bag)), some (.val sh.enc), s4, s5, s6, s7, s8, s9, s10, s11, none, none, none]), kp ⟨_, s5, s6, s7, s8, s9, s10, s11, bag1, .inl rfl, b5, b6, b7, b8, b9, b10, b11, rfl⟩, ?_, ?_⟩
    · rintro i d e hd ⟨s4, s5, s6, s7, s8, s9, s10, s11, bag2, d4, b5, b6, b7, b8, b9, b10, b11, rfl⟩
      obtain ⟨_, rfl⟩ := ints_at0 hd
      simp [b5]
      refine h.lib.way_ (most := 4) h.lw ok.l1 ok.l4 (by omega) (by omega) fun way bag3 w1 w10 hw => ?_
      simp [b6]
      with_reducible refine l_forI ?_
      simp [r2]
      refine ⟨fun j e => Keep (∃ (s4 s7 s8 s9 s10 s11 : Option Sl) (bag : List Int), (s4 = some (.own (strsD ks)) ∨ s4 = some (.val (strsD ks))) ∧ isBor (some s7) = false ∧ isBor (some s8) = false ∧ isBor (some s9) = false ∧ isBor (some s10) = false ∧ isBor (some s11) = false ∧
        e = [some (.val (scrD (ns.map .int))), some (.val (.int k)), some (.own (bagD bag)), some (.val sh.enc), s4, some (.val (.int i)), some (.val (pathD way)), s7, s8, s9, s10, s11, none, none, none]), kp ⟨s4, s7, s8, s9, s10, s11, bag3, d4, b7, b8, b9, b10, b11, rfl⟩, ?_, ?_⟩
      · rintro j d e hd ⟨s4, s7, s8, s9, s10, s11, bag4, d4, b7, b8, b9, b10, b11, rfl⟩
        obtain ⟨_, rfl⟩ := ints_at0 hd
        have key : ∀ {Q : R → List D → Prop}, True := trivial
        simp [b7, lvr_ov d4]
        refine h.lib.branch_ h.br hkne w1 (by omega) (by rw [← hkeq]; exact hw) (by omega) fun t place bag5 htr hpt => ?_
        have htr6 : TreeOk (sh.map (·.1)) 6 t := by rw [hkeq]; exact htr.mono (by omega)
        have htold := f.told h.rows h.pl h.nt h.to htr6 (wh := wh) (lv := 59) (by omega)
        simp [b10, b11]
        refine htold.mono fun r bs ⟨h3, h4⟩ => ?_
        subst h3 h4
        simp [b8]
        have hlen := Nat.le_trans (plT_len (pl := []) (w := []) htr6) (nb6 (by omega))
        have htl : (toldT sh t).length ≤ 364 := by simp only [toldT, List.length_map]; exact hlen
        obtain ⟨hpw, hpp⟩ := path_pl hpt
        obtain ⟨L, hL⟩ : ∃ L, ((toldT sh t).map fun q => (q.1, pairsV q.2)) = L := ⟨_, rfl⟩
        have hnd : (L.map (·.1)).Nodup := by
          rw [← hL, List.map_map, toldT, List.map_map]
          show ((plT t [] []).map (·.1)).Nodup
          rw [List.Nodup, List.pairwise_map]
          exact (plT_asc t [] []).imp fun h => h.ne
        have hdict : opDict (.list ((toldT sh t).map rowD)) = some (.o (.dict (td (fun p : List Nat => placeD p) L))) := by
          have h1 := dictOf_td plKey (l := L) hnd (by rw [← hL, List.length_map]; omega)
          have h2 : (toldT sh t).map rowD = L.map fun p => .tuple [placeD p.1, p.2] := by
            rw [← hL, List.map_map]; rfl
          rw [h2]
          exact h1
        have hix : ∀ p, opIx3 (.dict (td (fun p : List Nat => placeD p) L)) (placeD p) = (lookK L p).map .v := fun p => opIx3_td plKey
        have hat : ∀ q, q ≤ place.length → lookK L (place.take q) = some (pairsV (valuesT sh (way.take (q + 1)))) := fun q hq => by
          refine lookK_mem hnd ?_
          rw [← hL]
          have := hpp q hq [] []
          refine List.mem_map.mpr ⟨(place.take q, valuesT sh (way.take (q + 1))), List.mem_map.mpr ⟨_, this, by simp⟩, rfl⟩
        have hfull := hat place.length (Nat.le_refl _)
        rw [List.take_length, List.take_of_length_le (by omega)] at hfull
        have hself : ∀ w, opNe (pairsV (valuesT sh w)) (pairsV (valuesT sh w)) = some (.v (.bool false)) := fun w => opNe_self ((gd_pairs f.hP (f.rowT (way := w))).shp (by omega))
        have hw1 : ∀ q, 1 ≤ (way.take (q + 1)).length ∧ (way.take (q + 1)).length ≤ 10 ∧ ∀ k ∈ way.take (q + 1), k ∈ sh.map (·.1) := fun q => by
          refine ⟨by rw [List.length_take]; omega, by rw [List.length_take]; omega, fun k hk => hw k (List.mem_of_mem_take hk)⟩
        have hv : ∀ q, LC (gN dt wh 59) "values" [.v sh.enc, .v (pathD (way.take (q + 1)))] _ := fun q => f.values h.rows h.vs (hw1 q).1 (hw1 q).2.1 (hw1 q).2.2 (by omega)
        have hvw := f.values h.rows h.vs w1 (by omega) hw (wh := wh) (lv := 59) (by omega)
        have hsl1 : opSl (pathD way) none (some 1) = some (.v (pathD (way.take 1))) := by
          have := opSl_tk (ds := way.map PyData.str) (j := 1)
          rw [← List.map_take] at this
          exact this
        obtain ⟨rest, hrest⟩ : ∃ rest, toldT sh t = ([], valuesT sh (way.take 1)) :: rest := by
          cases t with
          | nd k0 ts =>
            have hk0 : way.take 1 = [k0] := by
              cases place with
              | nil =>
                have h' : way = [k0] := hpt
                rw [h']; rfl
              | cons i0 p0 =>
                obtain ⟨w', t', e, _⟩ := hpt
                rw [e]; rfl
            rw [hk0]
            exact ⟨_, rfl⟩
        have h0 : atI ((toldT sh t).map rowD) 0 = some (rowD ([], valuesT sh (way.take 1))) := by
          rw [hrest]; exact atI_0
        simp [hdict, hix, hfull]
        refine hvw.mono fun r bs ⟨h3, h4⟩ => ?_
        subst h3 h4
        simp [hself, h0, hsl1]
        refine (hv 0).mono fun r bs ⟨h3, h4⟩ => ?_
        subst h3 h4
        have hrow : opNe (rowD ([], valuesT sh (way.take 1))) (.tuple [.tuple [], pairsV (valuesT sh (way.take 1))]) = some (.v (.bool false)) := by
          refine opNe_self (d := rowD ([], valuesT sh (way.take 1))) (Gd.shp (m := 60) (n := 3) ⟨by simp, fun d hd => ?_⟩ (by omega))
          simp at hd
          rcases hd with rfl | rfl
          · exact ⟨by simp, by simp⟩
          · exact gd_pairs f.hP f.rowT
        simp [hrow]
        have hls : (toldT sh t).map (fun q => placeD q.1) = (L.map (·.1)).map fun p => placeD p := by
          rw [← hL, List.map_map, List.map_map]; rfl
        have hasc : (L.map (·.1)).Pairwise LtP := by
          rw [← hL, List.map_map, toldT, List.map_map]
          show ((plT t [] []).map (·.1)).Pairwise LtP
          rw [List.pairwise_map]
          exact plT_asc t [] []
        have hsort := opSorted_places hasc (by rw [← hL]; simp only [List.length_map]; omega)
        rw [← hls] at hsort
        have hpsh : SeqAt.shaped (.list ((toldT sh t).map fun q => placeD q.1)) = true := by
          refine Gd.shp (m := 1000) (n := 2) ⟨by simp only [List.length_map]; omega, fun d hd => ?_⟩ (by omega)
          obtain ⟨q, hq, rfl⟩ := List.mem_map.mp hd
          simp only [toldT, List.mem_map] at hq
          obtain ⟨q0, hq0, rfl⟩ := hq
          have := plT_place htr6 (pl := []) (w := []) q0 hq0
          refine ⟨by simp at this ⊢; omega, fun d hd => ?_⟩
          obtain ⟨i, _, rfl⟩ := List.mem_map.mp hd
          exact gd_int
        have hpe := opNe_self hpsh
        refine l_compTy rowD (fun q => placeD q.1) ?_
        simp [calmSl]
        refine ⟨_, rfl, len_ok' (by omega), fun a b hab => ?_, ?_⟩
        · simp [rowD]
        refine l_compTy rowD (fun q => placeD q.1) ?_
        simp [calmSl]
        refine ⟨_, rfl, len_ok' (by omega), fun a b hab => ?_, ?_⟩
        · simp [rowD]
        simp [hsort, hpe]
        with_reducible refine l_forI ?_
        have hpn := rng_nat (n := place.length) (by omega)
        simp [opLen3_pl, hpn]
        refine ⟨fun q e => Keep (∃ s9, isBor (some s9) = false ∧ e = [some (.val (scrD (ns.map .int))), some (.val (.int k)), some (.own (bagD bag5)), some (.val sh.enc), some (.val (strsD ks)), some (.val (.int i)), some (.val (pathD way)), some (.val (.int j)), some (.val (.list ((toldT sh t).map rowD))), s9, some (.val t.enc), some (.val (placeD place)), none, none, none]), kp ⟨s9, b9, rfl⟩, ?_, ?_⟩
        · rintro q d e hd ⟨s9, b9, rfl⟩
          obtain ⟨hq, rfl⟩ := ints_at0 hd
          have hslp : opSl (placeD place) none (some (q : Int)) = some (.v (placeD (place.take q))) := by
            have := opSl_tk (ds := place.map fun i => PyData.int (i : Nat)) (j := q)
            rw [← List.map_take] at this
            exact this
          have hslw : opSl (pathD way) none (some ((q : Int) + 1)) = some (.v (pathD (way.take (q + 1)))) := by
            have := opSl_tk (ds := way.map PyData.str) (j := q + 1)
            rw [← List.map_take] at this
            exact this
          simp [b9, hdict, hslp, hix, hat q (by omega), hslw]
          refine (hv q).mono fun r bs ⟨h3, h4⟩ => ?_
          subst h3 h4
          simp [hself]
          exact kp ⟨some (.val (.int q)), rfl, rfl⟩
        · rintro e ⟨s9, b9, rfl⟩
          try simp
          exact kp ⟨some (.val (strsD ks)), some (.val (.int j)), some (.val (.list ((toldT sh t).map rowD))), s9, some (.val t.enc), some (.val (placeD place)), bag5, .inr rfl, rfl, rfl, b9, rfl, rfl, rfl⟩
      · rintro e ⟨s4, s7, s8, s9, s10, s11, bag4, d4, b7, b8, b9, b10, b11, rfl⟩
        try simp
        exact kp ⟨_, _, _, s7, s8, s9, s10, s11, bag4, d4, rfl, rfl, b7, b8, b9, b10, b11, rfl⟩
    · rintro e ⟨s4, s5, s6, s7, s8, s9, s10, s11, bag2, d4, b5, b6, b7, b8, b9, b10, b11, rfl⟩
      try simp
      have b4 : isBor (some s4) = false := by rcases d4 with rfl | rfl <;> rfl
      exact kp ⟨_, _, _, s4, s5, s6, s7, s8, s9, s10, s11, rfl, rfl, rfl, b4, b5, b6, b7, b8, b9, b10, b11, rfl⟩
  · rintro e ⟨s1, s2, s3, s4, s5, s6, s7, s8, s9, s10, s11, b1, b2, b3, b4, b5, b6, b7, b8, b9, b10, b11, rfl⟩
    simp
end
end RL
end
section
set_option Elab.async false
set_option linter.all false
set_option autoImplicit false
set_option maxRecDepth 100000
set_option maxHeartbeats 0
namespace RL
open PySem PySem.Spec L2
open PyProof.Rows hiding St
/-! the defs of the law, by their places in the top -/
def top (i : Nat) : Stmt := PySem.Challenge.pw_heirvalues_k04_whole_the_way_alone.main.body.getD i (.Pass ⟨0, 0, 0, 0⟩)
def sig : List (Str × List Bool) := [(("is_integer" : Str), [false, false, false]), (("is_name" : Str), [false]), (("is_pair" : Str), [false]), (("rises" : Str), [false]), (("is_within" : Str), [false, false]), (("is_rule" : Str), [false]), (("parts_of" : Str), [false]), (("named_in" : Str), [false, false]), (("names_in" : Str), [false]), (("are_settings" : Str), [false]), (("is_sheet" : Str), [false]), (("need_sheet" : Str), [false]), (("is_way" : Str), [false, false]), (("is_tree_within" : Str), [false, false, false]), (("is_tree" : Str), [false, false]), (("need_way" : Str), [false, false]), (("need_tree" : Str), [false, false]), (("leads_of" : Str), [false]), (("rings_from" : Str), [false, false]), (("all_rings" : Str), [false]), (("names_in_rings" : Str), [false]), (("value_by" : Str), [false, false, false, false]), (("rules_of" : Str), [false]), (("values_below" : Str), [false, false, false]), (("values_from" : Str), [false, false, false]), (("no_values" : Str), [false]), (("values_at" : Str), [false, false, false]), (("as_pairs" : Str), [false]), (("values" : Str), [false, false]), (("all_places" : Str), [false, false, false]), (("told" : Str), [false, false]), (("_law_cell" : Str), [false, false]), (("_law_draws" : Str), [false, false, false, false]), (("_law_bag" : Str), [false, false]), (("_law_take" : Str), [true, false]), (("_law_choice" : Str), [true, false]), (("_law_rule" : Str), [true, false, false]), (("_law_sheet" : Str), [true, false, false]), (("_law_way" : Str), [true, false, false]), (("_law_branch" : Str), [true, false, false]), (("law" : Str), [false])]
def cst : List (Str × Str) := [(("LETTERS" : Str), ("abcdefghijklmnopqrstuvwxyz" : Str))]
def o_is_integer : Option (TrB ⟨[("value" : Str), ("low" : Str), ("high" : Str)], defScope (top 7), fun _ => true, sig, csOf cst⟩ (defBody (top 7))) := trSs 300 _ _
theorem q_is_integer : trM o_is_integer = e_is_integer.m := by kernel_rfl
def d_is_integer : TopD := ⟨e_is_integer, top 7⟩
def o_is_name : Option (TrB ⟨[("value" : Str), ("sign" : Str)], defScope (top 8), fun _ => true, sig, csOf cst⟩ (defBody (top 8))) := trSs 300 _ _
theorem q_is_name : trM o_is_name = e_is_name.m := by kernel_rfl
def d_is_name : TopD := ⟨e_is_name, top 8⟩
def o_is_pair : Option (TrB ⟨[("value" : Str)], defScope (top 9), fun _ => true, sig, csOf cst⟩ (defBody (top 9))) := trSs 300 _ _
theorem q_is_pair : trM o_is_pair = e_is_pair.m := by kernel_rfl
def d_is_pair : TopD := ⟨e_is_pair, top 9⟩
def o_rises : Option (TrB ⟨[("pairs" : Str), ("one" : Str), ("other" : Str)], defScope (top 10), fun _ => true, sig, csOf cst⟩ (defBody (top 10))) := trSs 300 _ _
theorem q_rises : trM o_rises = e_rises.m := by kernel_rfl
def d_rises : TopD := ⟨e_rises, top 10⟩
def o_is_within : Option (TrB ⟨[("value" : Str), ("depth" : Str), ("word" : Str), ("rest" : Str), ("part" : Str)], defScope (top 11), fun _ => true, sig, csOf cst⟩ (defBody (top 11))) := trSs 300 _ _
theorem q_is_within : trM o_is_within = e_is_within.m := by kernel_rfl
def d_is_within : TopD := ⟨e_is_within, top 11⟩
def o_is_rule : Option (TrB ⟨[("value" : Str)], defScope (top 12), fun _ => true, sig, csOf cst⟩ (defBody (top 12))) := trSs 300 _ _
theorem q_is_rule : trM o_is_rule = e_is_rule.m := by kernel_rfl
def d_is_rule : TopD := ⟨e_is_rule, top 12⟩
def o_parts_of : Option (TrB ⟨[("rule" : Str)], defScope (top 13), fun _ => true, sig, csOf cst⟩ (defBody (top 13))) := trSs 300 _ _
theorem q_parts_of : trM o_parts_of = e_parts_of.m := by kernel_rfl
def d_parts_of : TopD := ⟨e_parts_of, top 13⟩
def o_named_in : Option (TrB ⟨[("rule" : Str), ("words" : Str), ("found" : Str), ("part" : Str)], defScope (top 14), fun _ => true, sig, csOf cst⟩ (defBody (top 14))) := trSs 300 _ _
theorem q_named_in : trM o_named_in = e_named_in.m := by kernel_rfl
def d_named_in : TopD := ⟨e_named_in, top 14⟩
def o_names_in : Option (TrB ⟨[("pairs" : Str), ("found" : Str), ("kind" : Str), ("settings" : Str), ("name" : Str), ("rule" : Str)], defScope (top 15), fun _ => true, sig, csOf cst⟩ (defBody (top 15))) := trSs 300 _ _
theorem q_names_in : trM o_names_in = e_names_in.m := by kernel_rfl
def d_names_in : TopD := ⟨e_names_in, top 15⟩
def o_are_settings : Option (TrB ⟨[("value" : Str), ("pair" : Str)], defScope (top 16), fun _ => true, sig, csOf cst⟩ (defBody (top 16))) := trSs 300 _ _
theorem q_are_settings : trM o_are_settings = e_are_settings.m := by kernel_rfl
def d_are_settings : TopD := ⟨e_are_settings, top 16⟩
def o_is_sheet : Option (TrB ⟨[("value" : Str), ("pair" : Str)], defScope (top 17), fun _ => true, sig, csOf cst⟩ (defBody (top 17))) := trSs 300 _ _
theorem q_is_sheet : trM o_is_sheet = e_is_sheet.m := by kernel_rfl
def d_is_sheet : TopD := ⟨e_is_sheet, top 17⟩
def o_need_sheet : Option (TrB ⟨[("value" : Str)], defScope (top 18), fun _ => true, sig, csOf cst⟩ (defBody (top 18))) := trSs 300 _ _
theorem q_need_sheet : trM o_need_sheet = e_need_sheet.m := by kernel_rfl
def d_need_sheet : TopD := ⟨e_need_sheet, top 18⟩
def o_is_way : Option (TrB ⟨[("sheet" : Str), ("value" : Str), ("kind" : Str)], defScope (top 19), fun _ => true, sig, csOf cst⟩ (defBody (top 19))) := trSs 300 _ _
theorem q_is_way : trM o_is_way = e_is_way.m := by kernel_rfl
def d_is_way : TopD := ⟨e_is_way, top 19⟩
def o_is_tree_within : Option (TrB ⟨[("kinds" : Str), ("value" : Str), ("depth" : Str), ("part" : Str)], defScope (top 20), fun _ => true, sig, csOf cst⟩ (defBody (top 20))) := trSs 300 _ _
theorem q_is_tree_within : trM o_is_tree_within = e_is_tree_within.m := by kernel_rfl
def d_is_tree_within : TopD := ⟨e_is_tree_within, top 20⟩
def o_is_tree : Option (TrB ⟨[("sheet" : Str), ("value" : Str), ("kind" : Str), ("settings" : Str)], defScope (top 21), fun _ => true, sig, csOf cst⟩ (defBody (top 21))) := trSs 300 _ _
theorem q_is_tree : trM o_is_tree = e_is_tree.m := by kernel_rfl
def d_is_tree : TopD := ⟨e_is_tree, top 21⟩
def o_need_way : Option (TrB ⟨[("sheet" : Str), ("value" : Str)], defScope (top 22), fun _ => true, sig, csOf cst⟩ (defBody (top 22))) := trSs 300 _ _
theorem q_need_way : trM o_need_way = e_need_way.m := by kernel_rfl
def d_need_way : TopD := ⟨e_need_way, top 22⟩
def o_need_tree : Option (TrB ⟨[("sheet" : Str), ("value" : Str)], defScope (top 23), fun _ => true, sig, csOf cst⟩ (defBody (top 23))) := trSs 300 _ _
theorem q_need_tree : trM o_need_tree = e_need_tree.m := by kernel_rfl
def d_need_tree : TopD := ⟨e_need_tree, top 23⟩
def o_leads_of : Option (TrB ⟨[("settings" : Str), ("rules" : Str), ("found" : Str), ("name" : Str), ("rule" : Str), ("other" : Str)], defScope (top 24), fun _ => true, sig, csOf cst⟩ (defBody (top 24))) := trSs 300 _ _
theorem q_leads_of : trM o_leads_of = e_leads_of.m := by kernel_rfl
def d_leads_of : TopD := ⟨e_leads_of, top 24⟩
def o_rings_from : Option (TrB ⟨[("steps" : Str), ("path" : Str), ("found" : Str), ("name" : Str)], defScope (top 25), fun _ => true, sig, csOf cst⟩ (defBody (top 25))) := trSs 300 _ _
theorem q_rings_from : trM o_rings_from = e_rings_from.m := by kernel_rfl
def d_rings_from : TopD := ⟨e_rings_from, top 25⟩
def o_all_rings : Option (TrB ⟨[("settings" : Str), ("steps" : Str), ("found" : Str), ("name" : Str)], defScope (top 26), fun _ => true, sig, csOf cst⟩ (defBody (top 26))) := trSs 300 _ _
theorem q_all_rings : trM o_all_rings = e_all_rings.m := by kernel_rfl
def d_all_rings : TopD := ⟨e_all_rings, top 26⟩
def o_names_in_rings : Option (TrB ⟨[("settings" : Str), ("found" : Str), ("path" : Str)], defScope (top 27), fun _ => true, sig, csOf cst⟩ (defBody (top 27))) := trSs 300 _ _
theorem q_names_in_rings : trM o_names_in_rings = e_names_in_rings.m := by kernel_rfl
def d_names_in_rings : TopD := ⟨e_names_in_rings, top 27⟩
def o_value_by : Option (TrB ⟨[("rule" : Str), ("rules" : Str), ("bad" : Str), ("above" : Str), ("word" : Str), ("parts" : Str), ("part" : Str)], defScope (top 29), fun _ => true, sig, csOf cst⟩ (defBody (top 29))) := trSs 300 _ _
theorem q_value_by : trM o_value_by = e_value_by.m := by kernel_rfl
def d_value_by : TopD := ⟨e_value_by, top 29⟩
def o_rules_of : Option (TrB ⟨[("sheet" : Str), ("kind" : Str), ("settings" : Str)], defScope (top 30), fun _ => true, sig, csOf cst⟩ (defBody (top 30))) := trSs 300 _ _
theorem q_rules_of : trM o_rules_of = e_rules_of.m := by kernel_rfl
def d_rules_of : TopD := ⟨e_rules_of, top 30⟩
def o_values_below : Option (TrB ⟨[("known" : Str), ("kind" : Str), ("above" : Str), ("rules" : Str), ("bad" : Str), ("name" : Str)], defScope (top 31), fun _ => true, sig, csOf cst⟩ (defBody (top 31))) := trSs 300 _ _
theorem q_values_below : trM o_values_below = e_values_below.m := by kernel_rfl
def d_values_below : TopD := ⟨e_values_below, top 31⟩
def o_values_from : Option (TrB ⟨[("sheet" : Str), ("way" : Str), ("above" : Str), ("known" : Str), ("kind" : Str)], defScope (top 32), fun _ => true, sig, csOf cst⟩ (defBody (top 32))) := trSs 300 _ _
theorem q_values_from : trM o_values_from = e_values_from.m := by kernel_rfl
def d_values_from : TopD := ⟨e_values_from, top 32⟩
def o_no_values : Option (TrB ⟨[("names" : Str), ("name" : Str)], defScope (top 33), fun _ => true, sig, csOf cst⟩ (defBody (top 33))) := trSs 300 _ _
theorem q_no_values : trM o_no_values = e_no_values.m := by kernel_rfl
def d_no_values : TopD := ⟨e_no_values, top 33⟩
def o_values_at : Option (TrB ⟨[("sheet" : Str), ("way" : Str), ("names" : Str)], defScope (top 34), fun _ => true, sig, csOf cst⟩ (defBody (top 34))) := trSs 300 _ _
theorem q_values_at : trM o_values_at = e_values_at.m := by kernel_rfl
def d_values_at : TopD := ⟨e_values_at, top 34⟩
def o_as_pairs : Option (TrB ⟨[("values" : Str), ("name" : Str)], defScope (top 35), fun _ => true, sig, csOf cst⟩ (defBody (top 35))) := trSs 300 _ _
theorem q_as_pairs : trM o_as_pairs = e_as_pairs.m := by kernel_rfl
def d_as_pairs : TopD := ⟨e_as_pairs, top 35⟩
def o_values : Option (TrB ⟨[("sheet" : Str), ("way" : Str)], defScope (top 36), fun _ => true, sig, csOf cst⟩ (defBody (top 36))) := trSs 300 _ _
theorem q_values : trM o_values = e_values.m := by kernel_rfl
def d_values : TopD := ⟨e_values, top 36⟩
def o_all_places : Option (TrB ⟨[("tree" : Str), ("place" : Str), ("way" : Str), ("found" : Str), ("kind" : Str), ("parts" : Str), ("at" : Str), ("part" : Str)], defScope (top 37), fun _ => true, sig, csOf cst⟩ (defBody (top 37))) := trSs 300 _ _
theorem q_all_places : trM o_all_places = e_all_places.m := by kernel_rfl
def d_all_places : TopD := ⟨e_all_places, top 37⟩
def o_told : Option (TrB ⟨[("sheet" : Str), ("tree" : Str), ("names" : Str), ("place" : Str), ("way" : Str)], defScope (top 38), fun _ => true, sig, csOf cst⟩ (defBody (top 38))) := trSs 300 _ _
theorem q_told : trM o_told = e_told.m := by kernel_rfl
def d_told : TopD := ⟨e_told, top 38⟩
def o__law_cell : Option (TrB ⟨[("script" : Str), ("k" : Str)], defScope (top 40), fun _ => true, sig, csOf cst⟩ (defBody (top 40))) := trSs 300 _ _
theorem q__law_cell : trM o__law_cell = e__law_cell.m := by kernel_rfl
def d__law_cell : TopD := ⟨e__law_cell, top 40⟩
def o__law_draws : Option (TrB ⟨[("script" : Str), ("k" : Str), ("many" : Str), ("base" : Str), ("primes" : Str), ("cell" : Str), ("rest" : Str), ("row" : Str), ("j" : Str), ("mash" : Str)], defScope (top 41), fun _ => true, sig, csOf cst⟩ (defBody (top 41))) := trSs 300 _ _
theorem q__law_draws : trM o__law_draws = e__law_draws.m := by kernel_rfl
def d__law_draws : TopD := ⟨e__law_draws, top 41⟩
def o__law_bag : Option (TrB ⟨[("script" : Str), ("k" : Str)], defScope (top 42), fun _ => true, sig, csOf cst⟩ (defBody (top 42))) := trSs 300 _ _
theorem q__law_bag : trM o__law_bag = e__law_bag.m := by kernel_rfl
def d__law_bag : TopD := ⟨e__law_bag, top 42⟩
def o__law_take : Option (TrB ⟨[("bag" : Str), ("many" : Str), ("draw" : Str)], defScope (top 43), fun _ => true, sig, csOf cst⟩ (defBody (top 43))) := trSs 300 _ _
theorem q__law_take : trM o__law_take = e__law_take.m := by kernel_rfl
def d__law_take : TopD := ⟨e__law_take, top 43⟩
def o__law_choice : Option (TrB ⟨[("bag" : Str), ("some" : Str)], defScope (top 44), fun _ => true, sig, csOf cst⟩ (defBody (top 44))) := trSs 300 _ _
theorem q__law_choice : trM o__law_choice = e__law_choice.m := by kernel_rfl
def d__law_choice : TopD := ⟨e__law_choice, top 44⟩
def o__law_rule : Option (TrB ⟨[("bag" : Str), ("names" : Str), ("deep" : Str), ("way" : Str), ("many" : Str), ("parts" : Str), ("part_so" : Str)], defScope (top 45), fun _ => true, sig, csOf cst⟩ (defBody (top 45))) := trSs 300 _ _
theorem q__law_rule : trM o__law_rule = e__law_rule.m := by kernel_rfl
def d__law_rule : TopD := ⟨e__law_rule, top 45⟩
def o__law_sheet : Option (TrB ⟨[("bag" : Str), ("kinds_so" : Str), ("names_so" : Str), ("names" : Str), ("found" : Str), ("kind" : Str), ("settings" : Str), ("name" : Str)], defScope (top 46), fun _ => true, sig, csOf cst⟩ (defBody (top 46))) := trSs 300 _ _
theorem q__law_sheet : trM o__law_sheet = e__law_sheet.m := by kernel_rfl
def d__law_sheet : TopD := ⟨e__law_sheet, top 46⟩
def o__law_way : Option (TrB ⟨[("bag" : Str), ("sheet" : Str), ("most" : Str), ("kinds" : Str), ("kind" : Str), ("settings" : Str), ("kind_so" : Str)], defScope (top 49), fun _ => true, sig, csOf cst⟩ (defBody (top 49))) := trSs 300 _ _
theorem q__law_way : trM o__law_way = e__law_way.m := by kernel_rfl
def d__law_way : TopD := ⟨e__law_way, top 49⟩
def o__law_branch : Option (TrB ⟨[("bag" : Str), ("kinds" : Str), ("way" : Str), ("before" : Str), ("below" : Str), ("behind" : Str), ("others" : Str), ("part" : Str), ("place" : Str), ("part_so" : Str)], defScope (top 50), fun _ => true, sig, csOf cst⟩ (defBody (top 50))) := trSs 300 _ _
theorem q__law_branch : trM o__law_branch = e__law_branch.m := by kernel_rfl
def d__law_branch : TopD := ⟨e__law_branch, top 50⟩
def o_law : Option (TrB ⟨[("script" : Str), ("k" : Str), ("bag" : Str), ("sheet" : Str), ("kinds" : Str), ("turn_so" : Str), ("way" : Str), ("again_so" : Str), ("found" : Str), ("size" : Str), ("tree" : Str), ("place" : Str), ("kind" : Str), ("settings" : Str), ("one" : Str)], defScope (top 51), fun _ => true, sig, csOf cst⟩ (defBody (top 51))) := trSs 300 _ _
theorem q_law : trM o_law = e_law.m := by kernel_rfl
def d_law : TopD := ⟨e_law, top 51⟩
def tds : List TopD := [d_is_integer, d_is_name, d_is_pair, d_rises, d_is_within, d_is_rule, d_parts_of, d_named_in, d_names_in, d_are_settings, d_is_sheet, d_need_sheet, d_is_way, d_is_tree_within, d_is_tree, d_need_way, d_need_tree, d_leads_of, d_rings_from, d_all_rings, d_names_in_rings, d_value_by, d_rules_of, d_values_below, d_values_from, d_no_values, d_values_at, d_as_pairs, d_values, d_all_places, d_told, d__law_cell, d__law_draws, d__law_bag, d__law_take, d__law_choice, d__law_rule, d__law_sheet, d__law_way, d__law_branch, d_law]
theorem k_is_integer : TopOk sig (csOf cst) d_is_integer := ⟨⟨rfl, rfl, rfl, by decide +kernel, rfl, by decide +kernel, by decide +kernel⟩, fun _ _ _ _ _ _ us hl => match us, hl with | [_, _, _], _ => rfl, fun X k g n ok => by
  have h := trM_ok o_is_integer (by decide +kernel) X k g n ok
  rw [q_is_integer] at h
  exact h⟩
theorem k_is_name : TopOk sig (csOf cst) d_is_name := ⟨⟨rfl, rfl, rfl, by decide +kernel, rfl, by decide +kernel, by decide +kernel⟩, fun _ _ _ _ _ _ us hl => match us, hl with | [_], _ => rfl, fun X k g n ok => by
  have h := trM_ok o_is_name (by decide +kernel) X k g n ok
  rw [q_is_name] at h
  exact h⟩
theorem k_is_pair : TopOk sig (csOf cst) d_is_pair := ⟨⟨rfl, rfl, rfl, by decide +kernel, rfl, by decide +kernel, by decide +kernel⟩, fun _ _ _ _ _ _ us hl => match us, hl with | [_], _ => rfl, fun X k g n ok => by
  have h := trM_ok o_is_pair (by decide +kernel) X k g n ok
  rw [q_is_pair] at h
  exact h⟩
theorem k_rises : TopOk sig (csOf cst) d_rises := ⟨⟨rfl, rfl, rfl, by decide +kernel, rfl, by decide +kernel, by decide +kernel⟩, fun _ _ _ _ _ _ us hl => match us, hl with | [_], _ => rfl, fun X k g n ok => by
  have h := trM_ok o_rises (by decide +kernel) X k g n ok
  rw [q_rises] at h
  exact h⟩
theorem k_is_within : TopOk sig (csOf cst) d_is_within := ⟨⟨rfl, rfl, rfl, by decide +kernel, rfl, by decide +kernel, by decide +kernel⟩, fun _ _ _ _ _ _ us hl => match us, hl with | [_, _], _ => rfl, fun X k g n ok => by
  have h := trM_ok o_is_within (by decide +kernel) X k g n ok
  rw [q_is_within] at h
  exact h⟩
theorem k_is_rule : TopOk sig (csOf cst) d_is_rule := ⟨⟨rfl, rfl, rfl, by decide +kernel, rfl, by decide +kernel, by decide +kernel⟩, fun _ _ _ _ _ _ us hl => match us, hl with | [_], _ => rfl, fun X k g n ok => by
  have h := trM_ok o_is_rule (by decide +kernel) X k g n ok
  rw [q_is_rule] at h
  exact h⟩
theorem k_parts_of : TopOk sig (csOf cst) d_parts_of := ⟨⟨rfl, rfl, rfl, by decide +kernel, rfl, by decide +kernel, by decide +kernel⟩, fun _ _ _ _ _ _ us hl => match us, hl with | [_], _ => rfl, fun X k g n ok => by
  have h := trM_ok o_parts_of (by decide +kernel) X k g n ok
  rw [q_parts_of] at h
  exact h⟩
theorem k_named_in : TopOk sig (csOf cst) d_named_in := ⟨⟨rfl, rfl, rfl, by decide +kernel, rfl, by decide +kernel, by decide +kernel⟩, fun _ _ _ _ _ _ us hl => match us, hl with | [_, _], _ => rfl, fun X k g n ok => by
  have h := trM_ok o_named_in (by decide +kernel) X k g n ok
  rw [q_named_in] at h
  exact h⟩
theorem k_names_in : TopOk sig (csOf cst) d_names_in := ⟨⟨rfl, rfl, rfl, by decide +kernel, rfl, by decide +kernel, by decide +kernel⟩, fun _ _ _ _ _ _ us hl => match us, hl with | [_], _ => rfl, fun X k g n ok => by
  have h := trM_ok o_names_in (by decide +kernel) X k g n ok
  rw [q_names_in] at h
  exact h⟩
theorem k_are_settings : TopOk sig (csOf cst) d_are_settings := ⟨⟨rfl, rfl, rfl, by decide +kernel, rfl, by decide +kernel, by decide +kernel⟩, fun _ _ _ _ _ _ us hl => match us, hl with | [_], _ => rfl, fun X k g n ok => by
  have h := trM_ok o_are_settings (by decide +kernel) X k g n ok
  rw [q_are_settings] at h
  exact h⟩
theorem k_is_sheet : TopOk sig (csOf cst) d_is_sheet := ⟨⟨rfl, rfl, rfl, by decide +kernel, rfl, by decide +kernel, by decide +kernel⟩, fun _ _ _ _ _ _ us hl => match us, hl with | [_], _ => rfl, fun X k g n ok => by
  have h := trM_ok o_is_sheet (by decide +kernel) X k g n ok
  rw [q_is_sheet] at h
  exact h⟩
theorem k_need_sheet : TopOk sig (csOf cst) d_need_sheet := ⟨⟨rfl, rfl, rfl, by decide +kernel, rfl, by decide +kernel, by decide +kernel⟩, fun _ _ _ _ _ _ us hl => match us, hl with | [_], _ => rfl, fun X k g n ok => by
  have h := trM_ok o_need_sheet (by decide +kernel) X k g n ok
  rw [q_need_sheet] at h
  exact h⟩
theorem k_is_way : TopOk sig (csOf cst) d_is_way := ⟨⟨rfl, rfl, rfl, by decide +kernel, rfl, by decide +kernel, by decide +kernel⟩, fun _ _ _ _ _ _ us hl => match us, hl with | [_, _], _ => rfl, fun X k g n ok => by
  have h := trM_ok o_is_way (by decide +kernel) X k g n ok
  rw [q_is_way] at h
  exact h⟩
theorem k_is_tree_within : TopOk sig (csOf cst) d_is_tree_within := ⟨⟨rfl, rfl, rfl, by decide +kernel, rfl, by decide +kernel, by decide +kernel⟩, fun _ _ _ _ _ _ us hl => match us, hl with | [_, _, _], _ => rfl, fun X k g n ok => by
  have h := trM_ok o_is_tree_within (by decide +kernel) X k g n ok
  rw [q_is_tree_within] at h
  exact h⟩
theorem k_is_tree : TopOk sig (csOf cst) d_is_tree := ⟨⟨rfl, rfl, rfl, by decide +kernel, rfl, by decide +kernel, by decide +kernel⟩, fun _ _ _ _ _ _ us hl => match us, hl with | [_, _], _ => rfl, fun X k g n ok => by
  have h := trM_ok o_is_tree (by decide +kernel) X k g n ok
  rw [q_is_tree] at h
  exact h⟩
theorem k_need_way : TopOk sig (csOf cst) d_need_way := ⟨⟨rfl, rfl, rfl, by decide +kernel, rfl, by decide +kernel, by decide +kernel⟩, fun _ _ _ _ _ _ us hl => match us, hl with | [_, _], _ => rfl, fun X k g n ok => by
  have h := trM_ok o_need_way (by decide +kernel) X k g n ok
  rw [q_need_way] at h
  exact h⟩
theorem k_need_tree : TopOk sig (csOf cst) d_need_tree := ⟨⟨rfl, rfl, rfl, by decide +kernel, rfl, by decide +kernel, by decide +kernel⟩, fun _ _ _ _ _ _ us hl => match us, hl with | [_, _], _ => rfl, fun X k g n ok => by
  have h := trM_ok o_need_tree (by decide +kernel) X k g n ok
  rw [q_need_tree] at h
  exact h⟩
theorem k_leads_of : TopOk sig (csOf cst) d_leads_of := ⟨⟨rfl, rfl, rfl, by decide +kernel, rfl, by decide +kernel, by decide +kernel⟩, fun _ _ _ _ _ _ us hl => match us, hl with | [_], _ => rfl, fun X k g n ok => by
  have h := trM_ok o_leads_of (by decide +kernel) X k g n ok
  rw [q_leads_of] at h
  exact h⟩
theorem k_rings_from : TopOk sig (csOf cst) d_rings_from := ⟨⟨rfl, rfl, rfl, by decide +kernel, rfl, by decide +kernel, by decide +kernel⟩, fun _ _ _ _ _ _ us hl => match us, hl with | [_, _], _ => rfl, fun X k g n ok => by
  have h := trM_ok o_rings_from (by decide +kernel) X k g n ok
  rw [q_rings_from] at h
  exact h⟩
theorem k_all_rings : TopOk sig (csOf cst) d_all_rings := ⟨⟨rfl, rfl, rfl, by decide +kernel, rfl, by decide +kernel, by decide +kernel⟩, fun _ _ _ _ _ _ us hl => match us, hl with | [_], _ => rfl, fun X k g n ok => by
  have h := trM_ok o_all_rings (by decide +kernel) X k g n ok
  rw [q_all_rings] at h
  exact h⟩
theorem k_names_in_rings : TopOk sig (csOf cst) d_names_in_rings := ⟨⟨rfl, rfl, rfl, by decide +kernel, rfl, by decide +kernel, by decide +kernel⟩, fun _ _ _ _ _ _ us hl => match us, hl with | [_], _ => rfl, fun X k g n ok => by
  have h := trM_ok o_names_in_rings (by decide +kernel) X k g n ok
  rw [q_names_in_rings] at h
  exact h⟩
theorem k_value_by : TopOk sig (csOf cst) d_value_by := ⟨⟨rfl, rfl, rfl, by decide +kernel, rfl, by decide +kernel, by decide +kernel⟩, fun _ _ _ _ _ _ us hl => match us, hl with | [_, _, _, _], _ => rfl, fun X k g n ok => by
  have h := trM_ok o_value_by (by decide +kernel) X k g n ok
  rw [q_value_by] at h
  exact h⟩
theorem k_rules_of : TopOk sig (csOf cst) d_rules_of := ⟨⟨rfl, rfl, rfl, by decide +kernel, rfl, by decide +kernel, by decide +kernel⟩, fun _ _ _ _ _ _ us hl => match us, hl with | [_], _ => rfl, fun X k g n ok => by
  have h := trM_ok o_rules_of (by decide +kernel) X k g n ok
  rw [q_rules_of] at h
  exact h⟩
theorem k_values_below : TopOk sig (csOf cst) d_values_below := ⟨⟨rfl, rfl, rfl, by decide +kernel, rfl, by decide +kernel, by decide +kernel⟩, fun _ _ _ _ _ _ us hl => match us, hl with | [_, _, _], _ => rfl, fun X k g n ok => by
  have h := trM_ok o_values_below (by decide +kernel) X k g n ok
  rw [q_values_below] at h
  exact h⟩
theorem k_values_from : TopOk sig (csOf cst) d_values_from := ⟨⟨rfl, rfl, rfl, by decide +kernel, rfl, by decide +kernel, by decide +kernel⟩, fun _ _ _ _ _ _ us hl => match us, hl with | [_, _, _], _ => rfl, fun X k g n ok => by
  have h := trM_ok o_values_from (by decide +kernel) X k g n ok
  rw [q_values_from] at h
  exact h⟩
theorem k_no_values : TopOk sig (csOf cst) d_no_values := ⟨⟨rfl, rfl, rfl, by decide +kernel, rfl, by decide +kernel, by decide +kernel⟩, fun _ _ _ _ _ _ us hl => match us, hl with | [_], _ => rfl, fun X k g n ok => by
  have h := trM_ok o_no_values (by decide +kernel) X k g n ok
  rw [q_no_values] at h
  exact h⟩
theorem k_values_at : TopOk sig (csOf cst) d_values_at := ⟨⟨rfl, rfl, rfl, by decide +kernel, rfl, by decide +kernel, by decide +kernel⟩, fun _ _ _ _ _ _ us hl => match us, hl with | [_, _, _], _ => rfl, fun X k g n ok => by
  have h := trM_ok o_values_at (by decide +kernel) X k g n ok
  rw [q_values_at] at h
  exact h⟩
theorem k_as_pairs : TopOk sig (csOf cst) d_as_pairs := ⟨⟨rfl, rfl, rfl, by decide +kernel, rfl, by decide +kernel, by decide +kernel⟩, fun _ _ _ _ _ _ us hl => match us, hl with | [_], _ => rfl, fun X k g n ok => by
  have h := trM_ok o_as_pairs (by decide +kernel) X k g n ok
  rw [q_as_pairs] at h
  exact h⟩
theorem k_values : TopOk sig (csOf cst) d_values := ⟨⟨rfl, rfl, rfl, by decide +kernel, rfl, by decide +kernel, by decide +kernel⟩, fun _ _ _ _ _ _ us hl => match us, hl with | [_, _], _ => rfl, fun X k g n ok => by
  have h := trM_ok o_values (by decide +kernel) X k g n ok
  rw [q_values] at h
  exact h⟩
theorem k_all_places : TopOk sig (csOf cst) d_all_places := ⟨⟨rfl, rfl, rfl, by decide +kernel, rfl, by decide +kernel, by decide +kernel⟩, fun _ _ _ _ _ _ us hl => match us, hl with | [_, _, _], _ => rfl, fun X k g n ok => by
  have h := trM_ok o_all_places (by decide +kernel) X k g n ok
  rw [q_all_places] at h
  exact h⟩
theorem k_told : TopOk sig (csOf cst) d_told := ⟨⟨rfl, rfl, rfl, by decide +kernel, rfl, by decide +kernel, by decide +kernel⟩, fun _ _ _ _ _ _ us hl => match us, hl with | [_, _], _ => rfl, fun X k g n ok => by
  have h := trM_ok o_told (by decide +kernel) X k g n ok
  rw [q_told] at h
  exact h⟩
theorem k__law_cell : TopOk sig (csOf cst) d__law_cell := ⟨⟨rfl, rfl, rfl, by decide +kernel, rfl, by decide +kernel, by decide +kernel⟩, fun _ _ _ _ _ _ us hl => match us, hl with | [_, _], _ => rfl, fun X k g n ok => by
  have h := trM_ok o__law_cell (by decide +kernel) X k g n ok
  rw [q__law_cell] at h
  exact h⟩
theorem k__law_draws : TopOk sig (csOf cst) d__law_draws := ⟨⟨rfl, rfl, rfl, by decide +kernel, rfl, by decide +kernel, by decide +kernel⟩, fun _ _ _ _ _ _ us hl => match us, hl with | [_, _, _, _], _ => rfl, fun X k g n ok => by
  have h := trM_ok o__law_draws (by decide +kernel) X k g n ok
  rw [q__law_draws] at h
  exact h⟩
theorem k__law_bag : TopOk sig (csOf cst) d__law_bag := ⟨⟨rfl, rfl, rfl, by decide +kernel, rfl, by decide +kernel, by decide +kernel⟩, fun _ _ _ _ _ _ us hl => match us, hl with | [_, _], _ => rfl, fun X k g n ok => by
  have h := trM_ok o__law_bag (by decide +kernel) X k g n ok
  rw [q__law_bag] at h
  exact h⟩
theorem k__law_take : TopOk sig (csOf cst) d__law_take := ⟨⟨rfl, rfl, rfl, by decide +kernel, rfl, by decide +kernel, by decide +kernel⟩, fun _ _ _ _ _ _ us hl => match us, hl with | [_, _], _ => rfl, fun X k g n ok => by
  have h := trM_ok o__law_take (by decide +kernel) X k g n ok
  rw [q__law_take] at h
  exact h⟩
theorem k__law_choice : TopOk sig (csOf cst) d__law_choice := ⟨⟨rfl, rfl, rfl, by decide +kernel, rfl, by decide +kernel, by decide +kernel⟩, fun _ _ _ _ _ _ us hl => match us, hl with | [_, _], _ => rfl, fun X k g n ok => by
  have h := trM_ok o__law_choice (by decide +kernel) X k g n ok
  rw [q__law_choice] at h
  exact h⟩
theorem k__law_rule : TopOk sig (csOf cst) d__law_rule := ⟨⟨rfl, rfl, rfl, by decide +kernel, rfl, by decide +kernel, by decide +kernel⟩, fun _ _ _ _ _ _ us hl => match us, hl with | [_, _, _], _ => rfl, fun X k g n ok => by
  have h := trM_ok o__law_rule (by decide +kernel) X k g n ok
  rw [q__law_rule] at h
  exact h⟩
theorem k__law_sheet : TopOk sig (csOf cst) d__law_sheet := ⟨⟨rfl, rfl, rfl, by decide +kernel, rfl, by decide +kernel, by decide +kernel⟩, fun _ _ _ _ _ _ us hl => match us, hl with | [_, _, _], _ => rfl, fun X k g n ok => by
  have h := trM_ok o__law_sheet (by decide +kernel) X k g n ok
  rw [q__law_sheet] at h
  exact h⟩
theorem k__law_way : TopOk sig (csOf cst) d__law_way := ⟨⟨rfl, rfl, rfl, by decide +kernel, rfl, by decide +kernel, by decide +kernel⟩, fun _ _ _ _ _ _ us hl => match us, hl with | [_, _, _], _ => rfl, fun X k g n ok => by
  have h := trM_ok o__law_way (by decide +kernel) X k g n ok
  rw [q__law_way] at h
  exact h⟩
theorem k__law_branch : TopOk sig (csOf cst) d__law_branch := ⟨⟨rfl, rfl, rfl, by decide +kernel, rfl, by decide +kernel, by decide +kernel⟩, fun _ _ _ _ _ _ us hl => match us, hl with | [_, _, _], _ => rfl, fun X k g n ok => by
  have h := trM_ok o__law_branch (by decide +kernel) X k g n ok
  rw [q__law_branch] at h
  exact h⟩
theorem k_law : TopOk sig (csOf cst) d_law := ⟨⟨rfl, rfl, rfl, by decide +kernel, rfl, by decide +kernel, by decide +kernel⟩, fun _ _ _ _ _ _ us hl => match us, hl with | [_], _ => rfl, fun X k g n ok => by
  have h := trM_ok o_law (by decide +kernel) X k g n ok
  rw [q_law] at h
  exact h⟩
theorem sig_is : sigOf (tds.map TopD.d) = sig := rfl
theorem all_ok : ∀ t ∈ tds, TopOk (sigOf (tds.map TopD.d)) (csOf cst) t := by
  rw [sig_is]
  intro t ht
  simp only [tds, List.mem_cons, List.not_mem_nil, or_false] at ht
  rcases ht with rfl | rfl | rfl | rfl | rfl | rfl | rfl | rfl | rfl | rfl | rfl | rfl | rfl | rfl | rfl | rfl | rfl | rfl | rfl | rfl | rfl | rfl | rfl | rfl | rfl | rfl | rfl | rfl | rfl | rfl | rfl | rfl | rfl | rfl | rfl | rfl | rfl | rfl | rfl | rfl | rfl
  · exact k_is_integer
  · exact k_is_name
  · exact k_is_pair
  · exact k_rises
  · exact k_is_within
  · exact k_is_rule
  · exact k_parts_of
  · exact k_named_in
  · exact k_names_in
  · exact k_are_settings
  · exact k_is_sheet
  · exact k_need_sheet
  · exact k_is_way
  · exact k_is_tree_within
  · exact k_is_tree
  · exact k_need_way
  · exact k_need_tree
  · exact k_leads_of
  · exact k_rings_from
  · exact k_all_rings
  · exact k_names_in_rings
  · exact k_value_by
  · exact k_rules_of
  · exact k_values_below
  · exact k_values_from
  · exact k_no_values
  · exact k_values_at
  · exact k_as_pairs
  · exact k_values
  · exact k_all_places
  · exact k_told
  · exact k__law_cell
  · exact k__law_draws
  · exact k__law_bag
  · exact k__law_take
  · exact k__law_choice
  · exact k__law_rule
  · exact k__law_sheet
  · exact k__law_way
  · exact k__law_branch
  · exact k_law
theorem tds_nd : ((tds.map TopD.d).map (·.x)).Nodup := by decide +kernel
abbrev fa_ : List He.Fa := faOf tds cst
abbrev fn_ : List He.DefD := tds.map TopD.he
abbrev Rw : PySem.W.OpenRow := PySem.W.OpenLaw.row PySem.Challenge.rw_heirvalues_k04_whole_the_way_alone
abbrev hk : PySem.W.Hook := He.hookD 4 fa_ fn_
def ob (s : PySem.W.SharedT) : He.AlD := He.obsDG 4 fa_ fn_ (HandSHeadRun.getT s)
theorem ob_eq (s : PySem.W.SharedT) : ob s = hk.obs s.abs := He.obsDG_eq (HandSHeadRun.getT_eq s)
def loose0 : List Str := [("HeirError" : Str), ("InvalidSheet" : Str), ("InvalidWay" : Str), ("InvalidTree" : Str), ("LETTERS" : Str), ("is_integer" : Str), ("is_name" : Str), ("is_pair" : Str), ("rises" : Str), ("is_within" : Str), ("is_rule" : Str), ("parts_of" : Str), ("named_in" : Str), ("names_in" : Str), ("are_settings" : Str), ("is_sheet" : Str), ("need_sheet" : Str), ("is_way" : Str), ("is_tree_within" : Str), ("is_tree" : Str), ("need_way" : Str), ("need_tree" : Str), ("leads_of" : Str), ("rings_from" : Str), ("all_rings" : Str), ("names_in_rings" : Str), ("value_by" : Str), ("rules_of" : Str), ("values_below" : Str), ("values_from" : Str)]
def loose1 : List Str := [("no_values" : Str), ("values_at" : Str), ("as_pairs" : Str), ("values" : Str), ("all_places" : Str), ("told" : Str), ("_law_cell" : Str), ("_law_draws" : Str), ("_law_bag" : Str), ("_law_take" : Str), ("_law_choice" : Str), ("_law_rule" : Str), ("_law_sheet" : Str), ("_law_behind" : Str), ("_law_value" : Str), ("_law_way" : Str), ("_law_branch" : Str)]
def loose_ : List Str := loose0 ++ loose1
theorem run (w : World) : HandSHeadRun.RunEq Rw (PySem.W.view Rw.prog [51]) hk ob 4000 loose_ w := by
  intro os
  kernel_rfl
end RL
end
set_option Elab.async false
set_option linter.all false
set_option autoImplicit false
set_option maxRecDepth 100000
set_option maxHeartbeats 0
/-! L_k04: the law over its table -/
namespace RL
open PySem PySem.Spec L2
open PyProof.Rows hiding St
abbrev dtk : List DefE := tds.map TopD.d
theorem i_Lib : Lib dtk where
  cell := by kernel_rfl
  draws := by kernel_rfl
  bag := by kernel_rfl
  take := by kernel_rfl
  choice := by kernel_rfl
  rule := by kernel_rfl
theorem i_Rings : Rings dtk where
  po := by kernel_rfl
  ni := by kernel_rfl
  lo := by kernel_rfl
  rf := by kernel_rfl
  ar := by kernel_rfl
  nr := by kernel_rfl
theorem i_Prog : Prog dtk where
  i := by kernel_rfl
  n := by kernel_rfl
  w := by kernel_rfl
  r := by kernel_rfl
  p := by kernel_rfl
  s := by kernel_rfl
  a := by kernel_rfl
  po := by kernel_rfl
  ni := by kernel_rfl
  na := by kernel_rfl
  sh := by kernel_rfl
  ne := by kernel_rfl
theorem i_Rows : Rows dtk where
  rg := i_Rings
  prog := i_Prog
  iw := by kernel_rfl
  itw := by kernel_rfl
  it := by kernel_rfl
  nw := by kernel_rfl
  vb := by kernel_rfl
  ro := by kernel_rfl
  vl := by kernel_rfl
  vf := by kernel_rfl
  nv := by kernel_rfl
  va := by kernel_rfl
  ap := by kernel_rfl
theorem i_K04 : K04 dtk where
  lib := i_Lib
  rows := i_Rows
  nt := by kernel_rfl
  vs := by kernel_rfl
  pl := by kernel_rfl
  to := by kernel_rfl
  ls := by kernel_rfl
  lw := by kernel_rfl
  br := by kernel_rfl
  law := by kernel_rfl
theorem law_true : ∀ ns : List Int, ns.length ≤ 63 → (gN (tds.map TopD.d) 100 60).call RL.d_law.d.x [.v (scrD (ns.map .int))] = some (.v (.bool true), []) := by
  intro ns _
  obtain ⟨r, bs, h1, h2, h3⟩ := WC.get (law_lc i_K04  (ns := ns))
  subst h2 h3
  exact h1
end RL
open PySem PySem.W PySem.Calls PyProof.Rows
theorem PySem.Challenge.cw_heirvalues_k04_whole_the_way_alone_holds : PySem.Challenge.rw_heirvalues_k04_whole_the_way_alone.Holds := by
  w_on; o_law
  refine HandSHeadRun.head_any (r := OpenLaw.row PySem.Challenge.rw_heirvalues_k04_whole_the_way_alone) (q := view (OpenLaw.row PySem.Challenge.rw_heirvalues_k04_whole_the_way_alone).prog [51]) (H := RL.hk) (ob := RL.ob) (M := 4000) (loose := RL.loose_) (d := HandSHeadRun.topDef (OpenLaw.row PySem.Challenge.rw_heirvalues_k04_whole_the_way_alone).prog 51) (kwd := []) RL.ob_eq
    (by kernel_rfl) (fun s => by kernel_rfl) RL.run (by kernel_rfl) (by kernel_rfl) (by kernel_rfl) (by rfl) (by first | assumption | decide +kernel) (by decide +kernel) ⟨rfl, rfl, rfl, rfl, rfl, by decide +kernel⟩ ?hw ?hc
  case hw => w_witness2
  case hc =>
    refine L2.walk_ofE (l := PySem.Challenge.rw_heirvalues_k04_whole_the_way_alone) (n := 63) (k := 120) (x := "script") (CX := L2.CX0) rfl (by decide) (by kernel_rfl) ⟨rfl, by decide, by decide⟩ ?F (fun _ _ _ _ z => z)
    intro w mg fa h Y G hmg0
    obtain ⟨K, KX, c⟩ := Y
    have hmg : mg (RL.d_law).d.x = some (.ref fa) := by
      have e : (HandSHeadRun.topDef (OpenLaw.row PySem.Challenge.rw_heirvalues_k04_whole_the_way_alone).prog 51).name = (RL.d_law).d.x := by kernel_rfl
      rw [← e]
      exact hmg0
    exact RL.law_facts (tds := RL.tds) (cs := RL.cst) (wh := 100) (tl := RL.d_law) (by simp [RL.tds]) rfl RL.tds_nd RL.all_ok RL.law_true KX G hmg c
