import PyProof.Rows.All
import PySem.Challenge.RW_ghosttakes_k43_fractions_reckoned
import Wide.All
import OpenK.AllK
import Wide.FinOn
import HandS.ForMost
import HandS.Exc
import HandS.ExcInit
import HandS.Wide
import HandS.FStr
import HandS.IsInst
import HandS.Style
import HandS.Flow
import HandS.HeadHook1
import HandS.HeadHook2
import HandS.Lambda
import PyProof.StrBlock2
import HandS.TupAny
import HandS.TupMul
import HandS.SortInts
import KE.KExcIs
import HandS.RaiseMore
import HandS.Conv
import Wide.Txt2
import PyProof.ListStr
import HandS.Replace
import HandS.ReplaceDef
import HandS.More
import HandS.Dict
import HandS.Star
import HandS.ClsMeth
import HandS.Property
import HandS.ExcField
import HandS.Defaults
import KE.KTryMore
import HandS.Iter
import HandS.Zip
import KE.GoesMore
import KE.GoesEnum
import HandS.Comp
import HandS.ExcOwn
import HandS.ExcValue
import KE.KOpsOwn
import PyProof.TwoTypes
import PyProof.FactsAll.int_1
import PyProof.FactsAll.int_3
import PyProof.FactsAll.int_5
import PyProof.Rows.Range3
import PyProof.StrReplace2
import KE.KCallOwn
import KE.KFmtOwn
import HandS.HeadHook3
import HandS.Head0
import HandS.Head1
import HandS.Head2
import HandS.HeadEnd
import PyProof.ReprLen
import PyProof.StrLawsRepr
import PyProof.FitsInt
import HandS.Words
set_option Elab.async false
set_option linter.all false
set_option maxRecDepth 100000
set_option maxHeartbeats 0
-- GtCore
/-! A small interpreter of a part of Python over trees, and what its trees stand for in the layer's heap. -/
namespace G
open PySem L2

/-- a value: immutable things are trees; what is changed in place is a box -/
inductive T where
  | non | bl (b : Bool) | int (i : Int) | str (s : Str)
  | lst (xs : List T) | tup (xs : List T) | frz (xs : List T)
  | dct (ks : List Key) (vs : List T)
  | ins (C : Str) (ns : List Str) (vs : List T)
  | exc (C : Str) (ns : List Str) (vs : List T)
  | box (n : Nat)
  | glo (x : Str)
  /-- a lambda at f, its code at c, what it caught -/
  | lam (f c : Nat) (q : Str) (cap : List T) (vs : List V)
  | ty (n : String)
  deriving Inhabited
/-- what stands in a box -/
inductive BO where
  | lst (xs : List T)
  | dct (ks : List Key) (vs : List T)
  | ins (C : Str) (ns : List Str) (vs : List T)
structure S where
  next : Nat
  cells : List (Nat × BO)
def S.get (s : S) (n : Nat) : Option BO := s.cells.lookup n
def putC (n : Nat) (o : BO) : List (Nat × BO) → List (Nat × BO)
  | [] => []
  | (k, u) :: r => if k = n then (n, o) :: r else (k, u) :: putC n o r
def delC (n : Nat) : List (Nat × BO) → List (Nat × BO)
  | [] => []
  | (k, u) :: r => if k = n then r else (k, u) :: delC n r
inductive Res (α : Type) where
  | ok (v : α) (s : S)
  | exc (C : Str) (ns : List Str) (vs : List T) (s : S)
  | bad
abbrev M (α : Type) := S → Res α
def ret {α : Type} (v : α) : M α := fun s => .ok v s
def bnd {α β : Type} (m : M α) (k : α → M β) : M β := fun s => match m s with
  | .ok v s' => k v s'
  | .exc C ns vs s' => .exc C ns vs s'
  | .bad => .bad
def bad {α : Type} : M α := fun _ => .bad
instance : Monad M where
  pure := ret
  bind := bnd

/-! ### the world: what is fixed of the heap, where the boxes stand, how many there were -/
structure Wd where
  I : Hp
  r : Nat → Addr
  b : Nat
  /-- things that the code under way does not see: they stay -/
  k : Hp
structure Ext (w w' : Wd) : Prop where
  same : Same w.I w'.I
  at_ : ∀ n, n < w.b → w'.r n = w.r n
  le : w.b ≤ w'.b
  hid : w'.k = w.k
structure Ex0 (w w' : Wd) : Prop where
  same : Same w.I w'.I
  at_ : ∀ n, n < w.b → w'.r n = w.r n
  le : w.b ≤ w'.b
theorem Ext.x0 {w w' : Wd} (h : Ext w w') : Ex0 w w' := ⟨h.same, h.at_, h.le⟩
theorem Ext.refl (w : Wd) : Ext w w := ⟨Same.refl _, fun _ _ => rfl, Nat.le_refl _, rfl⟩
theorem Ext.trans {w w1 w2 : Wd} (a : Ext w w1) (b : Ext w1 w2) : Ext w w2 :=
  ⟨a.same.trans b.same, fun n h => (b.at_ n (Nat.lt_of_lt_of_le h a.le)).trans (a.at_ n h), Nat.le_trans a.le b.le, b.hid.trans a.hid⟩
theorem sameT {K : PySem.W.Frag} {H H' : Hp} {a : Addr} {xs : List V} (e : Same H H') (h : SqT K H a xs) : SqT K H' a xs := by
  rcases h with (h | ⟨o, h⟩) | h
  · exact .inl (.inl (e _ _ h))
  · exact .inl (.inr ⟨o, e _ _ h⟩)
  · exact .inr h
/-- an exception object of the class at C with the dict at d -/
def IsX (φ : Heap → Prop) (a C d : Addr) : Prop := ∀ h, φ h → ∃ (o : Obj) (vs : Array Value), h.get? a = some o ∧ o.cls = .ref C ∧ o.dict = some d ∧ o.data = .fields vs
/-- its dict -/
def IsXd (φ : Heap → Prop) (d : Addr) (fs : List (Str × V)) : Prop := ∀ h, φ h → ∃ mA, h.Ns1 d mA ∧ ∀ f, RelO (fs.lookup f) (mA f)
def XdAt (I : Hp) (d : Addr) (fs : List (Str × V)) : Prop := I d = some (.xd fs) ∨ ∃ φ, I d = some (.ext φ) ∧ IsXd φ d fs
mutual
def Rp (K : PySem.W.Frag) (w : Wd) : T → V → Prop
  | .non, v => v = .non
  | .bl b, v => v = .bl b
  | .int i, v => v = .int i
  | .str s, v => v = .str s
  | .lst ts, v => ∃ a xs, v = .ref a ∧ w.I a = some (.lst xs) ∧ RpL K w ts xs
  | .frz ts, v => ∃ a xs, v = .ref a ∧ SqL K w.I a xs ∧ RpL K w ts xs
  | .tup ts, v => ∃ a xs, v = .ref a ∧ SqT K w.I a xs ∧ RpL K w ts xs
  | .dct ks ts, v => ∃ a kvs, v = .ref a ∧ w.I a = some (.dK kvs) ∧ kvs.map (·.1) = ks ∧ RpL K w ts (kvs.map (·.2))
  | .ins C ns ts, v => ∃ a dx fs, v = .ref a ∧ w.I a = some (.ins (He.ga K C) dx fs) ∧ fs.map (·.1) = ns ∧ RpL K w ts (fs.map (·.2))
  | .exc C ns ts, v => ∃ a d φ fs, v = .ref a ∧ w.I a = some (.ext φ) ∧ IsX φ a (He.ga K C) d ∧ XdAt w.I d fs ∧ fs.map (·.1) = ns ∧ RpL K w ts (fs.map (·.2))
  | .box n, v => n < w.b ∧ v = .ref (w.r n)
  | .glo x, v => v = .ref (He.ga K x)
  | .lam f c q cap vs, v => v = .ref f ∧ w.I c = some (LamX.CodeO c q) ∧ RpL K w cap vs
  | .ty n, v => v = .ty n
def RpL (K : PySem.W.Frag) (w : Wd) : List T → List V → Prop
  | [], vs => vs = []
  | t :: ts, vs => ∃ v ws, vs = v :: ws ∧ Rp K w t v ∧ RpL K w ts ws
end
theorem XdAt.mono {I J : Hp} {d : Addr} {fs : List (Str × V)} (h : Same I J) (x : XdAt I d fs) : XdAt J d fs := by
  rcases x with x | ⟨φ, x, y⟩
  · exact .inl (h _ _ x)
  · exact .inr ⟨φ, h _ _ x, y⟩
mutual
theorem Rp.mono0 {K : PySem.W.Frag} {w w' : Wd} (h : Ex0 w w') : ∀ {t : T} {v : V}, Rp K w t v → Rp K w' t v
  | .non, _, q => q
  | .bl b, _, q => q
  | .int i, _, q => q
  | .str s, _, q => q
  | .lst ts, _, ⟨a, xs, e, q, l⟩ => ⟨a, xs, e, h.same _ _ q, RpL.mono0 h l⟩
  | .frz ts, _, ⟨a, xs, e, q, l⟩ => ⟨a, xs, e, h.same.seq q, RpL.mono0 h l⟩
  | .tup ts, _, ⟨a, xs, e, q, l⟩ => ⟨a, xs, e, sameT h.same q, RpL.mono0 h l⟩
  | .dct ks ts, _, ⟨a, kvs, e, q, e2, l⟩ => ⟨a, kvs, e, h.same _ _ q, e2, RpL.mono0 h l⟩
  | .ins C ns ts, _, ⟨a, dx, fs, e, q, e2, l⟩ => ⟨a, dx, fs, e, h.same _ _ q, e2, RpL.mono0 h l⟩
  | .exc C ns ts, _, ⟨a, d, φ, fs, e, q, x, y, e2, l⟩ => ⟨a, d, φ, fs, e, h.same _ _ q, x, y.mono h.same, e2, RpL.mono0 h l⟩
  | .box n, _, ⟨a, b⟩ => ⟨Nat.lt_of_lt_of_le a h.le, by rw [b, h.at_ n a]⟩
  | .glo x, _, q => q
  | .lam f c q cap vs, _, ⟨a, b, l⟩ => ⟨a, h.same _ _ b, RpL.mono0 h l⟩
  | .ty n, _, q => q
theorem RpL.mono0 {K : PySem.W.Frag} {w w' : Wd} (h : Ex0 w w') : ∀ {ts : List T} {vs : List V}, RpL K w ts vs → RpL K w' ts vs
  | [], _, q => q
  | t :: ts, _, ⟨v, ws, e, a, b⟩ => ⟨v, ws, e, Rp.mono0 h a, RpL.mono0 h b⟩
end
theorem Rp.mono {K : PySem.W.Frag} {w w' : Wd} (h : Ext w w') {t : T} {v : V} (q : Rp K w t v) : Rp K w' t v := Rp.mono0 h.x0 q
theorem RpL.mono {K : PySem.W.Frag} {w w' : Wd} (h : Ext w w') {t : List T} {v : List V} (q : RpL K w t v) : RpL K w' t v := RpL.mono0 h.x0 q
section
variable {K : PySem.W.Frag} {w : Wd}
theorem RpL.length : ∀ {ts : List T} {vs : List V}, RpL K w ts vs → ts.length = vs.length
  | [], _, q => by
    have q : _ = _ := q
    rw [q]; rfl
  | t :: ts, _, ⟨v, ws, e, a, b⟩ => by rw [e, List.length_cons, List.length_cons, RpL.length b]
theorem RpL.nil : RpL K w [] [] := rfl
theorem RpL.cons {t : T} {ts : List T} {v : V} {vs : List V} (a : Rp K w t v) (b : RpL K w ts vs) : RpL K w (t :: ts) (v :: vs) := ⟨v, vs, rfl, a, b⟩
theorem RpL.append : ∀ {ts us : List T} {vs xs : List V}, RpL K w ts vs → RpL K w us xs → RpL K w (ts ++ us) (vs ++ xs)
  | [], _, _, _, q, h => by
    have q : _ = _ := q
    rw [q]; exact h
  | t :: ts, _, _, _, ⟨v, ws, e, a, b⟩, h => by rw [e]; exact ⟨v, _, rfl, a, RpL.append b h⟩
theorem RpL.get : ∀ {ts : List T} {vs : List V} {i : Nat} {t : T}, RpL K w ts vs → ts[i]? = some t → ∃ v, vs[i]? = some v ∧ Rp K w t v
  | [], _, i, t, _, h => by simp at h
  | t :: ts, _, 0, u, ⟨v, ws, e, a, b⟩, h => by
    simp at h
    subst h
    exact ⟨v, by rw [e]; rfl, a⟩
  | t :: ts, _, i + 1, u, ⟨v, ws, e, a, b⟩, h => by
    obtain ⟨x, h1, h2⟩ := RpL.get (i := i) b (by simpa using h)
    exact ⟨x, by rw [e]; simpa using h1, h2⟩
theorem RpL.take : ∀ {ts : List T} {vs : List V} (n : Nat), RpL K w ts vs → RpL K w (ts.take n) (vs.take n)
  | _, _, 0, _ => by simp [RpL]
  | [], _, n + 1, q => by
    have q : _ = _ := q
    rw [q]; exact RpL.nil
  | t :: ts, _, n + 1, ⟨v, ws, e, a, b⟩ => by rw [e]; exact ⟨v, _, rfl, a, RpL.take n b⟩
theorem RpL.drop : ∀ {ts : List T} {vs : List V} (n : Nat), RpL K w ts vs → RpL K w (ts.drop n) (vs.drop n)
  | _, _, 0, q => q
  | [], _, n + 1, q => by
    have q : _ = _ := q
    rw [q]; exact RpL.nil
  | t :: ts, _, n + 1, ⟨v, ws, e, a, b⟩ => by rw [e]; exact RpL.drop n b
theorem RpL.set : ∀ {ts : List T} {vs : List V} (i : Nat) {t : T} {v : V}, Rp K w t v → RpL K w ts vs → RpL K w (ts.set i t) (vs.set i v)
  | [], _, i, _, _, _, q => by
    have q : _ = _ := q
    rw [q]; exact RpL.nil
  | t :: ts, _, 0, u, x, h, ⟨v, ws, e, a, b⟩ => by rw [e]; exact ⟨x, ws, rfl, h, b⟩
  | t :: ts, _, i + 1, u, x, h, ⟨v, ws, e, a, b⟩ => by rw [e]; exact ⟨v, _, rfl, a, RpL.set i h b⟩
theorem RpL.reverse : ∀ {ts : List T} {vs : List V}, RpL K w ts vs → RpL K w ts.reverse vs.reverse
  | [], _, q => by
    have q : _ = _ := q
    rw [q]; exact RpL.nil
  | t :: ts, _, ⟨v, ws, e, a, b⟩ => by
    rw [e, List.reverse_cons, List.reverse_cons]
    exact (RpL.reverse b).append ⟨v, [], rfl, a, rfl⟩
end

/-! ### the state -/
/-- what a box holds -/
def BAt (K : PySem.W.Frag) (w : Wd) (H : Hp) (a : Addr) : BO → Prop
  | .lst ts => ∃ xs, H a = some (.lst xs) ∧ RpL K w ts xs
  | .dct ks ts => ∃ kvs, H a = some (.dK kvs) ∧ kvs.map (·.1) = ks ∧ RpL K w ts (kvs.map (·.2))
  | .ins C ns ts => ∃ dx fs, H a = some (.ins (He.ga K C) dx fs) ∧ fs.map (·.1) = ns ∧ RpL K w ts (fs.map (·.2))
theorem BAt.mono0 {K : PySem.W.Frag} {w w' : Wd} {H H' : Hp} {a : Addr} (h : Ex0 w w') (e : H' a = H a) : ∀ {o : BO}, BAt K w H a o → BAt K w' H' a o
  | .lst _, ⟨xs, p, q⟩ => ⟨xs, e.trans p, RpL.mono0 h q⟩
  | .dct _ _, ⟨kvs, p, e2, q⟩ => ⟨kvs, e.trans p, e2, RpL.mono0 h q⟩
  | .ins _ _ _, ⟨dx, fs, p, e2, q⟩ => ⟨dx, fs, e.trans p, e2, RpL.mono0 h q⟩
theorem BAt.mono {K : PySem.W.Frag} {w w' : Wd} {H H' : Hp} {a : Addr} (h : Ext w w') (e : H' a = H a) {o : BO} (q : BAt K w H a o) : BAt K w' H' a o := BAt.mono0 h.x0 e q
/-- the tables of the code objects that are kept -/
def tabOf : Addr × Obj → Option (Addr × Str)
  | (_, ⟨.type t, _, .fields vs, _⟩) => if t == "code" then (match (vs[1]? : Option Value), (vs[11]? : Option Value) with
    | some (Value.str n _), some (Value.ref p) => some (p, n ++ ".<locals>." ++ "<lambda>")
    | _, _ => none) else none
  | _ => none
def tabs (K : PySem.W.Frag) : List (Addr × Str) := K.filterMap tabOf
/-- neither a table nor a thing that is only said something of -/
def Plain (o : HO) : Prop := (∀ ps, o ≠ .tbl ps) ∧ ∀ φ, o ≠ .ext φ
theorem tabs_ext {T : List (Addr × Str)} {H : Hp} {p : Addr} {o : HO} (t : LamX.Tabs T H) (hp : H p = none) : LamX.Tabs T (upd H p o) := t.ext fun b u e => by rw [upd_ne (ne_of_none e hp)]; exact e
theorem tabs_upd {T : List (Addr × Str)} {H : Hp} {p : Addr} {o u : HO} (t : LamX.Tabs T H) (hp : H p = some u) (hu : Plain u) : LamX.Tabs T (upd H p o) := fun q hq => by
  obtain ⟨ps, h1, h2, h3⟩ := t q hq
  have n1 : q.1 ≠ p := fun z => by
    rw [z, hp] at h1
    exact hu.1 ps (Option.some.inj h1)
  refine ⟨ps, by rw [upd_ne n1]; exact h1, h2, fun pos cv hc => ?_⟩
  obtain ⟨c, e1, e2⟩ := h3 pos cv hc
  have n2 : c ≠ p := fun z => by
    rw [← z, e2] at hp
    exact hu.2 _ (Option.some.inj hp).symm
  exact ⟨c, e1, by rw [upd_ne n2]; exact e2⟩
structure SR (K : PySem.W.Frag) (w : Wd) (s : S) (H : Hp) : Prop where
  sub : Same w.I H
  box : ∀ n o, s.get n = some o → n < s.next ∧ BAt K w H (w.r n) o ∧ w.I (w.r n) = none
  inj : ∀ n m o u, s.get n = some o → s.get m = some u → w.r n = w.r m → n = m
  nd : (s.cells.map (·.1)).Nodup
  b : w.b = s.next
  kH : Same w.k H
  kI : ∀ a o, w.k a = some o → w.I a = none
  kB : ∀ n o, s.get n = some o → w.k (w.r n) = none
  tb : LamX.Tabs (tabs K) H
  ntI : ∀ a ps, w.I a ≠ some (.tbl ps)
  ntk : ∀ a o, w.k a = some o → Plain o
theorem BAt.some {K : PySem.W.Frag} {w : Wd} {H : Hp} {a : Addr} : ∀ {o : BO}, BAt K w H a o → ∃ ho, H a = some ho
  | .lst _, ⟨xs, p, _⟩ => ⟨_, p⟩
  | .dct _ _, ⟨kvs, p, _⟩ => ⟨_, p⟩
  | .ins _ _ _, ⟨dx, fs, p, _⟩ => ⟨_, p⟩
theorem bat_plain {K : PySem.W.Frag} {w : Wd} {H : Hp} {a : Addr} : ∀ {o : BO}, BAt K w H a o → ∃ ho, H a = some ho ∧ Plain ho
  | .lst _, ⟨xs, p, _⟩ => ⟨_, p, ⟨fun _ z => (by cases z), fun _ z => (by cases z)⟩⟩
  | .dct _ _, ⟨kvs, p, _⟩ => ⟨_, p, ⟨fun _ z => (by cases z), fun _ z => (by cases z)⟩⟩
  | .ins _ _ _, ⟨dx, fs, p, _⟩ => ⟨_, p, ⟨fun _ z => (by cases z), fun _ z => (by cases z)⟩⟩
theorem pl_upd {I : Hp} {p : Addr} {o : HO} (h : ∀ a u, I a = some u → Plain u) (hn : Plain o) : ∀ a u, upd I p o a = some u → Plain u := fun a u z => by
  by_cases e : a = p
  · subst e
    rw [upd_same] at z
    rw [← Option.some.inj z]
    exact hn
  · rw [upd_ne e] at z
    exact h a u z
theorem nt_upd {I : Hp} {p : Addr} {o : HO} (h : ∀ a ps, I a ≠ some (.tbl ps)) (hn : ∀ ps, o ≠ .tbl ps) : ∀ a ps, upd I p o a ≠ some (.tbl ps) := fun a ps z => by
  by_cases e : a = p
  · subst e
    rw [upd_same] at z
    exact hn ps (Option.some.inj z)
  · rw [upd_ne e] at z
    exact h a ps z
section
variable {K : PySem.W.Frag} {w : Wd} {s : S} {H : Hp}
/-- a new object that never changes -/
theorem SR.laid {p : Addr} {o : HO} (x : SR K w s H) (hp : H p = none) (hn : ∀ ps, o ≠ .tbl ps := by intro ps z; cases z) :
    Ext w ⟨upd w.I p o, w.r, w.b, w.k⟩ ∧ SR K ⟨upd w.I p o, w.r, w.b, w.k⟩ s (upd H p o) := by
  have np : ∀ a u, w.I a = some u → a ≠ p := fun a u e => ne_of_none (x.sub a u e) hp
  have ex : Ext w ⟨upd w.I p o, w.r, w.b, w.k⟩ := ⟨fun a u e => by show upd w.I p o a = some u; rw [upd_ne (np a u e)]; exact e, fun _ _ => rfl, Nat.le_refl _, rfl⟩
  have kp : ∀ a u, w.k a = some u → a ≠ p := fun a u e => ne_of_none (x.kH a u e) hp
  refine ⟨ex, fun a u e => ?_, fun n b e => ?_, x.inj, x.nd, x.b, fun a u e => by rw [upd_ne (kp a u e)]; exact x.kH a u e, fun a u e => by show upd w.I p o a = none; rw [upd_ne (kp a u e)]; exact x.kI a u e, x.kB, tabs_ext x.tb hp, nt_upd x.ntI hn, x.ntk⟩
  · have e : upd w.I p o a = some u := e
    by_cases h : a = p
    · subst h
      rw [upd_same] at e ⊢
      exact e
    · rw [upd_ne h] at e ⊢
      exact x.sub a u e
  · obtain ⟨h1, h2, h3⟩ := x.box n b e
    obtain ⟨ho, h4⟩ := h2.some
    have ne : w.r n ≠ p := ne_of_none h4 hp
    refine ⟨h1, h2.mono ex (upd_ne ne), ?_⟩
    show upd w.I p o (w.r n) = none
    rw [upd_ne ne]
    exact h3
theorem key_of {n : Nat} {u : BO} : ∀ {l : List (Nat × BO)}, l.lookup n = some u → n ∈ l.map (·.1)
  | [], h => by cases h
  | (k, x) :: r, h => by
    rw [List.lookup_cons] at h
    cases e : n == k with
    | true =>
      have : n = k := eq_of_beq e
      rw [this]
      exact List.mem_cons_self
    | false =>
      rw [e] at h
      exact List.mem_cons_of_mem _ (key_of h)
theorem has_key {n : Nat} : ∀ {l : List (Nat × BO)}, n ∈ l.map (·.1) → ∃ u, l.lookup n = some u
  | (k, x) :: r, h => by
    rw [List.lookup_cons]
    cases e : n == k with
    | true => exact ⟨x, rfl⟩
    | false =>
      rcases List.mem_cons.mp h with h | h
      · have h : n = k := h
        rw [h, beq_self_eq_true] at e
        cases e
      · exact has_key h
/-- a box written -/
theorem get_put {n m : Nat} {o u : BO} : ∀ {l : List (Nat × BO)}, l.lookup n = some u → (putC n o l).lookup m = if m = n then some o else l.lookup m
  | [], h => by cases h
  | (k, x) :: r, h => by
    unfold putC
    by_cases hk : k = n
    · subst hk
      rw [if_pos rfl]
      by_cases hm : m = k
      · subst hm
        rw [if_pos rfl, List.lookup_cons, beq_self_eq_true]
      · have e : (m == k) = false := beq_eq_false_iff_ne.mpr hm
        rw [if_neg hm, List.lookup_cons, List.lookup_cons, e]
    · rw [if_neg hk]
      have e0 : (n == k) = false := beq_eq_false_iff_ne.mpr (Ne.symm hk)
      rw [List.lookup_cons, e0] at h
      rw [List.lookup_cons, List.lookup_cons]
      cases e : m == k with
      | true =>
        have hm : m = k := eq_of_beq e
        rw [if_neg (by rw [hm]; exact hk)]
      | false => exact get_put h
theorem keys_put {n : Nat} {o : BO} : ∀ {l : List (Nat × BO)}, (putC n o l).map (·.1) = l.map (·.1)
  | [] => rfl
  | (k, x) :: r => by
    unfold putC
    by_cases hk : k = n
    · rw [if_pos hk, List.map_cons, List.map_cons, hk]
    · rw [if_neg hk, List.map_cons, List.map_cons, keys_put]
theorem get_del {n m : Nat} : ∀ {l : List (Nat × BO)}, (l.map (·.1)).Nodup → (delC n l).lookup m = if m = n then none else l.lookup m
  | [], _ => by
    unfold delC
    split <;> rfl
  | (k, x) :: r, nd => by
    have nd' : k ∉ r.map (·.1) ∧ (r.map (·.1)).Nodup := List.nodup_cons.mp nd
    unfold delC
    by_cases hk : k = n
    · subst hk
      rw [if_pos rfl]
      by_cases hm : m = k
      · subst hm
        rw [if_pos rfl]
        cases e : r.lookup m with
        | none => rfl
        | some u => exact absurd (key_of e) nd'.1
      · have e : (m == k) = false := beq_eq_false_iff_ne.mpr hm
        rw [if_neg hm, List.lookup_cons, e]
    · rw [if_neg hk, List.lookup_cons, List.lookup_cons]
      cases e : m == k with
      | true =>
        have hm : m = k := eq_of_beq e
        rw [if_neg (by rw [hm]; exact hk)]
      | false => exact get_del nd'.2
theorem keys_del {n : Nat} : ∀ {l : List (Nat × BO)}, ((delC n l).map (·.1)).Sublist (l.map (·.1))
  | [] => List.Sublist.refl _
  | (k, x) :: r => by
    unfold delC
    by_cases hk : k = n
    · rw [if_pos hk, List.map_cons]
      exact List.sublist_cons_self _ _
    · rw [if_neg hk, List.map_cons, List.map_cons]
      exact keys_del.cons_cons _
def S.put (s : S) (n : Nat) (o : BO) : S := ⟨s.next, putC n o s.cells⟩
def S.del (s : S) (n : Nat) : S := ⟨s.next, delC n s.cells⟩
def S.new (s : S) (o : BO) : S := ⟨s.next + 1, (s.next, o) :: s.cells⟩
/-- a box written: another thing at its address -/
theorem SR.put {n : Nat} {o u : BO} {ho : HO} (x : SR K w s H) (h : s.get n = some u) (hb : BAt K w (upd H (w.r n) ho) (w.r n) o) : SR K w (s.put n o) (upd H (w.r n) ho) := by
  have g : ∀ m, (s.put n o).get m = if m = n then some o else s.get m := fun m => get_put h
  obtain ⟨h1, h2, h3⟩ := x.box n u h
  have neI : ∀ a v, w.I a = some v → a ≠ w.r n := fun a v e z => by rw [z, h3] at e; cases e
  obtain ⟨hu, hu1, hu2⟩ := bat_plain h2
  refine ⟨fun a v e => by rw [upd_ne (neI a v e)]; exact x.sub a v e, fun m p e => ?_, fun m k p q e1 e2 => ?_, by show ((putC n o s.cells).map (·.1)).Nodup; rw [keys_put]; exact x.nd, x.b, fun a v e => by rw [upd_ne (fun z => by rw [z, x.kB n u h] at e; cases e)]; exact x.kH a v e, x.kI, fun m p e => ?_, tabs_upd x.tb hu1 hu2, x.ntI, x.ntk⟩
  · rw [g] at e
    by_cases hm : m = n
    · subst hm
      rw [if_pos rfl] at e
      cases e
      exact ⟨h1, hb, h3⟩
    · rw [if_neg hm] at e
      obtain ⟨k1, k2, k3⟩ := x.box m p e
      exact ⟨k1, k2.mono (Ext.refl w) (upd_ne fun z => hm (x.inj m n p u e h z)), k3⟩
  · rw [g] at e1 e2
    have f : ∀ m p, (if m = n then some o else s.get m) = some p → ∃ q, s.get m = some q := fun m p e => by
      by_cases hm : m = n
      · rw [hm]; exact ⟨u, h⟩
      · rw [if_neg hm] at e; exact ⟨p, e⟩
    obtain ⟨p', e1'⟩ := f m p e1
    obtain ⟨q', e2'⟩ := f k q e2
    exact x.inj m k p' q' e1' e2'
  · rw [g] at e
    by_cases hm : m = n
    · rw [hm]; exact x.kB n u h
    · rw [if_neg hm] at e; exact x.kB m p e
/-- a box is forgotten -/
theorem SR.del {n : Nat} (x : SR K w s H) : SR K w (s.del n) H := by
  have g : ∀ m, (s.del n).get m = if m = n then none else s.get m := fun m => get_del x.nd
  have f : ∀ m p, (s.del n).get m = some p → s.get m = some p := fun m p e => by
    rw [g] at e
    by_cases hm : m = n
    · rw [if_pos hm] at e; cases e
    · rw [if_neg hm] at e; exact e
  exact ⟨x.sub, fun m p e => x.box m p (f m p e), fun m k p q e1 e2 => x.inj m k p q (f m p e1) (f k q e2), x.nd.sublist keys_del, x.b, x.kH, x.kI, fun m p e => x.kB m p (f m p e), x.tb, x.ntI, x.ntk⟩
/-- .. and never changes from now on -/
theorem SR.froze {n : Nat} {u : BO} {ho : HO} (x : SR K w s H) (h : s.get n = some u) (hH : H (w.r n) = some ho) :
    Ext w ⟨upd w.I (w.r n) ho, w.r, w.b, w.k⟩ ∧ SR K ⟨upd w.I (w.r n) ho, w.r, w.b, w.k⟩ (s.del n) H := by
  obtain ⟨h1, h2, h3⟩ := x.box n u h
  have neI : ∀ a v, w.I a = some v → a ≠ w.r n := fun a v e z => by rw [z, h3] at e; cases e
  have ex : Ext w ⟨upd w.I (w.r n) ho, w.r, w.b, w.k⟩ := ⟨fun a v e => by show upd w.I (w.r n) ho a = some v; rw [upd_ne (neI a v e)]; exact e, fun _ _ => rfl, Nat.le_refl _, rfl⟩
  have g : ∀ m, (s.del n).get m = if m = n then none else s.get m := fun m => get_del x.nd
  have y := x.del (n := n)
  refine ⟨ex, fun a v e => ?_, fun m p e => ?_, y.inj, y.nd, y.b, y.kH, fun a v e => ?_, y.kB, x.tb, nt_upd x.ntI fun ps z => ?_, x.ntk⟩
  · have e : upd w.I (w.r n) ho a = some v := e
    by_cases ha : a = w.r n
    · subst ha
      rw [upd_same] at e
      cases e
      exact hH
    · rw [upd_ne ha] at e
      exact x.sub a v e
  · obtain ⟨k1, k2, k3⟩ := y.box m p e
    have hm : m ≠ n := fun z => by rw [g, if_pos z] at e; cases e
    rw [g, if_neg hm] at e
    refine ⟨k1, k2.mono ex rfl, ?_⟩
    show upd w.I (w.r n) ho (w.r m) = none
    rw [upd_ne fun z => hm (x.inj m n p u e h z)]
    exact k3
  · show upd w.I (w.r n) ho a = none
    rw [upd_ne fun z => by
      have e : w.k a = some v := e
      rw [z, x.kB n u h] at e
      cases e]
    exact x.kI a v e
  · obtain ⟨hu, hu1, hu2⟩ := bat_plain h2
    rw [hH] at hu1
    rw [← Option.some.inj hu1] at hu2
    exact hu2.1 ps z
/-- a new box -/
theorem SR.new {p : Addr} {o : BO} {ho : HO} (x : SR K w s H) (hp : H p = none)
    (hb : ∀ w', Ext w w' → BAt K w' (upd H p ho) p o) :
    Ext w ⟨w.I, fun m => if m = s.next then p else w.r m, w.b + 1, w.k⟩ ∧ SR K ⟨w.I, fun m => if m = s.next then p else w.r m, w.b + 1, w.k⟩ (s.new o) (upd H p ho) := by
  have lt : ∀ m u, s.get m = some u → m ≠ s.next := fun m u e => Nat.ne_of_lt (x.box m u e).1
  have ex : Ext w ⟨w.I, fun m => if m = s.next then p else w.r m, w.b + 1, w.k⟩ := ⟨Same.refl _, fun m h => by
    have : m ≠ s.next := Nat.ne_of_lt (by rw [← x.b]; exact h)
    exact if_neg this, Nat.le_succ _, rfl⟩
  have g : ∀ m, (s.new o).get m = if m = s.next then some o else s.get m := fun m => by
    show List.lookup m ((s.next, o) :: s.cells) = _
    rw [List.lookup_cons]
    by_cases hm : m = s.next
    · rw [if_pos hm, hm, beq_self_eq_true]
    · rw [if_neg hm, beq_eq_false_iff_ne.mpr hm]
      rfl
  have nI : w.I p = none := by
    cases e : w.I p with
    | none => rfl
    | some v => rw [x.sub p v e] at hp; cases hp
  have kp : ∀ a u, w.k a = some u → a ≠ p := fun a u e => ne_of_none (x.kH a u e) hp
  refine ⟨ex, fun a v e => ?_, fun m u e => ?_, fun m k u v e1 e2 z => ?_, ?_, by show w.b + 1 = s.next + 1; rw [x.b], fun a v e => by rw [upd_ne (kp a v e)]; exact x.kH a v e, x.kI, fun m u e => ?_, tabs_ext x.tb hp, x.ntI, x.ntk⟩
  · have e : w.I a = some v := e
    have ne : a ≠ p := fun z => by rw [z, nI] at e; cases e
    rw [upd_ne ne]
    exact x.sub a v e
  · rw [g] at e
    by_cases hm : m = s.next
    · rw [if_pos hm] at e
      cases e
      subst hm
      refine ⟨Nat.lt_succ_self _, ?_, ?_⟩
      · show BAt K _ _ (if s.next = s.next then p else w.r s.next) o
        rw [if_pos rfl]
        exact hb _ ex
      · show w.I (if s.next = s.next then p else w.r s.next) = none
        rw [if_pos rfl]
        exact nI
    · rw [if_neg hm] at e
      obtain ⟨k1, k2, k3⟩ := x.box m u e
      refine ⟨Nat.lt_succ_of_lt k1, ?_, ?_⟩
      · show BAt K _ _ (if m = s.next then p else w.r m) u
        rw [if_neg hm]
        obtain ⟨ho', k4⟩ := k2.some
        exact k2.mono ex (upd_ne (ne_of_none k4 hp))
      · show w.I (if m = s.next then p else w.r m) = none
        rw [if_neg hm]
        exact k3
  · rw [g] at e1 e2
    have z : (if m = s.next then p else w.r m) = (if k = s.next then p else w.r k) := z
    have no : ∀ m u, s.get m = some u → w.r m ≠ p := fun m u e => by
      obtain ⟨ho', k4⟩ := (x.box m u e).2.1.some
      exact ne_of_none k4 hp
    by_cases hm : m = s.next
    · by_cases hk : k = s.next
      · rw [hm, hk]
      · rw [if_neg hk] at e2
        rw [if_pos hm, if_neg hk] at z
        exact absurd z.symm (no k v e2)
    · rw [if_neg hm] at e1
      by_cases hk : k = s.next
      · rw [if_neg hm, if_pos hk] at z
        exact absurd z (no m u e1)
      · rw [if_neg hk] at e2
        rw [if_neg hm, if_neg hk] at z
        exact x.inj m k u v e1 e2 z
  · show ((s.next, o) :: s.cells |>.map (·.1)).Nodup
    refine List.nodup_cons.mpr ⟨fun h => ?_, x.nd⟩
    obtain ⟨u, hu⟩ := has_key h
    exact Nat.lt_irrefl _ (x.box _ u hu).1
  · rw [g] at e
    show w.k (if m = s.next then p else w.r m) = none
    by_cases hm : m = s.next
    · rw [if_pos hm]
      cases e2 : w.k p with
      | none => rfl
      | some v => exact absurd rfl (kp p v e2)
    · rw [if_neg hm] at e
      rw [if_neg hm]
      exact x.kB m u e
/-- a thing that is there and neither fixed nor boxed is hidden, and shown again -/
def Wd.hide (w : Wd) (p : Addr) (o : HO) : Wd := ⟨w.I, w.r, w.b, upd w.k p o⟩
def Wd.show_ (w : Wd) (k : Hp) : Wd := ⟨w.I, w.r, w.b, k⟩
theorem SR.hide {p : Addr} {o : HO} (x : SR K w s H) (hp : H p = none) (hn : Plain o := by exact ⟨fun _ z => (by cases z), fun _ z => (by cases z)⟩) : SR K (w.hide p o) s (upd H p o) := by
  have kp : ∀ a u, w.I a = some u → a ≠ p := fun a u e => ne_of_none (x.sub a u e) hp
  have bp : ∀ n u, s.get n = some u → w.r n ≠ p := fun n u e => by
    obtain ⟨_, b, _⟩ := x.box n u e
    obtain ⟨ho, h4⟩ := b.some
    exact ne_of_none h4 hp
  refine ⟨fun a u e => by rw [upd_ne (kp a u e)]; exact x.sub a u e, fun n u e => ?_, x.inj, x.nd, x.b, fun a u e => ?_, fun a u e => ?_, fun n u e => ?_, tabs_ext x.tb hp, x.ntI, pl_upd x.ntk hn⟩
  · obtain ⟨a, b, c⟩ := x.box n u e
    refine ⟨a, ?_, c⟩
    exact BAt.mono0 (w := w) (w' := w.hide p o) ⟨Same.refl _, fun _ _ => rfl, Nat.le_refl _⟩ (upd_ne (bp n u e)) b
  · have e : upd w.k p o a = some u := e
    by_cases h : a = p
    · subst h
      rw [upd_same] at e ⊢
      exact e
    · rw [upd_ne h] at e ⊢
      exact x.kH a u e
  · have e : upd w.k p o a = some u := e
    show w.I a = none
    by_cases h : a = p
    · cases e2 : w.I a with
      | none => rfl
      | some v => exact absurd h (kp a v e2)
    · rw [upd_ne h] at e
      exact x.kI a u e
  · show upd w.k p o (w.r n) = none
    rw [upd_ne (bp n u e)]
    exact x.kB n u e
/-- hidden things are looked at in another way: the rest stays -/
theorem SR.rehide {k : Hp} (x : SR K w s H) (h1 : Same k H) (h2 : ∀ a o, k a = some o → w.I a = none) (h3 : ∀ n o, s.get n = some o → k (w.r n) = none) (h4 : ∀ a o, k a = some o → Plain o) : SR K (w.show_ k) s H :=
  ⟨x.sub, fun n o e => let ⟨a, b, c⟩ := x.box n o e; ⟨a, BAt.mono0 (w := w) (w' := w.show_ k) ⟨Same.refl _, fun _ _ => rfl, Nat.le_refl _⟩ rfl b, c⟩, x.inj, x.nd, x.b, h1, h2, h3, x.tb, x.ntI, h4⟩
end
end G
-- GtLift
namespace G
open PySem L2

abbrev En := List (Option T)
structure EnR (K : PySem.W.Frag) (w : Wd) (env : En) (σ : L2.St) : Prop where
  len : σ.length = env.length
  at_ : ∀ (i : Nat) (t : T), env[i]? = some (some t) → ∃ v, σ[i]? = some (some v) ∧ Rp K w t v
theorem EnR.mono {K : PySem.W.Frag} {w w' : Wd} {env : En} {σ : L2.St} (h : Ext w w') (e : EnR K w env σ) : EnR K w' env σ :=
  ⟨e.len, fun i t q => let ⟨v, a, b⟩ := e.at_ i t q; ⟨v, a, b.mono h⟩⟩
theorem EnR.set {K : PySem.W.Frag} {w : Wd} {env : En} {σ : L2.St} {i : Nat} {t : T} {v : V} (e : EnR K w env σ) (r : Rp K w t v) : EnR K w (env.set i (some t)) (σ.set i (some v)) := by
  refine ⟨by rw [List.length_set, List.length_set]; exact e.len, fun j u q => ?_⟩
  by_cases h : i = j
  · subst h
    by_cases hl : i < env.length
    · rw [List.getElem?_set_self hl] at q
      cases q
      exact ⟨v, List.getElem?_set_self (by rw [e.len]; exact hl), r⟩
    · rw [List.getElem?_eq_none (by rw [List.length_set]; omega)] at q
      cases q
  · rw [List.getElem?_set_ne h] at q
    rw [List.getElem?_set_ne h]
    exact e.at_ j u q
theorem EnR.none {K : PySem.W.Frag} {w : Wd} {env : En} {σ : L2.St} {i : Nat} {x : Option V} (e : EnR K w env σ) : EnR K w (env.set i none) (σ.set i x) := by
  refine ⟨by rw [List.length_set, List.length_set]; exact e.len, fun j u q => ?_⟩
  by_cases h : i = j
  · subst h
    by_cases hl : i < env.length
    · rw [List.getElem?_set_self hl] at q
      cases q
    · rw [List.getElem?_eq_none (by rw [List.length_set]; omega)] at q
      cases q
  · rw [List.getElem?_set_ne h] at q
    rw [List.getElem?_set_ne h]
    exact e.at_ j u q

/-- what is wanted behind a computation -/
def Fi {α : Type} (K : PySem.W.Frag) (w : Wd) (res : Res α) (P : α → S → Wd → Hp → Prop) (E : XK) : Prop := match res with
  | .ok t s' => ∀ w' H', Ext w w' → SR K w' s' H' → P t s' w' H'
  | .exc C ns ts s' => ∀ w' H' d fs, Ext w w' → SR K w' s' H' → w'.I d = some (.xd fs) → fs.map (·.1) = ns → RpL K w' ts (fs.map (·.2)) → E (.ref (He.ga K C)) (some d) H'
  | .bad => False
theorem Fi.bind {α β : Type} {K : PySem.W.Frag} {w : Wd} {m : M α} {k : α → M β} {s : S} {P : β → S → Wd → Hp → Prop} {P1 : α → S → Wd → Hp → Prop} {E : XK} (h : Fi K w (bnd m k s) P E)
    (f : ∀ a s1 w1 H1, Ext w w1 → SR K w1 s1 H1 → Fi K w1 (k a s1) P E → P1 a s1 w1 H1) : Fi K w (m s) P1 E := by
  unfold bnd at h
  cases e : m s with
  | ok a s1 =>
    rw [e] at h
    intro w1 H1 x1 r1
    refine f a s1 w1 H1 x1 r1 ?_
    have h : Fi K w (k a s1) P E := h
    cases e2 : k a s1 with
    | ok b s2 =>
      rw [e2] at h
      exact fun w2 H2 x2 r2 => h w2 H2 (x1.trans x2) r2
    | exc C ns ts s2 =>
      rw [e2] at h
      exact fun w2 H2 d fs x2 r2 => h w2 H2 d fs (x1.trans x2) r2
    | bad =>
      rw [e2] at h
      exact h
  | exc C ns ts s1 =>
    rw [e] at h
    exact h
  | bad =>
    rw [e] at h
    exact h
theorem bnd_assoc {α β γ : Type} (m : M α) (f : α → M β) (g : β → M γ) : bnd (bnd m f) g = bnd m fun x => bnd (f x) g := by
  funext s
  simp only [bnd]
  cases m s <;> rfl
/-- .. with what the first part gave -/
theorem Fi.bindE {α β : Type} {K : PySem.W.Frag} {w : Wd} {m : M α} {k : α → M β} {s : S} {P : β → S → Wd → Hp → Prop} {P1 : α → S → Wd → Hp → Prop} {E : XK} (h : Fi K w (bnd m k s) P E)
    (f : ∀ a s1 w1 H1, m s = .ok a s1 → Ext w w1 → SR K w1 s1 H1 → Fi K w1 (k a s1) P E → P1 a s1 w1 H1) : Fi K w (m s) P1 E := by
  have z := Fi.bind (P1 := fun a s1 w1 H1 => m s = .ok a s1 → P1 a s1 w1 H1) h fun a s1 w1 H1 x r fin e => f a s1 w1 H1 e x r fin
  cases e : m s with
  | ok a s1 =>
    rw [e] at z
    exact fun w1 H1 x r => z w1 H1 x r rfl
  | exc C ns ts s1 => rw [e] at z; exact z
  | bad => rw [e] at z; exact z
theorem Fi.mono {α : Type} {K : PySem.W.Frag} {w w0 : Wd} {res : Res α} {P P1 : α → S → Wd → Hp → Prop} {E E1 : XK} (x0 : Ext w0 w) (h : Fi K w0 res P E)
    (f : ∀ a s1 w1 H1, Ext w w1 → SR K w1 s1 H1 → P a s1 w1 H1 → P1 a s1 w1 H1) (g : ∀ c d H, E c d H → E1 c d H) : Fi K w res P1 E1 := by
  cases res with
  | ok a s1 => exact fun w1 H1 x1 r1 => f a s1 w1 H1 x1 r1 (h w1 H1 (x0.trans x1) r1)
  | exc C ns ts s1 => exact fun w1 H1 d fs x1 r1 a b c => g _ _ _ (h w1 H1 d fs (x0.trans x1) r1 a b c)
  | bad => exact h
theorem Fi.ret {α : Type} {K : PySem.W.Frag} {w : Wd} {a : α} {s : S} {H : Hp} {P : α → S → Wd → Hp → Prop} {E : XK} (h : Fi K w (.ok a s) P E) (r : SR K w s H) : P a s w H := h w H (Ext.refl w) r

/-- a value is wanted -/
abbrev PQ (K : PySem.W.Frag) (Q : VK) : T → S → Wd → Hp → Prop := fun t _ w' H' => ∀ v, Rp K w' t v → Q v H'
abbrev PL (K : PySem.W.Frag) (Q : List V → Hp → Prop) : List T → S → Wd → Hp → Prop := fun t _ w' H' => ∀ v, RpL K w' t v → Q v H'
abbrev PB (Q : Bool → Hp → Prop) : Bool → S → Wd → Hp → Prop := fun b _ _ H' => Q b H'
def liftE (K : PySem.W.Frag) (W : WX) (f : En → M T) : TE := fun σ H Q => ∃ w s env, SR K w s H ∧ EnR K w env σ ∧ Fi K w (f env s) (PQ K Q) fun c d H' => W c d σ H'
def liftT (K : PySem.W.Frag) (W : WX) (f : En → M Bool) : TT := fun σ H Q => ∃ w s env, SR K w s H ∧ EnR K w env σ ∧ Fi K w (f env s) (PB Q) fun c d H' => W c d σ H'
def liftA (K : PySem.W.Frag) (W : WX) (f : En → M (List T)) : TA := fun σ H Q => ∃ w s env, SR K w s H ∧ EnR K w env σ ∧ Fi K w (f env s) (PL K Q) fun c d H' => W c d σ H'
theorem PE.imp {X : Cx} {e : Expr} {t t' : TE} (h : PE X e t) (f : ∀ σ H Q, t' σ H Q → t σ H Q) : PE X e t' := ⟨fun pins s σ H Q I q => h.run pins s σ H Q I (f _ _ _ q)⟩
theorem PT.imp {X : Cx} {e : Expr} {t t' : TT} (h : PT X e t) (f : ∀ σ H Q, t' σ H Q → t σ H Q) : PT X e t' := ⟨fun pins s σ H Q I q => h.run pins s σ H Q I (f _ _ _ q)⟩
theorem PW.imp {X : Cx} {e : Expr} {t t' : TT} (h : PW X e t) (f : ∀ σ H Q, t' σ H Q → t σ H Q) : PW X e t' := ⟨fun wh pins s σ H Q I q => h.run wh pins s σ H Q I (f _ _ _ q)⟩
theorem PA.imp {X : Cx} {e : List Expr} {t t' : TA} (h : PA X e t) (f : ∀ σ H Q, t' σ H Q → t σ H Q) : PA X e t' := ⟨fun pos pins s σ H Q I q => h.run pos pins s σ H Q I (f _ _ _ q)⟩
theorem PS.imp {X : Cx} {e : Stmt} {t t' : TS} (h : PS X e t) (f : ∀ D σ H, t' D σ H → t D σ H) : PS X e t' := ⟨fun pins s σ H D I q => h.run pins s σ H D I (f _ _ _ q)⟩
theorem PSs.imp {X : Cx} {e : List Stmt} {t t' : TS} (h : PSs X e t) (f : ∀ D σ H, t' D σ H → t D σ H) : PSs X e t' := ⟨fun pins s σ H D I q => h.run pins s σ H D I (f _ _ _ q)⟩
/-- one part after another -/
theorem liftE_seq {K : PySem.W.Frag} {W : WX} {fa : En → M T} {g : En → T → M T} {σ : L2.St} {H : Hp} {Q Q1 : VK} (h : liftE K W (fun env => bnd (fa env) (g env)) σ H Q)
    (f : ∀ w1 s1 env H1 t v, SR K w1 s1 H1 → EnR K w1 env σ → Rp K w1 t v → Fi K w1 (g env t s1) (PQ K Q) (fun c d H' => W c d σ H') → Q1 v H1) : liftE K W fa σ H Q1 := by
  obtain ⟨w, s, env, r, er, fin⟩ := h
  exact ⟨w, s, env, r, er, fin.bind fun a s1 w1 H1 x1 r1 fin1 v rv => f w1 s1 env H1 a v r1 (er.mono x1) rv fin1⟩
section
variable {X : Cx} {W : WX}
theorem le_const {v : V} {t : T} {e : Expr} (h : PE X e (tC v)) (hr : ∀ w, Rp X.K w t v) : PE X e (liftE X.K W fun _ => ret t) := PE.imp h fun σ H Q ⟨w, s, env, r, er, fin⟩ => Fi.ret fin r v (hr w)
def getV (env : En) (i : Nat) : M T := match env[i]? with
  | some (some t) => ret t
  | _ => bad
theorem le_var {i : Nat} {e : Expr} (h : PE X e (tVar i)) : PE X e (liftE X.K W fun env => getV env i) := PE.imp h fun σ H Q ⟨w, s, env, r, er, fin⟩ => by
  have fin : Fi X.K w (getV env i s) (PQ X.K Q) fun c d H' => W c d σ H' := fin
  rcases e : env[i]? with _ | _ | t
  · rw [show getV env i = bad by unfold getV; rw [e]] at fin
    exact fin.elim
  · rw [show getV env i = bad by unfold getV; rw [e]] at fin
    exact fin.elim
  · rw [show getV env i = ret t by unfold getV; rw [e]] at fin
    obtain ⟨v, h1, h2⟩ := er.at_ i t e
    exact ⟨v, h1, Fi.ret fin r v h2⟩
/-- an operation on two values -/
def liftOp (K : PySem.W.Frag) (op : T → T → M T) : R2 := fun x y H Q => ∃ w s tx ty, SR K w s H ∧ Rp K w tx x ∧ Rp K w ty y ∧ Fi K w (op tx ty s) (PQ K Q) fun _ _ _ => False
def noX {α : Type} (m : M α) : M α := fun s => match m s with
  | .exc _ _ _ _ => .bad
  | r => r
theorem Fi.noX {α : Type} {K : PySem.W.Frag} {w : Wd} {m : M α} {s : S} {P : α → S → Wd → Hp → Prop} {E E1 : XK} (h : Fi K w (noX m s) P E) : Fi K w (m s) P E1 := by
  unfold G.noX at h
  cases e : m s with
  | ok a s1 => rw [e] at h; exact h
  | exc C ns ts s1 => rw [e] at h; exact h.elim
  | bad => rw [e] at h; exact h
theorem le_op {op : Operator} {f : T → T → M T} {a b : Expr} {fa fb : En → M T} {pos : Pos} (ho : OpR X (binaryOp op) (liftOp X.K f)) (ha : PE X a (liftE X.K W fa)) (hb : PE X b (liftE X.K W fb)) :
    PE X (.BinOp a op b pos) (liftE X.K W fun env => bnd (fa env) fun x => bnd (fb env) fun y => noX (f x y)) := PE.imp (pe_op ho ha hb) fun σ H Q h =>
  liftE_seq h fun w1 s1 env H1 tx vx r1 er1 rx fin1 => ⟨w1, s1, env, r1, er1, fin1.bind fun ty s2 w2 H2 x2 r2 fin2 vy ry =>
    ⟨w2, s2, tx, ty, r2, rx.mono x2, ry, fin2.noX⟩⟩
end
end G
-- GtPrim
namespace G
open PySem L2

/-! ### what is read off the state -/
def seeB (n : Nat) : Option BO → T
  | some (.lst ts) => .lst ts
  | some (.dct ks ts) => .dct ks ts
  | some (.ins C ns ts) => .ins C ns ts
  | none => .box n
def see (s : S) : T → T
  | .box n => seeB n (s.get n)
  | t => t
abbrev Wd.on (w : Wd) (H : Hp) : Wd := ⟨H, w.r, w.b, w.k⟩
section
variable {K : PySem.W.Frag} {w : Wd} {s : S} {H : Hp}
theorem SR.ext (r : SR K w s H) : Ext w (w.on H) := ⟨r.sub, fun _ _ => rfl, Nat.le_refl _, rfl⟩
theorem SR.see (r : SR K w s H) {t : T} {v : V} (h : Rp K w t v) : Rp K (w.on H) (see s t) v := by
  cases t with
  | box n =>
    show Rp K (w.on H) (seeB n (s.get n)) v
    cases e : s.get n with
    | none => exact Rp.mono r.ext h
    | some o =>
      obtain ⟨hn, hv⟩ := h
      obtain ⟨_, b, _⟩ := r.box n o e
      cases o with
      | lst ts =>
        obtain ⟨xs, p, q⟩ := b
        exact ⟨_, xs, hv, p, q.mono r.ext⟩
      | dct ks ts =>
        obtain ⟨kvs, p, e2, q⟩ := b
        exact ⟨_, kvs, hv, p, e2, q.mono r.ext⟩
      | ins C ns ts =>
        obtain ⟨dx, fs, p, e2, q⟩ := b
        exact ⟨_, dx, fs, hv, p, e2, q.mono r.ext⟩
  | _ => exact Rp.mono r.ext h
end

/-! ### plain data -/
mutual
def toD : T → Option PyData
  | .non => some .none
  | .bl b => some (.bool b)
  | .int i => some (.int i)
  | .str x => some (.str x)
  | .lst ts => (toDs ts).map PyData.list
  | .tup ts => (toDs ts).map PyData.tuple
  | _ => none
def toDs : List T → Option (List PyData)
  | [] => some []
  | t :: ts => match toD t, toDs ts with
    | some d, some ds => some (d :: ds)
    | _, _ => none
end
mutual
theorem toD_ok {K : PySem.W.Frag} {w : Wd} : ∀ {t : T} {d : PyData} {v : V}, toD t = some d → Rp K w t v → Dp K w.I v d
  | .non, _, _, e, h => by
    cases e
    have h : _ = _ := h
    rw [h]; exact .non
  | .bl b, _, _, e, h => by
    cases e
    have h : _ = _ := h
    rw [h]; exact .bl b
  | .int i, _, _, e, h => by
    cases e
    have h : _ = _ := h
    rw [h]; exact .int i
  | .str i, _, _, e, h => by
    cases e
    have h : _ = _ := h
    rw [h]; exact .str i
  | .lst ts, _, _, e, ⟨a, xs, ev, p, q⟩ => by
    have e : (toDs ts).map PyData.list = some _ := e
    cases e2 : toDs ts with
    | none => rw [e2] at e; cases e
    | some ds =>
      rw [e2] at e
      cases e
      rw [ev]
      exact .lst (SqL.of p) (toDs_ok e2 q)
  | .tup ts, _, _, e, ⟨a, xs, ev, p, q⟩ => by
    have e : (toDs ts).map PyData.tuple = some _ := e
    cases e2 : toDs ts with
    | none => rw [e2] at e; cases e
    | some ds =>
      rw [e2] at e
      cases e
      rw [ev]
      exact .tup p (toDs_ok e2 q)
  | .frz _, _, _, e, _ => by cases e
  | .dct _ _, _, _, e, _ => by cases e
  | .ins _ _ _, _, _, e, _ => by cases e
  | .exc _ _ _, _, _, e, _ => by cases e
  | .box _, _, _, e, _ => by cases e
  | .glo _, _, _, e, _ => by cases e
  | .lam _ _ _ _ _, _, _, e, _ => by cases e
  | .ty _, _, _, e, _ => by cases e
theorem toDs_ok {K : PySem.W.Frag} {w : Wd} : ∀ {ts : List T} {ds : List PyData} {vs : List V}, toDs ts = some ds → RpL K w ts vs → DpAll K w.I vs ds
  | [], _, _, e, q => by
    cases e
    have q : _ = _ := q
    rw [q]; exact .nil
  | t :: ts, _, _, e, ⟨v, ws, ev, a, b⟩ => by
    have e : (match toD t, toDs ts with
      | some d, some ds => some (d :: ds)
      | _, _ => none) = some _ := e
    cases e1 : toD t with
    | none => rw [e1] at e; cases e
    | some d =>
      cases e2 : toDs ts with
      | none => rw [e1, e2] at e; cases e
      | some ds =>
        rw [e1, e2] at e
        cases e
        rw [ev]
        exact .cons (toD_ok e1 a) (toDs_ok e2 b)
end

/-! ### operators -/
def mulOk (i j : Int) : Bool := decide (i.natAbs < 2 ^ 64) || (decide (j.natAbs < 2 ^ 64) || decide (i.natAbs.log2 + j.natAbs.log2 < 900000))
def divOk (j : Int) : Bool := decide (0 < j) && decide (j.natAbs.log2 < 8000)
def powOk (i j : Int) : Bool := decide (0 ≤ j) && (decide (j ≤ 1000000) && decide (i.natAbs < 2 ^ 64))
def binop (op : Operator) (a b : T) : M T := fun s => match op, see s a, see s b with
  | .Add, .int i, .int j => .ok (.int (i + j)) s
  | .Add, .int i, .bl k => .ok (.int (i + PyProof.Rows.b2i k)) s
  | .Add, .str x, .str y => if x.length + y.length ≤ sizeLine then .ok (.str (x ++ y)) s else .bad
  | .Add, .lst xs, .lst ys => if xs.length + ys.length ≤ sizeLine then .ok (.lst (xs ++ ys)) s else .bad
  | .Add, .tup xs, .tup ys => if xs.length + ys.length ≤ sizeLine then .ok (.tup (xs ++ ys)) s else .bad
  | .Sub, .int i, .int j => .ok (.int (i - j)) s
  | .Mult, .int i, .int j => if mulOk i j then .ok (.int (i * j)) s else .bad
  | .Mult, .lst xs, .int k => if -(2 ^ 63) ≤ k ∧ k < 2 ^ 63 ∧ xs.length * k.toNat ≤ sizeLine then .ok (.lst (List.replicate k.toNat xs).flatten) s else .bad
  | .Mult, .str x, .int k => if -(2 ^ 63) ≤ k ∧ k < 2 ^ 63 ∧ x.length * k.toNat ≤ sizeLine then .ok (.str (Txt.mul x k)) s else .bad
  | .FloorDiv, .int i, .int j => if divOk j then .ok (.int (i / j)) s else .bad
  | .Mod, .int i, .int j => if 0 < j then .ok (.int (i % j)) s else .bad
  | .Pow, .int i, .int j => if powOk i j then .ok (.int (i ^ j.toNat)) s else .bad
  | _, _, _ => .bad

section
variable {X : Cx}
theorem natAbs64 {i : Int} (h : i.natAbs < 2 ^ 64) : -(2 ^ 64) < i ∧ i < 2 ^ 64 := by omega
theorem see_int {K : PySem.W.Frag} {w : Wd} {s : S} {H : Hp} (r : SR K w s H) {t : T} {v : V} {i : Int} (h : Rp K w t v) (e : see s t = .int i) : v = .int i := by
  have q := r.see h
  rw [e] at q
  exact q
theorem see_bl {K : PySem.W.Frag} {w : Wd} {s : S} {H : Hp} (r : SR K w s H) {t : T} {v : V} {i : Bool} (h : Rp K w t v) (e : see s t = .bl i) : v = .bl i := by
  have q := r.see h
  rw [e] at q
  exact q
theorem see_str {K : PySem.W.Frag} {w : Wd} {s : S} {H : Hp} (r : SR K w s H) {t : T} {v : V} {i : Str} (h : Rp K w t v) (e : see s t = .str i) : v = .str i := by
  have q := r.see h
  rw [e] at q
  exact q
theorem see_non {K : PySem.W.Frag} {w : Wd} {s : S} {H : Hp} (r : SR K w s H) {t : T} {v : V} (h : Rp K w t v) (e : see s t = .non) : v = .non := by
  have q := r.see h
  rw [e] at q
  exact q
theorem see_lst {K : PySem.W.Frag} {w : Wd} {s : S} {H : Hp} (r : SR K w s H) {t : T} {v : V} {ts : List T} (h : Rp K w t v) (e : see s t = .lst ts) : ∃ a xs, v = .ref a ∧ H a = some (.lst xs) ∧ RpL K (w.on H) ts xs := by
  have q := r.see h
  rw [e] at q
  exact q
theorem see_tup {K : PySem.W.Frag} {w : Wd} {s : S} {H : Hp} (r : SR K w s H) {t : T} {v : V} {ts : List T} (h : Rp K w t v) (e : see s t = .tup ts) : ∃ a xs, v = .ref a ∧ SqT K H a xs ∧ RpL K (w.on H) ts xs := by
  have q := r.see h
  rw [e] at q
  exact q
/-- what is read off the heap: the items stay what they are in the world -/
theorem see_lstI {K : PySem.W.Frag} {w : Wd} {s : S} {H : Hp} (r : SR K w s H) {t : T} {v : V} {ts : List T} (h : Rp K w t v) (e : see s t = .lst ts) : ∃ a xs, v = .ref a ∧ H a = some (.lst xs) ∧ RpL K w ts xs := by
  cases t with
  | box n =>
    have e : seeB n (s.get n) = _ := e
    obtain ⟨hn, hv⟩ := h
    cases e1 : s.get n with
    | none => rw [e1] at e; cases e
    | some o =>
      obtain ⟨_, b, _⟩ := r.box n o e1
      rw [e1] at e
      cases o with
      | lst us =>
        cases e
        obtain ⟨xs, p, q⟩ := b
        exact ⟨_, xs, hv, p, q⟩
      | dct ks us => cases e
      | ins C ns us => cases e
  | lst us =>
    cases e
    obtain ⟨a, xs, ev, p, q⟩ := h
    exact ⟨a, xs, ev, r.sub _ _ p, q⟩
  | _ => cases e
theorem see_tupI {K : PySem.W.Frag} {w : Wd} {s : S} {H : Hp} (r : SR K w s H) {t : T} {v : V} {ts : List T} (h : Rp K w t v) (e : see s t = .tup ts) : ∃ a xs, v = .ref a ∧ SqT K H a xs ∧ SqT K w.I a xs ∧ RpL K w ts xs := by
  cases t with
  | box n =>
    have e : seeB n (s.get n) = _ := e
    cases e1 : s.get n with
    | none => rw [e1] at e; cases e
    | some o =>
      rw [e1] at e
      cases o <;> cases e
  | tup us =>
    cases e
    obtain ⟨a, xs, ev, p, q⟩ := h
    exact ⟨a, xs, ev, sameT r.sub p, p, q⟩
  | _ => cases e
/-- a new list, a new tuple -/
theorem new_lst {K : PySem.W.Frag} {w : Wd} {s : S} {H : Hp} {ts : List T} {xs : List V} {Q : VK} {E : XK} (fin : Fi K w (.ok (.lst ts) s) (PQ K Q) E) (r : SR K w s H) (q : RpL K w ts xs) : ∀ p, H p = none → Q (.ref p) (upd H p (.lst xs)) := fun p hp => by
  obtain ⟨ex, r'⟩ := r.laid (o := .lst xs) hp
  exact fin _ _ ex r' _ ⟨p, xs, rfl, upd_same, q.mono ex⟩
theorem new_tup {K : PySem.W.Frag} {w : Wd} {s : S} {H : Hp} {ts : List T} {xs : List V} {Q : VK} {E : XK} (fin : Fi K w (.ok (.tup ts) s) (PQ K Q) E) (r : SR K w s H) (q : RpL K w ts xs) : ∀ p, H p = none → Q (.ref p) (upd H p (.tup xs)) := fun p hp => by
  obtain ⟨ex, r'⟩ := r.laid (o := .tup xs) hp
  exact fin _ _ ex r' _ ⟨p, xs, rfl, SqT.of upd_same, q.mono ex⟩
theorem RpL.flat {K : PySem.W.Frag} {w : Wd} {ts : List T} {xs : List V} (q : RpL K w ts xs) : ∀ n : Nat, RpL K w (List.replicate n ts).flatten (List.replicate n xs).flatten
  | 0 => RpL.nil
  | n + 1 => by
    rw [List.replicate_succ, List.replicate_succ, List.flatten_cons, List.flatten_cons]
    exact q.append (RpL.flat q n)
theorem mulS_ok {x : Str} {k : Int} (h : -(2 ^ 63) ≤ k ∧ k < 2 ^ 63 ∧ x.length * k.toNat ≤ sizeLine) : PySem.MulOk x k := by
  obtain ⟨h1, h2, h3⟩ := h
  refine ⟨?_, fun h4 _ => ?_, fun h4 _ => ?_⟩
  · rw [decide_eq_false (by omega), decide_eq_false (by omega)]
    rfl
  · have e : (x.length : Int) * k ≤ 2 ^ 63 - 1 := by
      have z : ((x.length * k.toNat : Nat) : Int) ≤ 16777216 := by
        have := h3
        rw [sizeLine_eq] at this
        omega
      rw [Int.natCast_mul, Int.toNat_of_nonneg (by omega)] at z
      omega
    have := (Int.le_ediv_iff_mul_le (by omega : 0 < k)).mpr e
    omega
  · exact decide_eq_false (by omega)
theorem op_bin {op : Operator} : OpR X (binaryOp op) (liftOp X.K (binop op)) := by
  intro pins s σ H x y v u Q I rx ry ⟨w, st, a, b, r, ra, rb, fin⟩
  unfold binop at fin
  split at fin
  · rename_i i j e1 e2
    exact op_add pins s σ H _ _ v u Q I rx ry ⟨i, j, see_int r ra e1, see_int r rb e2, Fi.ret fin r _ rfl⟩
  · rename_i i j e1 e2
    exact op_add_ib pins s σ H _ _ v u Q I rx ry ⟨i, j, see_int r ra e1, see_bl r rb e2, Fi.ret fin r _ rfl⟩
  · rename_i i j e1 e2
    split at fin
    · rename_i hz
      exact op_add_str pins s σ H _ _ v u Q I rx ry ⟨i, j, see_str r ra e1, see_str r rb e2, hz, Fi.ret fin r _ rfl⟩
    · exact fin.elim
  · rename_i xs ys e1 e2
    split at fin
    · rename_i hz
      obtain ⟨a1, vs, e3, p1, q1⟩ := see_lstI r ra e1
      obtain ⟨a2, us, e4, p2, q2⟩ := see_lstI r rb e2
      exact op_cat pins s σ H _ _ v u Q I rx ry ⟨a1, a2, vs, us, e3, e4, p1, p2, by rw [← q1.length, ← q2.length]; exact hz, new_lst fin r (q1.append q2)⟩
    · exact fin.elim
  · rename_i xs ys e1 e2
    split at fin
    · rename_i hz
      obtain ⟨a1, vs, e3, p1, p1', q1⟩ := see_tupI r ra e1
      obtain ⟨a2, us, e4, p2, p2', q2⟩ := see_tupI r rb e2
      refine op_catA pins s σ H _ _ v u Q I rx ry ⟨a1, a2, vs, us, e3, e4, p1, p2, by rw [← q1.length, ← q2.length]; exact hz, fun h => ?_, fun _ h => ?_, fun _ _ => new_tup fin r (q1.append q2)⟩
      · subst h
        have : xs = [] := List.length_eq_zero_iff.mp (by rw [q1.length]; rfl)
        subst this
        exact Fi.ret fin r _ ⟨a2, us, rfl, p2', by simpa using q2⟩
      · subst h
        have : ys = [] := List.length_eq_zero_iff.mp (by rw [q2.length]; rfl)
        subst this
        exact Fi.ret fin r _ ⟨a1, vs, rfl, p1', by simpa using q1⟩
    · exact fin.elim
  · rename_i i j e1 e2
    exact op_sub pins s σ H _ _ v u Q I rx ry ⟨i, j, see_int r ra e1, see_int r rb e2, Fi.ret fin r _ rfl⟩
  · rename_i i j e1 e2
    split at fin
    · rename_i hz
      have f := Fi.ret fin r _ rfl
      unfold mulOk at hz
      simp only [Bool.or_eq_true, decide_eq_true_eq] at hz
      rcases hz with hz | hz | hz
      · exact op_mul pins s σ H _ _ v u Q I rx ry ⟨i, j, see_int r ra e1, see_int r rb e2, .inl (natAbs64 hz), f⟩
      · exact op_mul pins s σ H _ _ v u Q I rx ry ⟨i, j, see_int r ra e1, see_int r rb e2, .inr (natAbs64 hz), f⟩
      · exact op_mulW pins s σ H _ _ v u Q I rx ry ⟨i, j, see_int r ra e1, see_int r rb e2, by unfold CMulW; omega, f⟩
    · exact fin.elim
  · rename_i xs k e1 e2
    split at fin
    · rename_i hz
      obtain ⟨a1, vs, e3, p1, q1⟩ := see_lstI r ra e1
      exact op_rep pins s σ H _ _ v u Q I rx ry ⟨a1, k, vs, e3, see_int r rb e2, p1, hz.1, hz.2.1, by rw [← q1.length]; exact hz.2.2, new_lst fin r (q1.flat _)⟩
    · exact fin.elim
  · rename_i z k e1 e2
    split at fin
    · rename_i hz
      have q := Fi.ret fin r _ rfl
      have ex := see_str r ra e1
      have ey := see_int r rb e2
      subst ex
      subst ey
      obtain ⟨t, rfl⟩ := rx
      obtain ⟨t2, rfl⟩ := ry
      exact PySem.SB.mul (mulS_ok hz) fun t' k' => ⟨.str _, H, I.tok _, ⟨_, rfl⟩, q⟩
    · exact fin.elim
  · rename_i i j e1 e2
    split at fin
    · rename_i hz
      have f := Fi.ret fin r _ rfl
      unfold divOk at hz
      simp only [Bool.and_eq_true, decide_eq_true_eq] at hz
      exact op_fdivW pins s σ H _ _ v u Q I rx ry ⟨i, j, see_int r ra e1, see_int r rb e2, by unfold CDivW; omega, f⟩
    · exact fin.elim
  · rename_i i j e1 e2
    split at fin
    · rename_i hz
      exact op_mod pins s σ H _ _ v u Q I rx ry ⟨i, j, see_int r ra e1, see_int r rb e2, hz, Fi.ret fin r _ rfl⟩
    · exact fin.elim
  · rename_i i j e1 e2
    split at fin
    · rename_i hz
      have f := Fi.ret fin r _ rfl
      unfold powOk at hz
      simp only [Bool.and_eq_true, decide_eq_true_eq] at hz
      exact op_pow pins s σ H _ _ v u Q I rx ry ⟨i, j, see_int r ra e1, see_int r rb e2, ⟨hz.1, hz.2.1, hz.2.2⟩, f⟩
    · exact fin.elim
  · exact fin.elim
end
end G
-- GtPrim2
namespace G
open PySem L2

/-! ### comparisons -/
def toV : T → V
  | .bl b => .bl b
  | .int i => .int i
  | .str x => .str x
  | _ => .non
def flatT : T → Bool
  | .non => true
  | .bl _ => true
  | .int _ => true
  | .str _ => true
  | _ => false
def eqF (a b : T) : Bool := eqV (toV a) (toV b)
def inF (x : T) (xs : List T) : Bool := xs.any fun y => eqF y x
theorem flat_ok {K : PySem.W.Frag} {w : Wd} {t : T} {v : V} (f : flatT t = true) (h : Rp K w t v) : v = toV t ∧ flatV v = true := by
  cases t with
  | non => have h : _ = _ := h; subst h; exact ⟨rfl, rfl⟩
  | bl b => have h : _ = _ := h; subst h; exact ⟨rfl, rfl⟩
  | int b => have h : _ = _ := h; subst h; exact ⟨rfl, rfl⟩
  | str b => have h : _ = _ := h; subst h; exact ⟨rfl, rfl⟩
  | _ => cases f
theorem flats_ok {K : PySem.W.Frag} {w : Wd} : ∀ {ts : List T} {vs : List V}, ts.all flatT = true → RpL K w ts vs → vs = ts.map toV ∧ vs.all flatV = true
  | [], _, _, q => by
    have q : _ = _ := q
    subst q
    exact ⟨rfl, rfl⟩
  | t :: ts, _, f, ⟨v, ws, e, a, b⟩ => by
    rw [List.all_cons, Bool.and_eq_true] at f
    obtain ⟨e1, f1⟩ := flat_ok f.1 a
    obtain ⟨e2, f2⟩ := flats_ok f.2 b
    subst e e1 e2
    exact ⟨rfl, by rw [List.all_cons, f1, f2]; rfl⟩
theorem inV_map (x : T) : ∀ ts : List T, inV (toV x) (ts.map toV) = inF x ts := fun ts => by
  unfold inV inF eqF
  rw [List.any_map]
  rfl
def inStr (x y : Str) : Bool := !(Builtin.Str.occurrences y x 0 y.length 1).isEmpty
def eqM (neg : Bool) (a b : T) : M T := fun s => match see s a, see s b with
  | .str x, .str y => .ok (.bl (if neg then !(x == y) else (x == y))) s
  | u, v => match toD u, toD v with
    | some d, some e => if SeqAt.shaped d && SeqAt.shaped e then .ok (.bl (if neg then !PyData.eqv d e else PyData.eqv d e)) s else .bad
    | _, _ => .bad
def toK : T → Option Key
  | .int i => some (.inl i)
  | .str x => some (.inr x)
  | _ => none
def inM (neg : Bool) (a b : T) : M T := fun s => match see s a, see s b with
  | .str x, .str y => .ok (.bl (if neg then !inStr x y else inStr x y)) s
  | x, .lst ys => if flatT x && ys.all flatT then .ok (.bl (if neg then !inF x ys else inF x ys)) s else .bad
  | x, .tup ys => if flatT x && ys.all flatT then .ok (.bl (if neg then !inF x ys else inF x ys)) s else .bad
  | _, _ => .bad
def isNonT : T → Bool
  | .non => true
  | _ => false
def isM (neg : Bool) (a b : T) : M T := fun s => match see s b with
  | .non => .ok (.bl (if neg then !isNonT a else isNonT a)) s
  | _ => .bad
def cmpop (op : CmpOp) (a b : T) : M T := match op with
  | .Eq => eqM false a b
  | .NotEq => eqM true a b
  | .In => inM false a b
  | .NotIn => inM true a b
  | .Is => isM false a b
  | .IsNot => isM true a b
  | .Lt => fun s => match see s a, see s b with
    | .int i, .int j => .ok (.bl (decide (i < j))) s
    | .str i, .str j => .ok (.bl (decide (i.cps.toList < j.cps.toList))) s
    | _, _ => .bad
  | .LtE => fun s => match see s a, see s b with
    | .int i, .int j => .ok (.bl (decide (i ≤ j))) s
    | .str i, .str j => .ok (.bl (!decide (j.cps.toList < i.cps.toList))) s
    | _, _ => .bad
  | .Gt => fun s => match see s a, see s b with
    | .int i, .int j => .ok (.bl (decide (j < i))) s
    | .str i, .str j => .ok (.bl (decide (j.cps.toList < i.cps.toList))) s
    | _, _ => .bad
  | .GtE => fun s => match see s a, see s b with
    | .int i, .int j => .ok (.bl (decide (j ≤ i))) s
    | .str i, .str j => .ok (.bl (!decide (i.cps.toList < j.cps.toList))) s
    | _, _ => .bad
theorem non_iff {K : PySem.W.Frag} {w : Wd} {t : T} {v : V} (h : Rp K w t v) : v = .non ↔ t = .non := by
  constructor
  · intro e
    subst e
    cases t with
    | non => rfl
    | bl b => have h : V.non = V.bl b := h; cases h
    | int b => have h : V.non = V.int b := h; cases h
    | str b => have h : V.non = V.str b := h; cases h
    | lst ts => obtain ⟨a, xs, z, _⟩ := h; cases z
    | frz ts => obtain ⟨a, xs, z, _⟩ := h; cases z
    | tup ts => obtain ⟨a, xs, z, _⟩ := h; cases z
    | dct ks ts => obtain ⟨a, xs, z, _⟩ := h; cases z
    | ins C ns ts => obtain ⟨a, dx, fs, z, _⟩ := h; cases z
    | exc C ns ts => obtain ⟨a, d, p, fs, z, _⟩ := h; cases z
    | box n => obtain ⟨_, z⟩ := h; cases z
    | glo g => have h : V.non = V.ref _ := h; cases h
    | lam f c q cap vs => obtain ⟨z, _⟩ := h; cases z
    | ty n => have h : V.non = V.ty n := h; cases h
  · intro e
    subst e
    exact h
theorem isNonT_iff {K : PySem.W.Frag} {w : Wd} {t : T} {v : V} (h : Rp K w t v) : decide (v = .non) = isNonT t := by
  by_cases e : t = .non
  · rw [decide_eq_true ((non_iff h).mpr e), e]
    rfl
  · rw [decide_eq_false fun z => e ((non_iff h).mp z)]
    cases t <;> first
      | rfl
      | exact absurd rfl e
section
variable {X : Cx}
theorem op_cmp (hu : X.A.units + 64 < cLine) {op : CmpOp} : OpR X (compareOp op) (liftOp X.K (cmpop op)) := by
  intro pins s σ H x y v u Q I rx ry ⟨w, st, a, b, r, ra, rb, fin⟩
  have fe : ∀ {neg : Bool}, Fi X.K w (eqM neg a b st) (PQ X.K Q) (fun _ _ _ => False) → (∃ i j, x = .str i ∧ y = .str j ∧ Q (.bl (if neg then !(i == j) else (i == j))) H) ∨
      ∃ d e, Dp X.K H x d ∧ Dp X.K H y e ∧ SeqAt.shaped d = true ∧ SeqAt.shaped e = true ∧ Q (.bl (if neg then !PyData.eqv d e else PyData.eqv d e)) H := by
    intro neg fin
    unfold eqM at fin
    split at fin
    · rename_i i j e1 e2
      exact .inl ⟨i, j, see_str r ra e1, see_str r rb e2, Fi.ret fin r _ rfl⟩
    · split at fin
      · rename_i d e e1 e2
        split at fin
        · rename_i hz
          rw [Bool.and_eq_true] at hz
          exact .inr ⟨d, e, toD_ok e1 (r.see ra), toD_ok e2 (r.see rb), hz.1, hz.2, Fi.ret fin r _ rfl⟩
        · exact fin.elim
      · exact fin.elim
  have fi : ∀ {neg : Bool}, Fi X.K w (inM neg a b st) (PQ X.K Q) (fun _ _ _ => False) →
      (∃ i j, x = .str i ∧ y = .str j ∧ Q (.bl (if neg then !inStr i j else inStr i j)) H) ∨ ∃ p xs, y = .ref p ∧ (SqL X.K H p xs ∨ SqT X.K H p xs) ∧ flatV x = true ∧ xs.all flatV = true ∧ Q (.bl (if neg then !inV x xs else inV x xs)) H := by
    intro neg fin
    unfold inM at fin
    split at fin
    · rename_i i j e1 e2
      exact .inl ⟨i, j, see_str r ra e1, see_str r rb e2, Fi.ret fin r _ rfl⟩
    · rename_i z ys _ e2
      split at fin
      · rename_i hz
        rw [Bool.and_eq_true] at hz
        obtain ⟨p, xs, ey, hp, hq⟩ := see_lst r rb e2
        obtain ⟨ex, fx⟩ := flat_ok hz.1 (r.see ra)
        obtain ⟨es, fs⟩ := flats_ok hz.2 hq
        refine .inr ⟨p, xs, ey, .inl (SqL.of hp), fx, fs, ?_⟩
        rw [ex, es, inV_map]
        exact Fi.ret fin r _ rfl
      · exact fin.elim
    · rename_i z ys _ e2
      split at fin
      · rename_i hz
        rw [Bool.and_eq_true] at hz
        obtain ⟨p, xs, ey, hp, hq⟩ := see_tup r rb e2
        obtain ⟨ex, fx⟩ := flat_ok hz.1 (r.see ra)
        obtain ⟨es, fs⟩ := flats_ok hz.2 hq
        refine .inr ⟨p, xs, ey, .inr hp, fx, fs, ?_⟩
        rw [ex, es, inV_map]
        exact Fi.ret fin r _ rfl
      · exact fin.elim
    · exact fin.elim
  cases op with
  | Eq =>
    rcases fe (neg := false) fin with ⟨i, j, e1, e2, q⟩ | ⟨d, e, h1, h2, h3, h4, q⟩
    · subst e1 e2
      exact op_eq pins s σ H _ _ v u Q I rx ry ⟨rfl, by rw [dec_str]; exact q⟩
    exact op_eqD hu pins s σ H x y v u Q I rx ry ⟨d, e, h1, h2, h3, h4, q⟩
  | NotEq =>
    rcases fe (neg := true) fin with ⟨i, j, e1, e2, q⟩ | ⟨d, e, h1, h2, h3, h4, q⟩
    · subst e1 e2
      exact op_ne pins s σ H _ _ v u Q I rx ry ⟨rfl, by rw [dec_str]; exact q⟩
    exact op_neD hu pins s σ H x y v u Q I rx ry ⟨d, e, h1, h2, h3, h4, q⟩
  | In =>
    rcases fi (neg := false) fin with h | h
    · exact op_in_str pins s σ H x y v u Q I rx ry h
    · exact op_in_seq pins s σ H x y v u Q I rx ry h
  | NotIn =>
    rcases fi (neg := true) fin with h | h
    · exact op_notin_str pins s σ H x y v u Q I rx ry h
    · exact op_notIn_seq pins s σ H x y v u Q I rx ry h
  | Is =>
    refine op_isN pins s σ H x y v u Q I rx ry ?_
    have fin : Fi X.K w (isM false a b st) (PQ X.K Q) (fun _ _ _ => False) := fin
    unfold isM at fin
    split at fin
    · rename_i e1
      refine ⟨see_non r rb e1, ?_⟩
      rw [isNonT_iff ra]
      exact Fi.ret fin r _ rfl
    · exact fin.elim
  | IsNot =>
    refine op_notN pins s σ H x y v u Q I rx ry ?_
    have fin : Fi X.K w (isM true a b st) (PQ X.K Q) (fun _ _ _ => False) := fin
    unfold isM at fin
    split at fin
    · rename_i e1
      refine ⟨see_non r rb e1, ?_⟩
      rw [isNonT_iff ra]
      exact Fi.ret fin r _ rfl
    · exact fin.elim
  | Lt =>
    have fin : Fi X.K w ((match see st a, see st b with
      | .int i, .int j => .ok (.bl (decide (i < j))) st
      | .str i, .str j => .ok (.bl (decide (i.cps.toList < j.cps.toList))) st
      | _, _ => .bad : Res T)) (PQ X.K Q) (fun _ _ _ => False) := fin
    split at fin
    · rename_i i j e1 e2
      exact op_lt pins s σ H x y v u Q I rx ry ⟨i, j, see_int r ra e1, see_int r rb e2, Fi.ret fin r _ rfl⟩
    · rename_i i j e1 e2
      exact op_lt_str pins s σ H x y v u Q I rx ry ⟨i, j, see_str r ra e1, see_str r rb e2, Fi.ret fin r _ rfl⟩
    · exact fin.elim
  | LtE =>
    have fin : Fi X.K w ((match see st a, see st b with
      | .int i, .int j => .ok (.bl (decide (i ≤ j))) st
      | .str i, .str j => .ok (.bl (!decide (j.cps.toList < i.cps.toList))) st
      | _, _ => .bad : Res T)) (PQ X.K Q) (fun _ _ _ => False) := fin
    split at fin
    · rename_i i j e1 e2
      exact op_le pins s σ H x y v u Q I rx ry ⟨i, j, see_int r ra e1, see_int r rb e2, Fi.ret fin r _ rfl⟩
    · rename_i i j e1 e2
      exact op_le_str pins s σ H x y v u Q I rx ry ⟨i, j, see_str r ra e1, see_str r rb e2, Fi.ret fin r _ rfl⟩
    · exact fin.elim
  | Gt =>
    have fin : Fi X.K w ((match see st a, see st b with
      | .int i, .int j => .ok (.bl (decide (j < i))) st
      | .str i, .str j => .ok (.bl (decide (j.cps.toList < i.cps.toList))) st
      | _, _ => .bad : Res T)) (PQ X.K Q) (fun _ _ _ => False) := fin
    split at fin
    · rename_i i j e1 e2
      exact op_gt pins s σ H x y v u Q I rx ry ⟨i, j, see_int r ra e1, see_int r rb e2, Fi.ret fin r _ rfl⟩
    · rename_i i j e1 e2
      exact op_gt_str pins s σ H x y v u Q I rx ry ⟨i, j, see_str r ra e1, see_str r rb e2, Fi.ret fin r _ rfl⟩
    · exact fin.elim
  | GtE =>
    have fin : Fi X.K w ((match see st a, see st b with
      | .int i, .int j => .ok (.bl (decide (j ≤ i))) st
      | .str i, .str j => .ok (.bl (!decide (i.cps.toList < j.cps.toList))) st
      | _, _ => .bad : Res T)) (PQ X.K Q) (fun _ _ _ => False) := fin
    split at fin
    · rename_i i j e1 e2
      exact op_ge pins s σ H x y v u Q I rx ry ⟨i, j, see_int r ra e1, see_int r rb e2, Fi.ret fin r _ rfl⟩
    · rename_i i j e1 e2
      exact op_ge_str pins s σ H x y v u Q I rx ry ⟨i, j, see_str r ra e1, see_str r rb e2, Fi.ret fin r _ rfl⟩
    · exact fin.elim

/-! ### truth, minus -/
def truth (a : T) : M Bool := fun s => match see s a with
  | .non => .ok false s
  | .bl b => .ok b s
  | .int i => .ok (i != 0) s
  | .str x => if x.length ≤ sizeLine then .ok ((x.length : Int) != 0) s else .bad
  | .lst xs => .ok (!xs.isEmpty) s
  | .tup xs => .ok (!xs.isEmpty) s
  | .dct ks _ => .ok (!ks.isEmpty) s
  | _ => .bad
theorem RpL.isEmpty {K : PySem.W.Frag} {w : Wd} {ts : List T} {vs : List V} (q : RpL K w ts vs) : vs.isEmpty = ts.isEmpty := by
  cases ts with
  | nil =>
    have q : _ = _ := q
    subst q
    rfl
  | cons t ts =>
    obtain ⟨v, ws, e, _⟩ := q
    subst e
    rfl
theorem tru_T {w : Wd} {st : S} {H : Hp} {t : T} {x : V} {P : Bool → S → Wd → Hp → Prop} {E : XK} (r : SR X.K w st H) (ra : Rp X.K w t x) (fin : Fi X.K w (truth t st) P E) : ∃ k, TruV X.K x H k ∧ P k st w H := by
  unfold truth at fin
  split at fin
  · rename_i e
    have e1 := see_non r ra e
    subst e1
    exact ⟨_, rfl, Fi.ret fin r⟩
  · rename_i b e
    have e1 := see_bl r ra e
    subst e1
    exact ⟨_, rfl, Fi.ret fin r⟩
  · rename_i b e
    have e1 := see_int r ra e
    subst e1
    exact ⟨_, rfl, Fi.ret fin r⟩
  · rename_i b e
    have e1 := see_str r ra e
    subst e1
    split at fin
    · rename_i hz
      exact ⟨_, ⟨hz, rfl⟩, Fi.ret fin r⟩
    · exact fin.elim
  · rename_i b e
    obtain ⟨a, xs, e1, p, q⟩ := see_lst r ra e
    subst e1
    exact ⟨_, .inl ⟨xs, SqL.of p, rfl⟩, by rw [q.isEmpty]; exact Fi.ret fin r⟩
  · rename_i b e
    obtain ⟨a, xs, e1, p, q⟩ := see_tup r ra e
    subst e1
    exact ⟨_, .inr (.inl ⟨xs, p, rfl⟩), by rw [q.isEmpty]; exact Fi.ret fin r⟩
  · rename_i ks vs e
    have q := r.see ra
    rw [e] at q
    obtain ⟨a, kvs, e1, p, e2, q⟩ := q
    subst e1
    refine ⟨_, .inr (.inr ⟨kvs, p, rfl⟩), ?_⟩
    have : kvs.isEmpty = ks.isEmpty := by rw [← e2, List.isEmpty_map]
    rw [this]
    exact Fi.ret fin r
  · exact fin.elim
def negM (a : T) : M T := fun s => match see s a with
  | .int i => .ok (.int (-i)) s
  | _ => .bad
def liftOp1 (K : PySem.W.Frag) (op : T → M T) : V → Hp → VK → Prop := fun x H Q => ∃ w s tx, SR K w s H ∧ Rp K w tx x ∧ Fi K w (op tx s) (PQ K Q) fun _ _ _ => False
theorem un_negT : UnR X (unaryOp .USub) (liftOp1 X.K negM) := by
  intro pins s σ H x v Q I rx ⟨w, st, a, r, ra, fin⟩
  unfold negM at fin
  split at fin
  · rename_i i e
    exact un_neg pins s σ H x v Q I rx ⟨i, see_int r ra e, Fi.ret fin r _ rfl⟩
  · exact fin.elim
end
end G
-- GtBlt
namespace G
open PySem L2

/-! ### what the program's text is, as far as the interpreter asks -/
inductive MK where
  | fn (i : Nat) | prop (i : Nat) | cm (i : Nat) | sm (i : Nat) | con (t : T)
structure ClI where
  name : Str
  /-- an error class: its fields, in the order of the parameters of its __init__ -/
  err : Option (List Str) := none
  /-- its instances are changed after they were made -/
  keep : Bool := false
  /-- what the class and those above it have -/
  mem : List (Str × MK) := []
  /-- the names that only instances have -/
  flds : List Str := []
  sup : List Str := []
  init : Option Nat := none
inductive GV where
  | fn (i : Nat) | cls (c : ClI) | cst (t : T)
structure FnI where
  at_ : Str × Option Str
  name : Str
  qual : Str
  params : Arguments
  body : List Stmt
  scope : Scope
  N : List Str
  ps : List Str
  star : Option Str := none
  dfl : List He.Dv := []
def FnI.allps (f : FnI) : List Str := f.ps ++ f.star.toList
/-- a call with keywords: of def i, n values by place, the keywords ks; out: which value each parameter gets -/
structure KwI where
  i : Nat
  n : Nat
  ks : List Str
  out : List Nat
def pick {α : Type} (out : List Nat) (xs : List α) : List α := out.filterMap fun j => xs[j]?
structure Pg where
  fns : List FnI
  glob : List (Str × GV)
  boxed : List (Nat × Nat) := []
  thaw : List (Nat × Nat) := []
  kws : List KwI := []
  /-- a name whose box never changes again, from a statement's line on -/
  frz : List (Nat × Str) := []
def Pg.frz? (P : Pg) (l : Nat) : List Str := P.frz.filterMap fun e => if e.1 = l then some e.2 else none
def Pg.kw? (P : Pg) (i n : Nat) (ks : List Str) : Option (List Nat) := (P.kws.find? fun e => e.i == i && (e.n == n && decide (e.ks = ks))).map (·.out)
def Pg.cls? (P : Pg) (x : Str) : Option ClI := match P.glob.lookup x with
  | some (.cls c) => some c
  | _ => none

/-! ### isinstance -/
inductive Kd where
  | b (n : String) | c (x : Str)
def kdOf (P : Pg) : T → Option Kd
  | .non => some (.b "NoneType")
  | .bl _ => some (.b "bool")
  | .int _ => some (.b "int")
  | .str _ => some (.b "str")
  | .lst _ => some (.b "list")
  | .tup _ => some (.b "tuple")
  | .dct _ _ => some (.b "dict")
  | .ins C _ _ => match P.cls? C with
    | some c => if c.err.isNone then some (.c C) else none
    | none => none
  | .exc C _ _ => match P.cls? C with
    | some c => if c.err.isSome then some (.c C) else none
    | none => none
  | _ => none
def bKinds : List String := ["NoneType", "bool", "int", "str", "list", "tuple", "dict"]
def bTypes : List String := ["bool", "int", "str", "list", "tuple", "dict"]
def isOne (P : Pg) (k : Kd) (c : T) : Option Bool := match k, c with
  | .b a, .ty b => kitB a b
  | .b a, .glo D => if bKinds.contains a then (P.cls? D).map fun _ => false else none
  | .c C, .ty b => match P.cls? C with
    | some c => if bTypes.contains b then some false else if b == "ValueError" then some c.err.isSome else none
    | none => none
  | .c C, .glo D => match P.cls? C, P.cls? D with
    | some c, some _ => some (c.sup.contains D)
    | _, _ => none
  | _, _ => none
def isAny (P : Pg) (k : Kd) : List T → Option Bool
  | [] => some false
  | c :: cs => match isOne P k c with
    | some true => some true
    | some false => isAny P k cs
    | none => none
def isTst (P : Pg) (k : Kd) (c : T) : Option Bool := match c with
  | .tup cs => isAny P k cs
  | c => isOne P k c
def boolR (o : Option Bool) (s : S) : Res T := match o with
  | some b => .ok (.bl b) s
  | none => .bad
def isInst (P : Pg) (a c : T) : M T := fun s => match kdOf P (see s a) with
  | some k => boolR (isTst P k c) s
  | none => .bad
/-- what the written part must say of the classes -/
def isOk (K : PySem.W.Frag) (P : Pg) : Prop :=
  (∀ a D d, bKinds.contains a = true → P.cls? D = some d → PySem.W.kitOne K (.type a) (.ref (He.ga K D)) = some false) ∧
  (∀ C c b, P.cls? C = some c → bTypes.contains b = true → PySem.W.kitOne K (.ref (He.ga K C)) (.type b) = some false) ∧
  (∀ C c, P.cls? C = some c → PySem.W.kitOne K (.ref (He.ga K C)) (.type "ValueError") = some c.err.isSome) ∧
  (∀ C c D d, P.cls? C = some c → P.cls? D = some d → PySem.W.kitOne K (.ref (He.ga K C)) (.ref (He.ga K D)) = some (c.sup.contains D))
def kdV (K : PySem.W.Frag) : Kd → Value
  | .b n => .type n
  | .c x => .ref (He.ga K x)
def clV (K : PySem.W.Frag) : T → Value
  | .ty n => .type n
  | .glo x => .ref (He.ga K x)
  | _ => .none
theorem isOne_ok {K : PySem.W.Frag} {P : Pg} (ok : isOk K P) {k : Kd} {c : T} {b : Bool} (h : isOne P k c = some b) : PySem.W.kitOne K (kdV K k) (clV K c) = some b := by
  obtain ⟨o1, o2, o3, o4⟩ := ok
  cases k with
  | b a =>
    cases c with
    | ty n => exact kit_ty h
    | glo D =>
      have h : (if bKinds.contains a then (P.cls? D).map fun _ => false else none) = some b := h
      split at h
      · rename_i hk
        cases e : P.cls? D with
        | none => rw [e] at h; cases h
        | some d =>
          rw [e] at h
          cases h
          exact o1 a D d hk e
      · cases h
    | _ => cases h
  | c C =>
    cases c with
    | ty n =>
      have h : (match P.cls? C with
        | some c => if bTypes.contains n then some false else if n == "ValueError" then some c.err.isSome else none
        | none => none) = some b := h
      cases e : P.cls? C with
      | none => rw [e] at h; cases h
      | some c =>
        rw [e] at h
        have h : (if bTypes.contains n then some false else if n == "ValueError" then some c.err.isSome else none) = some b := h
        split at h
        · rename_i hk
          cases h
          exact o2 C c n e hk
        · split at h
          · rename_i hk
            cases h
            rw [eq_of_beq hk]
            exact o3 C c e
          · cases h
    | glo D =>
      have h : (match P.cls? C, P.cls? D with
        | some c, some _ => some (c.sup.contains D)
        | _, _ => none) = some b := h
      cases e : P.cls? C with
      | none => rw [e] at h; cases h
      | some c =>
        cases e2 : P.cls? D with
        | none => rw [e, e2] at h; cases h
        | some d =>
          rw [e, e2] at h
          cases h
          exact o4 C c D d e e2
    | _ => cases h
theorem isOne_cls {P : Pg} {k : Kd} {c : T} {b : Bool} (h : isOne P k c = some b) : (∃ n, c = .ty n) ∨ ∃ x, c = .glo x := by
  cases c with
  | ty n => exact .inl ⟨n, rfl⟩
  | glo x => exact .inr ⟨x, rfl⟩
  | _ => cases k <;> cases h
/-- what the class of an instance must say -/
structure ClOk (K : PySem.W.Frag) (C : Addr) : Prop where
  cl : Cls K C
  ha : PySem.W.findIn K (.ref C) "__class__" = some (some (.builtin "object.__class__"))
  hn : PySem.W.specialIn K (.builtin "object.__class__") "__get__" = some (some (.builtin "getset_descriptor.__get__"))
  ht : PySem.W.takesIn K (.builtin "object.__class__") = some true
  hm : PySem.W.mroIn K C (.type "object") = some true
/-- what the class of an error must say -/
structure ErOk (K : PySem.W.Frag) (C : Addr) : Prop where
  ga : PySem.W.findIn K (.ref C) "__getattribute__" = some (some (.builtin "BaseException.__getattribute__"))
  gg : PySem.W.findIn K (.ref C) "__getattr__" = some none
  ex : PySem.W.subIn K (.ref C) (.type "BaseException") = some true
  hd : PySem.W.hasDictIn K C = true
  ha : PySem.W.findIn K (.ref C) "__class__" = some (some (.builtin "object.__class__"))
  hn : PySem.W.specialIn K (.builtin "object.__class__") "__get__" = some (some (.builtin "getset_descriptor.__get__"))
  ht : PySem.W.takesIn K (.builtin "object.__class__") = some true
  hm : PySem.W.mroIn K C (.type "object") = some true
end G
-- GtIsi
namespace G
open PySem L2

def liftC (K : PySem.W.Frag) (m : List T → M T) : List V → Hp → VK → Prop := fun xs H Q => ∃ w s ts, SR K w s H ∧ RpL K w ts xs ∧ Fi K w (m ts s) (PQ K Q) fun _ _ _ => False
def clsAll (K : PySem.W.Frag) (P : Pg) : Prop := ∀ x c, P.cls? x = some c → (c.err = none → ClOk K (He.ga K x)) ∧ (∀ fs, c.err = some fs → ErOk K (He.ga K x))
section
variable {X : Cx} {pins : List (Addr × Obj)} {σ : L2.St} {H : Hp} {s : Shared}
/-- an error that is tracked, as an instance of its class -/
theorem xAt {w : Wd} {C : Str} {ns : List Str} {ts : List T} {v : V} (I : Inv X pins σ H s) (h : Rp X.K (w.on H) (.exc C ns ts) v) :
    ∃ (a d : Addr) (fs : List (Str × V)) (ox od : Obj), v = .ref a ∧ PySem.W.InstAt s.heap a ox (He.ga X.K C) (some od) ∧ (∃ mA, s.heap.Ns1 d mA ∧ (∀ f, RelO (fs.lookup f) (mA f)) ∧ s.heap.get? d = some od ∧ ∀ f, PySem.W.lookIn f od = some (mA f)) ∧ fs.map (·.1) = ns ∧ RpL X.K (w.on H) ts (fs.map (·.2)) := by
  obtain ⟨a, d, φ, fs, ev, e1, hx, e2, e3, q⟩ := h
  have h1 : ObjOk X.prog X.w H s.heap a (.ext φ) := I.hok a _ e1
  obtain ⟨p, _, _⟩ := h1
  obtain ⟨ox, vs, g1, g2, g3, g4⟩ := hx _ p
  have h2 : ∃ mA, s.heap.Ns1 d mA ∧ ∀ f, RelO (fs.lookup f) (mA f) := by
    rcases e2 with e2 | ⟨ψ, e2, e4⟩
    · have h3 : ObjOk X.prog X.w H s.heap d (.xd fs) := I.hok d _ e2
      exact h3
    · have h3 : ObjOk X.prog X.w H s.heap d (.ext ψ) := I.hok d _ e2
      exact e4 _ h3.1
  obtain ⟨mA, hn, hr⟩ := h2
  obtain ⟨od, ho, hl⟩ := lookIn_ns hn
  exact ⟨a, d, fs, ox, od, ev, ⟨g1, g2, by unfold PySem.W.notCls; rw [g4] <;> rfl, by rw [g3]; exact ho⟩, ⟨mA, hn, hr, ho, hl⟩, e3, q⟩
theorem tyT {w : Wd} {P : Pg} {t : T} {k : Kd} {v : V} {u : Value} (I : Inv X pins σ H s) (ca : clsAll X.K P) (h : Rp X.K (w.on H) t v) (hk : kdOf P t = some k) (rv : RelV v u) :
    ∃ Q : Heap → Prop, PySem.W.KitX X.K u (kdV X.K k) Q ∧ Q s.heap ∧ u ≠ .builtin "__main__.__loader__#opaque" := by
  cases t with
  | non => cases hk; have h : _ = _ := h; subst h; exact kit_of I rv (.base .non)
  | bl b => cases hk; have h : _ = _ := h; subst h; exact kit_of I rv (.base (.bl b))
  | int b => cases hk; have h : _ = _ := h; subst h; exact kit_of I rv (.base (.int b))
  | str b => cases hk; have h : _ = _ := h; subst h; exact kit_of I rv (.base (.str b))
  | lst ts =>
    cases hk
    obtain ⟨a, xs, ev, e1, _⟩ := h
    subst ev
    exact kit_of I rv (.base (.lst e1))
  | tup ts =>
    cases hk
    obtain ⟨a, xs, ev, e1, _⟩ := h
    subst ev
    rcases e1 with (e1 | ⟨o, e1⟩) | ⟨o, its, n, e1, e2, _⟩
    · exact kit_of I rv (.base (.tup e1))
    · exact kit_of I rv (.fTuple e1)
    · exact kit_of I rv (.kTuple e1 e2)
  | dct ks ts =>
    cases hk
    obtain ⟨a, kvs, ev, e1, _⟩ := h
    subst ev
    exact kit_of I rv (.base (.dK e1))
  | ins C ns ts =>
    have hk : (match P.cls? C with
      | some c => if c.err.isNone then some (Kd.c C) else none
      | none => none) = some k := hk
    cases e2 : P.cls? C with
    | none => rw [e2] at hk; cases hk
    | some c =>
      rw [e2] at hk
      have hk : (if c.err.isNone then some (Kd.c C) else none) = some k := hk
      split at hk
      · rename_i e4
        cases hk
        obtain ⟨a, dx, fs, ev, e1, _⟩ := h
        subst ev
        have ok := (ca C c e2).1 (Option.isNone_iff_eq_none.mp e4)
        exact kit_of I rv (.base (.ins e1 ok.cl ok.ha ok.hn ok.ht ok.hm))
      · cases hk
  | exc C ns ts =>
    have hk : (match P.cls? C with
      | some c => if c.err.isSome then some (Kd.c C) else none
      | none => none) = some k := hk
    cases e2 : P.cls? C with
    | none => rw [e2] at hk; cases hk
    | some c =>
      rw [e2] at hk
      have hk : (if c.err.isSome then some (Kd.c C) else none) = some k := hk
      split at hk
      · rename_i e4
        cases hk
        obtain ⟨fs, e5⟩ := Option.isSome_iff_exists.mp e4
        have ok := (ca C c e2).2 fs e5
        obtain ⟨a, d, fs, ox, od, ev, J, _⟩ := xAt I h
        subst ev
        have ru : u = .ref a := rv
        subst ru
        obtain ⟨cd, hcd, _⟩ := PySem.W.any_some ok.hd
        exact ⟨_, PySem.W.kitx_exc (by rw [hcd]; rfl) ok.ga ok.gg ok.ex ok.ha ok.hn ok.ht ok.hm, J, fun z => nomatch z⟩
      · cases hk
  | _ => cases hk
theorem clT {w : Wd} {P : Pg} {k : Kd} {c : T} {b : Bool} {v : V} {u : Value} (h : isOne P k c = some b) (r : Rp X.K w c v) (rv : RelV v u) : u = clV X.K c := by
  rcases isOne_cls h with ⟨n, rfl⟩ | ⟨x, rfl⟩
  · have r : _ = _ := r
    subst r
    exact rv
  · have r : _ = _ := r
    subst r
    exact rv
theorem anyT {w : Wd} {P : Pg} (ok : isOk X.K P) {k : Kd} : ∀ {cs : List T} {b : Bool} {vs : List V} {us : List Value}, isAny P k cs = some b → RpL X.K w cs vs → Vals vs us → PySem.W.kitAny X.K (kdV X.K k) us = some b
  | [], _, _, _, h, q, r => by
    have q : _ = _ := q
    subst q
    cases r
    exact h
  | c :: cs, b, _, _, h, ⟨v, ws, e, q1, q2⟩, r => by
    subst e
    cases r with
    | cons r1 r2 =>
      have h : (match isOne P k c with
        | some true => some true
        | some false => isAny P k cs
        | none => none) = some b := h
      cases e1 : isOne P k c with
      | none => rw [e1] at h; cases h
      | some d =>
        have h1 := isOne_ok ok e1
        rw [← clT e1 q1 r1] at h1
        rw [e1] at h
        refine kitAny_cons h1 (fun hd => ?_) (fun hd => ?_)
        · subst hd
          exact anyT ok h q2 r2
        · subst hd
          cases h
          rfl
theorem call_inst {P : Pg} (ok : isOk X.K P) (ca : clsAll X.K P) : CallR X (.builtin "isinstance") (liftC X.K fun ts => match ts with
    | [a, c] => isInst P a c
    | _ => bad) := by
  intro pins s σ H xs us Q I r h
  obtain ⟨w, st, ts, sr, rl, fin⟩ := h
  match ts, rl, fin with
  | [a, c], ⟨v1, _, e1, q1, v2, _, e2, q2, e3⟩, fin =>
    subst e2
    have e3 : _ = _ := e3
    subst e3
    subst e1
    obtain ⟨u1, u2, rfl, r1, r2⟩ := vals2 r
    have fin : Fi X.K w (isInst P a c st) (PQ X.K Q) (fun _ _ _ => False) := fin
    unfold isInst at fin
    cases ek : kdOf P (see st a) with
    | none => rw [ek] at fin; exact fin.elim
    | some k =>
      obtain ⟨Z, kx, p, ne⟩ := tyT I ca (sr.see q1) ek r1
      rw [ek] at fin
      have one : ∀ b, isOne P k c = some b → Q (.bl b) H → wpAny (model X.prog X.w) X.A (call (.builtin "isinstance") [u1, u2]) (EP X pins σ Q) X.xe s := fun b h q => by
        rw [clT h q2 r2]
        exact PySem.W.kia_one kx I.kIn p (isOne_ok ok h) ne fun tk => ⟨.bl b, H, I.tok tk, rfl, q⟩
      have fin : Fi X.K w (boolR (isTst P k c) st) (PQ X.K Q) (fun _ _ _ => False) := fin
      cases eo : isTst P k c with
      | none => rw [eo] at fin; exact fin.elim
      | some b =>
        rw [eo] at fin
        have q := Fi.ret fin sr _ rfl
        cases c with
        | tup cs =>
          obtain ⟨tp, cv, ev, hT, rl2⟩ := q2
          subst ev
          cases (show u2 = Value.ref tp from r2)
          obtain ⟨its, rv, ⟨o, h1, h2, n, h3⟩, _⟩ := I.tuple (sameT sr.sub hT)
          obtain ⟨oc, od, dt, sl⟩ := o
          simp only at h2 h3
          subst h2 h3
          exact PySem.W.kia_tup kx I.kIn p h1 (anyT ok eo rl2 rv) ne fun tk => ⟨.bl b, H, I.tok tk, rfl, q⟩
        | _ => exact one b eo q
  | [], _, fin => exact fin.elim
  | [_], _, fin => exact fin.elim
  | _ :: _ :: _ :: _, _, fin => exact fin.elim
end
end G
-- GtCalls
namespace G
open PySem L2

inductive BI where
  | len | int | str | repr | list | tuple | abs | max | min | sum | sorted | all | any | bool | isi
  deriving DecidableEq
def BI.val : BI → Value
  | .len => .builtin "len" | .int => .type "int" | .str => .type "str" | .repr => .builtin "repr" | .list => .type "list" | .tuple => .type "tuple" | .abs => .builtin "abs"
  | .max => .builtin "max" | .min => .builtin "min" | .sum => .builtin "sum" | .sorted => .builtin "sorted" | .all => .builtin "all" | .any => .builtin "any" | .bool => .type "bool" | .isi => .builtin "isinstance"
def biNames : List (Str × BI) := [("len", .len), ("int", .int), ("str", .str), ("repr", .repr), ("list", .list), ("tuple", .tuple), ("abs", .abs), ("max", .max), ("min", .min), ("sum", .sum), ("sorted", .sorted), ("all", .all), ("any", .any), ("bool", .bool), ("isinstance", .isi)]
theorem bi_boot : ∀ p ∈ biNames, bootBuiltins p.1 = some p.2.val ∧ p.1 ≠ "__name__" ∧ (p.1 == ("__debug__" : Str)) = false := by
  have h : (biNames.all fun p => decide (bootBuiltins p.1 = some p.2.val) && (!decide (p.1 = "__name__") && !(p.1 == ("__debug__" : Str)))) = true := by decide +kernel
  intro p hp
  have q := List.all_eq_true.mp h p hp
  simp only [Bool.and_eq_true, decide_eq_true_eq, Bool.not_eq_true', decide_eq_false_iff_not] at q
  exact ⟨q.1, q.2.1, q.2.2⟩

/-! ### lists of intsO, of boolsO -/
def intsO : List T → Option (List Int)
  | [] => some []
  | .int i :: r => (intsO r).map (i :: ·)
  | _ => none
def boolsO : List T → Option (List Bool)
  | [] => some []
  | .bl i :: r => (boolsO r).map (i :: ·)
  | _ => none
def strsO : List T → Option (List Str)
  | [] => some []
  | .str i :: r => (strsO r).map (i :: ·)
  | _ => none
theorem ints_ok {K : PySem.W.Frag} {w : Wd} : ∀ {ts : List T} {ns : List Int} {vs : List V}, intsO ts = some ns → RpL K w ts vs → vs = ns.map V.int
  | [], _, _, e, q => by
    cases e
    exact q
  | .int i :: r, _, _, e, ⟨v, ws, e1, q1, q2⟩ => by
    have e : (intsO r).map (i :: ·) = some _ := e
    cases e2 : intsO r with
    | none => rw [e2] at e; cases e
    | some ns =>
      rw [e2] at e
      cases e
      have q1 : _ = _ := q1
      rw [e1, q1, ints_ok e2 q2]
      rfl
theorem bools_ok {K : PySem.W.Frag} {w : Wd} : ∀ {ts : List T} {ns : List Bool} {vs : List V}, boolsO ts = some ns → RpL K w ts vs → vs = ns.map V.bl
  | [], _, _, e, q => by
    cases e
    exact q
  | .bl i :: r, _, _, e, ⟨v, ws, e1, q1, q2⟩ => by
    have e : (boolsO r).map (i :: ·) = some _ := e
    cases e2 : boolsO r with
    | none => rw [e2] at e; cases e
    | some ns =>
      rw [e2] at e
      cases e
      have q1 : _ = _ := q1
      rw [e1, q1, bools_ok e2 q2]
      rfl
theorem strs_ok {K : PySem.W.Frag} {w : Wd} : ∀ {ts : List T} {ns : List Str} {vs : List V}, strsO ts = some ns → RpL K w ts vs → vs = ns.map V.str
  | [], _, _, e, q => by
    cases e
    exact q
  | .str i :: r, _, _, e, ⟨v, ws, e1, q1, q2⟩ => by
    have e : (strsO r).map (i :: ·) = some _ := e
    cases e2 : strsO r with
    | none => rw [e2] at e; cases e
    | some ns =>
      rw [e2] at e
      cases e
      have q1 : _ = _ := q1
      rw [e1, q1, strs_ok e2 q2]
      rfl
theorem RpL.intsO {K : PySem.W.Frag} {w : Wd} : ∀ ns : List Int, RpL K w (ns.map T.int) (ns.map V.int)
  | [] => rfl
  | i :: r => ⟨_, _, rfl, rfl, RpL.intsO r⟩
theorem RpL.strsO {K : PySem.W.Frag} {w : Wd} : ∀ ns : List Str, RpL K w (ns.map T.str) (ns.map V.str)
  | [] => rfl
  | i :: r => ⟨_, _, rfl, rfl, RpL.strsO r⟩
def maxL : List Int → Int
  | [] => 0
  | [x] => x
  | x :: r => if x < maxL r then maxL r else x
def minL : List Int → Int
  | [] => 0
  | [x] => x
  | x :: r => if minL r < x then minL r else x
theorem maxL_ok : ∀ {ns : List Int}, ns ≠ [] → maxL ns ∈ ns ∧ ∀ y ∈ ns, y ≤ maxL ns
  | [x], _ => ⟨List.mem_cons_self, fun y h => by rw [List.mem_singleton.mp h]; exact Int.le_refl _⟩
  | x :: y :: r, _ => by
    obtain ⟨h1, h2⟩ := maxL_ok (ns := y :: r) (by simp)
    show (if x < maxL (y :: r) then maxL (y :: r) else x) ∈ _ ∧ ∀ z ∈ _, z ≤ (if x < maxL (y :: r) then maxL (y :: r) else x)
    split
    · rename_i h
      exact ⟨List.mem_cons_of_mem _ h1, fun z hz => by
        rcases List.mem_cons.mp hz with e | e
        · omega
        · exact h2 z e⟩
    · rename_i h
      exact ⟨List.mem_cons_self, fun z hz => by
        rcases List.mem_cons.mp hz with e | e
        · omega
        · have := h2 z e
          omega⟩
theorem minL_ok : ∀ {ns : List Int}, ns ≠ [] → minL ns ∈ ns ∧ ∀ y ∈ ns, minL ns ≤ y
  | [x], _ => ⟨List.mem_cons_self, fun y h => by rw [List.mem_singleton.mp h]; exact Int.le_refl _⟩
  | x :: y :: r, _ => by
    obtain ⟨h1, h2⟩ := minL_ok (ns := y :: r) (by simp)
    show (if minL (y :: r) < x then minL (y :: r) else x) ∈ _ ∧ ∀ z ∈ _, (if minL (y :: r) < x then minL (y :: r) else x) ≤ z
    split
    · rename_i h
      exact ⟨List.mem_cons_of_mem _ h1, fun z hz => by
        rcases List.mem_cons.mp hz with e | e
        · omega
        · exact h2 z e⟩
    · rename_i h
      exact ⟨List.mem_cons_self, fun z hz => by
        rcases List.mem_cons.mp hz with e | e
        · omega
        · have := h2 z e
          omega⟩

/-! ### what repr shows -/
def keyD : Key → PyData
  | .inl i => .int i
  | .inr x => .str x
mutual
def toR : T → Option PyData
  | .non => some .none
  | .bl b => some (.bool b)
  | .int i => some (.int i)
  | .str x => some (.str x)
  | .lst ts => (toRs ts).map PyData.list
  | .tup ts => (toRs ts).map PyData.tuple
  | .dct ks ts => (toRs ts).map fun ds => PyData.dict ((ks.map keyD).zip ds)
  | _ => none
def toRs : List T → Option (List PyData)
  | [] => some []
  | t :: ts => match toR t, toRs ts with
    | some d, some ds => some (d :: ds)
    | _, _ => none
end
/-- the written part holds the dict of modules -/
def sysB (K : PySem.W.Frag) : Bool := match K.lookup sysModules with
  | some o => decide (o.cls = .type "dict")
  | none => false
theorem toRs_len : ∀ {ts : List T} {ds : List PyData}, toRs ts = some ds → ds.length = ts.length
  | [], _, e => by cases e; rfl
  | t :: ts, ds, e => by
    have e : (match toR t, toRs ts with
      | some d, some ds => some (d :: ds)
      | _, _ => none) = some ds := e
    split at e
    · rename_i d ds' e1 e2
      cases e
      rw [List.length_cons, List.length_cons, toRs_len e2]
    · cases e
theorem zip_fst {α β : Type} : ∀ {xs : List α} {ys : List β}, xs.length = ys.length → (xs.zip ys).map (·.1) = xs ∧ (xs.zip ys).map (·.2) = ys
  | [], [], _ => ⟨rfl, rfl⟩
  | x :: xs, y :: ys, h => by
    obtain ⟨h1, h2⟩ := zip_fst (xs := xs) (ys := ys) (by simpa using h)
    exact ⟨by rw [List.zip_cons_cons, List.map_cons, h1], by rw [List.zip_cons_cons, List.map_cons, h2]⟩
  | [], _ :: _, h => by cases h
  | _ :: _, [], h => by cases h
theorem keys_read {P : Program} {w : World} {h : Heap} : ∀ {es : List DictEntry} {kvs : List (Key × Value)}, Pairs (mixKind P w) es kvs → ReadsAll h (es.map (·.key)) ((kvs.map (·.1)).map keyD) [] ∧ es.map (·.val) = kvs.map (·.2)
  | _, _, .nil => ⟨.nil, rfl⟩
  | e :: es, kv :: kvs, .cons h1 h2 h3 => by
    obtain ⟨q1, q2⟩ := keys_read (h := h) h3
    refine ⟨?_, by rw [List.map_cons, List.map_cons, h2, q2]⟩
    rcases keyIs_shape h1 with ⟨i, t, e1, e2⟩ | ⟨x, t, e1, e2⟩
    · rw [List.map_cons, List.map_cons, List.map_cons, e1, e2]
      exact ReadsAll.cons (as := []) (bs := []) (Reads.int i t) q1
    · rw [List.map_cons, List.map_cons, List.map_cons, e1, e2]
      exact ReadsAll.cons (as := []) (bs := []) (Reads.str x t) q1
theorem kv_vals : ∀ {kvs : List (Key × V)} {rs : List (Key × Value)}, KV kvs rs → rs.map (·.1) = kvs.map (·.1) ∧ Vals (kvs.map (·.2)) (rs.map (·.2))
  | _, _, .nil => ⟨rfl, .nil⟩
  | p :: ps, q :: qs, .cons h t => by
    obtain ⟨h1, h2⟩ := kv_vals (show KV ps qs from t)
    exact ⟨by rw [List.map_cons, List.map_cons, h1, h.1], .cons h.2 h2⟩
section
variable {X : Cx} {pins : List (Addr × Obj)} {σ : St} {H : Hp} {s : Shared} {w : Wd}
theorem not_sys {a : Addr} {o : Obj} {c : String} (I : Inv X pins σ H s) (sy : sysB X.K = true) (ho : s.heap.get? a = some o) (hc : o.cls = .type c) (hn : c ≠ "dict") : a ≠ sysModules := fun z => by
  subst z
  unfold sysB at sy
  split at sy
  · rename_i u e
    have := I.kIn _ _ e
    rw [ho] at this
    cases this
    rw [hc] at sy
    have z := of_decide_eq_true sy
    cases z
    exact hn rfl
  · cases sy
mutual
theorem toR_reads (I : Inv X pins σ H s) (sy : sysB X.K = true) (hI : w.I = H) : ∀ (t : T) (d : PyData) (v : V) (u : Value), toR t = some d → Rp X.K w t v → RelV v u → ∃ as, Reads s.heap u d as ∧ sysModules ∉ as
  | .non, _, _, _, e, h, r => by
    cases e
    have h : _ = _ := h
    subst h
    cases r
    exact ⟨_, Reads.none, by simp⟩
  | .bl b, _, _, _, e, h, r => by
    cases e
    have h : _ = _ := h
    subst h
    cases r
    exact ⟨_, Reads.bool b, by simp⟩
  | .int i, _, _, _, e, h, r => by
    cases e
    have h : _ = _ := h
    subst h
    obtain ⟨t, rfl⟩ := r
    exact ⟨_, Reads.int i t, by simp⟩
  | .str x, _, _, _, e, h, r => by
    cases e
    have h : _ = _ := h
    subst h
    obtain ⟨t, rfl⟩ := r
    exact ⟨_, Reads.str x t, by simp⟩
  | .lst ts, _, _, _, e, ⟨a, xs, ev, p, q⟩, r => by
    have e : (toRs ts).map PyData.list = some _ := e
    cases e2 : toRs ts with
    | none => rw [e2] at e; cases e
    | some ds =>
      rw [e2] at e
      cases e
      subst ev
      cases r
      rw [hI] at p
      obtain ⟨its, rv, ⟨o, n, ho, hc, _, hd⟩, _⟩ := I.list (SqL.of p)
      obtain ⟨as, hr, hn⟩ := toRs_reads I sy hI ts ds xs its e2 q rv
      exact ⟨_, Reads.list ho hc hd hr, fun z => by
        rcases List.mem_cons.mp z with z | z
        · exact not_sys I sy ho hc (by decide) z.symm
        · exact hn z⟩
  | .tup ts, _, _, _, e, ⟨a, xs, ev, p, q⟩, r => by
    have e : (toRs ts).map PyData.tuple = some _ := e
    cases e2 : toRs ts with
    | none => rw [e2] at e; cases e
    | some ds =>
      rw [e2] at e
      cases e
      subst ev
      cases r
      rw [hI] at p
      obtain ⟨its, rv, ⟨o, ho, hc, n, hd⟩, _⟩ := I.tuple p
      obtain ⟨as, hr, hn⟩ := toRs_reads I sy hI ts ds xs its e2 q rv
      exact ⟨_, Reads.tuple ho hc hd hr, hn⟩
  | .dct ks ts, _, _, _, e, ⟨a, kvs, ev, p, ek, q⟩, r => by
    have e : (toRs ts).map (fun ds => PyData.dict ((ks.map keyD).zip ds)) = some _ := e
    cases e2 : toRs ts with
    | none => rw [e2] at e; cases e
    | some ds =>
      rw [e2] at e
      cases e
      subst ev
      cases r
      rw [hI] at p
      obtain ⟨_, hS, rs, rk, o, es, ep, ho, hx, hd, _, hp, _⟩ := dk_of I.hok p
      obtain ⟨k1, k2⟩ := kv_vals rk
      obtain ⟨r1, r2⟩ := keys_read (h := s.heap) hp
      obtain ⟨as, hr, hn⟩ := toRs_reads I sy hI ts ds _ _ e2 q k2
      have hl : (ks.map keyD).length = ds.length := by
        rw [toRs_len e2, q.length, List.length_map, List.length_map, ← ek, List.length_map]
      obtain ⟨z1, z2⟩ := zip_fst hl
      refine ⟨_, Reads.dict (as := []) (bs := as) ho hx.1 hd ?_ ?_, fun z => ?_⟩
      · rw [z1, ← ek, ← k1]
        exact r1
      · rw [z2, r2]
        exact hr
      · rcases List.mem_cons.mp z with z | z
        · rw [← z] at hS
          exact absurd hS (by decide)
        · exact hn z
  | .frz _, _, _, _, e, _, _ => by cases e
  | .ins _ _ _, _, _, _, e, _, _ => by cases e
  | .exc _ _ _, _, _, _, e, _, _ => by cases e
  | .box _, _, _, _, e, _, _ => by cases e
  | .glo _, _, _, _, e, _, _ => by cases e
  | .lam _ _ _ _ _, _, _, _, e, _, _ => by cases e
  | .ty _, _, _, _, e, _, _ => by cases e
theorem toRs_reads (I : Inv X pins σ H s) (sy : sysB X.K = true) (hI : w.I = H) : ∀ (ts : List T) (ds : List PyData) (vs : List V) (us : List Value), toRs ts = some ds → RpL X.K w ts vs → Vals vs us → ∃ as, ReadsAll s.heap us ds as ∧ sysModules ∉ as
  | [], ds, _, us, e, h, r => by
    cases e
    have h : _ = _ := h
    subst h
    cases r
    exact ⟨_, ReadsAll.nil, by simp⟩
  | t :: ts, ds, _, us, e, ⟨v, ws, ev, a, b⟩, r => by
    have e : (match toR t, toRs ts with
      | some d, some ds => some (d :: ds)
      | _, _ => none) = some ds := e
    split at e
    · rename_i d ds' e1 e2
      cases e
      subst ev
      cases r with
      | cons r1 r2 =>
        obtain ⟨as, q1, n1⟩ := toR_reads I sy hI t d v _ e1 a r1
        obtain ⟨bs, q2, n2⟩ := toRs_reads I sy hI ts ds' ws _ e2 b r2
        exact ⟨_, ReadsAll.cons q1 q2, fun z => (List.mem_append.mp z).elim n1 n2⟩
    · cases e
end
end
/-! ### built-in calls -/
def items (s : S) (a : T) : Option (List T) := match see s a with
  | .lst xs => some xs
  | .tup xs => some xs
  | _ => none
def lenM (a : T) : M T := fun s => match see s a with
  | .str x => if x.length ≤ sizeLine then .ok (.int x.length) s else .bad
  | .lst xs => .ok (.int xs.length) s
  | .tup xs => .ok (.int xs.length) s
  | .dct ks _ => .ok (.int ks.length) s
  | _ => .bad
def intM (a : T) : M T := fun s => match see s a with
  | .int i => .ok (.int i) s
  | .bl k => .ok (.int (if k then 1 else 0)) s
  | .str x => match PySem.intText? x with
    | some n => if x.length ≤ 640 then .ok (.int n) s else .bad
    | none => .bad
  | _ => .bad
def strM (a : T) : M T := fun s => match see s a with
  | .int i => if i.natAbs.log2 < 1920 then .ok (.str (toString i)) s else .bad
  | .str x => .ok (.str x) s
  | _ => .bad
def reprOk (d : PyData) : Bool := d.showable && (decide (d.shown.length ≤ sizeLine) && decide (d.depth ≤ 60))
def reprM (a : T) : M T := fun s => match toR (see s a) with
  | some d => if reprOk d then .ok (.str d.shown) s else .bad
  | none => .bad
/-- list(..) of a text: its signs -/
def listS (a : T) : M T := fun s => match see s a with
  | .str z => if z.cps.size ≤ sizeLine then .ok (.lst (z.cps.toList.map fun c => .str ⟨#[c]⟩)) s else .bad
  | _ => .bad
def listM (a : T) : M T := fun s => match items s a with
  | some xs => .ok (.lst xs) s
  | none => listS a s
theorem vals_signs : ∀ (cs : List Nat) (vs : List Value), vs.length = cs.length → (∀ (j : Nat) (v : Value), vs[j]? = some v → ∃ (c : Nat) (u : Tok), cs[j]? = some c ∧ v = Value.str (Str.mk #[c]) u) → Vals (cs.map fun c => V.str (Str.mk #[c])) vs
  | [], [], _, _ => .nil
  | [], _ :: _, h, _ => by cases h
  | _ :: _, [], h, _ => by cases h
  | c :: cs, v :: vs, hl, h => by
    obtain ⟨c', u, e, rfl⟩ := h 0 v rfl
    cases e
    exact .cons ⟨u, rfl⟩ (vals_signs cs vs (by simpa using hl) fun j w hj => by
      obtain ⟨c2, u2, e2, e3⟩ := h (j + 1) w (by rw [List.getElem?_cons_succ]; exact hj)
      rw [List.getElem?_cons_succ] at e2
      exact ⟨c2, u2, e2, e3⟩)
theorem rpl_signs {K : PySem.W.Frag} {w : Wd} : ∀ cs : List Nat, RpL K w (cs.map fun c => T.str ⟨#[c]⟩) (cs.map fun c => V.str ⟨#[c]⟩)
  | [] => RpL.nil
  | c :: cs => ⟨_, _, rfl, rfl, rpl_signs cs⟩
theorem call_list_signs {X : Cx} (hc : X.calm = true) : CallR X (.type "list") (fun xs H Q => ∃ x : Str, xs = [.str x] ∧ x.cps.size ≤ sizeLine ∧ ∀ l, H l = none → Q (.ref l) (upd H l (.lst (x.cps.toList.map fun c => .str ⟨#[c]⟩)))) := by
  intro pins s σ H xs us Q I r h
  obtain ⟨x, rfl, hz, q⟩ := h
  obtain ⟨u, rfl, rx⟩ := vals1 r
  obtain ⟨t, rfl⟩ : ∃ t, u = .str x t := rx
  refine PySem.call_list_str (I.ok.hd hc) x t (fun h' tk acc' c' kp e hi => ?_) hz
  have hv : Vals (x.cps.toList.map fun c => V.str ⟨#[c]⟩) acc'.toList := vals_signs _ _ (by rw [Array.length_toList, Array.length_toList]; exact hi.1) fun j v hj => by
    rw [Array.getElem?_toList] at hj
    obtain ⟨c, u, e1, e2⟩ := hi.2 j v hj
    exact ⟨c, u, by rw [Array.getElem?_toList]; exact e1, e2⟩
  exact ⟨.ref s.heap.objs.size, _, I.laid (t' := tk) kp (Nat.le_refl _) (show ObjOk X.prog X.w _ h' _ (.lst _) from ⟨by rw [List.length_map, Array.length_toList]; exact hz, acc'.toList, c', hv, by rw [Array.toArray_toList]; exact e⟩), rfl, q _ (I.hok.fresh (Nat.le_refl _))⟩
def tupleM (a : T) : M T := fun s => match items s a with
  | some xs => .ok (.tup xs) s
  | none => .bad
def absM (a : T) : M T := fun s => match see s a with
  | .int i => .ok (.int (if i < 0 then -i else i)) s
  | _ => .bad
def intL (s : S) (a : T) : Option (List Int) := match see s a with
  | .lst xs => intsO xs
  | _ => none
def boolL (s : S) (a : T) : Option (List Bool) := match see s a with
  | .lst xs => boolsO xs
  | _ => none
def overI (f : List Int → Option T) (a : T) : M T := fun s => match intL s a with
  | some ns => match f ns with
    | some t => .ok t s
    | none => .bad
  | none => .bad
def overB (f : List Bool → Bool) (a : T) : M T := fun s => match boolL s a with
  | some ns => .ok (.bl (f ns)) s
  | none => .bad
def boolM (a : T) : M T := fun s => match see s a with
  | .int i => .ok (.bl (i != 0)) s
  | .bl k => .ok (.bl k) s
  | _ => .bad
def int2 (f : Int → Int → Int) (a b : T) : M T := fun s => match see s a, see s b with
  | .int i, .int j => .ok (.int (f i j)) s
  | _, _ => .bad
def bcall (P : Pg) : BI → List T → M T
  | .len, [a] => lenM a
  | .int, [a] => intM a
  | .str, [a] => strM a
  | .repr, [a] => reprM a
  | .list, [a] => listM a
  | .tuple, [a] => tupleM a
  | .abs, [a] => absM a
  | .max, [a] => overI (fun ns => if ns = [] then none else some (.int (maxL ns))) a
  | .max, [a, b] => int2 (fun i j => if j > i then j else i) a b
  | .min, [a] => overI (fun ns => if ns = [] then none else some (.int (minL ns))) a
  | .min, [a, b] => int2 (fun i j => if j < i then j else i) a b
  | .sum, [a] => overI (fun ns => some (.int ns.sum)) a
  | .sorted, [a] => overI (fun ns => some (.lst ((PySem.W.sortI ns).map T.int))) a
  | .all, [a] => overB (fun bs => bs.all id) a
  | .any, [a] => overB (fun bs => bs.any id) a
  | .bool, [a] => boolM a
  | .isi, [a, c] => isInst P a c
  | _, _ => bad
section
variable {X : Cx}
/-- a rule of one argument -/
theorem call1 {f : Value} {m : List T → M T} {r : List V → Hp → VK → Prop} (h : CallR X f r)
    (k : ∀ w st ts H xs Q, SR X.K w st H → RpL X.K w ts xs → Fi X.K w (m ts st) (PQ X.K Q) (fun _ _ _ => False) → r xs H Q) : CallR X f (liftC X.K m) :=
  fun pins s σ H xs us Q I rv ⟨w, st, ts, sr, rl, fin⟩ => h pins s σ H xs us Q I rv (k w st ts H xs Q sr rl fin)
theorem items_ok {w : Wd} {st : S} {H : Hp} {a : T} {v : V} {ts : List T} (r : SR X.K w st H) (ra : Rp X.K w a v) (e : items st a = some ts) :
    ∃ p xs, v = .ref p ∧ ((H p = some (.lst xs) ∧ see st a = .lst ts) ∨ (SqT X.K H p xs ∧ SqT X.K w.I p xs ∧ see st a = .tup ts)) ∧ RpL X.K w ts xs := by
  unfold items at e
  split at e
  · rename_i xs e1
    cases e
    obtain ⟨p, vs, ev, h1, h2⟩ := see_lstI r ra e1
    exact ⟨p, vs, ev, .inl ⟨h1, e1⟩, h2⟩
  · rename_i xs e1
    cases e
    obtain ⟨p, vs, ev, h1, h1', h2⟩ := see_tupI r ra e1
    exact ⟨p, vs, ev, .inr ⟨h1, h1', e1⟩, h2⟩
  · cases e
theorem intL_ok {w : Wd} {st : S} {H : Hp} {a : T} {v : V} {ns : List Int} (r : SR X.K w st H) (ra : Rp X.K w a v) (e : intL st a = some ns) : ∃ p, v = .ref p ∧ SqL X.K H p (ns.map V.int) := by
  unfold intL at e
  split at e
  · rename_i xs e1
    obtain ⟨p, vs, ev, h1, h2⟩ := see_lstI r ra e1
    rw [ints_ok e h2] at h1
    exact ⟨p, ev, SqL.of h1⟩
  · cases e
theorem boolL_ok {w : Wd} {st : S} {H : Hp} {a : T} {v : V} {ns : List Bool} (r : SR X.K w st H) (ra : Rp X.K w a v) (e : boolL st a = some ns) : ∃ p, v = .ref p ∧ SqL X.K H p (ns.map V.bl) := by
  unfold boolL at e
  split at e
  · rename_i xs e1
    obtain ⟨p, vs, ev, h1, h2⟩ := see_lstI r ra e1
    rw [bools_ok e h2] at h1
    exact ⟨p, ev, SqL.of h1⟩
  · cases e
theorem overI_ok {w : Wd} {st : S} {H : Hp} {a : T} {v : V} {f : List Int → Option T} {P : T → S → Wd → Hp → Prop} {E : XK} (r : SR X.K w st H) (ra : Rp X.K w a v) (fin : Fi X.K w (overI f a st) P E) :
    ∃ p ns t, v = .ref p ∧ SqL X.K H p (ns.map V.int) ∧ f ns = some t ∧ Fi X.K w (.ok t st) P E := by
  unfold overI at fin
  cases e : intL st a with
  | none => rw [e] at fin; exact fin.elim
  | some ns =>
    rw [e] at fin
    obtain ⟨p, ev, h⟩ := intL_ok r ra e
    have fin : Fi X.K w (match f ns with
      | some t => .ok t st
      | none => .bad : Res T) P E := fin
    cases e2 : f ns with
    | none => rw [e2] at fin; exact fin.elim
    | some t =>
      rw [e2] at fin
      exact ⟨p, ns, t, ev, h, e2, fin⟩
theorem one_of {K : PySem.W.Frag} {w : Wd} {a : T} {xs : List V} (rl : RpL K w [a] xs) : ∃ v, xs = [v] ∧ Rp K w a v := by
  obtain ⟨v, ws, e1, q1, e2⟩ := rl
  have e2 : _ = _ := e2
  subst e2
  exact ⟨v, e1, q1⟩
theorem two_of {K : PySem.W.Frag} {w : Wd} {a b : T} {xs : List V} (rl : RpL K w [a, b] xs) : ∃ u v, xs = [u, v] ∧ Rp K w a u ∧ Rp K w b v := by
  obtain ⟨u, ws, e1, q1, rl⟩ := rl
  obtain ⟨v, e2, q2⟩ := one_of rl
  subst e2
  exact ⟨u, v, e1, q1, q2⟩
theorem int2_ok {w : Wd} {st : S} {H : Hp} {a b : T} {u v : V} {f : Int → Int → Int} {Q : VK} {E : XK} (r : SR X.K w st H) (ra : Rp X.K w a u) (rb : Rp X.K w b v) (fin : Fi X.K w (int2 f a b st) (PQ X.K Q) E) : ∃ i j, u = .int i ∧ v = .int j ∧ Q (.int (f i j)) H := by
  unfold int2 at fin
  split at fin
  · rename_i i j e1 e2
    exact ⟨i, j, see_int r ra e1, see_int r rb e2, Fi.ret fin r _ rfl⟩
  · exact fin.elim
theorem wait {α : Prop} {p : Prop} (h : p) (f : p → α) : α := f h
theorem bcall_bad {P : Pg} {b : BI} {w : Wd} {st : S} {K : PySem.W.Frag} {Q : T → S → Wd → Hp → Prop} {E : XK} {ts : List T} (h : Fi K w (bcall P b ts st) Q E) : ts.length = 1 ∨ ts.length = 2 := by
  match ts, h with
  | [], h => cases b <;> exact h.elim
  | [_], _ => exact .inl rfl
  | [_, _], _ => exact .inr rfl
  | _ :: _ :: _ :: _, h => cases b <;> exact h.elim
theorem call_repr (hg : X.A.guards = some []) (hu : X.A.units + 64 < cLine) (sy : sysB X.K = true) : CallR X (.builtin "repr") (liftC X.K fun ts => match ts with
    | [a] => reprM a
    | _ => bad) := by
  intro pins s σ H xs us Q I r ⟨w, st, ts, sr, rl, fin⟩
  match ts, rl, fin with
  | [a], rl, fin =>
    obtain ⟨v, e1, q1⟩ := one_of rl
    subst e1
    obtain ⟨u, rfl, rv⟩ := vals1 r
    have fin : Fi X.K w (reprM a st) (PQ X.K Q) (fun _ _ _ => False) := fin
    unfold reprM at fin
    cases ed : toR (see st a) with
    | none => rw [ed] at fin; exact fin.elim
    | some d =>
      rw [ed] at fin
      have fin : Fi X.K w (if reprOk d then .ok (.str d.shown) st else .bad : Res T) (PQ X.K Q) (fun _ _ _ => False) := fin
      split at fin
      · rename_i ok
        have q := Fi.ret fin sr _ rfl
        unfold reprOk at ok
        simp only [Bool.and_eq_true, decide_eq_true_eq] at ok
        obtain ⟨k1, k2, k3⟩ := ok
        obtain ⟨as, rd, hn⟩ := toR_reads I sy rfl _ _ v u ed (sr.see q1) rv
        cases rd with
        | none => exact PySem.P.repr_of_none ⟨.str _, H, I.tok _, ⟨_, rfl⟩, q⟩
        | bool b => exact PySem.P.repr_of_bool ⟨.str _, H, I.tok _, ⟨_, rfl⟩, q⟩
        | int i t => exact PySem.P.repr_of_int (of_decide_eq_true k1) ⟨.str _, H, I.tok _, ⟨_, rfl⟩, q⟩
        | str x t => exact PySem.P.repr_of_str (hsz := k2) ⟨.str _, H, I.tok _, ⟨_, rfl⟩, q⟩
        | list h1 h2 h3 h4 => exact repr_of_reads' (.list h1 h2 h3 h4) k1 (fun _ => hn) hg (by omega) (fun _ _ e => e) (fun h' u tk k => ⟨.str _, H, I.kept k, ⟨_, rfl⟩, q⟩) k2
        | tuple h1 h2 h3 h4 => exact repr_of_reads' (.tuple h1 h2 h3 h4) k1 (fun _ => hn) hg (by omega) (fun _ _ e => e) (fun h' u tk k => ⟨.str _, H, I.kept k, ⟨_, rfl⟩, q⟩) k2
        | dict h1 h2 h3 h4 h5 => exact repr_of_reads' (.dict h1 h2 h3 h4 h5) k1 (fun _ => hn) hg (by omega) (fun _ _ e => e) (fun h' u tk k => ⟨.str _, H, I.kept k, ⟨_, rfl⟩, q⟩) k2
      · exact fin.elim
  | [], _, fin => exact fin.elim
  | _ :: _ :: _, _, fin => exact fin.elim
theorem call_bi {P : Pg} (hc : X.calm = true) (hg : X.A.guards = some []) (hu : X.A.units + 64 < cLine) (ok : isOk X.K P) (ca : clsAll X.K P) (sy : sysB X.K = true) (b : BI) : CallR X b.val (liftC X.K (bcall P b)) := by
  cases b with
  | isi =>
    intro pins s σ H xs us Q I r ⟨w, st, ts, sr, rl, fin⟩
    refine call_inst ok ca pins s σ H xs us Q I r ⟨w, st, ts, sr, rl, ?_⟩
    match ts, fin with
    | [a, c], fin => exact fin
    | [], fin => exact fin.elim
    | [_], fin => exact fin.elim
    | _ :: _ :: _ :: _, fin => exact fin.elim
  | repr =>
    intro pins s σ H xs us Q I r ⟨w, st, ts, sr, rl, fin⟩
    refine call_repr hg hu sy pins s σ H xs us Q I r ⟨w, st, ts, sr, rl, ?_⟩
    match ts, fin with
    | [a], fin => exact fin
    | [], fin => exact fin.elim
    | _ :: _ :: _, fin => exact fin.elim
  | len =>
    intro pins s σ H xs us Q I rv ⟨w, st, ts, sr, rl, fin⟩
    match ts, fin, rl with
    | [a], fin, rl =>
      obtain ⟨v, e1, ra⟩ := one_of rl
      subst e1
      have fin : Fi X.K w (lenM a st) (PQ X.K Q) (fun _ _ _ => False) := fin
      unfold lenM at fin
      split at fin
      · rename_i x e
        split at fin
        · rename_i hz
          exact call_len pins s σ H _ us Q I rv ⟨v, _, rfl, by rw [see_str sr ra e]; exact ⟨hz, rfl⟩, Fi.ret fin sr _ rfl⟩
        · exact fin.elim
      · rename_i x e
        obtain ⟨p, vs, ev, h1, h2⟩ := see_lstI sr ra e
        exact call_len pins s σ H _ us Q I rv ⟨v, _, rfl, by rw [ev]; exact .inl ⟨vs, SqL.of h1, h2.length⟩, Fi.ret fin sr _ rfl⟩
      · rename_i x e
        obtain ⟨p, vs, ev, h1, h1', h2⟩ := see_tupI sr ra e
        exact call_len pins s σ H _ us Q I rv ⟨v, _, rfl, by rw [ev]; exact .inr ⟨vs, h1, h2.length⟩, Fi.ret fin sr _ rfl⟩
      · rename_i ks vs e
        have q := sr.see ra
        rw [e] at q
        obtain ⟨p, kvs, ev, h1, h2, h3⟩ := q
        subst ev
        refine call_lenD pins s σ H _ us Q I rv ⟨p, kvs, rfl, h1, ?_⟩
        have : (ks.length : Int) = (kvs.length : Int) := by rw [← h2, List.length_map]
        rw [← this]
        exact Fi.ret fin sr _ rfl
      · exact fin.elim
    | [], fin, _ => exact fin.elim
    | _ :: _ :: _, fin, _ => exact fin.elim
  | int =>
    intro pins s σ H xs us Q I rv ⟨w, st, ts, sr, rl, fin⟩
    match ts, fin, rl with
    | [a], fin, rl =>
      obtain ⟨v, e1, ra⟩ := one_of rl
      subst e1
      have fin : Fi X.K w (intM a st) (PQ X.K Q) (fun _ _ _ => False) := fin
      unfold intM at fin
      split at fin
      · rename_i x e
        exact call_int1 pins s σ H _ us Q I rv (.inl ⟨x, by rw [see_int sr ra e], Fi.ret fin sr _ rfl⟩)
      · rename_i x e
        exact call_int1 pins s σ H _ us Q I rv (.inr ⟨x, by rw [see_bl sr ra e], Fi.ret fin sr _ rfl⟩)
      · rename_i x e
        split at fin
        · rename_i n e2
          split at fin
          · rename_i hz
            exact call_int_str pins s σ H _ us Q I rv ⟨x, n, by rw [see_str sr ra e], e2, hz, Fi.ret fin sr _ rfl⟩
          · exact fin.elim
        · exact fin.elim
      · exact fin.elim
    | [], fin, _ => exact fin.elim
    | _ :: _ :: _, fin, _ => exact fin.elim
  | str =>
    intro pins s σ H xs us Q I rv ⟨w, st, ts, sr, rl, fin⟩
    match ts, fin, rl with
    | [a], fin, rl =>
      obtain ⟨v, e1, ra⟩ := one_of rl
      subst e1
      have fin : Fi X.K w (strM a st) (PQ X.K Q) (fun _ _ _ => False) := fin
      unfold strM at fin
      split at fin
      · rename_i x e
        split at fin
        · rename_i hz
          exact call_str_int pins s σ H _ us Q I rv ⟨x, by rw [see_int sr ra e], hz, Fi.ret fin sr _ rfl⟩
        · exact fin.elim
      · rename_i x e
        exact SkE.call_str_str pins s σ H _ us Q I rv ⟨x, by rw [see_str sr ra e], Fi.ret fin sr _ rfl⟩
      · exact fin.elim
    | [], fin, _ => exact fin.elim
    | _ :: _ :: _, fin, _ => exact fin.elim
  | list =>
    intro pins s σ H xs us Q I rv ⟨w, st, ts, sr, rl, fin⟩
    match ts, fin, rl with
    | [a], fin, rl =>
      obtain ⟨v, e1, ra⟩ := one_of rl
      subst e1
      have fin : Fi X.K w (listM a st) (PQ X.K Q) (fun _ _ _ => False) := fin
      unfold listM at fin
      cases e : items st a with
      | none =>
        rw [e] at fin
        have fin : Fi X.K w (listS a st) (PQ X.K Q) (fun _ _ _ => False) := fin
        unfold listS at fin
        split at fin
        · rename_i z ez
          split at fin
          · rename_i hz
            exact call_list_signs hc pins s σ H _ us Q I rv ⟨z, by rw [see_str sr ra ez], hz, new_lst fin sr (rpl_signs _)⟩
          · exact fin.elim
        · exact fin.elim
      | some ys =>
        rw [e] at fin
        obtain ⟨p, vs, ev, h1, h2⟩ := items_ok sr ra e
        subst ev
        exact call_list_of pins s σ H _ us Q I rv ⟨p, vs, rfl, h1.elim (fun z => .inl (SqL.of z.1)) (fun z => .inr z.1), new_lst fin sr h2⟩
    | [], fin, _ => exact fin.elim
    | _ :: _ :: _, fin, _ => exact fin.elim
  | tuple =>
    intro pins s σ H xs us Q I rv ⟨w, st, ts, sr, rl, fin⟩
    match ts, fin, rl with
    | [a], fin, rl =>
      obtain ⟨v, e1, ra⟩ := one_of rl
      subst e1
      have fin : Fi X.K w (tupleM a st) (PQ X.K Q) (fun _ _ _ => False) := fin
      unfold tupleM at fin
      cases e : items st a with
      | none => rw [e] at fin; exact fin.elim
      | some ys =>
        rw [e] at fin
        obtain ⟨p, vs, ev, h1, h2⟩ := items_ok sr ra e
        subst ev
        refine call_tuple_of pins s σ H _ us Q I rv ⟨p, vs, rfl, h1.elim (fun z => .inl ⟨SqL.of z.1, new_tup fin sr h2⟩) (fun z => .inr ⟨z.1, ?_⟩)⟩
        exact Fi.ret fin sr _ ⟨p, vs, rfl, z.2.1, h2⟩
    | [], fin, _ => exact fin.elim
    | _ :: _ :: _, fin, _ => exact fin.elim
  | abs =>
    intro pins s σ H xs us Q I rv ⟨w, st, ts, sr, rl, fin⟩
    match ts, fin, rl with
    | [a], fin, rl =>
      obtain ⟨v, e1, ra⟩ := one_of rl
      subst e1
      have fin : Fi X.K w (absM a st) (PQ X.K Q) (fun _ _ _ => False) := fin
      unfold absM at fin
      split at fin
      · rename_i x e
        exact call_abs pins s σ H _ us Q I rv ⟨x, by rw [see_int sr ra e], Fi.ret fin sr _ rfl⟩
      · exact fin.elim
    | [], fin, _ => exact fin.elim
    | _ :: _ :: _, fin, _ => exact fin.elim
  | bool =>
    intro pins s σ H xs us Q I rv ⟨w, st, ts, sr, rl, fin⟩
    match ts, fin, rl with
    | [a], fin, rl =>
      obtain ⟨v, e1, ra⟩ := one_of rl
      subst e1
      have fin : Fi X.K w (boolM a st) (PQ X.K Q) (fun _ _ _ => False) := fin
      unfold boolM at fin
      split at fin
      · rename_i x e
        exact call_bool1 pins s σ H _ us Q I rv (.inl ⟨x, by rw [see_int sr ra e], Fi.ret fin sr _ rfl⟩)
      · rename_i x e
        exact call_bool1 pins s σ H _ us Q I rv (.inr ⟨x, by rw [see_bl sr ra e], Fi.ret fin sr _ rfl⟩)
      · exact fin.elim
    | [], fin, _ => exact fin.elim
    | _ :: _ :: _, fin, _ => exact fin.elim
  | max =>
    intro pins s σ H xs us Q I rv ⟨w, st, ts, sr, rl, fin⟩
    match ts, fin, rl with
    | [a], fin, rl =>
      obtain ⟨v, e1, ra⟩ := one_of rl
      subst e1
      obtain ⟨p, ns, t, ev, h1, h2, fin⟩ := overI_ok sr ra fin
      subst ev
      by_cases hn : ns = []
      · rw [if_pos hn] at h2
        cases h2
      · rw [if_neg hn] at h2
        cases h2
        obtain ⟨m1, m2⟩ := maxL_ok hn
        refine cr_max hc pins s σ H _ us Q I rv ⟨p, ns, rfl, h1, List.length_pos_iff.mpr hn, fun m q1 q2 => ?_⟩
        rw [Int.le_antisymm (m2 m q1) (q2 _ m1)]
        exact Fi.ret fin sr _ rfl
    | [a, b], fin, rl =>
      obtain ⟨u, v, e1, ra, rb⟩ := two_of rl
      subst e1
      obtain ⟨i, j, e1, e2, q⟩ := int2_ok sr ra rb fin
      exact call_max2 hc pins s σ H _ us Q I rv ⟨i, j, by rw [e1, e2], q⟩
    | [], fin, _ => exact fin.elim
    | _ :: _ :: _ :: _, fin, _ => exact fin.elim
  | min =>
    intro pins s σ H xs us Q I rv ⟨w, st, ts, sr, rl, fin⟩
    match ts, fin, rl with
    | [a], fin, rl =>
      obtain ⟨v, e1, ra⟩ := one_of rl
      subst e1
      obtain ⟨p, ns, t, ev, h1, h2, fin⟩ := overI_ok sr ra fin
      subst ev
      by_cases hn : ns = []
      · rw [if_pos hn] at h2
        cases h2
      · rw [if_neg hn] at h2
        cases h2
        obtain ⟨m1, m2⟩ := minL_ok hn
        refine cr_min hc pins s σ H _ us Q I rv ⟨p, ns, rfl, h1, List.length_pos_iff.mpr hn, fun m q1 q2 => ?_⟩
        rw [Int.le_antisymm (q2 _ m1) (m2 m q1)]
        exact Fi.ret fin sr _ rfl
    | [a, b], fin, rl =>
      obtain ⟨u, v, e1, ra, rb⟩ := two_of rl
      subst e1
      obtain ⟨i, j, e1, e2, q⟩ := int2_ok sr ra rb fin
      exact call_min2 hc pins s σ H _ us Q I rv ⟨i, j, by rw [e1, e2], q⟩
    | [], fin, _ => exact fin.elim
    | _ :: _ :: _ :: _, fin, _ => exact fin.elim
  | sum =>
    intro pins s σ H xs us Q I rv ⟨w, st, ts, sr, rl, fin⟩
    match ts, fin, rl with
    | [a], fin, rl =>
      obtain ⟨v, e1, ra⟩ := one_of rl
      subst e1
      obtain ⟨p, ns, t, ev, h1, h2, fin⟩ := overI_ok (f := fun ns => some (.int ns.sum)) sr ra fin
      subst ev
      cases h2
      exact cr_sum hc pins s σ H _ us Q I rv ⟨p, ns, rfl, h1, Fi.ret fin sr _ rfl⟩
    | [], fin, _ => exact fin.elim
    | _ :: _ :: _, fin, _ => exact fin.elim
  | sorted =>
    intro pins s σ H xs us Q I rv ⟨w, st, ts, sr, rl, fin⟩
    match ts, fin, rl with
    | [a], fin, rl =>
      obtain ⟨v, e1, ra⟩ := one_of rl
      subst e1
      obtain ⟨p, ns, t, ev, h1, h2, fin⟩ := overI_ok (f := fun ns => some (.lst ((PySem.W.sortI ns).map T.int))) sr ra fin
      subst ev
      cases h2
      refine cr_sortedI pins s σ H _ us Q I rv ⟨p, ns, rfl, h1, fun ns' q p1 p2 hq => ?_⟩
      rw [PySem.W.eq_sortI p1 p2]
      exact new_lst fin sr (RpL.intsO _) q hq
    | [], fin, _ => exact fin.elim
    | _ :: _ :: _, fin, _ => exact fin.elim
  | all =>
    intro pins s σ H xs us Q I rv ⟨w, st, ts, sr, rl, fin⟩
    match ts, fin, rl with
    | [a], fin, rl =>
      obtain ⟨v, e1, ra⟩ := one_of rl
      subst e1
      have fin : Fi X.K w (overB (fun bs => bs.all id) a st) (PQ X.K Q) (fun _ _ _ => False) := fin
      unfold overB at fin
      cases e : boolL st a with
      | none => rw [e] at fin; exact fin.elim
      | some ns =>
        rw [e] at fin
        obtain ⟨p, ev, h⟩ := boolL_ok sr ra e
        subst ev
        exact cr_all hc pins s σ H _ us Q I rv ⟨p, ns, rfl, h, Fi.ret fin sr _ rfl⟩
    | [], fin, _ => exact fin.elim
    | _ :: _ :: _, fin, _ => exact fin.elim
  | any =>
    intro pins s σ H xs us Q I rv ⟨w, st, ts, sr, rl, fin⟩
    match ts, fin, rl with
    | [a], fin, rl =>
      obtain ⟨v, e1, ra⟩ := one_of rl
      subst e1
      have fin : Fi X.K w (overB (fun bs => bs.any id) a st) (PQ X.K Q) (fun _ _ _ => False) := fin
      unfold overB at fin
      cases e : boolL st a with
      | none => rw [e] at fin; exact fin.elim
      | some ns =>
        rw [e] at fin
        obtain ⟨p, ev, h⟩ := boolL_ok sr ra e
        subst ev
        exact cr_any hc pins s σ H _ us Q I rv ⟨p, ns, rfl, h, Fi.ret fin sr _ rfl⟩
    | [], fin, _ => exact fin.elim
    | _ :: _ :: _, fin, _ => exact fin.elim
end
end G
-- GtMeth
namespace G
open PySem L2

/-! ### built-in methods -/
inductive BM where
  | split | join | sindex | append | extend | pop | insert | lindex
def BM.ty : BM → String
  | .split => "str" | .join => "str" | .sindex => "str" | .append => "list" | .extend => "list" | .pop => "list" | .insert => "list" | .lindex => "list"
def BM.nm : BM → Str
  | .split => "split" | .join => "join" | .sindex => "index" | .append => "append" | .extend => "extend" | .pop => "pop" | .insert => "insert" | .lindex => "index"
def BM.id : BM → String
  | .split => "str.split" | .join => "str.join" | .sindex => "str.index" | .append => "list.append" | .extend => "list.extend" | .pop => "list.pop" | .insert => "list.insert" | .lindex => "list.index"
def bmFind : T → Str → Option BM
  | .str _, n => if n = "split" then some .split else if n = "join" then some .join else if n = "index" then some .sindex else none
  | .lst _, n => if n = "append" then some .append else if n = "extend" then some .extend else if n = "pop" then some .pop else if n = "insert" then some .insert else if n = "index" then some .lindex else none
  | _, _ => none
def inBox (s : S) (x : T) (f : Nat → List T → Res T) : Res T := match x with
  | .box n => match s.get n with
    | some (.lst xs) => f n xs
    | _ => .bad
  | _ => .bad
def splitM (x b : T) : M T := fun s => match see s x, see s b with
  | .str a, .str b => if (b.length == 0) = false ∧ a.length + 2 ≤ sizeLine then .ok (.lst ((Txt.split a b).map T.str)) s else .bad
  | _, _ => .bad
def strL (s : S) (a : T) : Option (List Str) := match items s a with
  | some xs => strsO xs
  | none => none
def joinM (x b : T) : M T := fun s => match see s x, strL s b with
  | .str a, some ys => if (ys.map (·.length)).sum + ys.length * a.length ≤ 16777216 then .ok (.str (Txt.join a ys)) s else .bad
  | _, _ => .bad
def sindexM (x b : T) : M T := fun s => match see s x, see s b with
  | .str a, .str b => match Builtin.Str.occurrences a b 0 a.length 1 with
    | i :: _ => .ok (.int (i : Nat)) s
    | [] => .bad
  | _, _ => .bad
def appendM (x y : T) : M T := fun s => inBox s x fun n xs => if xs.length < sizeLine then .ok .non (s.put n (.lst (xs ++ [y]))) else .bad
def extendM (x y : T) : M T := fun s => match see s y with
  | .lst zs => inBox s x fun n xs => if xs.length + zs.length ≤ sizeLine then .ok .non (s.put n (.lst (xs ++ zs))) else .bad
  | _ => .bad
def popM (x : T) : M T := fun s => inBox s x fun n xs => match xs[xs.length - 1]? with
  | some y => .ok y (s.put n (.lst xs.dropLast))
  | none => .bad
def fits (i : Int) : Bool := decide (-(2 ^ 63) ≤ i) && decide (i < 2 ^ 63)
def popAtM (x y : T) : M T := fun s => match see s y with
  | .int i => inBox s x fun n xs => match seqIndex? i xs.length with
    | some k => match xs[k]? with
      | some y => if fits i then .ok y (s.put n (.lst (xs.eraseIdx k))) else .bad
      | none => .bad
    | none => .bad
  | _ => .bad
def insertM (x a y : T) : M T := fun s => match see s a with
  | .int i => inBox s x fun n xs => if xs.length < sizeLine ∧ 0 ≤ i ∧ i < 2 ^ 63 then .ok .non (s.put n (.lst (xs.take i.toNat ++ [y] ++ xs.drop i.toNat))) else .bad
  | _ => .bad
def bmcall : BM → T → List T → M T
  | .split, x, [b] => splitM x b
  | .join, x, [b] => joinM x b
  | .sindex, x, [b] => sindexM x b
  | .append, x, [y] => appendM x y
  | .extend, x, [y] => extendM x y
  | .pop, x, [] => popM x
  | .pop, x, [y] => popAtM x y
  | .insert, x, [a, y] => insertM x a y
  | _, _, _ => bad
def liftMt (K : PySem.W.Frag) (f : T → List T → M T) : V → List V → Hp → VK → Prop := fun x xs H Q => ∃ w st tx ts, SR K w st H ∧ Rp K w tx x ∧ RpL K w ts xs ∧ Fi K w (f tx ts st) (PQ K Q) (fun _ _ _ => False)
section
variable {X : Cx}
theorem inBox_ok {w : Wd} {st : S} {H : Hp} {x : T} {v : V} {f : Nat → List T → Res T} {P : T → S → Wd → Hp → Prop} {E : XK} (r : SR X.K w st H) (rx : Rp X.K w x v) (fin : Fi X.K w (inBox st x f) P E) :
    ∃ n xs vs, v = .ref (w.r n) ∧ x = .box n ∧ st.get n = some (.lst xs) ∧ H (w.r n) = some (.lst vs) ∧ RpL X.K w xs vs ∧ Fi X.K w (f n xs) P E := by
  cases x with
  | box n =>
    have fin : Fi X.K w (match st.get n with
      | some (.lst xs) => f n xs
      | _ => .bad : Res T) P E := fin
    cases e : st.get n with
    | none => rw [e] at fin; exact fin.elim
    | some o =>
      rw [e] at fin
      cases o with
      | lst xs =>
        obtain ⟨_, ⟨vs, p, q⟩, _⟩ := r.box n _ e
        exact ⟨n, xs, vs, rx.2, rfl, e, p, q, fin⟩
      | dct ks us => exact fin.elim
      | ins C ns us => exact fin.elim
  | _ => exact fin.elim
theorem put_lst {w : Wd} {st : S} {H : Hp} {n : Nat} {xs ys : List T} {vs ws : List V} {t : T} {v : V} {Q : VK} {E : XK} (r : SR X.K w st H) (g : st.get n = some (.lst xs)) (ry : RpL X.K w ys ws) (rt : Rp X.K w t v)
    (fin : Fi X.K w (.ok t (st.put n (.lst ys))) (PQ X.K Q) E) : Q v (upd H (w.r n) (.lst ws)) :=
  fin w _ (Ext.refl w) (r.put g ⟨ws, upd_same, ry⟩) v rt
theorem RpL.drop1 {K : PySem.W.Frag} {w : Wd} : ∀ {ts : List T} {vs : List V}, RpL K w ts vs → RpL K w ts.dropLast vs.dropLast
  | [], _, q => by
    have q : _ = _ := q
    rw [q]; exact RpL.nil
  | [t], _, ⟨v, ws, e, a, b⟩ => by
    have b : _ = _ := b
    rw [e, b]; exact RpL.nil
  | t :: u :: r, _, ⟨v, _, e, a, ⟨v2, ws, e2, a2, b⟩⟩ => by
    rw [e, e2, List.dropLast_cons_cons, List.dropLast_cons_cons]
    exact ⟨v, _, rfl, a, RpL.drop1 ⟨v2, ws, rfl, a2, b⟩⟩
theorem RpL.erase {K : PySem.W.Frag} {w : Wd} : ∀ {ts : List T} {vs : List V} (i : Nat), RpL K w ts vs → RpL K w (ts.eraseIdx i) (vs.eraseIdx i)
  | [], _, i, q => by
    have q : _ = _ := q
    rw [q]; exact RpL.nil
  | t :: ts, _, 0, ⟨v, ws, e, a, b⟩ => by rw [e]; exact b
  | t :: ts, _, i + 1, ⟨v, ws, e, a, b⟩ => by rw [e]; exact ⟨v, _, rfl, a, RpL.erase i b⟩
theorem nil_of {K : PySem.W.Frag} {w : Wd} {xs : List V} (rl : RpL K w [] xs) : xs = [] := rl
theorem strL_ok {w : Wd} {st : S} {H : Hp} {a : T} {v : V} {ns : List Str} (r : SR X.K w st H) (ra : Rp X.K w a v) (e : strL st a = some ns) : ∃ p, v = .ref p ∧ (SqL X.K H p (ns.map V.str) ∨ SqT X.K H p (ns.map V.str)) := by
  unfold strL at e
  cases e1 : items st a with
  | none => rw [e1] at e; cases e
  | some xs =>
    rw [e1] at e
    obtain ⟨p, vs, ev, h, q⟩ := items_ok r ra e1
    rw [strs_ok e q] at h
    refine ⟨p, ev, ?_⟩
    rcases h with ⟨h, _⟩ | ⟨h, _⟩
    · exact .inl (SqL.of h)
    · exact .inr h
/-- a rule of one argument -/
theorem mt_one {id : String} {m : T → T → M T} {f : T → List T → M T} (hf : ∀ x ts st, f x ts st ≠ .bad → ∃ b, ts = [b] ∧ f x ts st = m x b st)
    (h : ∀ pins s σ H x y v u Q w st tx ty, Inv X pins σ H s → RelV x v → RelV y u → SR X.K w st H → Rp X.K w tx x → Rp X.K w ty y → Fi X.K w (m tx ty st) (PQ X.K Q) (fun _ _ _ => False) →
      wpAny (model X.prog X.w) X.A (call (.builtin id) [v, u]) (EP X pins σ Q) X.xe s) : MtR X id (liftMt X.K f) := by
  intro pins s σ H x xs v us Q I rx rxs ⟨w, st, tx, ts, r, rt, rl, fin⟩
  have nb : f tx ts st ≠ .bad := fun e => by rw [e] at fin; exact fin.elim
  obtain ⟨b, e, e2⟩ := hf tx ts st nb
  subst e
  rw [e2] at fin
  obtain ⟨y, e1, ry⟩ := one_of rl
  subst e1
  obtain ⟨u, rfl, ru⟩ := rxs.one
  exact h pins s σ H x y v u Q w st tx b I rx ru r rt ry fin
theorem one_arg {m : T → T → M T} {f : T → List T → M T} (h1 : ∀ x b, f x [b] = m x b) (h0 : ∀ x, f x [] = bad) (h2 : ∀ x a b r, f x (a :: b :: r) = bad) : ∀ x ts st, f x ts st ≠ .bad → ∃ b, ts = [b] ∧ f x ts st = m x b st
  | x, [], st, nb => (nb (by rw [h0]; rfl)).elim
  | x, [b], st, _ => ⟨b, rfl, by rw [h1]⟩
  | x, a :: b :: r, st, nb => (nb (by rw [h2]; rfl)).elim
theorem bm_split : MtR X "str.split" (liftMt X.K (bmcall .split)) := mt_one (m := splitM) (one_arg (fun _ _ => rfl) (fun _ => rfl) (fun _ _ _ _ => rfl))
  fun pins s σ H x y v u Q w st tx ty I rx ry r rt rb fin => by
    unfold splitM at fin
    split at fin
    · rename_i a b e1 e2
      split at fin
      · rename_i h
        exact mt_split pins s σ H x [y] v [u] Q I rx (.cons ry .nil) ⟨a, b, see_str r rt e1, by rw [see_str r rb e2], h.1, h.2, new_lst fin r (RpL.strsO _)⟩
      · exact fin.elim
    · exact fin.elim
theorem bm_join : MtR X "str.join" (liftMt X.K (bmcall .join)) := mt_one (m := joinM) (one_arg (fun _ _ => rfl) (fun _ => rfl) (fun _ _ _ _ => rfl))
  fun pins s σ H x y v u Q w st tx ty I rx ry r rt rb fin => by
    unfold joinM at fin
    split at fin
    · rename_i a ys e1 e2
      split at fin
      · rename_i h
        obtain ⟨p, ev, hp⟩ := strL_ok r rb e2
        exact mt_join pins s σ H x [y] v [u] Q I rx (.cons ry .nil) ⟨a, p, ys, see_str r rt e1, by rw [ev], hp, h, Fi.ret fin r _ rfl⟩
      · exact fin.elim
    · exact fin.elim
theorem bm_sindex : MtR X "str.index" (liftMt X.K (bmcall .sindex)) := mt_one (m := sindexM) (one_arg (fun _ _ => rfl) (fun _ => rfl) (fun _ _ _ _ => rfl))
  fun pins s σ H x y v u Q w st tx ty I rx ry r rt rb fin => by
    unfold sindexM at fin
    split at fin
    · rename_i a b e1 e2
      split at fin
      · rename_i i rest h
        exact mt_sindex pins s σ H x [y] v [u] Q I rx (.cons ry .nil) ⟨a, b, i, rest, see_str r rt e1, by rw [see_str r rb e2], h, Fi.ret fin r _ rfl⟩
      · exact fin.elim
    · exact fin.elim
theorem bm_append : MtR X "list.append" (liftMt X.K (bmcall .append)) := mt_one (m := appendM) (one_arg (fun _ _ => rfl) (fun _ => rfl) (fun _ _ _ _ => rfl))
  fun pins s σ H x y v u Q w st tx ty I rx ry r rt rb fin => by
    obtain ⟨n, xs, vs, ev, ex, g, p, q, fin⟩ := inBox_ok r rt fin
    split at fin
    · rename_i h
      exact mt_append pins s σ H x [y] v [u] Q I rx (.cons ry .nil) ⟨w.r n, vs, y, ev, rfl, p, by rw [← q.length]; exact h, put_lst (t := .non) (v := .non) (vs := vs) r g (q.append (RpL.cons rb RpL.nil)) rfl fin⟩
    · exact fin.elim
theorem bm_extend : MtR X "list.extend" (liftMt X.K (bmcall .extend)) := mt_one (m := extendM) (one_arg (fun _ _ => rfl) (fun _ => rfl) (fun _ _ _ _ => rfl))
  fun pins s σ H x y v u Q w st tx ty I rx ry r rt rb fin => by
    unfold extendM at fin
    split at fin
    · rename_i zs e1
      obtain ⟨p2, vs2, ev2, h2, q2⟩ := see_lstI r rb e1
      obtain ⟨n, xs, vs, ev, ex, g, p, q, fin⟩ := inBox_ok r rt fin
      split at fin
      · rename_i h
        exact mt_extend pins s σ H x [y] v [u] Q I rx (.cons ry .nil) ⟨w.r n, p2, vs, vs2, ev, by rw [ev2], p, h2, by rw [← q.length, ← q2.length]; exact h, put_lst (t := .non) (v := .non) (vs := vs) r g (q.append q2) rfl fin⟩
      · exact fin.elim
    · exact fin.elim
theorem bm_pop : MtR X "list.pop" (liftMt X.K (bmcall .pop)) := by
  intro pins s σ H x xs v us Q I rx rxs ⟨w, st, tx, ts, r, rt, rl, fin⟩
  match ts, rl, fin with
  | [], rl, fin =>
    have e := nil_of rl
    subst e
    obtain ⟨n, xs, vs, ev, ex, g, p, q, fin⟩ := inBox_ok r rt fin
    split at fin
    · rename_i y h
      obtain ⟨vy, hy, ry⟩ := q.get h
      exact mt_pop pins s σ H x [] v us Q I rx rxs ⟨w.r n, vs, vy, ev, rfl, p, by rw [← q.length]; exact hy, put_lst (vs := vs) r g q.drop1 ry fin⟩
    · exact fin.elim
  | [b], rl, fin =>
    obtain ⟨y, e1, rb⟩ := one_of rl
    subst e1
    have fin : Fi X.K w (popAtM tx b st) (PQ X.K Q) (fun _ _ _ => False) := fin
    unfold popAtM at fin
    split at fin
    · rename_i i e1
      obtain ⟨n, xs, vs, ev, ex, g, p, q, fin⟩ := inBox_ok r rt fin
      split at fin
      · rename_i k hk
        split at fin
        · rename_i t ht
          split at fin
          · rename_i hf
            unfold fits at hf
            simp only [Bool.and_eq_true, decide_eq_true_eq] at hf
            obtain ⟨vy, hy, ry⟩ := q.get ht
            exact mt_popAt pins s σ H x [y] v us Q I rx rxs ⟨w.r n, vs, i, k, vy, ev, by rw [see_int r rb e1], p, hf.1, hf.2, by rw [← q.length]; exact hk, hy, put_lst (vs := vs) r g (q.erase k) ry fin⟩
          · exact fin.elim
        · exact fin.elim
      · exact fin.elim
    · exact fin.elim
  | _ :: _ :: _, rl, fin => exact fin.elim
theorem bm_insert : MtR X "list.insert" (liftMt X.K (bmcall .insert)) := by
  intro pins s σ H x xs v us Q I rx rxs ⟨w, st, tx, ts, r, rt, rl, fin⟩
  match ts, rl, fin with
  | [a, b], rl, fin =>
    obtain ⟨ya, yb, e1, ra, rb⟩ := two_of rl
    subst e1
    have fin : Fi X.K w (insertM tx a b st) (PQ X.K Q) (fun _ _ _ => False) := fin
    unfold insertM at fin
    split at fin
    · rename_i i e1
      obtain ⟨n, xs, vs, ev, ex, g, p, q, fin⟩ := inBox_ok r rt fin
      split at fin
      · rename_i h
        exact mt_insert pins s σ H x [ya, yb] v us Q I rx rxs ⟨w.r n, vs, i, yb, ev, by rw [see_int r ra e1], p, by rw [← q.length]; exact h.1, h.2.1, h.2.2,
          put_lst (t := .non) (v := .non) (vs := vs) r g (((q.take i.toNat).append (RpL.cons rb RpL.nil)).append (q.drop i.toNat)) rfl fin⟩
      · exact fin.elim
    · exact fin.elim
  | [], _, fin => exact fin.elim
  | [_], _, fin => exact fin.elim
  | _ :: _ :: _ :: _, _, fin => exact fin.elim
theorem bm_ok : ∀ m : BM, MtR X m.id (liftMt X.K (bmcall m))
  | .split => bm_split | .join => bm_join | .sindex => bm_sindex | .append => bm_append | .extend => bm_extend | .pop => bm_pop | .insert => bm_insert
  | .lindex => fun pins s σ H x xs v us Q I rx rxs ⟨w, st, tx, ts, r, rt, rl, fin⟩ => by
    match ts, fin with
    | [], fin => exact fin.elim
    | _ :: _, fin => exact fin.elim
theorem bm_slot : ∀ m : BM, PlainAttrs m.ty ∧ Slot m.ty m.nm m.id ∧ typeOf (.builtin m.id) = pure (.type "method_descriptor")
  | .split => ⟨PySem.F.plainAttrs_str, PySem.F.slot_str_split, PySem.F.type_str_split⟩
  | .join => ⟨PySem.F.plainAttrs_str, PySem.F.slot_str_join, PySem.F.type_str_join⟩
  | .sindex => ⟨PySem.F.plainAttrs_str, PySem.F.slot_str_index, PySem.F.type_str_index⟩
  | .append => ⟨PySem.F.plainAttrs_list, PySem.F.slot_list_append, PySem.F.type_list_append⟩
  | .extend => ⟨PySem.F.plainAttrs_list, PySem.F.slot_list_extend, PySem.F.type_list_extend⟩
  | .pop => ⟨PySem.F.plainAttrs_list, PySem.F.slot_list_pop, PySem.F.type_list_pop⟩
  | .insert => ⟨PySem.F.plainAttrs_list, PySem.F.slot_list_insert, PySem.F.type_list_insert⟩
  | .lindex => ⟨PySem.F.plainAttrs_list, PySem.F.slot_list_index, PySem.F.type_list_index⟩
/-- which method the value's name says -/
def bmM (name : Str) (x : T) : M BM := fun s => match bmFind (see s x) name with
  | some m => .ok m s
  | none => .bad
theorem bmM_ok {w : Wd} {st : S} {H : Hp} {x : T} {v : V} {name : Str} {m : BM} (r : SR X.K w st H) (rx : Rp X.K w x v) (h : bmFind (see st x) name = some m) : name = m.nm ∧ tyV X.K m.ty v H := by
  unfold bmFind at h
  split at h
  · rename_i a n e
    have ev := see_str r rx e
    subst ev
    split at h
    · rename_i en; cases h; exact ⟨en, rfl⟩
    · split at h
      · rename_i en; cases h; exact ⟨en, rfl⟩
      · split at h
        · rename_i en; cases h; exact ⟨en, rfl⟩
        · cases h
  · rename_i a n e
    obtain ⟨p, vs, ev, h1, _⟩ := see_lstI r rx e
    subst ev
    have hl : ∀ {T : String}, T = "list" → tyV X.K T (.ref p) H := fun e => .inl ⟨e, vs, SqL.of h1⟩
    split at h
    · rename_i en; cases h; exact ⟨en, hl rfl⟩
    · split at h
      · rename_i en; cases h; exact ⟨en, hl rfl⟩
      · split at h
        · rename_i en; cases h; exact ⟨en, hl rfl⟩
        · split at h
          · rename_i en; cases h; exact ⟨en, hl rfl⟩
          · split at h
            · rename_i en; cases h; exact ⟨en, hl rfl⟩
            · cases h
  · cases h
variable {W : WX}
def methM (name : Str) (x : T) (fa : M (List T)) : M T := bnd (bmM name x) fun m => bnd fa fun ts => noX (bmcall m x ts)
theorem methM_ok {w : Wd} {st : S} {H : Hp} {x : T} {v : V} {name : Str} {fa : M (List T)} {P : T → S → Wd → Hp → Prop} {E : XK} (r : SR X.K w st H) (rx : Rp X.K w x v) (fin : Fi X.K w (methM name x fa st) P E) :
    ∃ m : BM, name = m.nm ∧ tyV X.K m.ty v H ∧ Fi X.K w (bnd fa (fun ts => noX (bmcall m x ts)) st) P E := by
  unfold methM bnd at fin
  unfold bmM at fin
  cases e : bmFind (see st x) name with
  | none => rw [e] at fin; exact fin.elim
  | some m =>
    rw [e] at fin
    obtain ⟨h1, h2⟩ := bmM_ok r rx e
    exact ⟨m, h1, h2, fin⟩
theorem le_meth0 {o : Expr} {fo : En → M T} {name : Str} {apos cpos : Pos} (ho : PE X o (liftE X.K W fo)) (hbase : attributeBase o name X.env (eval o X.env) = eval o X.env) (hline : (apos.endLine == cpos.line) = true) :
    PE X (.Call (.Attribute o name apos) [] [] cpos) (liftE X.K W fun env => bnd (fo env) fun x => methM name x (ret [])) := by
  refine ⟨fun pins s σ H Q I ⟨w, st, env, r, er, fin⟩ => ?_⟩
  refine wpAny_Call_method0_late hbase hline (thn (ho.run pins s σ H (fun x H1 => ∃ w st tx, SR X.K w st H1 ∧ EnR X.K w env σ ∧ Rp X.K w tx x ∧ Fi X.K w (methM name tx (ret []) st) (PQ X.K Q) (fun c d H' => W c d σ H')) I
    ⟨w, st, env, r, er, fin.bind fun tx s1 w1 H1 x1 r1 fin1 vx rx => ⟨w1, s1, tx, r1, er.mono x1, rx, fin1⟩⟩) fun v s1 ⟨x, H1, I1, rv, w1, st1, tx, r1, er1, rx, fin1⟩ => ?_)
  obtain ⟨m, hn, ty, fin2⟩ := methM_ok r1 rx fin1
  subst hn
  obtain ⟨h1, h2⟩ := tyV_is I1 rv ty
  obtain ⟨pa, slot, hty⟩ := bm_slot m
  exact ⟨m.ty, m.id, pa, slot, hty, h1, h2, Calls.callWith_builtin rfl (PySem.evalArgs_none (bm_ok m pins s1 σ H1 x [] v [] Q I1 rv .nil ⟨w1, st1, tx, [], r1, rx, rfl, fin2.noX⟩))⟩
/-- the checks that the text of a method's call passes -/
def callChk (E : PySem.Env) (e : Expr) (es : List Expr) (cpos : Pos) : Prop :=
  ((backTo cpos (starEach (e :: es) E)).all (fun x => !x.1) && (backToKw cpos (keywordEach [] E)).all (fun x => x.1.isSome)
      && decide ((e :: es).length + ([] : List Keyword).length + (if ([] : List Keyword).isEmpty then 0 else 1) < 30)) = true ∧
  starEach (e :: es) E = (false, eval e E) :: starEach es E ∧ (backTo cpos (starEach es E)).any (·.1) = false
theorem le_meth {o e : Expr} {es : List Expr} {fo : En → M T} {fa : En → M (List T)} {name : Str} {apos cpos : Pos} (ho : PE X o (liftE X.K W fo)) (ha : PA X (e :: es) (liftA X.K W fa))
    (hbase : attributeBase o name X.env (eval o X.env) = eval o X.env) (hline : (apos.endLine == cpos.line) = true) (hc : callChk X.env e es cpos) :
    PE X (.Call (.Attribute o name apos) (e :: es) [] cpos) (liftE X.K W fun env => bnd (fo env) fun x => methM name x (fa env)) := by
  obtain ⟨hfew, hs, hplain⟩ := hc
  refine ⟨fun pins s σ H Q I ⟨w, st, env, r, er, fin⟩ => ?_⟩
  refine wpAny_Call_method_late hbase hfew hline rfl (thn (ho.run pins s σ H (fun x H1 => ∃ w st tx, SR X.K w st H1 ∧ EnR X.K w env σ ∧ Rp X.K w tx x ∧ Fi X.K w (methM name tx (fa env) st) (PQ X.K Q) (fun c d H' => W c d σ H')) I
    ⟨w, st, env, r, er, fin.bind fun tx s1 w1 H1 x1 r1 fin1 vx rx => ⟨w1, s1, tx, r1, er.mono x1, rx, fin1⟩⟩) fun v s1 ⟨x, H1, I1, rv, w1, st1, tx, r1, er1, rx, fin1⟩ => ?_)
  obtain ⟨m, hn, ty, fin2⟩ := methM_ok r1 rx fin1
  subst hn
  obtain ⟨h1, h2⟩ := tyV_is I1 rv ty
  obtain ⟨pa, slot, hty⟩ := bm_slot m
  refine ⟨m.ty, m.id, pa, slot, hty, h1, h2, ?_⟩
  have hA := ha.run cpos pins s1 σ H1 (fun vs H2 => ∃ w st ts, SR X.K w st H2 ∧ Rp X.K w tx x ∧ RpL X.K w ts vs ∧ Fi X.K w (bmcall m tx ts st) (PQ X.K Q) (fun _ _ _ => False)) I1
    ⟨w1, st1, env, r1, er1, fin2.bind fun ts s2 w2 H2 x2 r2 fin3 vs rvs => ⟨w2, s2, ts, r2, rx.mono x2, rvs, fin3.noX⟩⟩
  rw [hs] at hA ⊢
  refine Calls.callWith_builtin (by show (false || (backTo cpos (starEach es X.env)).any (·.1)) = false; rw [hplain] <;> rfl) (Calls.evalArgs_plain ?_)
  exact thn hA fun us s2 ⟨vs, H2, I2, r2, w2, st2, ts, q1, q2, q3, q4⟩ => bm_ok m pins s2 σ H2 x vs v us Q I2 rv r2 ⟨w2, st2, tx, ts, q1, q2, q3, q4⟩
end
end G
-- GtEval
namespace G
open PySem L2

/-! ### own special methods -/
def ownI (P : Pg) (m : Str) : T → Option Nat
  | .ins C _ _ => match P.cls? C with
    | some c => if c.err.isSome then none else match c.mem.lookup m with
      | some (.fn i) => some i
      | _ => none
    | none => none
  | _ => none
def insC : T → Str
  | .ins C _ _ => C
  | _ => Str.empty
/-! ### names -/
structure FC where
  N : List Str
  sc : Scope
  /-- its local and cell names may be stored to -/
  raw : Scope
  /-- how much deeper calls may go -/
  dep : Nat
  /-- the lambda that was handed in, and what its call does -/
  th : Option (T × M T)
  /-- f(lambda: e) -/
  cl : Nat → Expr → Scope → En → M T
def noL : Nat → Expr → Scope → En → M T := fun _ _ _ _ => bad
def ixOf (x : Str) : List Str → Option Nat
  | [] => none
  | y :: r => if y = x then some 0 else (ixOf x r).map (· + 1)
def isVis : Option NameKind → Bool
  | some .local => true
  | some .cell => true
  | some .free => true
  | _ => false
def isGl : Option NameKind → Bool
  | some .globalImplicit => true
  | _ => false
def isLo : Option NameKind → Bool
  | some .local => true
  | _ => false
def isLC : Option NameKind → Bool
  | some .local => true
  | some .cell => true
  | _ => false
def okName (x : Str) : Bool := !(x == ("__debug__" : Str)) && !(x == ("__classdict__" : Str))
/-- what came of f(lambda: e), wherever the lambda stood -/
noncomputable def lamM (run : Nat → Nat → List V → M T) : M T := fun s => open Classical in if h : ∃ r, ∀ a c vs, run a c vs s = r then h.choose else .bad
/-- the call of the lambda that was handed in -/
noncomputable def thC (th : Option (T × M T)) (x : T) : M T := open Classical in match th with
  | some (y, m) => if x = y then m else bad
  | none => bad
def noPar : Arguments → Bool
  | ⟨[], [], none, [], [], none, []⟩ => true
  | _ => false
def lamE (fc : FC) : List Expr → Option (Expr × Scope)
  | [.Lambda params body scope _] => if noPar params && LamX.lamSB fc.sc scope then some (body, scope) else none
  | _ => none
/-- a def that may be handed a lambda -/
def thOk (P : Pg) (i : Nat) : Bool := match P.fns[i]? with
  | some f => f.star.isNone && (f.dfl.isEmpty && f.ps.length == 1)
  | none => false
def FC.kind (fc : FC) (x : Str) : Option NameKind := fc.sc.names.lookup x
/-- a local's place -/
def FC.loc (fc : FC) (x : Str) : Option Nat := if isVis (fc.kind x) && okName x then ixOf x fc.N else none
def FC.gl (fc : FC) (x : Str) : Bool := isGl (fc.kind x) && okName x
def tyNames : List (Str × String) := [("int", "int"), ("str", "str"), ("bool", "bool"), ("list", "list"), ("tuple", "tuple"), ("dict", "dict"), ("ValueError", "ValueError")]
def gvT (x : Str) : GV → T
  | .cst t => t
  | _ => .glo x
def nameM (P : Pg) (fc : FC) (x : Str) (env : En) : M T := match fc.loc x with
  | some i => getV env i
  | none => if fc.gl x then match P.glob.lookup x with
      | some g => ret (gvT x g)
      | none => match tyNames.lookup x with
        | some n => ret (.ty n)
        | none => bad
    else bad
def constM : Const → M T
  | .int i => ret (.int i)
  | .bool b => ret (.bl b)
  | .str x => ret (.str x)
  | .none => ret .non
  | _ => bad

/-! ### parts of expressions -/
def isStarred : Expr → Bool
  | .Starred _ _ => true
  | _ => false
def itemsM (x : T) : M (List T) := fun s => match items s x with
  | some xs => .ok xs s
  | none => .bad
def argsM (ev : Expr → En → M T) : List Expr → En → M (List T)
  | [], _ => ret []
  | .Starred e _ :: es, env => bnd (ev e env) fun x => bnd (itemsM x) fun xs => bnd (argsM ev es env) fun ys => ret (xs ++ ys)
  | e :: es, env => bnd (ev e env) fun x => bnd (argsM ev es env) fun xs => ret (x :: xs)
def isAnd : BoolOp → Bool
  | .And => true
  | .Or => false
def boolE (ev : Expr → En → M T) (op : BoolOp) : List Expr → En → M T
  | [], _ => bad
  | [e], env => ev e env
  | e :: r, env => bnd (ev e env) fun x => bnd (noX (truth x)) fun b => if b = isAnd op then boolE ev op r env else ret x
def boolT (ev : Expr → En → M Bool) (op : BoolOp) : List Expr → En → M Bool
  | [], _ => bad
  | [e], env => ev e env
  | e :: r, env => bnd (ev e env) fun b => if b = isAnd op then boolT ev op r env else ret b
def asBool (x : T) : M Bool := match x with
  | .bl b => ret b
  | _ => bad
def cmpE (ev : Expr → En → M T) (opc : CmpOp → T → T → M T) (a : Expr) : List CmpOp → List Expr → En → M T
  | [op], [b], env => if behindInMarks op b then bad else bnd (ev a env) fun x => bnd (ev b env) fun y => noX (opc op x y)
  | [op, op2], [b, c], env => if behindInMarks op2 c then bad else
      bnd (ev a env) fun x => bnd (ev b env) fun y => bnd (noX (opc op x y)) fun r => bnd (asBool r) fun k => if k then bnd (ev c env) fun z => noX (opc op2 y z) else ret (.bl false)
  | _, _, _ => bad
/-- what lies on the way of a subscript -/
def isSlice : Expr → Bool
  | .Slice _ _ _ _ => true
  | _ => false
def chrS (c : Nat) : Str := ⟨#[c]⟩
def ixM (x y : T) : M T := fun s => match see s y with
  | .int i => match see s x with
    | .lst xs => match atI xs i with
      | some t => .ok t s
      | none => .bad
    | .tup xs => match atI xs i with
      | some t => .ok t s
      | none => .bad
    | .str z => match atI z.cps.toList i with
      | some c => if z.length ≤ sizeLine then .ok (.str (chrS c)) s else .bad
      | none => .bad
    | _ => .bad
  | _ => .bad
def cutT (xs : List T) (lo hi : Option Int) : List T := (xs.drop (HT.sIx xs.length 0 lo)).take (HT.sIx xs.length xs.length hi - HT.sIx xs.length 0 lo)
def sliceM (x : T) (lo hi : Option Int) : M T := fun s => match see s x with
  | .lst xs => .ok (.lst (cutT xs lo hi)) s
  | .frz xs => .ok (.lst (cutT xs lo hi)) s
  | .tup xs => .ok (.tup (cutT xs lo hi)) s
  | .str z => if z.length ≤ sizeLine then .ok (.str (cutS z lo hi)) s else .bad
  | _ => .bad
def revM (x : T) : M T := fun s => match see s x with
  | .lst xs => .ok (.lst xs.reverse) s
  | _ => .bad
def optI (ev : Expr → En → M T) : Option Expr → En → M (Option Int)
  | none, _ => ret none
  | some e, env => bnd (ev e env) fun x => fun s => match see s x with
    | .int i => .ok (some i) s
    | _ => .bad
/-- a box for a list -/
def boxM (b : Bool) (t : T) : M T := fun s => match b, t with
  | true, .lst xs => .ok (.box s.next) (s.new (.lst xs))
  | _, t => .ok t s
def lstM (b : Bool) (xs : List T) : M T := fun s => if xs.length ≤ sizeLine then boxM b (.lst xs) s else .bad
def tupM (xs : List T) : M T := fun s => if xs.length ≤ sizeLine then .ok (.tup xs) s else .bad
def Pg.box? (P : Pg) (pos : Pos) : Bool := P.boxed.contains (pos.line, pos.col)
def rngT (a b : Int) : List T := (List.range (b - a).toNat).map fun i => T.int (a + (i : Nat))
def rgOk (a b : Int) : Bool := decide (-(2 ^ 62) ≤ a) && (decide (a < 2 ^ 62) && (decide (-(2 ^ 62) ≤ b) && decide (b < 2 ^ 62)))
def rangeP : List T → M (Int × Int)
  | [x] => fun s => match see s x with
    | .int j => if rgOk 0 j then .ok (0, j) s else .bad
    | _ => .bad
  | [x, y] => fun s => match see s x, see s y with
    | .int i, .int j => if rgOk i j then .ok (i, j) s else .bad
    | _, _ => .bad
  | _ => bad
def rangeM (ts : List T) : M (List T) := bnd (rangeP ts) fun r => ret (rngT r.1 r.2)
/-- a call of a built-in by name -/
def isNm (fc : FC) (P : Pg) (f : Str) (n : Str) : Bool := (f == n) && (fc.gl n && (P.glob.lookup n).isNone && (fc.loc n).isNone)
def enumT : Nat → List T → List T
  | _, [] => []
  | i, t :: r => .tup [.int (i : Nat), t] :: enumT (i + 1) r
def zipT : List T → List T → List T
  | a :: r, b :: q => .tup [a, b] :: zipT r q
  | _, _ => []
/-- the items that don't change -/
def fixM (x : T) : M (List T) := fun s => match x with
  | .lst xs => .ok xs s
  | .tup xs => .ok xs s
  | .str z => .ok (z.cps.toList.map fun c => .str (chrS c)) s
  | _ => .bad
/-- what enumerate walks -/
def fixE (x : T) : M (List T) := fun s => match x with
  | .lst xs => .ok xs s
  | .tup xs => .ok xs s
  | _ => .bad
def fix2 (x y : T) : M (List T) := fun s => match x, y with
  | .lst xs, .lst ys => .ok (zipT xs ys) s
  | .tup xs, .tup ys => .ok (zipT xs ys) s
  | _, _ => .bad
def isTup : Expr → Bool
  | .Tuple _ _ _ => true
  | _ => false
def iterM (ev : Expr → En → M T) (P : Pg) (fc : FC) (tg : Expr) (e : Expr) (env : En) : M (List T) := match e with
  | .Call (.Name f _) args [] _ =>
    if args.any isStarred then bad else
    if isNm fc P f "range" then bnd (argsM ev args env) rangeM
    else if isNm fc P f "enumerate" then match args with
      | [a] => if isTup tg then bnd (ev a env) fun x => bnd (fixE x) fun xs => ret (enumT 0 xs) else bad
      | _ => bad
    else if isNm fc P f "zip" then match args with
      | [a, b] => if isTup tg then bnd (ev a env) fun x => bnd (ev b env) fun y => fix2 x y else bad
      | _ => bad
    else bnd (ev e env) fixM
  | _ => bnd (ev e env) fixM
/-! ### targets -/
mutual
def bindR (fc : FC) (s : S) : Expr → T → En → Option En
  | .Name x _, t, env => match fc.loc x with
    | some i => if isLC (fc.raw.names.lookup x) then some (env.set i (some t)) else none
    | none => none
  | .Tuple es _ _, t, env => match see s t with
    | .tup ts => if ts.length = es.length then bindTs fc s es ts env else none
    | _ => none
  | _, _, _ => none
def bindTs (fc : FC) (s : S) : List Expr → List T → En → Option En
  | [], [], env => some env
  | e :: es, t :: ts, env => match bindR fc s e t env with
    | some env' => bindTs fc s es ts env'
    | none => none
  | _, _, _ => none
end
/-- the places of names -/
def nameIx (fc : FC) : Expr → Option Nat
  | .Name x _ => match fc.loc x with
    | some i => if isLC (fc.raw.names.lookup x) then some i else none
    | none => none
  | _ => none
def nameIxs (fc : FC) : List Expr → Option (List Nat)
  | [] => some []
  | e :: es => match nameIx fc e, nameIxs fc es with
    | some i, some is => some (i :: is)
    | _, _ => none
def bindIx : List Nat → List T → En → Option En
  | [], [], env => some env
  | i :: is, t :: ts, env => bindIx is ts (env.set i (some t))
  | _, _, _ => none
def bindTup (is : List Nat) (s : S) (t : T) (env : En) : Option En := match see s t with
  | .tup ts => if ts.length = is.length then bindIx is ts env else none
  | _ => none
def bindT (fc : FC) (s : S) (e : Expr) (t : T) (env : En) : Option En := match e with
  | .Tuple es k p => match nameIxs fc es with
    | some is => bindTup is s t env
    | none => bindR fc s (.Tuple es k p) t env
  | e => bindR fc s e t env
mutual
/-- the places that a target binds -/
def tgIx (fc : FC) : Expr → List Nat
  | .Name x _ => match fc.loc x with
    | some i => [i]
    | none => []
  | .Tuple es _ _ => tgIxs fc es
  | _ => []
def tgIxs (fc : FC) : List Expr → List Nat
  | [] => []
  | e :: es => tgIx fc e ++ tgIxs fc es
end
def wipeE (env : En) : List Nat → En
  | [] => env
  | v :: vs => (wipeE env vs).set v none
/-! ### comprehensions -/
def testsM (ev : Expr → En → M Bool) : List Expr → En → M Bool
  | [], _ => ret true
  | [e], env => ev e env
  | _, _ => bad
def compM (turn : T → M (Option T)) : List T → M (List T)
  | [] => ret []
  | t :: r => bnd (noX (turn t)) fun o => match o with
    | some y => bnd (compM turn r) fun ys => ret (y :: ys)
    | none => compM turn r
/-- a comprehension's own scope, seen from the def's -/
def FC.inner (fc : FC) (scope : Scope) : FC := ⟨fc.N, relS scope fc.sc, scope, fc.dep, none, noL⟩
def ownOf (N : List Str) : List (Str × NameKind) → List (Str × Nat)
  | [] => []
  | (x, k) :: r => match k, ixOf x N with
    | .local, some i => (x, i) :: ownOf N r
    | .cell, some i => (x, i) :: ownOf N r
    | _, _ => ownOf N r
def isFn : ScopeKind → Bool
  | .function => true
  | _ => false
def isCF : Option NameKind → Bool
  | some .cell => true
  | some .free => true
  | _ => false
def isFree : NameKind → Bool
  | .free => true
  | _ => false
/-- the text's checks of a comprehension -/
def blkB (fc : FC) (scope : Scope) (tg : Expr) : Bool :=
  isFn scope.kind && scope.names.all (fun y => decide (scope.names.lookup y.1 = some y.2) && (!isFree y.2 || isCF (fc.sc.names.lookup y.1))) &&
    (tgIx (fc.inner scope) tg).all fun i => ((ownOf fc.N scope.names).map (·.2)).contains i
def isSetE : Expr → Bool
  | .Set _ _ _ => true
  | _ => false
def turnM (fc : FC) (evT : Expr → En → M Bool) (ev : Expr → En → M T) (tg elt : Expr) (ifs : List Expr) (env : En) (t : T) : M (Option T) := fun s => match bindT fc s tg t env with
  | some env' => bnd (testsM evT ifs env') (fun b => if b then bnd (ev elt env') fun y => ret (some y) else ret none) s
  | none => .bad
def lcM (fc : FC) (scope : Scope) (b : Bool) (it : En → M (List T)) (evT : Expr → En → M Bool) (ev : Expr → En → M T) (tg iter elt : Expr) (ifs : List Expr) (env : En) : M T :=
  if blkB fc scope tg && !isSetE iter then bnd (it env) fun ts => if ts.length ≤ sizeLine then
    bnd (compM (turnM (fc.inner scope) evT ev tg elt ifs (wipeE env ((ownOf fc.N scope.names).map (·.2)))) ts) fun ys => boxM b (.lst ys) else bad
  else bad
end G
-- GtS1
namespace G
open PySem L2

/-- what the written part must say -/
def bNames : List Str := ["len", "int", "str", "repr", "list", "tuple", "abs", "max", "min", "sum", "sorted", "all", "any", "bool", "isinstance", "range", "enumerate", "zip", "dict", "ValueError"]
/-- where a def stands -/
def recF (K : PySem.W.Frag) (p : Addr) (n : String) : Option Addr := match PySem.W.recIn K p n with
  | some (.ref g :: _) => some g
  | _ => none
/-- a def of a class may stand in a property's or a classmethod's record -/
def fAt (K : PySem.W.Frag) (p : Str × Option Str) : Addr := match recF K (He.fAd K p) "property" with
  | some g => g
  | none => match recF K (He.fAd K p) "classmethod" with
    | some g => g
    | none => He.fAd K p
def fA (K : PySem.W.Frag) (P : Pg) (i : Nat) : Addr := match P.fns[i]? with
  | some f => fAt K f.at_
  | none => 0
/-- how a def's arguments are bound -/
def BindF (f : FnI) : Prop := match f.star with
  | some pv => ∀ (kV doc pm : Value) (an : Option Addr) (cdv ct : Value) (us rest : List Value), us.length = f.ps.length →
      bindArgs (PySem.W.fnOf f.name f.qual f.params f.body f.scope .none kV doc pm an cdv ct) ⟨us ++ rest, []⟩ = (newTuple rest >>= fun t => pure (f.ps.zip us ++ [(pv, t)]))
  | none => (f.dfl = [] → ∀ (kV doc pm : Value) (an : Option Addr) (cdv ct : Value) (us : List Value), us.length = f.ps.length → bindArgs (PySem.W.fnOf f.name f.qual f.params f.body f.scope .none kV doc pm an cdv ct) ⟨us, []⟩ = pure (f.ps.zip us)) ∧
      ∀ n, n ≤ f.ps.length → f.ps.length ≤ n + f.dfl.length → f.dfl ≠ [] → ∀ (T : Addr) (kV doc pm : Value) (an : Option Addr) (cdv ct : Value) (us its : List Value), us.length = n → its.length = f.dfl.length →
        ∃ k, bindArgs (PySem.W.fnOf f.name f.qual f.params f.body f.scope (.ref T) kV doc pm an cdv ct) ⟨us, []⟩ = seqItems? (.ref T) >>= k ∧ k (some its.toArray) = pure (f.ps.zip (us ++ its.drop (f.dfl.length - (f.ps.length - n))))
/-- how a def's arguments are bound that are given by name -/
def KwF (f : FnI) (n : Nat) (ks : List Str) (out : List Nat) : Prop := f.star = none ∧ n ≤ f.ps.length ∧ out.length = f.ps.length ∧ (out.all fun j => decide (j < n + ks.length)) = true ∧
  (f.dfl = [] → ∀ (kV doc pm : Value) (an : Option Addr) (cdv ct : Value) (us ws : List Value), us.length = n → ws.length = ks.length →
    bindArgs (PySem.W.fnOf f.name f.qual f.params f.body f.scope .none kV doc pm an cdv ct) ⟨us, ks.zip ws⟩ = pure (f.ps.zip (pick out (us ++ ws)))) ∧
  (f.dfl ≠ [] → ∀ (T : Addr) (kV doc pm : Value) (an : Option Addr) (cdv ct : Value) (us ws its : List Value), us.length = n → ws.length = ks.length → its.length = f.dfl.length →
    ∃ k, bindArgs (PySem.W.fnOf f.name f.qual f.params f.body f.scope (.ref T) kV doc pm an cdv ct) ⟨us, ks.zip ws⟩ = seqItems? (.ref T) >>= k ∧ k (some its.toArray) = pure (f.ps.zip (pick out (us ++ ws))))
theorem pick_cons {α : Type} {j : Nat} {out : List Nat} {xs : List α} (h : j < xs.length) : pick (j :: out) xs = xs[j] :: pick out xs := by
  unfold pick
  rw [List.filterMap_cons, List.getElem?_eq_getElem h]
theorem pick_len {α : Type} {xs : List α} : ∀ {out : List Nat} {n : Nat}, (out.all fun j => decide (j < n)) = true → n ≤ xs.length → (pick out xs).length = out.length
  | [], _, _, _ => rfl
  | j :: out, n, h, hn => by
    rw [List.all_cons, Bool.and_eq_true, decide_eq_true_eq] at h
    rw [pick_cons (by omega), List.length_cons, List.length_cons, pick_len h.2 hn]
theorem RpL.pick {K : PySem.W.Frag} {w : Wd} {ts : List T} {vs : List V} (q : RpL K w ts vs) : ∀ out : List Nat, RpL K w (G.pick out ts) (G.pick out vs)
  | [] => RpL.nil
  | j :: out => by
    have hl := q.length
    by_cases h : j < ts.length
    · rw [pick_cons h, pick_cons (by omega)]
      obtain ⟨v, h1, h2⟩ := q.get (List.getElem?_eq_getElem h)
      rw [List.getElem?_eq_getElem (by omega)] at h1
      cases h1
      exact RpL.cons h2 (RpL.pick q out)
    · have e1 : ts[j]? = none := List.getElem?_eq_none (by omega)
      have e2 : vs[j]? = none := List.getElem?_eq_none (by omega)
      unfold G.pick
      rw [List.filterMap_cons, List.filterMap_cons, e1, e2]
      exact RpL.pick q out
theorem vals_pick {vs : List V} {us : List Value} (q : Vals vs us) : ∀ out : List Nat, Vals (G.pick out vs) (G.pick out us)
  | [] => .nil
  | j :: out => by
    have hl := q.length
    by_cases h : j < vs.length
    · rw [pick_cons h, pick_cons (by omega)]
      obtain ⟨v, h1, h2⟩ := q.get (List.getElem?_eq_getElem h)
      rw [List.getElem?_eq_getElem (by omega)] at h1
      cases h1
      exact .cons h2 (vals_pick q out)
    · have e1 : vs[j]? = none := List.getElem?_eq_none (by omega)
      have e2 : us[j]? = none := List.getElem?_eq_none (by omega)
      unfold G.pick
      rw [List.filterMap_cons, List.filterMap_cons, e1, e2]
      exact vals_pick q out
/-- the body of an error's __init__: each parameter kept under its name -/
def asgN : Stmt → Option (Str × Str × Str)
  | .Assign [.Attribute (.Name a _) f _] (.Name x _) _ => some (a, f, x)
  | _ => none
def initB : List Str → List Stmt → Bool
  | [], [] => true
  | n :: ns, st :: r => decide (asgN st = some (("self" : Str), n, n)) && initB ns r
  | _, _ => false
/-- an own ==: the right one's class is no subclass -/
def firstOk (P : Pg) (C : Str) : Kd → Bool
  | .b n => bKinds.contains n
  | .c D => D == C || (match P.cls? D with
    | some d => !d.sup.contains C
    | none => false)
def eqOk (K : PySem.W.Frag) (P : Pg) : Prop := ∀ C c i, P.cls? C = some c → c.err = none → c.mem.lookup ("__eq__" : Str) = some (.fn i) →
  PySem.W.findIn K (.ref (He.ga K C)) "__ne__" = some (some (.builtin "object.__ne__")) ∧ PySem.W.mroIn K (He.ga K C) (.type "object") = some true ∧ ∀ k, firstOk P C k = true → PySem.W.notFirst K (He.ga K C) (kdV K k) = true
/-- what the base says of tables -/
def LamB (K : PySem.W.Frag) (mg : Str → Option Value) (base : Heap) : Prop := ∀ c o p q, K.lookup c = some o → tabOf (c, o) = some (p, q) → LamX.TabB base mg c p
/-- what an own operator's class must say -/
structure BinF (K : PySem.W.Frag) (C : Addr) (nm : String) : Prop where
  first : PySem.W.selfFirst K C = true
  refl : ∃ rc, PySem.W.findIn K (.ref C) (PySem.dunderR nm) = some rc ∧ (rc = none ∨ ∃ g : Addr, rc = some (.ref g))
  kinds : ∀ n, bKinds.contains n = true → (∃ fo, PySem.W.findIn K (.type n) (PySem.dunder nm) = some fo) ∧ (∃ ro, PySem.W.findIn K (.type n) (PySem.dunderR nm) = some ro) ∧ PySem.W.subIn K (.type n) (.ref C) = some false
  noint : PySem.W.subIn K (.ref C) (.type "int") = some false
def opNames : List String := ["add", "sub", "mul", "truediv", "or", "and"]
def bopOk (K : PySem.W.Frag) (P : Pg) : Prop := ∀ C c i nm, nm ∈ opNames → P.cls? C = some c → c.err = none → c.mem.lookup (PySem.dunder nm) = some (.fn i) → BinF K (He.ga K C) nm
def seqOk (K : PySem.W.Frag) (P : Pg) : Prop := ∀ C c i, P.cls? C = some c → c.err = none → c.mem.lookup ("__getitem__" : Str) = some (.fn i) → PySem.W.noSeq K (He.ga K C) = true
structure KOk (P : Pg) (K : PySem.W.Frag) (mg : Str → Option Value) : Prop where
  cst : ∀ x t, P.glob.lookup x = some (.cst t) → ∃ v u, mg x = some u ∧ RelV v u ∧ ∀ w, Rp K w t v
  fn : ∀ x i, P.glob.lookup x = some (.fn i) → mg x = some (.ref (He.ga K x)) ∧ PySem.W.keepIn K (.ref (He.ga K x)) = true ∧ fA K P i = He.ga K x
  cls : ∀ x c, P.glob.lookup x = some (.cls c) → mg x = some (.ref (He.ga K x))
  no : ∀ x, x ∈ bNames → P.glob.lookup x = none → mg x = none
  isok : isOk K P
  ca : clsAll K P
  sys : sysB K = true
  cl : ∀ C c, P.cls? C = some c → c.err = none → Cls K (He.ga K C)
  xf : ∀ C c, P.cls? C = some c → c.err.isSome = true → XfC K (He.ga K C)
  noat : ∀ C c f, P.cls? C = some c → f ∈ c.flds → NoAttr K (He.ga K C) f
  meth : ∀ C c m i, P.cls? C = some c → c.err = none → c.mem.lookup m = some (.fn i) → Meth K (He.ga K C) m (fA K P i)
  prop : ∀ C c m i, P.cls? C = some c → c.err = none → c.mem.lookup m = some (.prop i) → ∃ p, PropOf K (He.ga K C) m p (fA K P i)
  con : ∀ C c m t, P.cls? C = some c → c.err = none → c.mem.lookup m = some (.con t) → ∃ v u, Con K (He.ga K C) m v u ∧ ∀ w, Rp K w t v
  cval : ∀ C c m t, P.cls? C = some c → c.mem.lookup m = some (.con t) → ∃ mc v u, ClX.CRead K (He.ga K C) mc ∧ ClX.CVal K (He.ga K C) mc m v u ∧ ∀ w, Rp K w t v
  cm : ∀ C c m i, P.cls? C = some c → c.mem.lookup m = some (.cm i) → ∃ mc p, ClX.CRead K (He.ga K C) mc ∧ ClX.CMet K (He.ga K C) mc m p (fA K P i)
  fnD : ∀ i f, P.fns[i]? = some f → (∃ fd, FunD K f.name f.qual f.params f.body f.scope (f.dfl.map (He.Dv.v K)) [] (fA K P i) fd) ∧ FnScope f.N f.allps f.scope ∧ BindF f
  err : ∀ C c ns i, P.cls? C = some c → c.err = some ns → c.init = some i → OexC K (He.ga K C) ∧ PySem.W.findIn K (.ref (He.ga K C)) "__init__" = some (some (.ref (fA K P i))) ∧ PySem.W.typeIn K (.ref (fA K P i)) = some (.type "function") ∧
    ∃ f, P.fns[i]? = some f ∧ f.ps = ("self" : Str) :: ns ∧ (f.star = none ∧ f.dfl = []) ∧ f.N = f.ps ∧ initB ns f.body = true ∧ (∀ n ∈ f.ps, f.scope.names.lookup n = some .local ∧ okName n = true) ∧ ∀ n ∈ ns, n ∈ c.flds
  exm : ∀ C c x cx, P.cls? C = some c → P.cls? x = some cx → c.err.isSome = true → cx.err.isSome = true → PySem.W.exmOne K (.ref (He.ga K C)) (.ref (He.ga K x)) = some (c.sup.contains x)
  mke : ∀ C c i, P.cls? C = some c → c.err = none → c.init = some i → Mk K (He.ga K C) (fA K P i)
  own : eqOk K P
  bop : bopOk K P
  sq : seqOk K P
  kw : ∀ e, e ∈ P.kws → ∃ f, P.fns[e.i]? = some f ∧ KwF f e.n e.ks e.out
  tabN : ((tabs K).map (·.1)).Nodup
  tabC : ∀ (cdv : Value) (q : Str), PySem.W.codeIn K cdv q = true → ∃ c o p, cdv = .ref c ∧ K.lookup c = some o ∧ tabOf (c, o) = some (p, q ++ ".<locals>." ++ "<lambda>")
structure OkX (P : Pg) (fc : FC) (X : Cx) (W : WX) : Prop where
  N : X.N = fc.N
  sc : X.env.scope = fc.sc
  nd : fc.N.Nodup
  asg : ∀ x, isLC (fc.raw.names.lookup x) = true → Loc X.env.scope x ∧ (X.fn x = true ∨ X.env.scope.names.lookup x = some .local)
  calm : X.calm = true
  tk : Takes X W
  g : X.A.guards = some []
  u : X.A.units + 64 < cLine
  K : KOk P X.K X.mg
  rm : Room fc.dep X.A
  /-- a lambda handed in is called -/
  th : ∀ (x : Str) (j : Nat) (p1 p2 : Pos), fc.loc x = some j → ∀ pn xe W', Takes (X.tr pn xe) W' → PE (X.tr pn xe) (.Call (.Name x p1) [] [] p2) (liftE X.K W' fun env => bnd (getV env j) (thC fc.th))
  /-- a lambda is handed to a def -/
  lm : ∀ (x : Str) (i : Nat) (params : Arguments) (body : Expr) (scope : Scope) (p lpos pos : Pos), fc.gl x = true → P.glob.lookup x = some (.fn i) → noPar params = true → LamX.lamSB fc.sc scope = true → thOk P i = true →
    ∀ pn xe W', Takes (X.tr pn xe) W' → PE (X.tr pn xe) (.Call (.Name x p) [.Lambda params body scope lpos] [] pos) (liftE X.K W' (fc.cl i body scope))
theorem isVis_ok {k : Option NameKind} (h : isVis k = true) : k = some .local ∨ k = some .cell ∨ k = some .free := by
  cases k with
  | none => cases h
  | some k => cases k <;> first | exact .inl rfl | exact .inr (.inl rfl) | exact .inr (.inr rfl) | cases h
theorem isGl_ok {k : Option NameKind} (h : isGl k = true) : k = some .globalImplicit := by
  cases k with
  | none => cases h
  | some k => cases k <;> first | rfl | cases h
theorem isLo_ok {k : Option NameKind} (h : isLo k = true) : k = some .local := by
  cases k with
  | none => cases h
  | some k => cases k <;> first | rfl | cases h
theorem okName_ok {x : Str} (h : okName x = true) : (x == ("__debug__" : Str)) = false ∧ (x == ("__classdict__" : Str)) = false := by
  unfold okName at h
  simp only [Bool.and_eq_true, Bool.not_eq_true'] at h
  exact h
theorem ixOf_get {x : Str} : ∀ {N : List Str} {i : Nat}, ixOf x N = some i → N[i]? = some x
  | [], _, h => by cases h
  | y :: r, i, h => by
    unfold ixOf at h
    split at h
    · rename_i e
      cases h
      rw [e]; rfl
    · cases e : ixOf x r with
      | none => rw [e] at h; cases h
      | some j =>
        rw [e] at h
        cases h
        have z := ixOf_get e
        simpa using z
section
variable {P : Pg} {fc : FC} {X : Cx} {W : WX}
theorem OkX.loc (o : OkX P fc X W) {x : Str} {i : Nat} (h : fc.loc x = some i) : X.N[i]? = some x ∧ Vis X.env.scope x ∧ (x == ("__debug__" : Str)) = false ∧ (x == ("__classdict__" : Str)) = false := by
  unfold FC.loc at h
  split at h
  · rename_i e
    simp only [Bool.and_eq_true] at e
    obtain ⟨h1, h2⟩ := okName_ok e.2
    refine ⟨by rw [o.N]; exact ixOf_get h, ?_, h1, h2⟩
    have z := isVis_ok e.1
    unfold Vis
    rw [o.sc]
    exact z
  · cases h
theorem OkX.gl (o : OkX P fc X W) {x : Str} (h : fc.gl x = true) : Gl X x ∧ (x == ("__debug__" : Str)) = false := by
  unfold FC.gl at h
  simp only [Bool.and_eq_true] at h
  refine ⟨?_, (okName_ok h.2).1⟩
  show X.env.scope.names.lookup x = _
  rw [o.sc]
  exact isGl_ok h.1
theorem ty_boot : ∀ p ∈ tyNames, bootBuiltins p.1 = some (.type p.2) ∧ p.1 ≠ "__name__" ∧ p.1 ∈ bNames := by
  have h : (tyNames.all fun p => decide (bootBuiltins p.1 = some (.type p.2)) && (!decide (p.1 = "__name__") && decide (p.1 ∈ bNames))) = true := by decide +kernel
  intro p hp
  have q := List.all_eq_true.mp h p hp
  simp only [Bool.and_eq_true, decide_eq_true_eq, Bool.not_eq_true', decide_eq_false_iff_not] at q
  exact ⟨q.1, q.2.1, q.2.2⟩
theorem mem_of_lk {α : Type} {x : Str} {v : α} : ∀ {l : List (Str × α)}, l.lookup x = some v → (x, v) ∈ l
  | [], h => by cases h
  | (y, u) :: r, h => by
    rw [List.lookup_cons] at h
    cases e : x == y with
    | true =>
      rw [e] at h
      cases h
      rw [eq_of_beq e]
      exact List.mem_cons_self
    | false =>
      rw [e] at h
      exact List.mem_cons_of_mem _ (mem_of_lk h)
theorem le_bad {e : Expr} : PE X e (liftE X.K W fun _ => bad) := ⟨fun pins s σ H Q I ⟨w, st, env, r, er, fin⟩ => fin.elim⟩
theorem lt_bad {e : Expr} : PT X e (liftT X.K W fun _ => bad) := ⟨fun pins s σ H Q I ⟨w, st, env, r, er, fin⟩ => fin.elim⟩
theorem lE {e : Expr} {f g : En → M T} (h : PE X e (liftE X.K W f)) (hf : g = f) : PE X e (liftE X.K W g) := by rw [hf]; exact h
theorem le_name (o : OkX P fc X W) {x : Str} {pos : Pos} : PE X (.Name x pos) (liftE X.K W (nameM P fc x)) := by
  cases e : fc.loc x with
  | some i =>
    obtain ⟨h1, h2, h3, h4⟩ := o.loc e
    exact lE (le_var (pe_var h1 h2 h3 h4)) (funext fun env => by unfold nameM; rw [e])
  | none =>
    cases e2 : fc.gl x with
    | false => exact lE le_bad (funext fun env => by unfold nameM; rw [e, e2]; rfl)
    | true =>
      obtain ⟨hg, hd⟩ := o.gl e2
      cases e3 : P.glob.lookup x with
      | some g =>
        refine lE (f := fun _ => ret (gvT x g)) ?_ (funext fun env => by unfold nameM; rw [e, e2, e3]; rfl)
        cases g with
        | cst t =>
          obtain ⟨v, u, hm, rv, hr⟩ := o.K.cst x t e3
          exact le_const (pe_glob hg hm rv hd) hr
        | fn i => exact le_const (pe_glob (v := .ref (He.ga X.K x)) hg (o.K.fn x i e3).1 rfl hd) fun w => rfl
        | cls c => exact le_const (pe_glob (v := .ref (He.ga X.K x)) hg (o.K.cls x c e3) rfl hd) fun w => rfl
      | none =>
        cases e4 : tyNames.lookup x with
        | none => exact lE le_bad (funext fun env => by unfold nameM; rw [e, e2, e3, e4]; rfl)
        | some n =>
          refine lE (f := fun _ => ret (.ty n)) ?_ (funext fun env => by unfold nameM; rw [e, e2, e3, e4]; rfl)
          obtain ⟨b1, b2, b3⟩ := ty_boot _ (mem_of_lk e4)
          exact le_const (pe_bltn (v := .ty n) hg (o.K.no x b3 e3) b1 rfl b2 hd) fun w => rfl
theorem le_constant {c : Const} {j : Nat} {pos : Pos} : PE X (.Constant c j pos) (liftE X.K W fun _ => constM c) := by
  cases c with
  | int i => exact le_const pe_int fun w => rfl
  | bool b => exact le_const pe_bl fun w => rfl
  | str x => exact le_const pe_str fun w => rfl
  | none => exact le_const pe_non fun w => rfl
  | _ => exact le_bad

/-! ### argument lists -/
theorem star_not {e : Expr} (h : isStarred e = false) (es : List Expr) (env : PySem.Env) : starEach (e :: es) env = (false, eval e env) :: starEach es env := by
  cases e <;> first | rfl | cases h
theorem itemsA_ok {w : Wd} {st : S} {H : Hp} {a : T} {v : V} {Q : List T → S → Wd → Hp → Prop} {E : XK} (r : SR X.K w st H) (ra : Rp X.K w a v) (fin : Fi X.K w (itemsM a st) Q E) :
    ∃ p xs ts, v = .ref p ∧ (SqT X.K H p xs ∨ SqL X.K H p xs) ∧ RpL X.K w ts xs ∧ Q ts st w H := by
  unfold itemsM at fin
  cases e : items st a with
  | none => rw [e] at fin; exact fin.elim
  | some ts =>
    rw [e] at fin
    obtain ⟨p, xs, ev, h, q⟩ := items_ok r ra e
    refine ⟨p, xs, ts, ev, ?_, q, Fi.ret fin r⟩
    rcases h with ⟨h, _⟩ | ⟨h, _⟩
    · exact .inr (SqL.of h)
    · exact .inl h
theorem la_args {ev : Expr → En → M T} (h : ∀ e, PE X e (liftE X.K W (ev e))) : ∀ es, PA X es (liftA X.K W (argsM ev es))
  | [] => PA.imp pa_nil fun σ H Q ⟨w, st, env, r, er, fin⟩ => Fi.ret fin r [] rfl
  | e :: es => by
    cases hs : isStarred e with
    | false =>
      have q : argsM ev (e :: es) = fun env => bnd (ev e env) fun x => bnd (argsM ev es env) fun xs => ret (x :: xs) := by
        funext env
        cases e <;> first | rfl | cases hs
      rw [q]
      refine PA.imp (pa_cons (h e) (la_args h es) (star_not hs es _)) fun σ H Q ⟨w, st, env, r, er, fin⟩ => ?_
      refine ⟨w, st, env, r, er, fin.bind fun tx s1 w1 H1 x1 r1 fin1 vx rx => ?_⟩
      exact ⟨w1, s1, env, r1, er.mono x1, fin1.bind fun ts s2 w2 H2 x2 r2 fin2 vs rs => Fi.ret fin2 r2 _ ⟨vx, vs, rfl, rx.mono x2, rs⟩⟩
    | true =>
      cases e with
      | Starred e p =>
        refine PA.imp (StX.pa_star (h e) (la_args h es) rfl) fun σ H Q ⟨w, st, env, r, er, fin⟩ => ?_
        refine ⟨w, st, env, r, er, fin.bind fun tx s1 w1 H1 x1 r1 fin1 vx rx => ?_⟩
        have fin1' := fin1.bind (P1 := fun ts s2 w2 H2 => w2 = w1 ∧ s2 = s1 ∧ H2 = H1 ∧ True) (m := itemsM tx)
        unfold bnd at fin1
        cases e1 : itemsM tx s1 with
        | bad => rw [e1] at fin1; exact fin1.elim
        | exc C ns vs s2 =>
          unfold itemsM at e1
          split at e1 <;> cases e1
        | ok xs s2 =>
          rw [e1] at fin1
          have hs2 : s2 = s1 := by
            unfold itemsM at e1
            split at e1 <;> cases e1
            rfl
          subst hs2
          obtain ⟨p, vs, ts, e9, hp, q, qq⟩ := itemsA_ok (Q := fun ts _ _ _ => ts = xs) (E := fun _ _ _ => False) r1 rx (by rw [e1]; exact fun _ _ _ _ => rfl)
          subst qq
          refine ⟨p, vs, e9, hp, w1, s2, env, r1, er.mono x1, ?_⟩
          have fin1 : Fi X.K w1 (bnd (argsM ev es env) (fun ys => ret (ts ++ ys)) s2) (PL X.K Q) (fun c d H' => W c d σ H') := fin1
          exact fin1.bind fun us s3 w3 H3 x3 r3 fin3 ws rs => Fi.ret fin3 r3 _ ((q.mono x3).append rs)
      | _ => cases hs
theorem plain_any {es : List Expr} (h : es.any isStarred = false) (env : PySem.Env) (pos : Pos) : (backTo pos (starEach es env)).any (·.1) = false := by
  induction es with
  | nil => rfl
  | cons e r ih =>
    rw [List.any_cons, Bool.or_eq_false_iff] at h
    rw [star_not h.1]
    exact ih h.2
theorem plain_all {es : List Expr} (h : es.any isStarred = false) (env : PySem.Env) (pos : Pos) : (backTo pos (starEach es env)).all (fun x => !x.1) = true := by
  induction es with
  | nil => rfl
  | cons e r ih =>
    rw [List.any_cons, Bool.or_eq_false_iff] at h
    rw [star_not h.1]
    exact ih h.2
theorem callChk_of {e : Expr} {es : List Expr} (h : (e :: es).any isStarred = false) (hl : (e :: es).length < 30) (env : PySem.Env) (pos : Pos) : callChk env e es pos := by
  have h' := h
  rw [List.any_cons, Bool.or_eq_false_iff] at h'
  refine ⟨?_, star_not h'.1 es env, plain_any h'.2 env pos⟩
  rw [plain_all h]
  show (true && true && decide ((e :: es).length + 0 + 0 < 30)) = true
  simpa using hl
/-! ### lists, tuples -/
theorem new_box {w1 : Wd} {s1 : S} {H1 : Hp} {ts : List T} {vs : List V} {Q : VK} {E : XK} {b : Bool} (fin1 : Fi X.K w1 (boxM b (.lst ts) s1) (PQ X.K Q) E) (r1 : SR X.K w1 s1 H1) (rs : RpL X.K w1 ts vs) : ∀ p, H1 p = none → Q (.ref p) (upd H1 p (.lst vs)) := by
  cases b with
  | false => exact new_lst fin1 r1 rs
  | true =>
    intro p hp
    obtain ⟨ex, r'⟩ := r1.new (o := .lst ts) (ho := .lst vs) hp fun w' x' => ⟨vs, upd_same, rs.mono x'⟩
    refine fin1 _ _ ex r' _ ⟨?_, ?_⟩
    · show s1.next < w1.b + 1
      rw [r1.b]; exact Nat.lt_succ_self _
    · show V.ref p = .ref (if s1.next = s1.next then p else w1.r s1.next)
      rw [if_pos rfl]
theorem le_lst {es : List Expr} {fa : En → M (List T)} {pos : Pos} {b : Bool} (ha : PA X es (liftA X.K W fa)) : PE X (.List es pos) (liftE X.K W fun env => bnd (fa env) fun xs => lstM b xs) :=
  PE.imp (pe_lst ha) fun σ H Q ⟨w, st, env, r, er, fin⟩ => ⟨w, st, env, r, er, fin.bind fun ts s1 w1 H1 x1 r1 fin1 vs rs => by
    unfold lstM at fin1
    split at fin1
    · rename_i hz
      exact ⟨by rw [← rs.length]; exact hz, new_box fin1 r1 rs⟩
    · exact fin1.elim⟩
theorem le_tup {es : List Expr} {fa : En → M (List T)} {k : Nat} {pos : Pos} (ha : PA X es (liftA X.K W fa)) : PE X (.Tuple es k pos) (liftE X.K W fun env => bnd (fa env) fun xs => tupM xs) :=
  PE.imp (pe_tup ha) fun σ H Q ⟨w, st, env, r, er, fin⟩ => ⟨w, st, env, r, er, fin.bind fun ts s1 w1 H1 x1 r1 fin1 vs rs => by
    unfold tupM at fin1
    split at fin1
    · rename_i hz
      exact ⟨by rw [← rs.length]; exact hz, new_tup fin1 r1 rs⟩
    · exact fin1.elim⟩
/-! ### and, or, not, comparisons, if -/
theorem le_boolE {op : BoolOp} {ev : Expr → En → M T} {pos : Pos} (h : ∀ e, PE X e (liftE X.K W (ev e))) : ∀ es, PE X (.BoolOp op es pos) (liftE X.K W (boolE ev op es))
  | [] => le_bad
  | [e] => pe_one (h e)
  | e :: e2 :: r => by
    have ih := le_boolE (op := op) (pos := pos) h (e2 :: r)
    have key : ∀ (isA : Bool), isA = isAnd op → ∀ σ H Q, liftE X.K W (boolE ev op (e :: e2 :: r)) σ H Q → liftE X.K W (ev e) σ H fun x H1 => ∃ k, TruV X.K x H1 k ∧ if k = isA then liftE X.K W (boolE ev op (e2 :: r)) σ H1 Q else Q x H1 := by
      rintro isA ha σ H Q ⟨w, st, env, r0, er, fin⟩
      refine ⟨w, st, env, r0, er, Fi.bind (k := fun x => bnd (noX (truth x)) fun b => if b = isAnd op then boolE ev op (e2 :: r) env else ret x) fin fun tx s1 w1 H1 x1 r1 fin1 vx rx => ?_⟩
      have f2 := Fi.bind (m := noX (truth tx)) (P1 := fun b s2 w2 H2 => SR X.K w2 s2 H2 → Ext w1 w2 → if b = isA then liftE X.K W (boolE ev op (e2 :: r)) σ H2 Q else Q vx H2) fin1 fun b s2 w2 H2 x2 r2 fin2 _ _ => by
        rw [ha]
        split
        · rename_i hb
          rw [if_pos hb] at fin2
          exact ⟨w2, s2, env, r2, (er.mono x1).mono x2, fin2⟩
        · rename_i hb
          rw [if_neg hb] at fin2
          exact Fi.ret fin2 r2 vx (rx.mono x2)
      obtain ⟨k, tk, q⟩ := tru_T r1 rx (E := fun _ _ _ => False) f2.noX
      exact ⟨k, tk, q r1 (Ext.refl _)⟩
    cases op with
    | And =>
      refine PE.imp (pe_andT (h e) ih) fun σ H Q q => ?_
      have z := key true rfl σ H Q q
      exact z
    | Or =>
      refine PE.imp (pe_orT (h e) ih) fun σ H Q q => ?_
      obtain ⟨w, st, env, r0, er, fin⟩ := key false rfl σ H Q q
      refine ⟨w, st, env, r0, er, Fi.mono (Ext.refl w) fin (fun a s1 w1 H1 _ _ z v rv => ?_) fun _ _ _ z => z⟩
      obtain ⟨k, tk, z⟩ := z v rv
      refine ⟨k, tk, ?_⟩
      cases k with
      | true => exact z
      | false => exact z
theorem lw_boolT {op : BoolOp} {ev : Expr → En → M Bool} {pos : Pos} (h : ∀ e, PT X e (liftT X.K W (ev e))) : ∀ es, PW X (.BoolOp op es pos) (liftT X.K W (boolT ev op es))
  | [] => ⟨fun wh pins s σ H Q I ⟨w, st, env, r, er, fin⟩ => fin.elim⟩
  | [e] => by
    cases op with
    | And => exact pw_and1 (h e)
    | Or => exact pw_or1 (h e)
  | e :: e2 :: r => by
    have ih := lw_boolT (op := op) (pos := pos) h (e2 :: r)
    have key : ∀ σ H Q, liftT X.K W (boolT ev op (e :: e2 :: r)) σ H Q → liftT X.K W (ev e) σ H fun b H1 => if b = isAnd op then liftT X.K W (boolT ev op (e2 :: r)) σ H1 Q else Q b H1 := by
      rintro σ H Q ⟨w, st, env, r0, er, fin⟩
      refine ⟨w, st, env, r0, er, Fi.bind (k := fun b => if b = isAnd op then boolT ev op (e2 :: r) env else ret b) fin fun b s1 w1 H1 x1 r1 fin1 => ?_⟩
      show if b = isAnd op then liftT X.K W (boolT ev op (e2 :: r)) σ H1 Q else Q b H1
      split
      · rename_i hb
        rw [if_pos hb] at fin1
        exact ⟨w1, s1, env, r1, er.mono x1, fin1⟩
      · rename_i hb
        rw [if_neg hb] at fin1
        exact Fi.ret fin1 r1
    cases op with
    | And =>
      refine PW.imp (pw_and (h e) ih) fun σ H Q q => ?_
      obtain ⟨w, st, env, r0, er, fin⟩ := key σ H Q q
      refine ⟨w, st, env, r0, er, Fi.mono (Ext.refl w) fin (fun a s1 w1 H1 _ _ z => ?_) fun _ _ _ z => z⟩
      cases a with
      | true => exact z
      | false => exact z
    | Or =>
      refine PW.imp (pw_or (h e) ih) fun σ H Q q => ?_
      obtain ⟨w, st, env, r0, er, fin⟩ := key σ H Q q
      refine ⟨w, st, env, r0, er, Fi.mono (Ext.refl w) fin (fun a s1 w1 H1 _ _ z => ?_) fun _ _ _ z => z⟩
      cases a with
      | true => exact z
      | false => exact z
theorem le_not {a : Expr} {fa : En → M T} {pos : Pos} (h : PE X a (liftE X.K W fa)) : PE X (.UnaryOp .Not a pos) (liftE X.K W fun env => bnd (fa env) fun x => bnd (noX (truth x)) fun b => ret (.bl (!b))) :=
  PE.imp (pe_notT h) fun σ H Q ⟨w, st, env, r, er, fin⟩ => ⟨w, st, env, r, er, fin.bind fun tx s1 w1 H1 x1 r1 fin1 vx rx => by
    have f2 := Fi.bind (m := noX (truth tx)) (P1 := fun b s2 w2 H2 => SR X.K w2 s2 H2 → Q (.bl (!b)) H2) fin1 fun b s2 w2 H2 x2 r2 fin2 _ => Fi.ret fin2 r2 _ rfl
    obtain ⟨k, tk, q⟩ := tru_T r1 rx (E := fun _ _ _ => False) f2.noX
    exact ⟨k, tk, q r1⟩⟩
theorem lt_not {a : Expr} {fa : En → M Bool} {pos : Pos} (h : PT X a (liftT X.K W fa)) : PT X (.UnaryOp .Not a pos) (liftT X.K W fun env => bnd (fa env) fun b => ret (!b)) :=
  PT.imp (pt_not h) fun σ H Q ⟨w, st, env, r, er, fin⟩ => ⟨w, st, env, r, er, fin.bind fun b s1 w1 H1 x1 r1 fin1 => Fi.ret (E := fun c d H' => W c d σ H') fin1 r1⟩
theorem lt_truth {a : Expr} {fa : En → M T} (h : PE X a (liftE X.K W fa)) (he : ∀ whole, isTrue a X.env whole = (do let v ← whole; standAt a.pos; holding [v] (truthy v))) : PT X a (liftT X.K W fun env => bnd (fa env) fun x => noX (truth x)) :=
  PT.imp (pt_truth h he) fun σ H Q ⟨w, st, env, r, er, fin⟩ => ⟨w, st, env, r, er, fin.bind fun tx s1 w1 H1 x1 r1 fin1 vx rx => by
    obtain ⟨k, tk, q⟩ := tru_T r1 rx (E := fun _ _ _ => False) fin1.noX
    exact ⟨k, tk, q⟩⟩
theorem le_if {c a b : Expr} {fc : En → M Bool} {fa fb : En → M T} {pos : Pos} (hc : PT X c (liftT X.K W fc)) (ha : PE X a (liftE X.K W fa)) (hb : PE X b (liftE X.K W fb)) :
    PE X (.IfExp c a b pos) (liftE X.K W fun env => bnd (fc env) fun t => if t then fa env else fb env) :=
  PE.imp (pe_ifExp hc ha hb) fun σ H Q ⟨w, st, env, r, er, fin⟩ => ⟨w, st, env, r, er, fin.bind fun t s1 w1 H1 x1 r1 fin1 => by
    cases t with
    | true => exact ⟨w1, s1, env, r1, er.mono x1, fin1⟩
    | false => exact ⟨w1, s1, env, r1, er.mono x1, fin1⟩⟩
theorem lt_if {c a b : Expr} {fc fa fb : En → M Bool} {pos : Pos} (hc : PT X c (liftT X.K W fc)) (ha : PT X a (liftT X.K W fa)) (hb : PT X b (liftT X.K W fb)) :
    PT X (.IfExp c a b pos) (liftT X.K W fun env => bnd (fc env) fun t => if t then fa env else fb env) := by
  refine ⟨fun pins s σ H Q I ⟨w, st, env, r, er, fin⟩ => ?_⟩
  have h := hc.run pins s σ H (fun t H1 => if t = true then liftT X.K W fa σ H1 Q else liftT X.K W fb σ H1 Q) I ⟨w, st, env, r, er, fin.bind fun t s1 w1 H1 x1 r1 fin1 => by
    cases t with
    | true => exact ⟨w1, s1, env, r1, er.mono x1, fin1⟩
    | false => exact ⟨w1, s1, env, r1, er.mono x1, fin1⟩⟩
  show wpAny (model X.prog X.w) X.A (do if ← isTrue c X.env (eval c X.env) then isTrue a X.env (eval a X.env) else isTrue b X.env (eval b X.env)) _ _ _
  refine wpAny_bind (thn h fun d s1 ⟨H1, I1, q1⟩ => ?_)
  cases d with
  | true => exact ha.run pins s1 σ H1 Q I1 q1
  | false => exact hb.run pins s1 σ H1 Q I1 q1
end
end G
-- GtS2
namespace G
open PySem L2
section
variable {P : Pg} {fc : FC} {X : Cx} {W : WX}
/-! ### comparisons -/
theorem cmpE1 {ev : Expr → En → M T} {opc : CmpOp → T → T → M T} {a b : Expr} {op : CmpOp} (env : En) : cmpE ev opc a [op] [b] env = if behindInMarks op b then bad else bnd (ev a env) fun x => bnd (ev b env) fun y => noX (opc op x y) := rfl
theorem cmpE2 {ev : Expr → En → M T} {opc : CmpOp → T → T → M T} {a b c : Expr} {op op2 : CmpOp} (env : En) : cmpE ev opc a [op, op2] [b, c] env = if behindInMarks op2 c then bad else
      bnd (ev a env) fun x => bnd (ev b env) fun y => bnd (noX (opc op x y)) fun r => bnd (asBool r) fun k => if k then bnd (ev c env) fun z => noX (opc op2 y z) else ret (.bl false) := rfl
theorem asBool_ok {w : Wd} {st : S} {H : Hp} {t : T} {v : V} {Q : Bool → S → Wd → Hp → Prop} {E : XK} (r : SR X.K w st H) (rt : Rp X.K w t v) (fin : Fi X.K w (asBool t st) Q E) : ∃ k, v = .bl k ∧ Q k st w H := by
  cases t with
  | bl b => exact ⟨b, rt, Fi.ret fin r⟩
  | _ => exact fin.elim
theorem liftOp_of {op : T → T → M T} {w : Wd} {st : S} {H : Hp} {tx ty : T} {x y : V} {Q : VK} {E : XK} (r : SR X.K w st H) (rx : Rp X.K w tx x) (ry : Rp X.K w ty y) (fin : Fi X.K w (noX (op tx ty) st) (PQ X.K Q) E) : liftOp X.K op x y H Q :=
  ⟨w, st, tx, ty, r, rx, ry, fin.noX⟩
theorem le_cmp {ev : Expr → En → M T} {opc : CmpOp → T → T → M T} {a : Expr} {pos : Pos} (ho : ∀ op, OpR X (compareOp op) (liftOp X.K (opc op))) (h : ∀ e, PE X e (liftE X.K W (ev e))) : ∀ ops bs, PE X (.Compare a ops bs pos) (liftE X.K W (cmpE ev opc a ops bs))
  | [op], [b] => by
    cases hm : behindInMarks op b with
    | true => exact lE le_bad (funext fun env => by rw [cmpE1, if_pos hm])
    | false =>
      refine lE (f := fun env => bnd (ev a env) fun x => bnd (ev b env) fun y => noX (opc op x y)) ?_ (funext fun env => by rw [cmpE1, if_neg (by rw [hm]; exact Bool.false_ne_true)])
      exact PE.imp (pe_cmpR (ho op) (h a) (h b) hm) fun σ H Q ⟨w, st, env, r, er, fin⟩ => ⟨w, st, env, r, er, fin.bind fun tx s1 w1 H1 x1 r1 fin1 vx rx =>
        ⟨w1, s1, env, r1, er.mono x1, fin1.bind fun ty s2 w2 H2 x2 r2 fin2 vy ry => liftOp_of r2 (rx.mono x2) ry fin2⟩⟩
  | [op, op2], [b, c] => by
    cases hm : behindInMarks op2 c with
    | true => exact lE le_bad (funext fun env => by rw [cmpE2, if_pos hm])
    | false =>
      refine lE (f := fun env => bnd (ev a env) fun x => bnd (ev b env) fun y => bnd (noX (opc op x y)) fun r => bnd (asBool r) fun k => if k then bnd (ev c env) fun z => noX (opc op2 y z) else ret (.bl false)) ?_ (funext fun env => by rw [cmpE2, if_neg (by rw [hm]; exact Bool.false_ne_true)])
      refine PE.imp (pe_chain (ho op) (ho op2) (h a) (h b) (h c) hm) fun σ H Q ⟨w, st, env, r, er, fin⟩ => ⟨w, st, env, r, er, fin.bind fun tx s1 w1 H1 x1 r1 fin1 vx rx =>
        ⟨w1, s1, env, r1, er.mono x1, fin1.bind fun ty s2 w2 H2 x2 r2 fin2 vy ry => ⟨w2, s2, tx, ty, r2, rx.mono x2, ry, ?_⟩⟩⟩
      refine Fi.noX (Fi.bind fin2 fun tr s3 w3 H3 x3 r3 fin3 vr rr => ?_) (E := fun c d H' => W c d σ H')
      have f3 := Fi.bind (m := asBool tr) (P1 := fun k s4 w4 H4 => SR X.K w4 s4 H4 → Ext w3 w4 → if k = true then liftE X.K W (ev c) σ H4 (fun w' H5 => liftOp X.K (opc op2) vy w' H5 Q) else Q (.bl false) H4) fin3 fun k s4 w4 H4 x4 r4 fin4 _ _ => by
        cases k with
        | true =>
          have fin4 : Fi X.K w4 (bnd (ev c env) (fun z => noX (opc op2 ty z)) s4) (PQ X.K Q) (fun c d H' => W c d σ H') := fin4
          exact ⟨w4, s4, env, r4, (((er.mono x1).mono x2).mono x3).mono x4, fin4.bind fun tz s5 w5 H5 x5 r5 fin5 vz rz => liftOp_of r5 (((ry.mono x3).mono x4).mono x5) rz fin5⟩
        | false => exact Fi.ret (E := fun c d H' => W c d σ H') fin4 r4 _ rfl
      obtain ⟨k, ek, q⟩ := asBool_ok r3 rr f3
      exact ⟨k, ek, q r3 (Ext.refl _)⟩
  | [], _ => le_bad
  | [_], [] => le_bad
  | [_], _ :: _ :: _ => le_bad
  | [_, _], [] => le_bad
  | [_, _], [_] => le_bad
  | [_, _], _ :: _ :: _ :: _ => le_bad
  | _ :: _ :: _ :: _, _ => le_bad
theorem lT {e : Expr} {f g : En → M Bool} (h : PT X e (liftT X.K W f)) (hf : g = f) : PT X e (liftT X.K W g) := by rw [hf]; exact h
theorem lt_cmp {ev : Expr → En → M T} {opc : CmpOp → T → T → M T} {a : Expr} {pos : Pos} (ho : ∀ op, OpR X (compareOp op) (liftOp X.K (opc op))) (h : ∀ e, PE X e (liftE X.K W (ev e))) : ∀ ops bs, PT X (.Compare a ops bs pos) (liftT X.K W fun env => bnd (cmpE ev opc a ops bs env) asBool)
  | [op], [b] => by
    cases hm : behindInMarks op b with
    | true => exact lT lt_bad (funext fun env => by rw [cmpE1, if_pos hm]; rfl)
    | false =>
      refine lT (f := fun env => bnd (bnd (ev a env) fun x => bnd (ev b env) fun y => noX (opc op x y)) asBool) ?_ (funext fun env => by rw [cmpE1, if_neg (by rw [hm]; exact Bool.false_ne_true)])
      refine PT.imp (pt_cmpR (ho op) (h a) (h b) hm) fun σ H Q ⟨w, st, env, r, er, fin⟩ => ⟨w, st, env, r, er, ?_⟩
      have fin : Fi X.K w (bnd (bnd (ev a env) fun x => bnd (ev b env) fun y => noX (opc op x y)) asBool st) (PB Q) (fun c d H' => W c d σ H') := fin
      have fin2 := Fi.bind (P1 := PQ X.K fun x H' => ∃ k, x = .bl k ∧ Q k H') fin fun tr s3 w3 H3 x3 r3 fin3 vr rr => asBool_ok r3 rr fin3
      exact fin2.bind fun tx s1 w1 H1 x1 r1 fin1 vx rx =>
        ⟨w1, s1, env, r1, er.mono x1, fin1.bind fun ty s2 w2 H2 x2 r2 fin2 vy ry => liftOp_of r2 (rx.mono x2) ry fin2⟩
  | [op, op2], [b, c] => by
    cases hm : behindInMarks op2 c with
    | true => exact lT lt_bad (funext fun env => by rw [cmpE2, if_pos hm]; rfl)
    | false =>
      refine lT (f := fun env => bnd (bnd (ev a env) fun x => bnd (ev b env) fun y => bnd (noX (opc op x y)) fun r => bnd (asBool r) fun k => if k then bnd (ev c env) fun z => noX (opc op2 y z) else ret (.bl false)) asBool) ?_ (funext fun env => by rw [cmpE2, if_neg (by rw [hm]; exact Bool.false_ne_true)])
      refine PT.imp (pt_chain (ho op) (ho op2) (h a) (h b) (h c) hm) fun σ H Q0 ⟨w, st, env, r, er, fin0⟩ => ⟨w, st, env, r, er, ?_⟩
      have fin0 : Fi X.K w (bnd (bnd (ev a env) fun x => bnd (ev b env) fun y => bnd (noX (opc op x y)) fun r => bnd (asBool r) fun k => if k then bnd (ev c env) fun z => noX (opc op2 y z) else ret (.bl false)) asBool st) (PB Q0) (fun c d H' => W c d σ H') := fin0
      have fin := Fi.bind (P1 := PQ X.K fun x H' => ∃ k, x = .bl k ∧ Q0 k H') fin0 fun tr s3 w3 H3 x3 r3 fin3 vr rr => asBool_ok r3 rr fin3
      generalize (fun x H' => ∃ k, x = V.bl k ∧ Q0 k H' : VK) = Q at fin
      refine fin.bind fun tx s1 w1 H1 x1 r1 fin1 vx rx =>
        ⟨w1, s1, env, r1, er.mono x1, fin1.bind fun ty s2 w2 H2 x2 r2 fin2 vy ry => ⟨w2, s2, tx, ty, r2, rx.mono x2, ry, ?_⟩⟩
      refine Fi.noX (Fi.bind fin2 fun tr s3 w3 H3 x3 r3 fin3 vr rr => ?_) (E := fun c d H' => W c d σ H')
      have f3 := Fi.bind (m := asBool tr) (P1 := fun k s4 w4 H4 => SR X.K w4 s4 H4 → Ext w3 w4 → if k = true then liftE X.K W (ev c) σ H4 (fun w' H5 => liftOp X.K (opc op2) vy w' H5 Q) else Q (.bl false) H4) fin3 fun k s4 w4 H4 x4 r4 fin4 _ _ => by
        cases k with
        | true =>
          have fin4 : Fi X.K w4 (bnd (ev c env) (fun z => noX (opc op2 ty z)) s4) (PQ X.K Q) (fun c d H' => W c d σ H') := fin4
          exact ⟨w4, s4, env, r4, (((er.mono x1).mono x2).mono x3).mono x4, fin4.bind fun tz s5 w5 H5 x5 r5 fin5 vz rz => liftOp_of r5 (((ry.mono x3).mono x4).mono x5) rz fin5⟩
        | false => exact Fi.ret (E := fun c d H' => W c d σ H') fin4 r4 _ rfl
      obtain ⟨k, ek, q⟩ := asBool_ok r3 rr f3
      exact ⟨k, ek, q r3 (Ext.refl _)⟩
  | [], _ => lt_bad
  | [_], [] => lt_bad
  | [_], _ :: _ :: _ => lt_bad
  | [_, _], [] => lt_bad
  | [_, _], [_] => lt_bad
  | [_, _], _ :: _ :: _ :: _ => lt_bad
  | _ :: _ :: _ :: _, _ => lt_bad
/-! ### minus -/
theorem le_neg {a : Expr} {fa : En → M T} {pos : Pos} (ha : PE X a (liftE X.K W fa)) : PE X (.UnaryOp .USub a pos) (liftE X.K W fun env => bnd (fa env) fun x => noX (negM x)) :=
  PE.imp (pe_un un_negT ha) fun σ H Q ⟨w, st, env, r, er, fin⟩ => ⟨w, st, env, r, er, fin.bind fun tx s1 w1 H1 x1 r1 fin1 vx rx => ⟨w1, s1, tx, r1, rx, fin1.noX⟩⟩
/-! ### items -/
theorem RpL.atI {K : PySem.W.Frag} {w : Wd} {ts : List T} {vs : List V} {i : Int} {t : T} (q : RpL K w ts vs) (h : L2.atI ts i = some t) : ∃ v, L2.atI vs i = some v ∧ Rp K w t v := by
  unfold L2.atI at h ⊢
  rw [← q.length]
  cases e : ixN ts.length i with
  | none => rw [e] at h; cases h
  | some j =>
    rw [e] at h
    exact q.get h
theorem ix_any : IxR X (liftOp X.K ixM) := by
  intro value slice pins s σ H x y v u Q I rx ry ⟨w, st, tx, ty, r, ra, rb, fin⟩ hs
  unfold ixM at fin
  split at fin
  · rename_i i ei
    have ey := see_int r rb ei
    split at fin
    · rename_i ts es
      obtain ⟨p, vs, ev, h1, h2⟩ := see_lstI r ra es
      split at fin
      · rename_i t ht
        obtain ⟨vt, hv, rt⟩ := h2.atI ht
        exact ix_list value slice pins s σ H x y v u Q I rx ry ⟨p, vs, i, vt, ev, ey, SqL.of h1, hv, Fi.ret fin r vt rt⟩ hs
      · exact fin.elim
    · rename_i ts es
      obtain ⟨p, vs, ev, h1, h1', h2⟩ := see_tupI r ra es
      split at fin
      · rename_i t ht
        obtain ⟨vt, hv, rt⟩ := h2.atI ht
        exact ix_tup value slice pins s σ H x y v u Q I rx ry ⟨p, vs, i, vt, ev, ey, h1, hv, Fi.ret fin r vt rt⟩ hs
      · exact fin.elim
    · rename_i z es
      split at fin
      · rename_i c hc
        split at fin
        · rename_i hz
          exact ix_str value slice pins s σ H x y v u Q I rx ry ⟨z, i, c, see_str r ra es, ey, hz, hc, Fi.ret fin r _ rfl⟩ hs
        · exact fin.elim
      · exact fin.elim
    · exact fin.elim
  · exact fin.elim
theorem plainIx {b : Expr} (h : isSlice b = false) : PlainIx b := fun o i => by
  cases b <;> first | rfl | cases h
theorem le_ix {a b : Expr} {fa fb : En → M T} {pos : Pos} (ha : PE X a (liftE X.K W fa)) (hb : PE X b (liftE X.K W fb)) (hs : isSlice b = false) :
    PE X (.Subscript a b pos) (liftE X.K W fun env => bnd (fa env) fun x => bnd (fb env) fun y => noX (ixM x y)) :=
  PE.imp (pe_ix ix_any ha hb (plainIx hs)) fun σ H Q ⟨w, st, env, r, er, fin⟩ => ⟨w, st, env, r, er, fin.bind fun tx s1 w1 H1 x1 r1 fin1 vx rx =>
    ⟨w1, s1, env, r1, er.mono x1, fin1.bind fun ty s2 w2 H2 x2 r2 fin2 vy ry => liftOp_of r2 (rx.mono x2) ry fin2⟩⟩
/-! ### slices -/
def liftO (K : PySem.W.Frag) (W : WX) (f : En → M (Option Int)) : TO := fun σ H Q => ∃ w s env, SR K w s H ∧ EnR K w env σ ∧ Fi K w (f env s) (fun o _ _ H' => Q o H') fun c d H' => W c d σ H'
theorem PO.imp {o : Option Expr} {t t' : TO} (h : PO X o t) (f : ∀ σ H Q, t' σ H Q → t σ H Q) : PO X o t' := ⟨fun pins s σ H Q I q => h.run pins s σ H Q I (f _ _ _ q)⟩
theorem lo_opt {ev : Expr → En → M T} (h : ∀ e, PE X e (liftE X.K W (ev e))) : ∀ o, PO X o (liftO X.K W (optI ev o))
  | none => PO.imp po_none fun σ H Q ⟨w, st, env, r, er, fin⟩ => Fi.ret (E := fun c d H' => W c d σ H') (P := fun o _ _ H' => Q o H') fin r
  | some e => PO.imp (po_some (h e)) fun σ H Q ⟨w, st, env, r, er, fin⟩ => ⟨w, st, env, r, er, Fi.bind (k := fun x => fun s => match see s x with
    | .int i => .ok (some i) s
    | _ => .bad) fin fun tx s1 w1 H1 x1 r1 fin1 vx rx => by
      split at fin1
      · rename_i i ei
        exact ⟨i, see_int r1 rx ei, Fi.ret (E := fun c d H' => W c d σ H') (P := fun o _ _ H' => Q o H') fin1 r1⟩
      · exact fin1.elim⟩
theorem RpL.cut {K : PySem.W.Frag} {w : Wd} {ts : List T} {vs : List V} (q : RpL K w ts vs) (lo hi : Option Int) : RpL K w (cutT ts lo hi) (cutV vs lo hi) := by
  unfold cutT cutV
  rw [q.length]
  exact (q.drop _).take _
theorem drop_take_all {α : Type} {xs : List α} {a b : Nat} (h1 : a = 0) (h2 : b = xs.length) : (xs.drop a).take (b - a) = xs := by
  subst h1 h2
  simp
def liftSl (K : PySem.W.Frag) (f : T → Option Int → Option Int → M T) : V → Option Int → Option Int → Hp → VK → Prop := fun x lo hi H Q => ∃ w st tx, SR K w st H ∧ Rp K w tx x ∧ Fi K w (f tx lo hi st) (PQ K Q) fun _ _ _ => False
def sliceB (b : Bool) (x : T) (lo hi : Option Int) : M T := bnd (sliceM x lo hi) fun t => boxM b t
theorem see_frz {K : PySem.W.Frag} {w : Wd} {s : S} {H : Hp} (r : SR K w s H) {t : T} {v : V} {ts : List T} (h : Rp K w t v) (e : see s t = .frz ts) : ∃ a xs, v = .ref a ∧ SqL K H a xs ∧ RpL K w ts xs := by
  cases t with
  | box n =>
    have e : seeB n (s.get n) = _ := e
    cases e1 : s.get n with
    | none => rw [e1] at e; cases e
    | some o =>
      rw [e1] at e
      cases o <;> cases e
  | frz us =>
    cases e
    obtain ⟨a, xs, ev, p, q⟩ := h
    exact ⟨a, xs, ev, r.sub.seq p, q⟩
  | _ => cases e
theorem sl_any {b : Bool} : SlR X (liftSl X.K (sliceB b)) := by
  intro pins s σ H x v vl vu lo hi sl Q I rx hs pl pu ⟨w, st, tx, r, ra, fin⟩
  unfold sliceB bnd at fin
  cases e0 : sliceM tx lo hi st with
  | ok t s1 =>
    rw [e0] at fin
    unfold sliceM at e0
    split at e0
    · rename_i ts es
      cases e0
      obtain ⟨p, vs, ev, h1, h2⟩ := see_lstI r ra es
      exact sl_list pins s σ H x v vl vu lo hi sl Q I rx hs pl pu ⟨p, vs, ev, SqL.of h1, new_box fin r (h2.cut lo hi)⟩
    · rename_i ts es
      cases e0
      obtain ⟨p, vs, ev, h1, h2⟩ := see_frz r ra es
      exact sl_list pins s σ H x v vl vu lo hi sl Q I rx hs pl pu ⟨p, vs, ev, h1, new_box fin r (h2.cut lo hi)⟩
    · rename_i ts es
      cases e0
      obtain ⟨p, vs, ev, h1, h1', h2⟩ := see_tupI r ra es
      have fin : Fi X.K w (boxM b (.tup (cutT ts lo hi)) st) (PQ X.K Q) (fun _ _ _ => False) := fin
      have fin' : Fi X.K w (.ok (.tup (cutT ts lo hi)) st) (PQ X.K Q) (fun _ _ _ => False) := by
        cases b with
        | true => exact fin
        | false => exact fin
      refine sl_tupA pins s σ H x v vl vu lo hi sl Q I rx hs pl pu ⟨p, vs, ev, h1, fun hw => ?_, fun _ => new_tup fin' r (h2.cut lo hi)⟩
      refine Fi.ret fin' r _ ⟨p, vs, rfl, h1', ?_⟩
      have e : cutT ts lo hi = ts := by
        unfold cutT
        rw [← h2.length] at hw
        exact drop_take_all hw.1 hw.2
      rw [e]
      exact h2
    · rename_i z es
      split at e0
      · rename_i hz
        cases e0
        have fin' : Fi X.K w (.ok (.str (cutS z lo hi)) st) (PQ X.K Q) (fun _ _ _ => False) := by
          cases b with
          | true => exact fin
          | false => exact fin
        exact sl_str pins s σ H x v vl vu lo hi sl Q I rx hs pl pu ⟨z, see_str r ra es, hz, Fi.ret fin' r _ rfl⟩
      · cases e0
    · cases e0
  | exc C ns vs s1 =>
    unfold sliceM at e0
    split at e0
    · cases e0
    · cases e0
    · cases e0
    · split at e0 <;> cases e0
    · cases e0
  | bad =>
    rw [e0] at fin
    exact fin.elim
theorem le_slice {ev : Expr → En → M T} {e : Expr} {lo hi : Option Expr} {p2 pos : Pos} {b : Bool} (h : ∀ e, PE X e (liftE X.K W (ev e))) :
    PE X (.Subscript e (.Slice lo hi none p2) pos) (liftE X.K W fun env => bnd (ev e env) fun x => bnd (optI ev lo env) fun l => bnd (optI ev hi env) fun u => noX (sliceB b x l u)) :=
  PE.imp (pe_slice sl_any (h e) (lo_opt h lo) (lo_opt h hi)) fun σ H Q ⟨w, st, env, r, er, fin⟩ => ⟨w, st, env, r, er, fin.bind fun tx s1 w1 H1 x1 r1 fin1 vx rx =>
    ⟨w1, s1, env, r1, er.mono x1, fin1.bind fun l s2 w2 H2 x2 r2 fin2 => ⟨w2, s2, env, r2, (er.mono x1).mono x2, fin2.bind fun u s3 w3 H3 x3 r3 fin3 => ⟨w3, s3, tx, r3, (rx.mono x2).mono x3, fin3.noX⟩⟩⟩⟩
theorem le_rev {e : Expr} {fe : En → M T} {k : Nat} {p1 p2 p3 pos : Pos} (h : PE X e (liftE X.K W fe)) :
    PE X (.Subscript e (.Slice none none (some (.UnaryOp .USub (.Constant (.int 1) k p1) p2)) p3) pos) (liftE X.K W fun env => bnd (fe env) fun x => revM x) :=
  PE.imp (pe_revL h) fun σ H Q ⟨w, st, env, r, er, fin⟩ => ⟨w, st, env, r, er, fin.bind fun tx s1 w1 H1 x1 r1 fin1 vx rx => by
    unfold revM at fin1
    split at fin1
    · rename_i ts es
      obtain ⟨p, vs, ev, h1, h2⟩ := see_lstI r1 rx es
      exact ⟨p, vs, ev, SqL.of h1, new_lst fin1 r1 h2.reverse⟩
    · exact fin1.elim⟩
end
end G
-- GtS3
namespace G
open PySem L2
section
variable {P : Pg} {fc : FC} {X : Cx} {W : WX}
/-! ### calls of built-ins -/
theorem BI.val_or (b : BI) : (∃ id, b.val = .builtin id) ∨ ∃ T, b.val = .type T := by cases b <;> first | exact .inl ⟨_, rfl⟩ | exact .inr ⟨_, rfl⟩
theorem bi_names : ∀ p ∈ biNames, p.1 ∈ bNames := by decide +kernel
/-- a list that a built-in makes, in a box -/
def bcallB (P : Pg) (box : Bool) (b : BI) (ts : List T) : M T := match box, b with
  | false, b => bcall P b ts
  | true, .list => bnd (bcall P .list ts) (boxM true)
  | true, .sorted => bnd (bcall P .sorted ts) (boxM true)
  | true, _ => bad
theorem call_biB (o : OkX P fc X W) (box : Bool) (b : BI) : CallR X b.val (liftC X.K (bcallB P box b)) := by
  cases box with
  | false => exact call_bi o.calm o.g o.u o.K.isok o.K.ca o.K.sys b
  | true =>
    have no : b ≠ .list → b ≠ .sorted → CallR X b.val (liftC X.K (bcallB P true b)) := fun h1 h2 pins s σ H xs us Q I rv ⟨w, st, ts, sr, rl, fin⟩ => by
      cases b <;> first | exact absurd rfl h1 | exact absurd rfl h2 | exact fin.elim
    cases b with
    | list =>
      intro pins s σ H xs us Q I rv ⟨w, st, ts, sr, rl, fin⟩
      have fin : Fi X.K w (bnd (bcall P .list ts) (boxM true) st) (PQ X.K Q) (fun _ _ _ => False) := fin
      match ts, fin, rl with
      | [a], fin, rl =>
        obtain ⟨v, e1, ra⟩ := one_of rl
        subst e1
        have fin : Fi X.K w (bnd (listM a) (boxM true) st) (PQ X.K Q) (fun _ _ _ => False) := fin
        unfold bnd listM at fin
        cases e : items st a with
        | none =>
          rw [e] at fin
          have fin : Fi X.K w (bnd (listS a) (boxM true) st) (PQ X.K Q) (fun _ _ _ => False) := fin
          unfold bnd listS at fin
          split at fin
          · rename_i y st2 ey
            split at ey
            · rename_i z ez
              split at ey
              · rename_i hz
                cases ey
                exact call_list_signs o.calm pins s σ H _ us Q I rv ⟨z, by rw [see_str sr ra ez], hz, new_box fin sr (rpl_signs _)⟩
              · cases ey
            · cases ey
          · rename_i ey
            split at ey
            · split at ey
              · cases ey
              · cases ey
            · cases ey
          · exact fin.elim
        | some xs =>
          rw [e] at fin
          obtain ⟨p, vs, ev, h, q⟩ := items_ok sr ra e
          refine call_list_of pins s σ H _ us Q I rv ⟨p, vs, by rw [ev], ?_, new_box fin sr q⟩
          rcases h with ⟨h, _⟩ | ⟨h, _⟩
          · exact .inl (SqL.of h)
          · exact .inr h
      | [], fin, _ => exact fin.elim
      | _ :: _ :: _, fin, _ => exact fin.elim
    | sorted =>
      intro pins s σ H xs us Q I rv ⟨w, st, ts, sr, rl, fin⟩
      have fin : Fi X.K w (bnd (bcall P .sorted ts) (boxM true) st) (PQ X.K Q) (fun _ _ _ => False) := fin
      match ts, fin, rl with
      | [a], fin, rl =>
        obtain ⟨v, e1, ra⟩ := one_of rl
        subst e1
        have fin : Fi X.K w (bnd (overI (fun ns => some (.lst ((PySem.W.sortI ns).map T.int))) a) (boxM true) st) (PQ X.K Q) (fun _ _ _ => False) := fin
        unfold bnd overI at fin
        cases e : intL st a with
        | none => rw [e] at fin; exact fin.elim
        | some ns =>
          rw [e] at fin
          obtain ⟨p, ev, h1⟩ := intL_ok sr ra e
          subst ev
          refine cr_sortedI pins s σ H _ us Q I rv ⟨p, ns, rfl, h1, fun ns' q p1 p2 hq => ?_⟩
          rw [PySem.W.eq_sortI p1 p2]
          exact new_box fin sr (RpL.intsO _) q hq
      | [], fin, _ => exact fin.elim
      | _ :: _ :: _, fin, _ => exact fin.elim
    | _ => exact no (by simp) (by simp)
theorem le_bi (o : OkX P fc X W) {f : Str} {b : BI} {box : Bool} {e : Expr} {es : List Expr} {fa : En → M (List T)} {p pos : Pos} (hb : biNames.lookup f = some b) (hg : fc.gl f = true) (hl : P.glob.lookup f = none) (ha : PA X (e :: es) (liftA X.K W fa))
    (hp : (e :: es).any isStarred = false) : PE X (.Call (.Name f p) (e :: es) [] pos) (liftE X.K W fun env => bnd (fa env) fun ts => noX (bcallB P box b ts)) := by
  obtain ⟨g, hd⟩ := o.gl hg
  have hm := mem_of_lk hb
  obtain ⟨b1, b2, b3⟩ := bi_boot _ hm
  have no := o.K.no f (bi_names _ hm) hl
  have hp' := hp
  rw [List.any_cons, Bool.or_eq_false_iff] at hp'
  have key : ∀ σ H Q, liftE X.K W (fun env => bnd (fa env) fun ts => noX (bcallB P box b ts)) σ H Q → tCB (liftC X.K (bcallB P box b)) (liftA X.K W fa) σ H Q := fun σ H Q ⟨w, st, env, r, er, fin⟩ =>
    ⟨w, st, env, r, er, fin.bind fun ts s1 w1 H1 x1 r1 fin1 vs rs => ⟨w1, s1, ts, r1, rs, fin1.noX⟩⟩
  have cb := call_biB o box b
  rcases b.val_or with ⟨id, ev⟩ | ⟨T, ev⟩
  · rw [ev] at cb b1
    exact PE.imp (pe_callB cb g no b1 ha b2 hd (star_not hp'.1 es _) (plain_any hp'.2 _ _)) key
  · rw [ev] at cb b1
    exact PE.imp (pe_callTy cb g no b1 ha b2 hd (star_not hp'.1 es _) (plain_any hp'.2 _ _)) key
/-! ### range -/
theorem rng_len (a b : Int) : (rngT a b).length = (b - a).toNat := by unfold rngT; rw [List.length_map, List.length_range]
theorem RpL.map_range {K : PySem.W.Frag} {w : Wd} (f : Nat → Int) : ∀ (l : List Nat), RpL K w (l.map fun i => T.int (f i)) (l.map fun i => V.int (f i))
  | [] => rfl
  | i :: r => ⟨_, _, rfl, rfl, RpL.map_range f r⟩
theorem rng_rel {K : PySem.W.Frag} {w : Wd} (a b : Int) : RpL K w (rngT a b) (rgV a b) := RpL.map_range (fun i => a + (i : Nat)) _
theorem rgOk_of {a b : Int} (h : rgOk a b = true) : -(2 ^ 62) ≤ a ∧ a < 2 ^ 62 ∧ -(2 ^ 62) ≤ b ∧ b < 2 ^ 62 := by
  unfold rgOk at h
  simp only [Bool.and_eq_true, decide_eq_true_eq] at h
  exact ⟨h.1, h.2.1, h.2.2.1, h.2.2.2⟩
theorem size24 : (sizeLine : Nat) ≤ 2 ^ 24 := by rw [sizeLine_eq]; decide
theorem lst_if {b : Bool} {xs : List T} {st : S} {w : Wd} {Q : T → S → Wd → Hp → Prop} {E : XK} (fin : Fi X.K w (lstM b xs st) Q E) : xs.length ≤ sizeLine ∧ Fi X.K w (boxM b (.lst xs) st) Q E := by
  unfold lstM at fin
  split at fin
  · rename_i h
    exact ⟨h, fin⟩
  · exact fin.elim
theorem rangeP_ok {w : Wd} {st : S} {H : Hp} {ts : List T} {vs : List V} {Q : Int × Int → S → Wd → Hp → Prop} {E : XK} (r : SR X.K w st H) (q : RpL X.K w ts vs) (fin : Fi X.K w (rangeP ts st) Q E) :
    ∃ a b, rgOk a b = true ∧ Q (a, b) st w H ∧ ((a = 0 ∧ vs = [.int b]) ∨ vs = [.int a, .int b]) := by
  match ts, q, fin with
  | [x], q, fin =>
    obtain ⟨v, e1, ra⟩ := one_of q
    have fin : Fi X.K w (match see st x with
      | .int j => if rgOk 0 j then .ok (0, j) st else .bad
      | _ => .bad : Res (Int × Int)) Q E := fin
    split at fin
    · rename_i j ej
      split at fin
      · rename_i hk
        exact ⟨0, j, hk, Fi.ret fin r, .inl ⟨rfl, by rw [e1, see_int r ra ej]⟩⟩
      · exact fin.elim
    · exact fin.elim
  | [x, y], q, fin =>
    obtain ⟨u, v, e1, ra, rb⟩ := two_of q
    have fin : Fi X.K w (match see st x, see st y with
      | .int i, .int j => if rgOk i j then .ok (i, j) st else .bad
      | _, _ => .bad : Res (Int × Int)) Q E := fin
    split at fin
    · rename_i i j ei ej
      split at fin
      · rename_i hk
        exact ⟨i, j, hk, Fi.ret fin r, .inr (by rw [e1, see_int r ra ei, see_int r rb ej])⟩
      · exact fin.elim
    · exact fin.elim
  | [], _, fin => exact fin.elim
  | _ :: _ :: _ :: _, _, fin => exact fin.elim
theorem rangeP_rg {ts : List T} {s s' : S} {r : Int × Int} (h : rangeP ts s = .ok r s') : rgOk r.1 r.2 = true := by
  match ts, h with
  | [x], h =>
    have h : (match see s x with
      | .int j => if rgOk 0 j then .ok (0, j) s else .bad
      | _ => .bad : Res (Int × Int)) = _ := h
    split at h
    · split at h
      · rename_i hk
        cases h
        exact hk
      · cases h
    · cases h
  | [x, y], h =>
    have h : (match see s x, see s y with
      | .int i, .int j => if rgOk i j then .ok (i, j) s else .bad
      | _, _ => .bad : Res (Int × Int)) = _ := h
    split at h
    · split at h
      · rename_i hk
        cases h
        exact hk
      · cases h
    · cases h
  | [], h => cases h
  | _ :: _ :: _ :: _, h => cases h
/-- a range object -/
theorem prg_any {e : Expr} {es : List Expr} {fa : En → M (List T)} {p pos : Pos} (hg : Gl X "range") (hm : X.mg "range" = none) (ha : PA X (e :: es) (liftA X.K W fa)) (hp : (e :: es).any isStarred = false) :
    PRg X (.Call (.Name "range" p) (e :: es) [] pos) (fun σ H Q => ∃ w s env, SR X.K w s H ∧ EnR X.K w env σ ∧ Fi X.K w (bnd (fa env) rangeP s) (fun r _ _ H' => Q r.1 r.2 H') (fun c d H' => W c d σ H')) := by
  have hp' := hp
  rw [List.any_cons, Bool.or_eq_false_iff] at hp'
  intro pins s σ H Q I ⟨w, st, env, r, er, fin⟩
  refine PyProof.Rows.Call_ (ld_blt I hg hm PyProof.Rows.boot_range (PyProof.Rows.callWith_type1 (thn (ha.run pos pins s σ H (fun vs H1 => ∃ a b, ((a = 0 ∧ vs = [V.int b]) ∨ vs = [V.int a, V.int b]) ∧ Q a b H1) I ⟨w, st, env, r, er, fin.bind fun ts s1 w1 H1 x1 r1 fin1 vs rs => ?_⟩) fun us s1 ⟨vs, H1, I1, r1, q1⟩ => ?_) (star_not hp'.1 _ _) (plain_any hp'.2 _ _)))
  · obtain ⟨a, b, _, q, e⟩ := rangeP_ok r1 rs fin1
    exact ⟨a, b, e, q⟩
  · obtain ⟨a, b, e, q⟩ := q1
    rcases e with ⟨e0, e⟩ | e
    · subst e0 e
      obtain ⟨u, rfl, t, rfl⟩ := r1.one
      exact call_range_1 ⟨_, 0, b, _, _, _, H1, rfl, IsRange.new _ _ _ _ _ _ _, I1.kept fun b u e => Heap.get?_push_of_some _ e, q⟩
    · subst e
      obtain ⟨u1, u2, rfl, ⟨t, rfl⟩, ⟨t2, rfl⟩⟩ := r1.two
      exact call_range_2 ⟨_, a, b, _, _, _, H1, rfl, IsRange.new _ _ _ _ _ _ _, I1.kept fun b u e => Heap.get?_push_of_some _ e, q⟩
theorem isNm_ok (o : OkX P fc X W) {n : Str} (hn : n ∈ bNames) (h : isNm fc P n n = true) : Gl X n ∧ X.mg n = none := by
  unfold isNm at h
  simp only [Bool.and_eq_true, Option.isNone_iff_eq_none] at h
  exact ⟨(o.gl h.2.1.1).1, o.K.no n hn h.2.1.2⟩
theorem le_listRg (o : OkX P fc X W) {b : Bool} {e : Expr} {es : List Expr} {fa : En → M (List T)} {p q pos pos2 : Pos} (hl : isNm fc P "list" "list" = true) (hr : isNm fc P "range" "range" = true) (hp : (e :: es).any isStarred = false) (ha : PA X (e :: es) (liftA X.K W fa)) :
    PE X (.Call (.Name "list" p) [.Call (.Name "range" q) (e :: es) [] pos2] [] pos) (liftE X.K W fun env => bnd (fa env) fun ts => bnd (rangeM ts) fun xs => lstM b xs) := by
  obtain ⟨g1, m1⟩ := isNm_ok o (by decide +kernel) hl
  obtain ⟨g2, m2⟩ := isNm_ok o (by decide +kernel) hr
  refine PE.imp (pe_listRg o.calm g1 m1 (prg_any (W := W) g2 m2 ha hp) rfl) fun σ H Q ⟨w, st, env, r, er, fin⟩ => ⟨w, st, env, r, er, ?_⟩
  have fin : Fi X.K w (bnd (fa env) (fun ts => bnd (rangeM ts) fun xs => lstM b xs) st) (PQ X.K Q) (fun c d H' => W c d σ H') := fin
  have assoc : (bnd (fa env) fun ts => bnd (rangeM ts) fun xs => lstM b xs) = bnd (bnd (fa env) rangeP) fun r => lstM b (rngT r.1 r.2) := by
    rw [bnd_assoc]
    congr 1
    funext ts
    unfold rangeM
    rw [bnd_assoc]
    rfl
  rw [assoc] at fin
  refine fin.bindE fun rr s1 w1 H1 eq x1 r1 fin1 => ?_
  obtain ⟨hz, f2⟩ := lst_if fin1
  rw [rng_len] at hz
  have hk : rgOk rr.1 rr.2 = true := by
    unfold bnd at eq
    cases e2 : fa env st with
    | ok ts s2 =>
      rw [e2] at eq
      exact rangeP_rg (ts := ts) (s := s2) eq
    | exc C ns vs s2 => rw [e2] at eq; cases eq
    | bad => rw [e2] at eq; cases eq
  obtain ⟨k1, k2, k3, k4⟩ := rgOk_of hk
  exact ⟨⟨k1, k2, k3, k4, Nat.le_trans hz size24⟩, new_box f2 r1 (rng_rel rr.1 rr.2)⟩
end
end G
-- GtS4
namespace G
open PySem L2
section
variable {P : Pg} {fc : FC} {X : Cx} {W : WX}
/-! ### what is walked: items that are known ahead -/
def Goes (K : PySem.W.Frag) (w0 : Wd) (ts : List T) (J : It) : Prop :=
  ∀ w' st H', Ex0 w0 w' → SR K w' st H' → (∀ i, ts.length ≤ i → J.stop i H') ∧
    ∀ i t, ts[i]? = some t → J.go i H' ∧ ∀ x H'', J.yld i H' x H'' → ∃ w'', Ext w' w'' ∧ SR K w'' st H'' ∧ Rp K w'' t x
def liftI (K : PySem.W.Frag) (W : WX) (f : En → M (List T)) : TI := fun σ H R => ∃ w s env, SR K w s H ∧ EnR K w env σ ∧ Fi K w (f env s) (fun ts _ w' H' => ∀ J, Goes K w' ts J → R J H') fun c d H' => W c d σ H'
theorem PI.imp {tg e : Expr} {t t' : TI} (h : PI X tg e t) (f : ∀ σ H R, t' σ H R → t σ H R) : PI X tg e t' := ⟨fun pins s σ H Q I q => h.run pins s σ H Q I (f _ _ _ q)⟩
theorem Ex0.rp {K : PySem.W.Frag} {w w' : Wd} (h : Ex0 w w') {t : T} {v : V} (q : Rp K w t v) : Rp K w' t v := Rp.mono0 h q
theorem goes_list {K : PySem.W.Frag} {w : Wd} {ts : List T} {xs : List V} {a : Addr} (h : w.I a = some (.lst xs)) (q : RpL K w ts xs) : Goes K w ts (Itl K a) := fun w' st H' x r => by
  have h' : SqL K H' a xs := SqL.of (r.sub _ _ (x.same _ _ h))
  refine ⟨fun i hi => ⟨xs, h', by rw [← q.length]; exact hi⟩, fun i t ht => ?_⟩
  obtain ⟨v, hv, rv⟩ := q.get ht
  refine ⟨⟨xs, v, h', hv⟩, fun y H'' ⟨e, z⟩ => ⟨w', Ext.refl _, by rw [e]; exact r, ?_⟩⟩
  have ey := z xs h'
  rw [hv] at ey
  cases ey
  exact x.rp rv
theorem goes_tup {K : PySem.W.Frag} {w : Wd} {ts : List T} {xs : List V} {a : Addr} (h : SqT K w.I a xs) (q : RpL K w ts xs) : Goes K w ts (Itt K a) := fun w' st H' x r => by
  have h' : SqT K H' a xs := sameT r.sub (sameT x.same h)
  refine ⟨fun i hi => ⟨xs, h', by rw [← q.length]; exact hi⟩, fun i t ht => ?_⟩
  obtain ⟨v, hv, rv⟩ := q.get ht
  refine ⟨⟨xs, v, h', hv⟩, fun y H'' ⟨e, z⟩ => ⟨w', Ext.refl _, by rw [e]; exact r, ?_⟩⟩
  have ey := z xs h'
  rw [hv] at ey
  cases ey
  exact x.rp rv
theorem goes_rng {K : PySem.W.Frag} {w : Wd} (a b : Int) : Goes K w (rngT a b) (Itr a (b - a).toNat) := fun w' st H' x r => by
  refine ⟨fun i hi => by rw [rng_len] at hi; exact hi, fun i t ht => ?_⟩
  have hi : i < (b - a).toNat := by
    rw [← rng_len a b]
    exact (List.getElem?_eq_some_iff.mp ht).1
  refine ⟨hi, fun y H'' ⟨e, z⟩ => ⟨w', Ext.refl _, by rw [e]; exact r, ?_⟩⟩
  unfold rngT at ht
  rw [List.getElem?_map, List.getElem?_range hi] at ht
  cases ht
  rw [z]
  rfl
theorem goes_str {K : PySem.W.Frag} {w : Wd} (z : Str) : Goes K w (z.cps.toList.map fun c => .str (chrS c)) (Its z) := fun w' st H' x r => by
  refine ⟨fun i hi => by rw [List.length_map, Array.length_toList] at hi; exact hi, fun i t ht => ?_⟩
  rw [List.getElem?_map, Array.getElem?_toList] at ht
  cases e : z.cps[i]? with
  | none => rw [e] at ht; cases ht
  | some c =>
    rw [e] at ht
    cases ht
    refine ⟨(Array.getElem?_eq_some_iff.mp e).1, fun y H'' ⟨e1, c', e2, e3⟩ => ⟨w', Ext.refl _, by rw [e1]; exact r, ?_⟩⟩
    rw [e] at e2
    cases e2
    rw [e3]
    rfl
theorem enum_get : ∀ (ts : List T) (k i : Nat) {t : T}, (enumT k ts)[i]? = some t → ∃ u, ts[i]? = some u ∧ t = .tup [.int ((k + i : Nat) : Int), u]
  | [], k, i, t, h => by
    unfold enumT at h
    simp at h
  | u :: r, k, 0, t, h => by
    unfold enumT at h
    simp at h
    exact ⟨u, rfl, by rw [← h]; rfl⟩
  | u :: r, k, i + 1, t, h => by
    unfold enumT at h
    rw [List.getElem?_cons_succ] at h
    obtain ⟨v, h1, h2⟩ := enum_get r (k + 1) i h
    exact ⟨v, by simpa using h1, by rw [h2, show k + 1 + i = k + (i + 1) by omega]⟩
theorem enum_len : ∀ (ts : List T) (k : Nat), (enumT k ts).length = ts.length
  | [], _ => rfl
  | _ :: r, k => by unfold enumT; rw [List.length_cons, List.length_cons, enum_len r]
/-- a pair that a walk lays -/
theorem laid_pair {K : PySem.W.Frag} {w' : Wd} {st : S} {H' : Hp} {p : Addr} {t u : T} {x y : V} (r : SR K w' st H') (hp : H' p = none) (rt : Rp K w' t x) (ru : Rp K w' u y) :
    ∃ w'', Ext w' w'' ∧ SR K w'' st (upd H' p (.tup [x, y])) ∧ Rp K w'' (.tup [t, u]) (.ref p) := by
  obtain ⟨ex, r'⟩ := r.laid (o := .tup [x, y]) hp
  exact ⟨_, ex, r', p, _, rfl, SqT.of upd_same, x, [y], rfl, rt.mono ex, y, [], rfl, ru.mono ex, rfl⟩
theorem goes_enumL {K : PySem.W.Frag} {w : Wd} {ts : List T} {xs : List V} {a : Addr} (h : w.I a = some (.lst xs)) (q : RpL K w ts xs) : Goes K w (enumT 0 ts) (Ite K a) := fun w' st H' x r => by
  have h' : SqL K H' a xs := SqL.of (r.sub _ _ (x.same _ _ h))
  refine ⟨fun i hi => ⟨xs, h', by rw [← q.length, ← enum_len ts 0]; exact hi⟩, fun i t ht => ?_⟩
  obtain ⟨u, hu, et⟩ := enum_get ts 0 i ht
  obtain ⟨v, hv, rv⟩ := q.get hu
  refine ⟨⟨xs, v, h', hv⟩, fun y H'' ⟨p, x', e1, e2, e3, z⟩ => ?_⟩
  have ey := z xs h'
  rw [hv] at ey
  cases ey
  subst e1 e3 et
  rw [Nat.zero_add]
  exact laid_pair r e2 (t := .int (i : Nat)) rfl (x.rp rv)
theorem zip_get : ∀ (ts us : List T) (i : Nat) {t : T}, (zipT ts us)[i]? = some t → ∃ a b, ts[i]? = some a ∧ us[i]? = some b ∧ t = .tup [a, b]
  | [], us, i, t, h => by
    unfold zipT at h
    simp at h
  | u :: r, [], i, t, h => by
    unfold zipT at h
    simp at h
  | a :: r, b :: q, 0, t, h => by
    unfold zipT at h
    simp at h
    exact ⟨a, b, rfl, rfl, h.symm⟩
  | a :: r, b :: q, i + 1, t, h => by
    unfold zipT at h
    rw [List.getElem?_cons_succ] at h
    obtain ⟨x, y, h1, h2, h3⟩ := zip_get r q i h
    exact ⟨x, y, by simpa using h1, by simpa using h2, h3⟩
theorem zip_len : ∀ (ts us : List T), (zipT ts us).length = min ts.length us.length
  | [], us => by unfold zipT; simp
  | u :: r, [] => by unfold zipT; simp
  | a :: r, b :: q => by unfold zipT; rw [List.length_cons, List.length_cons, List.length_cons, zip_len r q]; omega
theorem goes_zipL {K : PySem.W.Frag} {w : Wd} {ts us : List T} {xs ys : List V} {a b : Addr} (h : w.I a = some (.lst xs)) (q : RpL K w ts xs) (h2 : w.I b = some (.lst ys)) (q2 : RpL K w us ys) : Goes K w (zipT ts us) (Itz K a b) := fun w' st H' x r => by
  have h' : SqL K H' a xs := SqL.of (r.sub _ _ (x.same _ _ h))
  have h2' : SqL K H' b ys := SqL.of (r.sub _ _ (x.same _ _ h2))
  refine ⟨fun i hi => ⟨xs, ys, h', h2', by rw [zip_len, q.length, q2.length] at hi; omega⟩, fun i t ht => ?_⟩
  obtain ⟨u1, u2, hu1, hu2, et⟩ := zip_get ts us i ht
  obtain ⟨v1, hv1, rv1⟩ := q.get hu1
  obtain ⟨v2, hv2, rv2⟩ := q2.get hu2
  refine ⟨⟨xs, ys, v1, v2, h', h2', hv1, hv2⟩, fun y H'' ⟨p, x1, y1, e1, e2, e3, z1, z2⟩ => ?_⟩
  have ey1 := z1 xs h'
  have ey2 := z2 ys h2'
  rw [hv1] at ey1
  rw [hv2] at ey2
  cases ey1
  cases ey2
  subst e1 e3 et
  exact laid_pair r e2 (x.rp rv1) (x.rp rv2)
theorem goes_zipT {K : PySem.W.Frag} {w : Wd} {ts us : List T} {xs ys : List V} {a b : Addr} (h : SqT K w.I a xs) (q : RpL K w ts xs) (h2 : SqT K w.I b ys) (q2 : RpL K w us ys) : Goes K w (zipT ts us) (RZ.ItzT K a b) := fun w' st H' x r => by
  have h' : SqT K H' a xs := sameT r.sub (sameT x.same h)
  have h2' : SqT K H' b ys := sameT r.sub (sameT x.same h2)
  refine ⟨fun i hi => ⟨xs, ys, h', h2', by rw [zip_len, q.length, q2.length] at hi; omega⟩, fun i t ht => ?_⟩
  obtain ⟨u1, u2, hu1, hu2, et⟩ := zip_get ts us i ht
  obtain ⟨v1, hv1, rv1⟩ := q.get hu1
  obtain ⟨v2, hv2, rv2⟩ := q2.get hu2
  refine ⟨⟨xs, ys, v1, v2, h', h2', hv1, hv2⟩, fun y H'' ⟨p, x1, y1, e1, e2, e3, z1, z2⟩ => ?_⟩
  have ey1 := z1 xs h'
  have ey2 := z2 ys h2'
  rw [hv1] at ey1
  rw [hv2] at ey2
  cases ey1
  cases ey2
  subst e1 e3 et
  exact laid_pair r e2 (x.rp rv1) (x.rp rv2)
/-- a list, a tuple, a text -/
def iFix (K : PySem.W.Frag) (te : TE) : TI := fun σ H R => te σ H fun x H1 => (∃ a, x = .ref a ∧ (∃ xs, SqL K H1 a xs) ∧ R (Itl K a) H1) ∨ (∃ a, x = .ref a ∧ (∃ xs, SqT K H1 a xs) ∧ R (Itt K a) H1) ∨ (∃ z, x = .str z ∧ R (Its z) H1)
theorem pi_fix {tg e : Expr} {te : TE} (he : PE X e te) : PI X tg e (iFix X.K te) := by
  refine ⟨fun pins s σ H R I h => ?_⟩
  refine thn (he.run pins s σ H _ I h) fun v s1 ⟨x, H1, I1, r1, q1⟩ => ?_
  rcases q1 with ⟨a, e, ⟨xs, hq⟩, q⟩ | ⟨a, e, ⟨xs, hq⟩, q⟩ | ⟨z, ex, q⟩
  · subst e
    cases r1
    obtain ⟨its, rv, p, hz⟩ := I1.list hq
    refine wpAny_pyIter_list p.isList ?_
    exact pi_one (tk := s1.toks) I1 _ (turn_list a _) ⟨_, Heap.get?_push_size _ rfl, rfl, rfl⟩ q
  · subst e
    cases r1
    obtain ⟨its, rv, p, hz⟩ := I1.tuple hq
    refine wpAny_pyIter_tuple (show s1.heap.IsTuple a its.toArray from p) ?_
    exact pi_one (tk := s1.toks) I1 _ (turn_tuple a _) ⟨_, Heap.get?_push_size _ rfl, rfl, rfl⟩ q
  · subst ex
    obtain ⟨t, rfl⟩ := r1
    cases ha : z.cps.all (· < 128)
    · exact wpAny_pyIter_wide ha (pi_one (tk := s1.toks) I1 _ (turn_str _ z t "str_iterator" (.inr rfl)) ⟨_, Heap.get?_push_size _ rfl, rfl, rfl⟩ q)
    · exact wpAny_pyIter_ascii ha (pi_one (tk := s1.toks) I1 _ (turn_str _ z t "str_ascii_iterator" (.inl rfl)) ⟨_, Heap.get?_push_size _ rfl, rfl, rfl⟩ q)
theorem li_fix {tg e : Expr} {fe : En → M T} (he : PE X e (liftE X.K W fe)) : PI X tg e (liftI X.K W fun env => bnd (fe env) fixM) :=
  PI.imp (pi_fix he) fun σ H R ⟨w, st, env, r, er, fin⟩ => ⟨w, st, env, r, er, fin.bind fun tx s1 w1 H1 x1 r1 fin1 vx rx => by
    unfold fixM at fin1
    split at fin1
    · rename_i xs
      obtain ⟨a, vs, ev, h, q⟩ := rx
      exact .inl ⟨a, ev, ⟨vs, SqL.of (r1.sub _ _ h)⟩, Fi.ret fin1 r1 _ (goes_list h q)⟩
    · rename_i xs
      obtain ⟨a, vs, ev, h, q⟩ := rx
      exact .inr (.inl ⟨a, ev, ⟨vs, sameT r1.sub h⟩, Fi.ret fin1 r1 _ (goes_tup h q)⟩)
    · rename_i z
      have rx : _ = _ := rx
      exact .inr (.inr ⟨z, rx, Fi.ret fin1 r1 _ (goes_str z)⟩)
    · exact fin1.elim⟩
theorem li_bad {tg e : Expr} : PI X tg e (liftI X.K W fun _ => bad) := ⟨fun pins s σ H Q I ⟨w, st, env, r, er, fin⟩ => fin.elim⟩
theorem lI {tg e : Expr} {f g : En → M (List T)} (h : PI X tg e (liftI X.K W f)) (hf : g = f) : PI X tg e (liftI X.K W g) := by rw [hf]; exact h
theorem li_range {tg e : Expr} {es : List Expr} {fa : En → M (List T)} {p pos : Pos} (hg : Gl X "range") (hm : X.mg "range" = none) (ha : PA X (e :: es) (liftA X.K W fa)) (hp : (e :: es).any isStarred = false) :
    PI X tg (.Call (.Name "range" p) (e :: es) [] pos) (liftI X.K W fun env => bnd (fa env) rangeM) := by
  have hp' := hp
  rw [List.any_cons, Bool.or_eq_false_iff] at hp'
  refine ⟨fun pins s σ H R I ⟨w, st, env, r, er, fin⟩ => ?_⟩
  refine PyProof.Rows.Call_ (ld_blt I hg hm PyProof.Rows.boot_range (PyProof.Rows.callWith_type1 (thn (ha.run pos pins s σ H (fun vs H1 => ∃ a b, ((a = 0 ∧ vs = [V.int b]) ∨ vs = [V.int a, V.int b]) ∧ rgOk a b = true ∧ R (Itr a (b - a).toNat) H1) I ⟨w, st, env, r, er, fin.bind fun ts s1 w1 H1 x1 r1 fin1 vs rs => ?_⟩)
    fun us s1 ⟨vs, H1, I1, r1, q1⟩ => ?_) (star_not hp'.1 _ _) (plain_any hp'.2 _ _)))
  · have f2 : Fi X.K w1 (bnd (rangeP ts) (fun r => ret (rngT r.1 r.2)) s1) (fun ts _ w' H' => ∀ J, Goes X.K w' ts J → R J H') (fun c d H' => W c d σ H') := fin1
    have f3 := Fi.bind (P1 := fun (r : Int × Int) s2 w2 H2 => R (Itr r.1 (r.2 - r.1).toNat) H2) f2 fun r s2 w2 H2 x2 r2 fin2 => Fi.ret (E := fun c d H' => W c d σ H') (P := fun ts _ w' H' => ∀ J, Goes X.K w' ts J → R J H') fin2 r2 _ (goes_rng _ _)
    obtain ⟨a, b, hk, q, e⟩ := rangeP_ok r1 rs f3
    exact ⟨a, b, e, hk, q⟩
  · obtain ⟨a, b, e, hk, q⟩ := q1
    obtain ⟨k1, k2, k3, k4⟩ := rgOk_of hk
    rcases e with ⟨e0, e⟩ | e
    · subst e0 e
      obtain ⟨u, rfl, t, rfl⟩ := r1.one
      exact call_range_1 (range_it I1 k1 k2 k3 k4 q)
    · subst e
      obtain ⟨u1, u2, rfl, ⟨t, rfl⟩, ⟨t2, rfl⟩⟩ := r1.two
      exact call_range_2 (range_it I1 k1 k2 k3 k4 q)
theorem pa1 {e : Expr} {te : TE} (h : PE X e te) (hs : isStarred e = false) : PA X [e] (tCons te tNil) := pa_cons h pa_nil (star_not hs _ _)
theorem pa2 {e e2 : Expr} {te te2 : TE} (h : PE X e te) (h2 : PE X e2 te2) (hs : isStarred e = false) (hs2 : isStarred e2 = false) : PA X [e, e2] (tCons te (tCons te2 tNil)) := pa_cons h (pa1 h2 hs2) (star_not hs _ _)
theorem li_zip {tg a b : Expr} {fa fb : En → M T} {p pos : Pos} (ht : isTup tg = true) (hg : Gl X "zip") (hm : X.mg "zip" = none) (ha : PE X a (liftE X.K W fa)) (hb : PE X b (liftE X.K W fb)) (hp : [a, b].any isStarred = false) :
    PI X tg (.Call (.Name "zip" p) [a, b] [] pos) (liftI X.K W fun env => bnd (fa env) fun x => bnd (fb env) fun y => fix2 x y) := by
  rw [List.any_cons, Bool.or_eq_false_iff, List.any_cons, Bool.or_eq_false_iff] at hp
  cases tg <;> first | (cases ht; done) | skip
  refine PI.imp (RZ.pi_zipA hg hm (pa2 ha hb hp.1 hp.2.1) (star_not hp.1 _ _) (plain_any (by rw [List.any_cons, hp.2.1]; rfl) _ _)) fun σ H R ⟨w, st, env, r, er, fin⟩ => ⟨w, st, env, r, er, fin.bind fun tx s1 w1 H1 x1 r1 fin1 vx rx =>
    ⟨w1, s1, env, r1, er.mono x1, fin1.bind fun ty s2 w2 H2 x2 r2 fin2 vy ry => ?_⟩⟩
  have rx := rx.mono x2
  unfold fix2 at fin2
  split at fin2
  · rename_i xs ys
    obtain ⟨a1, vs, ev, h, q⟩ := rx
    obtain ⟨a2, us, eu, h2, q2⟩ := ry
    exact ⟨a1, a2, vs, us, by rw [ev, eu], .inl ⟨SqL.of (r2.sub _ _ h), SqL.of (r2.sub _ _ h2), Fi.ret fin2 r2 _ (goes_zipL h q h2 q2)⟩⟩
  · rename_i xs ys
    obtain ⟨a1, vs, ev, h, q⟩ := rx
    obtain ⟨a2, us, eu, h2, q2⟩ := ry
    exact ⟨a1, a2, vs, us, by rw [ev, eu], .inr ⟨sameT r2.sub h, sameT r2.sub h2, Fi.ret fin2 r2 _ (goes_zipT h q h2 q2)⟩⟩
  · exact fin2.elim
end
end G
-- GtEnum
/-! enumerate of a tuple -/
namespace PySem
open Sem (wp)
open AutoSeq1 (wpAny_loadPart')
theorem gt_meets_enumT (l : Addr) (items : Array Value) (n : Nat) (dct : Option Addr) (sl : Array (Option Value)) :
    Meets (Builtin.«enumerate.__new__» ⟨[.type "enumerate", .ref l], []⟩) (fun _ R s => s.heap.get? l = some { cls := .type "tuple", dict := dct, data := .seq items n, slots := sl } ∧
      R (.ok (.ret (.ref (s.heap.push { cls := .type "tuple_iterator", data := .fields #[.ref l, .int 0 0] }).objs.size)))
        { s with heap := (s.heap.push { cls := .type "tuple_iterator", data := .fields #[.ref l, .int 0 0] }).push { cls := .type "enumerate", data := .fields #[.none, .bool false, .ref s.heap.objs.size, rawInt 0, .none, .none] } }) :=
  .of_wp fun prog w A R s h => by
    obtain ⟨hp, g, d, tk, os⟩ := s; obtain ⟨hl, h⟩ := h
    have hsub := sub_enumerate
    have hL : Heap.IsTuple (Shared.heap ⟨hp, g, d, tk, os⟩) l items := ⟨_, hl, rfl, n, rfl⟩
    wp_walk using wpAny_loadPart' hl
    refine wpAny_stack_any fun st => wpAny_pure ?_
    split
    · rename_i c _ _ _ _ _
      cases (c == Value.type "enumerate")
      · wp_walk using wpAny_loadPart' hl, wpAny_pyIter_tuple hL
        exact ⟨_, rfl, h⟩
      · wp_walk using wpAny_loadPart' hl, wpAny_pyIter_tuple hL
        exact ⟨_, rfl, h⟩
    · wp_walk using wpAny_loadPart' hl, wpAny_pyIter_tuple hL
      exact ⟨_, rfl, h⟩
section
variable {prog : Program} {w : World} {A : Around} {E : Value → Shared → Prop} {s : Shared}
theorem gt_call_enumT {l : Addr} {items : Array Value} {Q : Value → Shared → Prop} (hL : s.heap.IsTuple l items)
    (h : ∀ h', IsEnum h' (s.heap.objs.size + 1) s.heap.objs.size 0 .none → h'.IsTupleIter s.heap.objs.size l 0 → h'.objs.size = s.heap.objs.size + 2 →
      (∀ b o, s.heap.get? b = some o → h'.get? b = some o) → Q (.ref (s.heap.objs.size + 1)) { s with heap := h' }) :
    wpAny (model prog w) A (call (.type "enumerate") [.ref l]) Q E s := by
  obtain ⟨⟨c, dct, dt, sl⟩, hl, hc, n, hd⟩ := hL
  replace hc : c = .type "tuple" := hc
  replace hd : dt = .seq items n := hd
  subst hc hd
  refine callType_new F.called_enumerate (by decide) (F.typeCall_enumerate_1 _) (F.newCall_enumerate_1 _) (fun obj => F.args_object_init_2 obj _) F.entry_enumerate_new
    (gt_meets_enumT l items n dct sl) ⟨hl, ?_⟩
  have hz : (s.heap.push { cls := .type "tuple_iterator", data := .fields #[.ref l, .int 0 0] }).objs.size = s.heap.objs.size + 1 := Heap.size_push ..
  show _ ∧ _
  rw [hz]
  have he : IsEnum ((s.heap.push { cls := .type "tuple_iterator", data := .fields #[.ref l, .int 0 0] }).push
      { cls := .type "enumerate", data := .fields #[.none, .bool false, .ref s.heap.objs.size, rawInt 0, .none, .none] }) (s.heap.objs.size + 1) s.heap.objs.size 0 .none := by
    have := Heap.get?_push_size (s.heap.push { cls := .type "tuple_iterator", data := .fields #[.ref l, .int 0 0] })
      (o := { cls := .type "enumerate", data := .fields #[.none, .bool false, .ref s.heap.objs.size, rawInt 0, .none, .none] }) rfl
    rw [hz] at this; exact this
  refine ⟨⟨_, he, rfl⟩, h _ he ⟨_, Heap.get?_push_of_some _ (Heap.get?_push_size _ rfl), rfl, rfl⟩ (by rw [Heap.size_push, hz]) fun b o x => Heap.get?_push_of_some _ (Heap.get?_push_of_some _ x)⟩
end
end PySem
namespace G
open PySem L2
/-- the tuple at a as it stands at each turn, each item in a new pair -/
def IteT (K : PySem.W.Frag) (a : Addr) : It :=
  ⟨fun i H => ∃ (xs : List V) (x : V), SqT K H a xs ∧ xs[i]? = some x, fun i H v H' => ∃ T x, v = .ref T ∧ H T = none ∧ H' = upd H T (.tup [.int (i : Nat), x]) ∧ ∀ xs, SqT K H a xs → xs[i]? = some x, fun i H => ∃ xs : List V, SqT K H a xs ∧ xs.length ≤ i⟩
theorem turn_enumT {P : Program} {w : World} {K : PySem.W.Frag} {elts : List Expr} {kk : Nat} {tpos : Pos} (a e it : Addr) :
    Turn P w K (.Tuple elts kk tpos) (IteT K a) [e, it] e (fun i h => (∃ old, IsEnum h e it ((i : Nat) : Int) old) ∧ h.IsTupleIter it a i ∧ e ≠ it) where
  mem := by simp
  obj := fun i h st b hb => by
    obtain ⟨⟨old, he⟩, ⟨o, ho, hc, hd⟩, _⟩ := st
    have e' : b = e ∨ b = it := by simpa using hb
    rcases e' with z | z
    · rw [z]; exact ⟨_, he, fun v q => nomatch q⟩
    · rw [z]; exact ⟨o, ho, fun v q => by rw [hd] at q; cases q⟩
  keep := fun i h h' st k => let ⟨⟨old, he⟩, hi, hne⟩ := st; ⟨⟨old, k e (by simp) _ he⟩, hi.at fun o q => k it (by simp) o q, hne⟩
  item := by
    intro X hP hw hK hc i pins s σ H E I hf st hg
    subst hP hw hK
    obtain ⟨⟨old, he⟩, hit, hne⟩ := st
    obtain ⟨xs, x, hq, hx⟩ := hg
    obtain ⟨its, rv, p, hz⟩ := I.tuple hq
    obtain ⟨u, hu, ru⟩ := rv.get hx
    have hel : e < s.heap.objs.size := Heap.lt_size he
    have hil : it < s.heap.objs.size := by obtain ⟨_, q, _⟩ := hit; exact Heap.lt_size q
    have p' : s.heap.IsTuple a its.toArray := p
    have hai : a ≠ it := fun z => by
      obtain ⟨o1, h1, c1, _⟩ := p'
      obtain ⟨o2, h2, c2, _⟩ := hit
      rw [z, h2] at h1
      cases h1
      rw [c2] at c1
      exact absurd (Value.type.inj c1) (by decide)
    have hea : e ≠ a := fun z => by
      obtain ⟨o1, h1, c1, _⟩ := p'
      have he' : s.heap.get? e = _ := he
      rw [← z, he'] at h1
      cases h1
      exact absurd (Value.type.inj c1) (by decide)
    have D := PySem.Draws.tuple (prog := X.prog) (w := X.w) (A := X.A.in1) (I.ok.hd hc) it a hai its.toArray
    have hlt : i < its.toArray.size := by
      have := (List.getElem?_eq_some_iff.mp hu).1
      simpa using this
    refine PySem.wpAny_pyNext_enum_itemD D he ⟨hit, p'⟩ hlt hne (by simp [hne, hea]) fun v h' tk hv ho hst' hT hsz hk => ?_
    have hv' : its.toArray[i]? = some v := hv
    have ev : v = u := by
      rw [show its.toArray[i]? = its[i]? by simp, hu] at hv'
      exact (Option.some.inj hv').symm
    subst ev
    refine ⟨_, rfl, wpAny_letOwnedTupleGo_enum (s := { s with heap := h', toks := tk + 1 }) ho fun h'' he' sb => ?_⟩
    have hT2 : h''.get? s.heap.objs.size = some { cls := .type "tuple", data := .seq #[.int i tk, v] } := (sb.2 _ (Nat.ne_of_gt hel)).trans hT
    have new : ObjOk X.prog X.w (upd H s.heap.objs.size (.tup [.int (i : Nat), x])) h'' s.heap.objs.size (.tup [.int (i : Nat), x]) :=
      ⟨by show 2 ≤ sizeLine; decide, [.int i tk, v], .cons ⟨_, rfl⟩ (.cons ru .nil), ⟨_, hT2, rfl, _, rfl⟩⟩
    have I1 : Inv X pins σ (upd H s.heap.objs.size (.tup [.int (i : Nat), x])) { s with heap := h'', toks := tk + 1 } :=
      I.turnedNew (ch := [e, it]) (fun b ob hb q => (sb.2 b (fun z => hb (by simp [z]))).trans (hk b ob (fun z => hb (by simp [z])) (fun z => hb (by simp [z])) q)) hf (Nat.le_refl _) new
    refine ⟨.ref s.heap.objs.size, _, I1, rfl, ⟨_, x, rfl, I.hok.fresh (Nat.le_refl _), rfl, fun ys hy => by rw [I.tuple_inj hy hq]; exact hx⟩, ⟨⟨v, ?_⟩, hst'.1.at fun o q => (sb.2 it (Ne.symm hne)).trans q, hne⟩, fun b hb => ?_⟩
    · have e1 : ((i + 1 : Nat) : Int) = (i : Int) + 1 := by omega
      rw [e1]; exact he'
    · have hb' : b < s.heap.objs.size := by
        have e' : b = e ∨ b = it := by simpa using hb
        rcases e' with z | z
        · rw [z]; exact hel
        · rw [z]; exact hil
      rw [upd_ne (Nat.ne_of_lt hb')]
      exact (hf b hb).1
  done := by
    intro X hP hw hK hc i pins s σ H E I hf st hg
    subst hP hw hK
    obtain ⟨⟨old, he⟩, hit, hne⟩ := st
    obtain ⟨xs, hq, hx⟩ := hg
    obtain ⟨its, rv, p, hz⟩ := I.tuple hq
    obtain ⟨f0, f1, f2, f3, f4, f5⟩ := hf it (by simp)
    have hl := rv.length
    have p' : s.heap.IsTuple a its.toArray := p
    have hT : s.TypeIs (.ref e) "enumerate" := ⟨_, he, rfl⟩
    unfold pyNext
    refine wpAny_bind (wpAny_attempt (wpAny_callSpecial?_slot (name := Str.ofString "__next__") hT PySem.F.slot_enumerate_next
      (wpAny_call_entry PySem.F.slot_enumerate_next hT PySem.F.entry_enumerate_next ?_ (PySem.F.args_enumerate_next_1 _))))
    show wpAny _ _ (field (.ref e) 2 >>= _) _ _ _
    refine wpAny_bind (wpAny_field he rfl (x := .ref it) rfl ?_)
    refine wpAny_bind (PySem.wpAny_nextOf_tuple_end (I.ok.hd hc) hit p' (by simp; omega) fun h' x he' hx' => ?_)
    obtain ⟨o, ho, hc'⟩ := hx'
    refine wpAny_bind (wpAny_isInstance (T := "StopIteration") (b := true) ⟨o, ho, hc'⟩ isSubtype_stop ?_)
    exact wpAny_pure ⟨rfl, I.turned (t' := s.toks) (fun b o hb q => he' b o hb q) f0 f1 f3 f4 f5⟩
  self := fun A i s Q E st h => let ⟨⟨_, he⟩, _⟩ := st; wpAny_pyIter_enum he h
theorem goes_enumT {K : PySem.W.Frag} {w : Wd} {ts : List T} {xs : List V} {a : Addr} (h : SqT K w.I a xs) (q : RpL K w ts xs) : Goes K w (enumT 0 ts) (IteT K a) := fun w' st H' x r => by
  have h' : SqT K H' a xs := sameT r.sub (sameT x.same h)
  refine ⟨fun i hi => ⟨xs, h', by rw [← q.length, ← enum_len ts 0]; exact hi⟩, fun i t ht => ?_⟩
  obtain ⟨u, hu, et⟩ := enum_get ts 0 i ht
  obtain ⟨v, hv, rv⟩ := q.get hu
  refine ⟨⟨xs, v, h', hv⟩, fun y H'' ⟨p, x', e1, e2, e3, z⟩ => ?_⟩
  have ey := z xs h'
  rw [hv] at ey
  cases ey
  subst e1 e3 et
  rw [Nat.zero_add]
  exact laid_pair r e2 (t := .int (i : Nat)) rfl (x.rp rv)
section
variable {P : Pg} {fc : FC} {X : Cx} {W : WX}
def iEnumA (K : PySem.W.Frag) (te : TE) : TI := fun σ H R => te σ H fun v H1 => (∃ a xs, v = .ref a ∧ SqL K H1 a xs ∧ R (Ite K a) H1) ∨ (∃ a xs, v = .ref a ∧ SqT K H1 a xs ∧ R (IteT K a) H1)
theorem pi_enumA {e : Expr} {te : TE} {p pos tpos : Pos} {elts : List Expr} {kk : Nat} (hg : Gl X "enumerate") (hm : X.mg "enumerate" = none) (ha : PE X e te) (hs : isStarred e = false) :
    PI X (.Tuple elts kk tpos) (.Call (.Name "enumerate" p) [e] [] pos) (iEnumA X.K te) := by
  refine ⟨fun pins s σ H R I h => ?_⟩
  let Qs : List V → Hp → Prop := fun vs H1 => match vs with
    | [v] => (∃ a xs, v = .ref a ∧ SqL X.K H1 a xs ∧ R (Ite X.K a) H1) ∨ (∃ a xs, v = .ref a ∧ SqT X.K H1 a xs ∧ R (IteT X.K a) H1)
    | _ => False
  refine PyProof.Rows.Call_ (ld_blt I hg hm PyProof.Rows.boot_enumerate (PyProof.Rows.callWith_type1 (thn ((pa1 ha hs).run pos pins s σ H Qs I h) fun us s1 ⟨vs, H1, I1, r1, q1⟩ => ?_) (star_not hs _ _) rfl))
  · match vs, q1, r1 with
    | [], q1, _ => exact q1.elim
    | _ :: _ :: _, q1, _ => exact q1.elim
    | [v], q, r1 =>
      obtain ⟨u, rfl, ru⟩ := r1.one
      have fr : ∀ b, b ∈ [s1.heap.objs.size + 1, s1.heap.objs.size] → FpOk X pins H1 b := fun b hb => by
        have e' : b = s1.heap.objs.size + 1 ∨ b = s1.heap.objs.size := by simpa using hb
        have hle : s1.heap.objs.size ≤ b := by
          rcases e' with z | z
          · rw [z]; exact Nat.le_add_right _ _
          · rw [z]; exact Nat.le_refl _
        exact I1.fpOk hle (I1.hok.fresh hle)
      rcases q with ⟨a, xs, ev, hq, q⟩ | ⟨a, xs, ev, hq, q⟩
      · subst ev
        cases ru
        obtain ⟨its, rv, p', hz⟩ := I1.list hq
        refine call_enumerate_list p'.isList fun h' he hit hsz hk => wpAny_pyIter_enum he ?_
        exact ⟨s1.heap.objs.size + 1, [s1.heap.objs.size + 1, s1.heap.objs.size], _, _, H1, rfl, I1.kept (t' := s1.toks) hk, turn_enum a (s1.heap.objs.size + 1) s1.heap.objs.size, ⟨⟨.none, he⟩, hit, Nat.succ_ne_self _⟩, fr, q⟩
      · subst ev
        cases ru
        obtain ⟨its, rv, p', hz⟩ := I1.tuple hq
        refine PySem.gt_call_enumT (show s1.heap.IsTuple a its.toArray from p') fun h' he hit hsz hk => wpAny_pyIter_enum he ?_
        exact ⟨s1.heap.objs.size + 1, [s1.heap.objs.size + 1, s1.heap.objs.size], _, _, H1, rfl, I1.kept (t' := s1.toks) hk, turn_enumT a (s1.heap.objs.size + 1) s1.heap.objs.size, ⟨⟨.none, he⟩, hit, Nat.succ_ne_self _⟩, fr, q⟩
theorem li_enum {tg e : Expr} {fe : En → M T} {p pos : Pos} (ht : isTup tg = true) (hg : Gl X "enumerate") (hm : X.mg "enumerate" = none) (he : PE X e (liftE X.K W fe)) (hs : isStarred e = false) :
    PI X tg (.Call (.Name "enumerate" p) [e] [] pos) (liftI X.K W fun env => bnd (fe env) fun x => bnd (fixE x) fun xs => ret (enumT 0 xs)) := by
  cases tg <;> first | (cases ht; done) | skip
  refine PI.imp (pi_enumA hg hm he hs) fun σ H R ⟨w, st, env, r, er, fin⟩ => ⟨w, st, env, r, er, fin.bind fun tx s1 w1 H1 x1 r1 fin1 vx rx => ?_⟩
  unfold bnd fixE at fin1
  cases tx with
  | lst xs =>
    obtain ⟨a, vs, ev, h, q⟩ := rx
    exact .inl ⟨a, vs, ev, SqL.of (r1.sub _ _ h), Fi.ret (E := fun c d H' => W c d σ H') (P := fun ts _ w' H' => ∀ J, Goes X.K w' ts J → R J H') fin1 r1 _ (goes_enumL h q)⟩
  | tup xs =>
    obtain ⟨a, vs, ev, h, q⟩ := rx
    exact .inr ⟨a, vs, ev, sameT r1.sub h, Fi.ret (E := fun c d H' => W c d σ H') (P := fun ts _ w' H' => ∀ J, Goes X.K w' ts J → R J H') fin1 r1 _ (goes_enumT h q)⟩
  | _ => exact fin1.elim
end
end G
-- GtS5
namespace G
open PySem L2
section
variable {P : Pg} {fc : FC} {X : Cx} {W : WX}
/-! ### what is walked -/
theorem any1 {a : Expr} (h : [a].any isStarred = false) : isStarred a = false := by
  rw [List.any_cons, Bool.or_eq_false_iff] at h
  exact h.1
theorem eqb {f n : Str} (h : isNm fc P f n = true) : f = n ∧ isNm fc P n n = true := by
  unfold isNm at h ⊢
  simp only [Bool.and_eq_true, beq_iff_eq] at h
  exact ⟨h.1, by simp [h.2]⟩
theorem li_iter (o : OkX P fc X W) {ev : Expr → En → M T} (h : ∀ e, PE X e (liftE X.K W (ev e))) {tg : Expr} : ∀ e, PI X tg e (liftI X.K W (iterM ev P fc tg e)) := fun e => by
  have dflt : ∀ e, (iterM ev P fc tg e = fun env => bnd (ev e env) fixM) → PI X tg e (liftI X.K W (iterM ev P fc tg e)) := fun e q => by rw [q]; exact li_fix (h e)
  cases e with
  | Call f args kws pos =>
    cases f with
    | Name f p =>
      cases kws with
      | cons k ks => exact dflt _ rfl
      | nil =>
        have q : iterM ev P fc tg (.Call (.Name f p) args [] pos) = fun env => if args.any isStarred then bad else
          if isNm fc P f "range" then bnd (argsM ev args env) rangeM
          else if isNm fc P f "enumerate" then match args with
            | [a] => if isTup tg then bnd (ev a env) fun x => bnd (fixE x) fun xs => ret (enumT 0 xs) else bad
            | _ => bad
          else if isNm fc P f "zip" then match args with
            | [a, b] => if isTup tg then bnd (ev a env) fun x => bnd (ev b env) fun y => fix2 x y else bad
            | _ => bad
          else bnd (ev (.Call (.Name f p) args [] pos) env) fixM := rfl
        rw [q]
        cases hst : args.any isStarred with
        | true => exact lI li_bad (funext fun env => if_pos rfl)
        | false =>
          cases hr : isNm fc P f "range" with
          | true =>
            obtain ⟨e1, e2⟩ := eqb hr
            subst e1
            obtain ⟨g, m⟩ := isNm_ok o (by decide +kernel) e2
            cases args with
            | nil => exact lI li_bad (funext fun env => by funext s; rfl)
            | cons a r => exact lI (li_range g m (la_args h (a :: r)) hst) (funext fun env => rfl)
          | false =>
            cases he : isNm fc P f "enumerate" with
            | true =>
              obtain ⟨e1, e2⟩ := eqb he
              subst e1
              obtain ⟨g, m⟩ := isNm_ok o (by decide +kernel) e2
              match args, hst with
              | [], _ => exact lI li_bad (funext fun env => rfl)
              | [a], hst =>
                cases ht : isTup tg with
                | true => exact lI (li_enum ht g m (h a) (any1 hst)) (funext fun env => rfl)
                | false => exact lI li_bad (funext fun env => rfl)
              | _ :: _ :: _, _ => exact lI li_bad (funext fun env => rfl)
            | false =>
              cases hz : isNm fc P f "zip" with
              | true =>
                obtain ⟨e1, e2⟩ := eqb hz
                subst e1
                obtain ⟨g, m⟩ := isNm_ok o (by decide +kernel) e2
                match args, hst with
                | [], _ => exact lI li_bad (funext fun env => rfl)
                | [a], _ => exact lI li_bad (funext fun env => rfl)
                | [a, b], hst =>
                  cases ht : isTup tg with
                  | true => exact lI (li_zip ht g m (h a) (h b) hst) (funext fun env => rfl)
                  | false => exact lI li_bad (funext fun env => rfl)
                | _ :: _ :: _ :: _, _ => exact lI li_bad (funext fun env => rfl)
              | false => exact lI (li_fix (h (.Call (.Name f p) args [] pos))) (funext fun env => rfl)
    | _ => exact dflt _ rfl
  | _ => exact dflt _ rfl
/-! ### targets -/
/-- the slots agree but at these -/
def Off (l : List Nat) (σ σ' : L2.St) : Prop := σ'.length = σ.length ∧ ∀ i, i ∉ l → σ'[i]? = σ[i]?
theorem Off.refl (l : List Nat) (σ : L2.St) : Off l σ σ := ⟨rfl, fun _ _ => rfl⟩
theorem Off.trans {l m : List Nat} {a b c : L2.St} (h : Off l a b) (k : Off m b c) : Off (l ++ m) a c :=
  ⟨k.1.trans h.1, fun i hi => by
    rw [List.mem_append, not_or] at hi
    exact (k.2 i hi.2).trans (h.2 i hi.1)⟩
def liftG (K : PySem.W.Frag) (l : List Nat) (f : S → T → En → Option En) : TG := fun v σ H Q => ∃ w st env t env', SR K w st H ∧ EnR K w env σ ∧ Rp K w t v ∧ f st t env = some env' ∧ ∀ σ', EnR K w env' σ' → Off l σ σ' → Q σ' H
def liftGs (K : PySem.W.Frag) (l : List Nat) (f : S → List T → En → Option En) : TGs := fun vs σ H Q => ∃ w st env ts env', SR K w st H ∧ EnR K w env σ ∧ RpL K w ts vs ∧ f st ts env = some env' ∧ ∀ σ', EnR K w env' σ' → Off l σ σ' → Q σ' H
theorem PG.imp {tg : Expr} {t t' : TG} (h : PG X tg t) (f : ∀ v σ H Q, t' v σ H Q → t v σ H Q) : PG X tg t' := ⟨fun pins s σ H v u Q I r q => h.run pins s σ H v u Q I r (f _ _ _ _ q)⟩
theorem PGs.imp {tg : List Expr} {t t' : TGs} (h : PGs X tg t) (f : ∀ v σ H Q, t' v σ H Q → t v σ H Q) : PGs X tg t' := ⟨fun pins s σ H v u Q I r q => h.run pins s σ H v u Q I r (f _ _ _ _ q)⟩
theorem pg_bad {tg : Expr} {l : List Nat} {f : S → T → En → Option En} (h : ∀ st t env, f st t env = none) : PG X tg (liftG X.K l f) := ⟨fun pins s σ H v u Q I r ⟨w, st, env, t, env', _, _, _, q, _⟩ => by rw [h] at q; cases q⟩
theorem starG {e : Expr} (h : isStarred e = false) (es : List Expr) (env : PySem.Env) : assignEach (e :: es) env = (false, assign e env) :: assignEach es env := by
  cases e <;> first | rfl | cases h
theorem each_len (env : PySem.Env) : ∀ es : List Expr, (assignEach es env).length = es.length
  | [] => rfl
  | e :: r => by
    cases h : isStarred e with
    | false => rw [starG h, List.length_cons, List.length_cons, each_len env r]
    | true =>
      cases e with
      | Starred e p =>
        show (assignEach r env).length + 1 = _
        rw [each_len env r]
        rfl
      | _ => cases h
theorem each_plain (env : PySem.Env) : ∀ {es : List Expr}, es.any isStarred = false → (assignEach es env).findIdx? (·.1) = none
  | [], _ => rfl
  | e :: r, h => by
    rw [List.any_cons, Bool.or_eq_false_iff] at h
    rw [starG h.1, List.findIdx?_cons]
    have ih := each_plain env h.2
    rw [ih]
    rfl
theorem bindR_name {st : S} {x : Str} {p : Pos} {t : T} {env : En} : bindR fc st (.Name x p) t env = match fc.loc x with
    | some i => if isLC (fc.raw.names.lookup x) then some (env.set i (some t)) else none
    | none => none := by
  rw [bindR]
  all_goals (cases fc.loc x <;> rfl)
theorem binds_plain {st : S} : ∀ {es : List Expr} {ts : List T} {env env' : En}, bindTs fc st es ts env = some env' → es.any isStarred = false
  | [], _, _, _, _ => rfl
  | e :: es, [], _, _, h => by
    unfold bindTs at h
    cases h
  | e :: es, t :: ts, env, env', h => by
    unfold bindTs at h
    cases e1 : bindR fc st e t env with
    | none => rw [e1] at h; cases h
    | some env1 =>
      rw [e1] at h
      rw [List.any_cons, binds_plain h, Bool.or_false]
      cases e with
      | Starred e p =>
        unfold bindR at e1
        cases e1
      | _ => rfl
mutual
theorem lg_bindR (o : OkX P fc X W) : ∀ e : Expr, PG X e (liftG X.K (tgIx fc e) fun st t env => bindR fc st e t env)
  | .Name x pos => by
    cases e : fc.loc x with
    | none => exact pg_bad fun st t env => by rw [bindR_name, e]
    | some i =>
      cases e2 : isLC (fc.raw.names.lookup x) with
      | false =>
        refine pg_bad fun st t env => ?_
        rw [bindR_name, e]
        show (if isLC (fc.raw.names.lookup x) = true then _ else _) = _
        rw [e2]
        rfl
      | true =>
        obtain ⟨h1, h2, h3, h4⟩ := o.loc e
        obtain ⟨lo, lf⟩ := o.asg x e2
        refine PG.imp (pg_name (by rw [o.N]; exact o.nd) h1 lo lf) fun v σ H Q ⟨w, st, env, t, env', r, er, rt, q, k⟩ => ?_
        have q : bindR fc st (.Name x pos) t env = some env' := q
        have e0 : bindR fc st (.Name x pos) t env = some (env.set i (some t)) := by
          rw [bindR_name, e]
          show (if isLC (fc.raw.names.lookup x) = true then _ else _) = _
          rw [e2]
          rfl
        rw [e0] at q
        cases q
        refine k _ (er.set rt) ⟨List.length_set, fun j hj => ?_⟩
        have hne : i ≠ j := fun z => hj (by unfold tgIx; rw [e]; rw [z]; exact List.mem_singleton.mpr rfl)
        exact List.getElem?_set_ne hne
  | .Tuple es k pos => by
    cases hs : es.any isStarred with
    | true =>
      refine ⟨fun pins s σ H v u Q I r ⟨w, st, env, t, env', _, _, _, q, _⟩ => ?_⟩
      have q : bindR fc st (.Tuple es k pos) t env = some env' := q
      unfold bindR at q
      split at q
      · split at q
        · exact absurd hs (by rw [binds_plain q]; exact Bool.false_ne_true)
        · cases q
      · cases q
    | false =>
      refine PG.imp (pg_tup (n := es.length) o.calm (lg_binds o es) (each_len _ es) (each_plain _ hs)) fun v σ H Q ⟨w, st, env, t, env', r, er, rt, q, k⟩ => ?_
      have q : bindR fc st (.Tuple es _ _) t env = some env' := q
      unfold bindR at q
      split at q
      · rename_i ts et
        split at q
        · rename_i hl
          obtain ⟨a, xs, ev, h1, h2, h3⟩ := see_tupI r rt et
          exact ⟨a, xs, ev, h1, by rw [← h3.length]; exact hl, w, st, env, ts, env', r, er, h3, q, k⟩
        · cases q
      · cases q
  | .BoolOp .. => pg_bad fun _ _ _ => by unfold bindR; rfl
  | .NamedExpr .. => pg_bad fun _ _ _ => by unfold bindR; rfl
  | .BinOp .. => pg_bad fun _ _ _ => by unfold bindR; rfl
  | .UnaryOp .. => pg_bad fun _ _ _ => by unfold bindR; rfl
  | .Lambda .. => pg_bad fun _ _ _ => by unfold bindR; rfl
  | .IfExp .. => pg_bad fun _ _ _ => by unfold bindR; rfl
  | .Dict .. => pg_bad fun _ _ _ => by unfold bindR; rfl
  | .Set .. => pg_bad fun _ _ _ => by unfold bindR; rfl
  | .ListComp .. => pg_bad fun _ _ _ => by unfold bindR; rfl
  | .SetComp .. => pg_bad fun _ _ _ => by unfold bindR; rfl
  | .DictComp .. => pg_bad fun _ _ _ => by unfold bindR; rfl
  | .GeneratorExp .. => pg_bad fun _ _ _ => by unfold bindR; rfl
  | .Await .. => pg_bad fun _ _ _ => by unfold bindR; rfl
  | .Yield .. => pg_bad fun _ _ _ => by unfold bindR; rfl
  | .YieldFrom .. => pg_bad fun _ _ _ => by unfold bindR; rfl
  | .Compare .. => pg_bad fun _ _ _ => by unfold bindR; rfl
  | .Call .. => pg_bad fun _ _ _ => by unfold bindR; rfl
  | .FormattedValue .. => pg_bad fun _ _ _ => by unfold bindR; rfl
  | .JoinedStr .. => pg_bad fun _ _ _ => by unfold bindR; rfl
  | .Constant .. => pg_bad fun _ _ _ => by unfold bindR; rfl
  | .Attribute .. => pg_bad fun _ _ _ => by unfold bindR; rfl
  | .Subscript .. => pg_bad fun _ _ _ => by unfold bindR; rfl
  | .Starred .. => pg_bad fun _ _ _ => by unfold bindR; rfl
  | .List .. => pg_bad fun _ _ _ => by unfold bindR; rfl
  | .Slice .. => pg_bad fun _ _ _ => by unfold bindR; rfl
theorem lg_binds (o : OkX P fc X W) : ∀ es : List Expr, PGs X es (liftGs X.K (tgIxs fc es) fun st ts env => bindTs fc st es ts env)
  | [] => PGs.imp pgs_nil fun v σ H Q ⟨w, st, env, ts, env', r, er, rt, q, k⟩ => by
    match ts, rt, q with
    | [], rt, q =>
      have q : bindTs fc st [] [] env = some env' := q
      unfold bindTs at q
      cases q
      exact ⟨rt, k σ er (Off.refl _ _)⟩
    | _ :: _, rt, q =>
      have q : bindTs fc st [] (_ :: _) env = some env' := q
      unfold bindTs at q
      cases q
  | e :: es => by
    cases hs : isStarred e with
    | true =>
      refine ⟨fun pins s σ H v u Q I r ⟨w, st, env, ts, env', _, _, _, q, _⟩ => ?_⟩
      have q : bindTs fc st (e :: es) ts env = some env' := q
      have z := binds_plain q
      rw [List.any_cons, hs] at z
      cases z
    | false =>
      refine PGs.imp (pgs_cons (lg_bindR o e) (lg_binds o es) (by rw [starG hs]; rfl)) fun v σ H Q ⟨w, st, env, ts, env', r, er, rt, q, k⟩ => ?_
      match ts, rt, q with
      | [], rt, q =>
        have q : bindTs fc st (e :: es) [] env = some env' := q
        unfold bindTs at q
        cases q
      | t :: ts, ⟨x, xs, ev, rx, rxs⟩, q =>
        have q : bindTs fc st (e :: es) (t :: ts) env = some env' := q
        unfold bindTs at q
        cases e1 : bindR fc st e t env with
        | none => rw [e1] at q; cases q
        | some env1 =>
          rw [e1] at q
          have q : bindTs fc st es ts env1 = some env' := q
          refine ⟨x, xs, ev, w, st, env, t, env1, r, er, rx, e1, fun σ1 er1 off1 => ⟨w, st, env1, ts, env', r, er1, rxs, q, fun σ2 er2 off2 => k σ2 er2 ?_⟩⟩
          have z := off1.trans off2
          unfold tgIxs
          exact z
end
theorem name_ix {st : S} {e : Expr} {i : Nat} (h : nameIx fc e = some i) (t : T) (env : En) : bindR fc st e t env = some (env.set i (some t)) := by
  cases e with
  | Name x p =>
    have h : (match fc.loc x with
      | some i => if isLC (fc.raw.names.lookup x) then some i else none
      | none => none) = some i := h
    rw [bindR_name]
    split at h
    · rename_i j ej
      split at h
      · rename_i hc
        cases h
        exact if_pos hc
      · cases h
    · cases h
  | _ => cases h
theorem names_ix {st : S} : ∀ {es : List Expr} {is : List Nat} {ts : List T} {env : En}, nameIxs fc es = some is → is.length = es.length ∧ bindTs fc st es ts env = bindIx is ts env
  | [], is, ts, env, h => by
    cases h
    refine ⟨rfl, ?_⟩
    cases ts <;> (unfold bindTs bindIx; rfl)
  | e :: es, is, ts, env, h => by
    have h : (match nameIx fc e, nameIxs fc es with
      | some i, some is => some (i :: is)
      | _, _ => none) = some is := h
    split at h
    · rename_i i is' e1 e2
      cases h
      have z := names_ix (st := st) (ts := []) (env := env) e2
      refine ⟨by rw [List.length_cons, List.length_cons, z.1], ?_⟩
      cases ts with
      | nil => unfold bindTs bindIx; rfl
      | cons t ts =>
        unfold bindTs bindIx
        rw [name_ix e1]
        exact (names_ix (st := st) (ts := ts) (env := env.set i (some t)) e2).2
    · cases h
theorem bindT_eq {st : S} {e : Expr} {t : T} {env : En} : bindT fc st e t env = bindR fc st e t env := by
  unfold bindT
  split
  · rename_i es k p
    split
    · rename_i is e1
      unfold bindTup bindR
      split
      · rename_i ts et
        rw [(names_ix (st := st) (ts := ts) (env := env) e1).1]
        split
        · exact (names_ix e1).2.symm
        · rfl
      · rfl
    · rfl
  · rfl
theorem bindT_name {st : S} {x : Str} {p : Pos} {t : T} {env : En} : bindT fc st (.Name x p) t env = match fc.loc x with
    | some i => if isLC (fc.raw.names.lookup x) then some (env.set i (some t)) else none
    | none => none := by
  rw [bindT_eq, bindR_name]
theorem lg_bind (o : OkX P fc X W) (e : Expr) : PG X e (liftG X.K (tgIx fc e) fun st t env => bindT fc st e t env) := by
  have z : (fun st t env => bindT fc st e t env) = fun st t env => bindR fc st e t env := funext fun st => funext fun t => funext fun env => bindT_eq
  rw [z]
  exact lg_bindR o e
end
end G
-- GtS6
namespace G
open PySem L2
def dlH (H : Hp) (a : Addr) : Hp := fun b => if b = a then none else H b
theorem dlH_same {H : Hp} {a : Addr} : dlH H a a = none := by unfold dlH; rw [if_pos rfl]
theorem dlH_ne {H : Hp} {a b : Addr} (h : b ≠ a) : dlH H a b = H b := by unfold dlH; rw [if_neg h]
theorem tabs_del {T : List (Addr × Str)} {H : Hp} {p : Addr} {u : HO} (t : LamX.Tabs T H) (hp : H p = some u) (hu : Plain u) : LamX.Tabs T (dlH H p) := fun q hq => by
  obtain ⟨ps, h1, h2, h3⟩ := t q hq
  have n1 : q.1 ≠ p := fun z => by
    rw [z, hp] at h1
    exact hu.1 ps (Option.some.inj h1)
  refine ⟨ps, by rw [dlH_ne n1]; exact h1, h2, fun pos cv hc => ?_⟩
  obtain ⟨c, e1, e2⟩ := h3 pos cv hc
  have n2 : c ≠ p := fun z => by
    rw [← z, e2] at hp
    exact hu.2 _ (Option.some.inj hp).symm
  exact ⟨c, e1, by rw [dlH_ne n2]; exact e2⟩
section
variable {K : PySem.W.Frag} {w : Wd} {s : S} {H : Hp}
/-! ### what is hidden -/
theorem Ext.shown {w w1 : Wd} {k : Hp} (h : Ext (w.show_ k) w1) : Ext w (w1.show_ w.k) := ⟨h.same, h.at_, h.le, rfl⟩
theorem Ext.showA {w w1 : Wd} (k : Hp) (h : Ext w w1) : Ext (w.show_ k) (w1.show_ k) := ⟨h.same, h.at_, h.le, rfl⟩
theorem Ext.ex {w w1 : Wd} {k : Hp} (h : Ext w w1) : Ex0 w (w1.show_ k) := ⟨h.same, h.at_, h.le⟩
theorem Ex0.trans {a b c : Wd} (h : Ex0 a b) (k : Ex0 b c) : Ex0 a c := ⟨h.same.trans k.same, fun n q => (k.at_ n (Nat.lt_of_lt_of_le q h.le)).trans (h.at_ n q), Nat.le_trans h.le k.le⟩
theorem Ex0.refl (a : Wd) : Ex0 a a := ⟨Same.refl _, fun _ _ => rfl, Nat.le_refl _⟩
theorem Rp.sh {k : Hp} {t : T} {v : V} (q : Rp K w t v) : Rp K (w.show_ k) t v := Rp.mono0 (w := w) (w' := w.show_ k) ⟨fun _ _ e => e, fun _ _ => rfl, Nat.le_refl _⟩ q
theorem RpL.sh {k : Hp} {t : List T} {v : List V} (q : RpL K w t v) : RpL K (w.show_ k) t v := RpL.mono0 (w := w) (w' := w.show_ k) ⟨fun _ _ e => e, fun _ _ => rfl, Nat.le_refl _⟩ q
theorem RpL.ush {k : Hp} {t : List T} {v : List V} (q : RpL K (w.show_ k) t v) : RpL K w t v := RpL.mono0 (w := w.show_ k) (w' := w) ⟨fun _ _ e => e, fun _ _ => rfl, Nat.le_refl _⟩ q
theorem EnR.mono0 {w' : Wd} {env : En} {σ : L2.St} (h : Ex0 w w') (e : EnR K w env σ) : EnR K w' env σ :=
  ⟨e.len, fun i t q => let ⟨v, a, b⟩ := e.at_ i t q; ⟨v, a, Rp.mono0 h b⟩⟩
theorem EnR.wipe {env : En} {σ : L2.St} (e : EnR K w env σ) : ∀ vs : List Nat, EnR K w (wipeE env vs) (L2.wipe σ vs)
  | [] => e
  | v :: vs => by
    unfold wipeE L2.wipe
    exact (e.wipe vs).none
/-- what a part does, where something is hidden -/
theorem Fi.bindH {α β : Type} {m : M α} {k : α → M β} {P : β → S → Wd → Hp → Prop} {P1 : α → S → Wd → Hp → Prop} {E E1 : XK} {kh : Hp} (h : Fi K w (bnd (G.noX m) k s) P E)
    (f : ∀ a s1 w1 H1, Ext (w.show_ kh) w1 → SR K w1 s1 H1 → Fi K (w1.show_ w.k) (k a s1) P E → P1 a s1 w1 H1) : Fi K (w.show_ kh) (m s) P1 E1 := by
  unfold bnd G.noX at h
  cases e : m s with
  | ok a s1 =>
    rw [e] at h
    intro w1 H1 x1 r1
    refine f a s1 w1 H1 x1 r1 ?_
    have h : Fi K w (k a s1) P E := h
    exact Fi.mono x1.shown h (fun _ _ _ _ _ _ z => z) fun _ _ _ z => z
  | exc C ns ts s1 =>
    rw [e] at h
    exact h.elim
  | bad =>
    rw [e] at h
    exact h.elim
theorem noX_bnd {α β : Type} (m : M α) (f : α → M β) : noX (bnd m f) = bnd (noX m) fun a => noX (f a) := by
  funext s
  simp only [noX, bnd]
  cases m s <;> rfl
theorem noX_ret {α : Type} (a : α) : noX (ret a) = ret a := rfl
theorem ret_bnd {α β : Type} (a : α) (f : α → M β) : bnd (ret a) f = f a := rfl
/-- the hidden thing at D is another -/
theorem SR.rehid {k : Hp} {D : Addr} {o o' : HO} (x : SR K (w.show_ (upd k D o)) s H) (ho : Plain o := by exact ⟨fun _ z => (by cases z), fun _ z => (by cases z)⟩) (ho' : Plain o' := by exact ⟨fun _ z => (by cases z), fun _ z => (by cases z)⟩) : SR K (w.show_ (upd k D o')) s (upd H D o') := by
  have hD : (w.show_ (upd k D o)).k D = some o := upd_same
  have nI : ∀ a u, w.I a = some u → a ≠ D := fun a u e z => by
    have q := x.kI D o hD
    have q : w.I D = none := q
    rw [z, q] at e
    cases e
  have nB : ∀ n u, s.get n = some u → w.r n ≠ D := fun n u e z => by
    have q : upd k D o (w.r n) = none := x.kB n u e
    rw [z, upd_same] at q
    cases q
  have nk : ∀ a u, upd k D o' a = some u → Plain u := fun a u z => by
    by_cases h : a = D
    · rw [h, upd_same] at z
      rw [← Option.some.inj z]
      exact ho'
    · rw [upd_ne h] at z
      exact x.ntk a u (by show upd k D o a = _; rw [upd_ne h]; exact z)
  refine ⟨fun a u e => by rw [upd_ne (nI a u e)]; exact x.sub a u e, fun n u e => ?_, x.inj, x.nd, x.b, fun a u e => ?_, fun a u e => ?_, fun n u e => ?_, tabs_upd x.tb (x.kH D o hD) ho, x.ntI, nk⟩
  · obtain ⟨a, b, c⟩ := x.box n u e
    exact ⟨a, BAt.mono0 (w := w.show_ (upd k D o)) (w' := w.show_ (upd k D o')) ⟨Same.refl _, fun _ _ => rfl, Nat.le_refl _⟩ (upd_ne (nB n u e)) b, c⟩
  · have e : upd k D o' a = some u := e
    by_cases h : a = D
    · subst h
      rw [upd_same] at e ⊢
      exact e
    · rw [upd_ne h] at e ⊢
      exact x.kH a u (by show upd k D o a = some u; rw [upd_ne h]; exact e)
  · have e : upd k D o' a = some u := e
    by_cases h : a = D
    · rw [h]
      exact x.kI D o hD
    · rw [upd_ne h] at e
      exact x.kI a u (by show upd k D o a = some u; rw [upd_ne h]; exact e)
  · show upd k D o' (w.r n) = none
    have q : upd k D o (w.r n) = none := x.kB n u e
    rw [upd_ne (nB n u e)] at q ⊢
    exact q
/-- .. is not hidden any more, nor there -/
theorem SR.unlaid {k : Hp} {D : Addr} {o : HO} (x : SR K (w.show_ (upd k D o)) s H) (hk : k D = none) (ho : Plain o := by exact ⟨fun _ z => (by cases z), fun _ z => (by cases z)⟩) : SR K (w.show_ k) s (dlH H D) := by
  have hD : (w.show_ (upd k D o)).k D = some o := upd_same
  have nI : ∀ a u, w.I a = some u → a ≠ D := fun a u e z => by
    have q := x.kI D o hD
    have q : w.I D = none := q
    rw [z, q] at e
    cases e
  have nB : ∀ n u, s.get n = some u → w.r n ≠ D := fun n u e z => by
    have q : upd k D o (w.r n) = none := x.kB n u e
    rw [z, upd_same] at q
    cases q
  have nk : ∀ a u, k a = some u → a ≠ D := fun a u e z => by rw [z, hk] at e; cases e
  have nt : ∀ a u, k a = some u → Plain u := fun a u z => by
    by_cases h : a = D
    · rw [h, hk] at z
      cases z
    · exact x.ntk a u (by show upd k D o a = _; rw [upd_ne h]; exact z)
  refine ⟨fun a u e => by rw [dlH_ne (nI a u e)]; exact x.sub a u e, fun n u e => ?_, x.inj, x.nd, x.b, fun a u e => ?_, fun a u e => ?_, fun n u e => ?_, tabs_del x.tb (x.kH D o hD) ho, x.ntI, nt⟩
  · obtain ⟨a, b, c⟩ := x.box n u e
    exact ⟨a, BAt.mono0 (w := w.show_ (upd k D o)) (w' := w.show_ k) ⟨Same.refl _, fun _ _ => rfl, Nat.le_refl _⟩ (dlH_ne (nB n u e)) b, c⟩
  · rw [dlH_ne (nk a u e)]
    exact x.kH a u (by show upd k D o a = some u; rw [upd_ne (nk a u e)]; exact e)
  · exact x.kI a u (by show upd k D o a = some u; rw [upd_ne (nk a u e)]; exact e)
  · have q : upd k D o (w.r n) = none := x.kB n u e
    rw [upd_ne (nB n u e)] at q
    exact q
theorem upd_del {D : Addr} {o : HO} (h : H D = some o) : upd (dlH H D) D o = H := by
  funext b
  by_cases e : b = D
  · subst e
    rw [upd_same, h]
  · rw [upd_ne e, dlH_ne e]
theorem upd_upd {k : Hp} {D : Addr} {o o' : HO} : upd (upd k D o) D o' = upd k D o' := by
  funext b
  by_cases e : b = D
  · subst e
    rw [upd_same, upd_same]
  · rw [upd_ne e, upd_ne e, upd_ne e]
end
/-! ### the text's checks -/
theorem own_ix {N : List Str} : ∀ {names : List (Str × NameKind)}, ∀ p ∈ ownOf N names, N[p.2]? = some p.1
  | [], p, h => by
    unfold ownOf at h
    cases h
  | (x, k) :: r, p, h => by
    unfold ownOf at h
    split at h
    · rename_i i e
      rcases List.mem_cons.mp h with h | h
      · rw [h]; exact ixOf_get e
      · exact own_ix p h
    · rename_i i e
      rcases List.mem_cons.mp h with h | h
      · rw [h]; exact ixOf_get e
      · exact own_ix p h
    · exact own_ix p h
theorem ixOf_none {x : Str} : ∀ {N : List Str}, ixOf x N = none → x ∉ N
  | [], _ => by simp
  | y :: r, h => by
    unfold ixOf at h
    split at h
    · cases h
    · rename_i ne
      cases e : ixOf x r with
      | some j => rw [e] at h; cases h
      | none =>
        rw [List.mem_cons, not_or]
        exact ⟨fun z => ne z.symm, ixOf_none e⟩
theorem own_has {N : List Str} : ∀ {names : List (Str × NameKind)} {y : Str × NameKind}, y ∈ names → y.2 = .local ∨ y.2 = .cell → y.1 ∈ (ownOf N names).map (·.1) ∨ y.1 ∉ N
  | (x, k) :: r, y, h, hk => by
    have sub : ∀ z ∈ (ownOf N r).map (·.1), z ∈ (ownOf N ((x, k) :: r)).map (·.1) := fun z hz => by
      unfold ownOf
      split
      · exact List.mem_cons_of_mem _ hz
      · exact List.mem_cons_of_mem _ hz
      · exact hz
    rcases List.mem_cons.mp h with h | h
    · subst h
      cases e : ixOf x N with
      | none => exact .inr (ixOf_none e)
      | some i =>
        refine .inl ?_
        have hk : k = .local ∨ k = .cell := hk
        rcases hk with hk | hk
        · subst hk
          unfold ownOf
          rw [e]
          exact List.mem_cons_self
        · subst hk
          unfold ownOf
          rw [e]
          exact List.mem_cons_self
    · rcases own_has (N := N) h hk with q | q
      · exact .inl (sub _ q)
      · exact .inr q
theorem isFn_ok {k : ScopeKind} (h : isFn k = true) : k = .function := by cases k <;> first | rfl | cases h
theorem isCF_ok {k : Option NameKind} (h : isCF k = true) : k = some .cell ∨ k = some .free := by
  cases k with
  | none => cases h
  | some k => cases k <;> first | exact .inl rfl | exact .inr rfl | cases h
theorem blkB_ok {fc : FC} {scope : Scope} {tg : Expr} (h : blkB fc scope tg = true) : BlkOk fc.N fc.sc scope (ownOf fc.N scope.names) ∧ ∀ i ∈ tgIx (fc.inner scope) tg, i ∈ (ownOf fc.N scope.names).map (·.2) := by
  unfold blkB at h
  rw [Bool.and_eq_true, Bool.and_eq_true] at h
  obtain ⟨⟨h1, h2⟩, h3⟩ := h
  have h2 := List.all_eq_true.mp h2
  have h3 := List.all_eq_true.mp h3
  refine ⟨⟨isFn_ok h1, fun y hy => ?_, own_ix, fun y hy hf => ?_, fun y hy hk => own_has hy hk⟩, fun i hi => by simpa using h3 i hi⟩
  · have q := h2 y hy
    rw [Bool.and_eq_true, decide_eq_true_eq] at q
    exact q.1
  · have q := h2 y hy
    rw [Bool.and_eq_true, hf] at q
    have q2 := q.2
    exact isCF_ok (by simpa [isFree] using q2)
theorem isLC_ok {k : Option NameKind} (h : isLC k = true) : k = some .local ∨ k = some .cell := by
  cases k with
  | none => cases h
  | some k => cases k <;> first | exact .inl rfl | exact .inr rfl | cases h
section
variable {P : Pg} {fc : FC} {X : Cx} {W : WX}
/-- the context of the block -/
theorem OkX.inner (o : OkX P fc X W) {scope : Scope} (s : Shared) (H : Hp) (C : Addr) (cl : List (Str × Addr)) (fp : List Addr) : OkX P (fc.inner scope) (X.blk s H scope (compEnvC scope cl C X.env) fp) (fun _ _ _ _ => False) where
  N := o.N
  sc := by
    show relS scope X.env.scope = relS scope fc.sc
    rw [o.sc]
  nd := o.nd
  asg := fun x h => by
    have h : isLC (scope.names.lookup x) = true := h
    show Loc (relS scope X.env.scope) x ∧ ((scope.names.lookup x == some NameKind.cell) = true ∨ (relS scope X.env.scope).names.lookup x = some .local)
    rcases isLC_ok h with h | h
    · have z : (relS scope X.env.scope).names.lookup x = some .local := lookup_relS_keep (by decide) h
      exact ⟨.inl z, .inr z⟩
    · have z : (relS scope X.env.scope).names.lookup x = some .cell := lookup_relS_keep (by decide) h
      exact ⟨.inr z, .inl (by rw [h]; rfl)⟩
  calm := o.calm
  tk := fun u s' ⟨a, B, sI, pins, σ, H, cls, d, e, I, nb, up, sky, na, os, ag, w⟩ => w.elim
  g := o.g
  u := o.u
  K := o.K
  rm := o.rm
  th := fun x j p1 p2 _ pn xe W' _ => lE le_bad (funext fun env => funext fun st => by
    show bnd (getV env j) (thC none) st = bad st
    unfold bnd getV
    cases h : env[j]? with
    | none => rfl
    | some t =>
      cases t with
      | none => rfl
      | some t => cases t <;> rfl)
  lm := fun x i params body scope' p lpos pos _ _ _ _ _ pn xe W' _ => le_bad
theorem PTs.imp {es : List Expr} {t t' : TT} (h : PTs X es t) (f : ∀ σ H Q, t' σ H Q → t σ H Q) : PTs X es t' := ⟨fun pins s σ H Q I q => h.run pins s σ H Q I (f _ _ _ q)⟩
theorem lt_tests {ev : Expr → En → M Bool} (h : ∀ e, PT X e (liftT X.K W (ev e))) : ∀ es, PTs X es (liftT X.K W (testsM ev es))
  | [] => PTs.imp pts_nil fun σ H Q ⟨w, st, env, r, er, fin⟩ => Fi.ret (E := fun c d H' => W c d σ H') (P := PB Q) fin r
  | [e] => PTs.imp (pts_one (h e)) fun _ _ _ z => z
  | _ :: _ :: _ => ⟨fun pins s σ H Q I ⟨w, st, env, r, er, fin⟩ => fin.elim⟩
theorem fold_set {e : Expr} (h : isSetE e = false) (env : PySem.Env) (x : Value) : foldedSetIterable e env x = pure x := by
  cases e <;> first | rfl | cases h
theorem wipe_off {l m : List Nat} {a b : L2.St} (h : Off l a b) (hm : ∀ i ∈ l, i ∈ m) : L2.wipe b m = L2.wipe a m := by
  have key : ∀ (m : List Nat) (σ : L2.St) (i : Nat), i ∈ m → (L2.wipe σ m)[i]? = none ∨ (L2.wipe σ m)[i]? = some none := fun m => by
    induction m with
    | nil => intro σ i hi; cases hi
    | cons v vs ih =>
      intro σ i hi
      unfold L2.wipe
      by_cases hv : v = i
      · subst hv
        by_cases hl : v < (L2.wipe σ vs).length
        · rw [List.getElem?_set_self hl]; exact .inr rfl
        · rw [List.getElem?_eq_none (by simpa using hl)]; exact .inl rfl
      · rw [List.getElem?_set_ne hv]
        rcases List.mem_cons.mp hi with z | z
        · exact absurd z.symm hv
        · exact ih σ i z
  have off : ∀ (m : List Nat) (σ : L2.St) (i : Nat), i ∉ m → (L2.wipe σ m)[i]? = σ[i]? := fun m => by
    induction m with
    | nil => intro σ i _; rfl
    | cons v vs ih =>
      intro σ i hi
      unfold L2.wipe
      rw [List.mem_cons, not_or] at hi
      rw [List.getElem?_set_ne (fun z => hi.1 z.symm)]
      exact ih σ i hi.2
  have hl2 : b.length = a.length := h.1
  refine List.ext_getElem? fun i => ?_
  by_cases hi : i ∈ m
  · have lb : (L2.wipe b m).length = b.length := L2.wipe_length b m
    have la : (L2.wipe a m).length = a.length := L2.wipe_length a m
    by_cases hl : i < a.length
    · have e1 : (L2.wipe a m)[i]? = some none := by
        rcases key m a i hi with z | z
        · rw [List.getElem?_eq_none_iff] at z
          omega
        · exact z
      have e2 : (L2.wipe b m)[i]? = some none := by
        rcases key m b i hi with z | z
        · rw [List.getElem?_eq_none_iff] at z
          omega
        · exact z
      rw [e1, e2]
    · rw [List.getElem?_eq_none (by omega), List.getElem?_eq_none (by omega)]
  · rw [off m b i hi, off m a i hi]
    exact h.2 i fun z => hi (hm i z)
end
end G
-- GtS7
namespace G
open PySem L2
section
variable {P : Pg} {fc : FC} {X : Cx} {W : WX}
/-- one turn of a comprehension, then the rest -/
theorem comp_eq {turn : T → M (Option T)} {acc r : List T} {t : T} {b : Bool} : (bnd (compM turn (t :: r)) fun ys => boxM b (.lst (acc ++ ys))) = bnd (noX (turn t)) fun o => match o with
    | some y => bnd (compM turn r) fun ys => boxM b (.lst ((acc ++ [y]) ++ ys))
    | none => bnd (compM turn r) fun ys => boxM b (.lst (acc ++ ys)) := by
  show bnd (bnd (noX (turn t)) _) _ = _
  rw [bnd_assoc]
  congr 1
  funext o
  cases o with
  | none => rfl
  | some y =>
    show bnd (bnd (compM turn r) fun ys => ret (y :: ys)) _ = bnd (compM turn r) fun ys => boxM b (.lst ((acc ++ [y]) ++ ys))
    rw [bnd_assoc]
    congr 1
    funext ys
    show boxM b (.lst (acc ++ (y :: ys))) = _
    rw [List.append_assoc]
    rfl
/-- what the turns of a comprehension keep -/
def LcW (K : PySem.W.Frag) (w1 : Wd) (D : Addr) (turn : T → M (Option T)) (ts : List T) (b : Bool) (P : T → S → Wd → Hp → Prop) (E : XK) (i m : Nat) (H : Hp) : Prop :=
  m = ts.length - i ∧ i ≤ ts.length ∧ ∃ w' st accT acc, Ex0 w1 w' ∧ SR K (w'.show_ (upd w1.k D (.lst acc))) st H ∧ RpL K w' accT acc ∧ acc.length ≤ i ∧
    Fi K (w'.show_ w1.k) (bnd (compM turn (ts.drop i)) (fun ys => boxM b (.lst (accT ++ ys))) st) P E
theorem lc_turns {scope : Scope} {b : Bool} {evT : Expr → En → M Bool} {ev : Expr → En → M T} {tg elt : Expr} {ifs : List Expr} {own : List Nat} {env : En} {σ : L2.St} {J : It} {ts : List T} {w1 : Wd} {s1 : S} {H1 : Hp} {D : Addr} {Q : VK} {E : XK}
    (hown : ∀ i ∈ tgIx (fc.inner scope) tg, i ∈ own) (er : EnR X.K w1 env σ) (r1 : SR X.K w1 s1 H1) (G : Goes X.K w1 ts J) (hD : H1 D = none) (hz : ts.length ≤ sizeLine)
    (fin : Fi X.K w1 (bnd (compM (turnM (fc.inner scope) evT ev tg elt ifs (wipeE env own)) ts) (fun ys => boxM b (.lst ys)) s1) (PQ X.K Q) E) :
    ∃ W : Nat → Nat → Hp → Prop, (∃ m, W 0 m (upd H1 D (.lst []))) ∧ ∀ i m H, W i m H →
      (J.stop i H ∧ Q (.ref D) H) ∨ (J.go i H ∧ ∃ Nx : Hp → Prop, (∀ H', Nx H' → ∃ m', m' < m ∧ W (i + 1) m' H') ∧ ∀ x H', J.yld i H x H' →
        liftG X.K (tgIx (fc.inner scope) tg) (fun st t env => bindT (fc.inner scope) st tg t env) x (L2.wipe σ own) H' fun σ2 H2 => L2.wipe σ2 own = L2.wipe σ own ∧
          liftT X.K (fun _ _ _ _ => False) (testsM evT ifs) σ2 H2 fun k H3 => if k = true then liftE X.K (fun _ _ _ _ => False) (ev elt) σ2 H3 fun y H4 => ∃ acc, H4 D = some (.lst acc) ∧ acc.length < sizeLine ∧ Nx (upd H4 D (.lst (acc ++ [y]))) else Nx H3) := by
  have kD : w1.k D = none := by
    cases e : w1.k D with
    | none => rfl
    | some o =>
      have q := r1.kH D o e
      rw [hD] at q
      cases q
  refine ⟨LcW X.K w1 D (turnM (fc.inner scope) evT ev tg elt ifs (wipeE env own)) ts b (PQ X.K Q) E, ⟨ts.length, rfl, Nat.zero_le _, w1, s1, [], [], Ex0.refl _, r1.hide hD, rfl, Nat.le_refl _, ?_⟩, ?_⟩
  · exact fin
  rintro i m H ⟨em, hi, w', st, accT, acc, x0, r, ra, hl, f⟩
  have g := G (w'.show_ (upd w1.k D (.lst acc))) st H (x0.trans ⟨Same.refl _, fun _ _ => rfl, Nat.le_refl _⟩) r
  by_cases hlt : i < ts.length
  · obtain ⟨t, ht⟩ : ∃ t, ts[i]? = some t := ⟨ts[i], by simp [hlt]⟩
    obtain ⟨go, yld⟩ := g.2 i t ht
    have hdrop : ts.drop i = t :: ts.drop (i + 1) := by
      rw [List.drop_eq_getElem_cons hlt]
      congr 1
      have := List.getElem?_eq_getElem hlt
      rw [ht] at this
      exact (Option.some.inj this).symm
    refine .inr ⟨go, LcW X.K w1 D (turnM (fc.inner scope) evT ev tg elt ifs (wipeE env own)) ts b (PQ X.K Q) E (i + 1) (ts.length - (i + 1)), fun H' z => ⟨ts.length - (i + 1), by omega, z⟩, fun x H' hy => ?_⟩
    obtain ⟨w2, x2, r2, rx⟩ := yld x H' hy
    rw [hdrop, comp_eq] at f
    have k2 : w2.k = upd w1.k D (.lst acc) := x2.hid
    have x02 : Ex0 w1 w2 := x0.trans ⟨x2.same, x2.at_, x2.le⟩
    have ra2 : RpL X.K w2 accT acc := RpL.mono0 (w := w') (w' := w2) ⟨x2.same, x2.at_, x2.le⟩ ra
    have er2 : EnR X.K w2 (wipeE env own) (L2.wipe σ own) := (EnR.mono0 x02 er).wipe own
    have f2 : Fi X.K (w2.show_ w1.k) (bnd (noX (turnM (fc.inner scope) evT ev tg elt ifs (wipeE env own) t)) (fun o => match o with
      | some y => bnd (compM (turnM (fc.inner scope) evT ev tg elt ifs (wipeE env own)) (ts.drop (i + 1))) fun ys => boxM b (.lst ((accT ++ [y]) ++ ys))
      | none => bnd (compM (turnM (fc.inner scope) evT ev tg elt ifs (wipeE env own)) (ts.drop (i + 1))) fun ys => boxM b (.lst (accT ++ ys))) st) (PQ X.K Q) E :=
      Fi.mono (w0 := w'.show_ w1.k) ⟨x2.same, x2.at_, x2.le, rfl⟩ f (fun _ _ _ _ _ _ z => z) fun _ _ _ z => z
    cases eb : bindT (fc.inner scope) st tg t (wipeE env own) with
    | none =>
      exfalso
      unfold bnd noX turnM at f2
      simp only [eb] at f2
      exact f2
    | some env' =>
      have et : ∀ s, s = st → turnM (fc.inner scope) evT ev tg elt ifs (wipeE env own) t s = bnd (testsM evT ifs env') (fun k => if k then bnd (ev elt env') fun y => ret (some y) else ret none) s := fun s es => by
        subst es
        unfold turnM
        rw [eb]
      have f3 : Fi X.K (w2.show_ w1.k) (bnd (noX (bnd (testsM evT ifs env') (fun k => if k then bnd (ev elt env') fun y => ret (some y) else ret none))) (fun o => match o with
        | some y => bnd (compM (turnM (fc.inner scope) evT ev tg elt ifs (wipeE env own)) (ts.drop (i + 1))) fun ys => boxM b (.lst ((accT ++ [y]) ++ ys))
        | none => bnd (compM (turnM (fc.inner scope) evT ev tg elt ifs (wipeE env own)) (ts.drop (i + 1))) fun ys => boxM b (.lst (accT ++ ys))) st) (PQ X.K Q) E := by
        have e9 : ∀ (A B : M (Option T)), A st = B st → ∀ g : Option T → M T, bnd (noX A) g st = bnd (noX B) g st := fun A B h g => by
          unfold bnd noX
          rw [h]
        rw [← e9 _ _ (et st rfl)]
        exact f2
      rw [noX_bnd, bnd_assoc] at f3
      refine ⟨w2, st, wipeE env own, t, env', r2, er2, rx, eb, fun σ2 er3 off => ⟨wipe_off off hown |>.trans (wipe_wipe σ own), ?_⟩⟩
      refine ⟨w2, st, env', r2, er3, ?_⟩
      have hw2 : w2 = (w2.show_ w1.k).show_ w2.k := rfl
      rw [hw2]
      refine Fi.bindH (E := E) (P := PQ X.K Q) f3 fun k s3 w3 H3 x3 r3 fin3 => ?_
      have x3 : Ext w2 w3 := x3
      have fin3 : Fi X.K (w3.show_ w1.k) (bnd (noX (if k then bnd (ev elt env') fun y => ret (some y) else ret none)) (fun o => match o with
        | some y => bnd (compM (turnM (fc.inner scope) evT ev tg elt ifs (wipeE env own)) (ts.drop (i + 1))) fun ys => boxM b (.lst ((accT ++ [y]) ++ ys))
        | none => bnd (compM (turnM (fc.inner scope) evT ev tg elt ifs (wipeE env own)) (ts.drop (i + 1))) fun ys => boxM b (.lst (accT ++ ys))) s3) (PQ X.K Q) E := fin3
      have k3 : w3.k = upd w1.k D (.lst acc) := x3.hid.trans k2
      cases k with
      | false =>
        refine ⟨rfl, hlt, w3, s3, accT, acc, x02.trans ⟨x3.same, x3.at_, x3.le⟩, ?_, ra2.mono x3, by omega, fin3⟩
        rw [← k3]
        exact r3
      | true =>
        have fin4 : Fi X.K (w3.show_ w1.k) (bnd (noX (bnd (ev elt env') fun y => ret (some y))) (fun o => match o with
          | some y => bnd (compM (turnM (fc.inner scope) evT ev tg elt ifs (wipeE env own)) (ts.drop (i + 1))) fun ys => boxM b (.lst ((accT ++ [y]) ++ ys))
          | none => bnd (compM (turnM (fc.inner scope) evT ev tg elt ifs (wipeE env own)) (ts.drop (i + 1))) fun ys => boxM b (.lst (accT ++ ys))) s3) (PQ X.K Q) E := fin3
        rw [noX_bnd, bnd_assoc] at fin4
        show liftE X.K (fun _ _ _ _ => False) (ev elt) σ2 H3 _
        refine ⟨w3, s3, env', r3, er3.mono x3, ?_⟩
        have hw3 : w3 = (w3.show_ w1.k).show_ w3.k := rfl
        rw [hw3]
        refine Fi.bindH (E := E) (P := PQ X.K Q) fin4 fun ty s4 w4 H4 x4 r4 fin5 vy ry => ?_
        have x4 : Ext w3 w4 := x4
        have k4 : w4.k = upd w1.k D (.lst acc) := x4.hid.trans k3
        refine ⟨acc, ?_, by omega, rfl, hlt, w4, s4, accT ++ [ty], acc ++ [vy], x02.trans ⟨(x3.trans x4).same, (x3.trans x4).at_, (x3.trans x4).le⟩, ?_, (ra2.mono (x3.trans x4)).append ⟨vy, [], rfl, ry, rfl⟩, ?_, fin5⟩
        · exact r4.kH D _ (by rw [k4, upd_same])
        · have r4' : SR X.K (w4.show_ (upd w1.k D (.lst acc))) s4 H4 := by
            rw [← k4]
            exact r4
          exact r4'.rehid
        · rw [List.length_append, List.length_singleton]
          omega
  · have ei : i = ts.length := by omega
    refine .inl ⟨g.1 i (by omega), ?_⟩
    have hdrop : ts.drop i = [] := List.drop_eq_nil_of_le (by omega)
    rw [hdrop] at f
    have f' : Fi X.K (w'.show_ w1.k) (boxM b (.lst (accT ++ [])) st) (PQ X.K Q) E := f
    rw [List.append_nil] at f'
    have hHD : H D = some (.lst acc) := r.kH D _ (by show upd w1.k D (.lst acc) D = _; rw [upd_same])
    have z := new_box f' (r.unlaid kD) ra.sh D dlH_same
    rw [upd_del hHD] at z
    exact z
where
  wipe_wipe (σ : L2.St) (own : List Nat) : L2.wipe (L2.wipe σ own) own = L2.wipe σ own := by
    have key : ∀ (m own : List Nat) (σ : L2.St), (∀ i ∈ m, i ∈ own) → L2.wipe (L2.wipe σ own) m = L2.wipe σ own := fun m => by
      induction m with
      | nil => intro own σ _; rfl
      | cons v vs ih =>
        intro own σ h
        show (L2.wipe (L2.wipe σ own) vs).set v none = _
        rw [ih own σ fun i hi => h i (List.mem_cons_of_mem _ hi)]
        refine List.ext_getElem? fun i => ?_
        by_cases hv : v = i
        · subst hv
          by_cases hl : v < (L2.wipe σ own).length
          · rw [List.getElem?_set_self hl]
            cases e : (L2.wipe σ own)[v]? with
            | none => rw [List.getElem?_eq_none_iff] at e; omega
            | some o =>
              cases o with
              | none => rfl
              | some x => exact absurd (h v List.mem_cons_self) (L2.wipe_some e).2
          · rw [List.getElem?_eq_none (by simpa using hl), List.getElem?_eq_none (by omega)]
        · rw [List.getElem?_set_ne hv]
    exact key own own σ fun _ h => h
end
end G
-- GtEvS
namespace G
open PySem L2

/-! ### attributes -/
def lkF : List Str → List T → Str → Option T
  | n :: ns, v :: vs, f => if n = f then some v else lkF ns vs f
  | _, _, _ => none
def putNs (f : Str) : List Str → List Str
  | [] => [f]
  | n :: ns => if n = f then n :: ns else n :: putNs f ns
def putVs (f : Str) (t : T) : List Str → List T → List T
  | [], _ => [t]
  | n :: ns, v :: vs => if n = f then t :: vs else v :: putVs f t ns vs
  | _ :: _, [] => []
abbrev CallM := Nat → List T → M T
/-! ### own operators, items, calls -/
def opN : Operator → Str
  | .Add => "__add__" | .Sub => "__sub__" | .Mult => "__mul__" | .Div => "__truediv__" | .BitOr => "__or__" | .BitAnd => "__and__" | _ => ""
def opR : Operator → Str
  | .Add => "__radd__" | .Sub => "__rsub__" | .Mult => "__rmul__" | _ => ""
def isOp : Operator → Bool
  | .Add => true | .Sub => true | .Mult => true | .Div => true | .BitOr => true | .BitAnd => true | _ => false
def isOpR : Operator → Bool
  | .Add => true | .Sub => true | .Mult => true | _ => false
def binO (P : Pg) (call : CallM) (op : Operator) (a b : T) : M T := fun s => match ownI P (opN op) (see s a) with
  | some i => if isOp op then match see s b with
    | .int _ => call i [a, b] s
    | .ins D _ _ => if D = insC (see s a) then call i [a, b] s else .bad
    | _ => .bad
    else .bad
  | none => match see s a with
    | .int _ => match ownI P (opR op) (see s b) with
      | some i => if isOpR op && (ownI P (opN op) (see s b)).isSome then call i [b, a] s else .bad
      | none => noX (binop op a b) s
    | _ => noX (binop op a b) s
def negO (P : Pg) (call : CallM) (a : T) : M T := fun s => match ownI P "__neg__" (see s a) with
  | some i => call i [a] s
  | none => noX (negM a) s
/-- o[i] -/
def ixO (P : Pg) (call : CallM) (x y : T) : M T := fun s => match ownI P "__getitem__" (see s x) with
  | some i => if (P.fns[i]?).isSome then call i [x, y] s else .bad
  | none => noX (ixM x y) s
/-- x in o -/
def inO (P : Pg) (call : CallM) (neg : Bool) (a b : T) : M T := fun s => match ownI P "__contains__" (see s b) with
  | some i => bnd (call i [b, a]) (fun v => match v with
    | .bl k => ret (.bl (if neg then !k else k))
    | _ => bad) s
  | none => inM neg a b s
def attrM (P : Pg) (call : CallM) (f : Str) (x : T) : M T := fun s => match see s x with
  | .ins C ns vs => match P.cls? C with
    | some c => if c.err.isSome then .bad else match c.mem.lookup f with
      | some (.prop i) => noX (call i [x]) s
      | some (.con t) => if (lkF ns vs f).isNone then .ok t s else .bad
      | some _ => .bad
      | none => match lkF ns vs f with
        | some t => if c.flds.contains f then .ok t s else .bad
        | none => .bad
    | none => .bad
  | .exc C ns vs => match P.cls? C with
    | some c => if c.err.isSome && c.flds.contains f then match lkF ns vs f with
        | some t => .ok t s
        | none => .bad
      else .bad
    | none => .bad
  | .glo C => match P.cls? C with
    | some c => match c.mem.lookup f with
      | some (.con t) => .ok t s
      | _ => .bad
    | none => .bad
  | _ => .bad
/-- e.f = v -/
def setAttrM (P : Pg) (f : Str) (v x : T) : M Unit := fun s => match x with
  | .box n => match s.get n with
    | some (.ins C ns vs) => match P.cls? C with
      | some c => if c.err.isNone && c.flds.contains f && decide (ns.length < 1000) then .ok () (s.put n (.ins C (putNs f ns) (putVs f v ns vs))) else .bad
      | none => .bad
    | _ => .bad
  | _ => .bad
/-- o[i] = v -/
def setItemM (v o i : T) : M Unit := fun s => match o with
  | .box n => match s.get n with
    | some (.lst xs) => match see s i with
      | .int k => match ixN xs.length k with
        | some j => .ok () (s.put n (.lst (xs.set j v)))
        | none => .bad
      | _ => .bad
    | _ => .bad
  | _ => .bad
/-! ### calls of the program's own -/
/-- C(..) -/
def mkM (call : CallM) (C : Str) (c : ClI) (ts : List T) : M T := match c.err, c.init with
  | none, some i => fun s => match call i (.box s.next :: ts) (s.new (.ins C [] [])) with
    | .ok .non s' => if c.keep then .ok (.box s.next) s' else match s'.get s.next with
      | some (.ins D ns vs) => .ok (.ins D ns vs) (s'.del s.next)
      | _ => .bad
    | .ok _ _ => .bad
    | .exc C ns vs s' => .exc C ns vs s'
    | .bad => .bad
  | _, _ => bad
/-- which def a method's call runs, and what stands ahead of the arguments -/
def methI (P : Pg) (m : Str) (x : T) : M (Nat × List T) := fun s => match see s x with
  | .ins C ns _ => match P.cls? C with
    | some c => if c.err.isSome || ns.contains m then .bad else match c.mem.lookup m with
      | some (.fn i) => .ok (i, [x]) s
      | _ => .bad
    | none => .bad
  | .glo C => match P.cls? C with
    | some c => match c.mem.lookup m with
      | some (.cm i) => .ok (i, [x]) s
      | _ => .bad
    | none => .bad
  | _ => .bad
def asStr : T → M T
  | .str x => ret (.str x)
  | _ => bad
def asLen : T → M T
  | .int i => fun s => if 0 ≤ i ∧ i < 2 ^ 63 then .ok (.int i) s else .bad
  | _ => bad
def asBl : T → M T
  | .bl k => ret (.bl k)
  | _ => bad
/-- str(x), len(x), bool(x) by the class's own method -/
def bcallO (P : Pg) (call : CallM) (box : Bool) (b : BI) (ts : List T) : M T := match b, ts with
  | .str, [a] => fun s => match ownI P "__str__" (see s a) with
    | some i => noX (bnd (call i [a]) asStr) s
    | none => bcallB P box .str [a] s
  | .len, [a] => fun s => match ownI P "__len__" (see s a) with
    | some i => noX (bnd (call i [a]) asLen) s
    | none => bcallB P box .len [a] s
  | .bool, [a] => fun s => match ownI P "__bool__" (see s a) with
    | some i => noX (bnd (call i [a]) asBl) s
    | none => bcallB P box .bool [a] s
  | b, ts => bcallB P box b ts
def bmNames : List Str := ["split", "join", "index", "append", "extend", "pop", "insert"]
def baseOk : Expr → Bool
  | .Call (.Name f _) [] [] _ => !(f == ("super" : Str))
  | _ => true
def okCall (o : Expr) (apos cpos : Pos) (args : List Expr) : Bool := baseOk o && (apos.endLine == cpos.line) && (!args.any isStarred && decide (args.length < 29))
def argOk : List Expr → Bool := fun _ => true
/-- a call of a value that is known: a def, a class, an instance -/
def vOk (P : Pg) (st : Bool) : T → Bool
  | .glo C => match P.glob.lookup C with
    | some (.fn _) => true
    | some (.cls c) => c.err.isNone && c.init.isSome
    | _ => false
  | .ins C ns vs => !st && (match ownI P "__call__" (.ins C ns vs) with
    | some i => (P.fns[i]?).isSome
    | none => false)
  | _ => false
def callV (P : Pg) (call : CallM) (v : T) (ts : List T) : M T := match v with
  | .glo C => match P.glob.lookup C with
    | some (.fn i) => call i ts
    | some (.cls c) => mkM call C c ts
    | _ => bad
  | .ins C ns vs => match ownI P "__call__" (.ins C ns vs) with
    | some i => call i (.ins C ns vs :: ts)
    | none => bad
  | _ => bad
noncomputable def callL (P : Pg) (call : CallM) (th : Option (T × M T)) (v : T) : M T := if vOk P false v then callV P call v [] else thC th v
def isRng (fc : FC) (P : Pg) : Expr → Bool
  | .Call (.Name q _) (_ :: _) [] _ => isNm fc P q "range"
  | _ => false
/-- the fields of the error that C(..) makes -/
def errOf (P : Pg) (fc : FC) (x : Str) (args : List Expr) : Option (List Str) :=
  if args.any isStarred || args.isEmpty || !fc.gl x then none else match P.glob.lookup x with
    | some (.cls c) => match c.err, c.init with
      | some ns, some _ => if ns.length ≤ 900 ∧ ns.isEmpty = false then some ns else none
      | _, _ => none
    | _ => none
def excM (C : Str) (ns : List Str) (ts : List T) : M T := fun s => if ns.length = ts.length then .ok (.exc C ns.reverse ts.reverse) s else .bad
noncomputable def callE (P : Pg) (call : CallM) (ev : Expr → En → M T) (fc : FC) (f : Str) (args : List Expr) (pos : Pos) (env : En) : M T :=
  if fc.gl f then match P.glob.lookup f with
    | some (.fn i) => match lamE fc args with
      | some (body, scope) => if thOk P i then fc.cl i body scope env else bad
      | none => if argOk args then bnd (argsM ev args env) fun ts => call i ts else bad
    | some (.cls c) => if argOk args && (c.err.isNone && c.init.isSome) then bnd (argsM ev args env) fun ts => mkM call f c ts else match errOf P fc f args with
      | some ns => bnd (argsM ev args env) fun ts => excM f ns ts
      | none => bad
    | some (.cst _) => bad
    | none => match args with
      | [.Call (.Name q _) (a :: r) [] _] => if isNm fc P f "list" && isNm fc P q "range" then
            if (a :: r).any isStarred then bad else bnd (argsM ev (a :: r) env) fun ts => bnd (rangeM ts) fun xs => lstM (P.box? pos) xs
          else match biNames.lookup f with
            | some b => bnd (argsM ev args env) fun ts => noX (bcallO P call (P.box? pos) b ts)
            | none => bad
      | _ => match biNames.lookup f with
        | some b => if args.any isStarred || args.isEmpty then bad else bnd (argsM ev args env) fun ts => noX (bcallO P call (P.box? pos) b ts)
        | none => bad
  else match fc.loc f with
    | some j => bnd (getV env j) fun v => if args.isEmpty then callL P call fc.th v else if vOk P (args.any isStarred) v then bnd (argsM ev args env) fun ts => callV P call v ts else bad
    | none => bad
def methE (P : Pg) (call : CallM) (ev : Expr → En → M T) (o : Expr) (m : Str) (args : List Expr) (env : En) : M T :=
  if bmNames.contains m then bnd (ev o env) fun x => methM m x (argsM ev args env)
  else bnd (ev o env) fun x => bnd (methI P m x) fun r => bnd (argsM ev args env) fun ts => call r.1 (r.2 ++ ts)
/-! ### keywords, displays of dicts -/
def kwNm : List Keyword → Option (List Str)
  | [] => some []
  | ⟨some n, _, _⟩ :: r => (kwNm r).map (n :: ·)
  | _ => none
def kwVs : List Keyword → List Expr
  | [] => []
  | ⟨_, v, _⟩ :: r => v :: kwVs r
def tl1 : List Nat → Option (List Nat)
  | 0 :: r => if r.all (fun j => decide (0 < j)) then some (r.map (· - 1)) else none
  | _ => none
def mkK (call : CallM) (f : Str) (c : ClI) (ts : List T) : M T := match c.err with
  | none => mkM call f c ts
  | some ns => if ns.length ≤ 900 ∧ ns.isEmpty = false then excM f ns ts else bad
def callK (P : Pg) (call : CallM) (ev : Expr → En → M T) (fc : FC) (f : Str) (args : List Expr) (kws : List Keyword) (env : En) : M T :=
  if args.any isStarred || ((kwVs kws).any isStarred || !fc.gl f) then bad else match kwNm kws, P.glob.lookup f with
  | some ks, some (.fn i) => match P.kw? i args.length ks with
    | some out => bnd (argsM ev args env) fun ts => bnd (argsM ev (kwVs kws) env) fun zs => call i (pick out (ts ++ zs))
    | none => bad
  | some ks, some (.cls c) => match c.init with
    | some i => match (P.kw? i (args.length + 1) ks).bind tl1 with
      | some out => bnd (argsM ev args env) fun ts => bnd (argsM ev (kwVs kws) env) fun zs => mkK call f c (pick out (ts ++ zs))
      | none => bad
    | none => bad
  | _, _ => bad
/-- o.m(.., k = v, ..) -/
def okCallK (o : Expr) (apos cpos : Pos) (args : List Expr) (kws : List Keyword) : Bool := baseOk o && (apos.endLine == cpos.line) && (!args.any isStarred && decide (args.length + kws.length + 1 < 30))
def methK (P : Pg) (call : CallM) (ev : Expr → En → M T) (o : Expr) (m : Str) (args : List Expr) (kws : List Keyword) (env : En) : M T :=
  if (kwVs kws).any isStarred then bad else match kwNm kws with
  | some ks => bnd (ev o env) fun x => bnd (methI P m x) fun r => bnd (argsM ev args env) fun ts => bnd (argsM ev (kwVs kws) env) fun zs => match P.kw? r.1 (args.length + 1) ks with
    | some out => call r.1 (pick out (r.2 ++ ts ++ zs))
    | none => bad
  | none => bad
def cstT : Expr → Option T
  | .Constant (.int i) _ _ => some (.int i)
  | .Constant (.bool i) _ _ => some (.bl i)
  | .Constant (.str i) _ _ => some (.str i)
  | .Constant .none _ _ => some .non
  | _ => none
def cstK : Option Expr → Option Key
  | some (.Constant (.int i) _ _) => some (.inl i)
  | some (.Constant (.str x) _ _) => some (.inr x)
  | _ => none
def dictC : List (Option Expr) → List Expr → Option (List Key × List T)
  | [], [] => some ([], [])
  | k :: ks, v :: vs => match cstK k, cstT v, dictC ks vs with
    | some a, some t, some (as, ts) => if as.all (fun b => decide (b ≠ a)) then some (a :: as, t :: ts) else none
    | _, _, _ => none
  | _, _ => none
def dictE (keys : List (Option Expr)) (vals : List Expr) : M T := if keys.length ≤ 15 then match dictC keys vals with
  | some (ks, ts) => ret (.dct ks ts)
  | none => bad
  else bad
/-! ### texts -/
def fmtM (x : T) : M Str := fun s => match see s x with
  | .str y => if y.length ≤ sizeLine then .ok y s else .bad
  | .int i => if i.natAbs.log2 < 1920 then .ok (toString i) s else .bad
  | _ => .bad
def joinE (ev : Expr → En → M T) : List Expr → Str → En → M Str
  | [], acc, _ => ret acc
  | e :: r, acc, env => bnd (ev e env) fun x => fun s => match x with
    | .str y => if (acc ++ y).length ≤ sizeLine then joinE ev r (acc ++ y) env s else .bad
    | _ => .bad
/-! ### expressions, tests -/
structure Ev where
  e : FC → Expr → En → M T
  t : FC → Expr → En → M Bool
def isMinus1 : Expr → Bool
  | .UnaryOp .USub (.Constant (.int i) _ _) _ => i == 1
  | _ => false
noncomputable def stepE (P : Pg) (call : CallM) (opc : CmpOp → T → T → M T) (ev : Ev) (fc : FC) : Expr → En → M T
  | .Constant c _ _, _ => constM c
  | .Name x _, env => nameM P fc x env
  | .BinOp a op b _, env => bnd (ev.e fc a env) fun x => bnd (ev.e fc b env) fun y => binO P call op x y
  | .UnaryOp .Not a _, env => bnd (ev.e fc a env) fun x => bnd (noX (truth x)) fun b => ret (.bl (!b))
  | .UnaryOp .USub a _, env => bnd (ev.e fc a env) fun x => negO P call x
  | .BoolOp op vs _, env => boolE (ev.e fc) op vs env
  | .Compare a ops bs _, env => cmpE (ev.e fc) opc a ops bs env
  | .IfExp c a b _, env => bnd (ev.t fc c env) fun t => if t then ev.e fc a env else ev.e fc b env
  | .List es pos, env => bnd (argsM (ev.e fc) es env) fun xs => lstM (P.box? pos) xs
  | .Tuple es _ _, env => bnd (argsM (ev.e fc) es env) fun xs => tupM xs
  | .Subscript o (.Slice lo hi none _) pos, env => bnd (ev.e fc o env) fun x => bnd (optI (ev.e fc) lo env) fun l => bnd (optI (ev.e fc) hi env) fun u => noX (sliceB (P.box? pos) x l u)
  | .Subscript o (.Slice none none (some (.UnaryOp .USub (.Constant (.int i) _ _) _)) _) pos, env => if i = 1 then bnd (ev.e fc o env) fun x => revM x else bad
  | .Subscript o i _, env => if isSlice i then bad else bnd (ev.e fc o env) fun x => bnd (ev.e fc i env) fun y => ixO P call x y
  | .Attribute o f _, env => if baseOk o then bnd (ev.e fc o env) fun x => attrM P call f x else bad
  | .Call (.Name f _) args [] pos, env => callE P call (ev.e fc) fc f args pos env
  | .Call (.Name f _) args (k :: kws) _, env => callK P call (ev.e fc) fc f args (k :: kws) env
  | .Dict keys vals _, _ => dictE keys vals
  | .Call (.Attribute o m apos) args [] pos, env => if okCall o apos pos args then methE P call (ev.e fc) o m args env else bad
  | .Call (.Attribute o m apos) args (k :: kws) pos, env => if okCallK o apos pos args (k :: kws) then methK P call (ev.e fc) o m args (k :: kws) env else bad
  | .ListComp elt [⟨tg, iter, ifs, 0⟩] scope pos, env => lcM fc scope (P.box? pos) (iterM (ev.e fc) P fc tg iter) (ev.t (fc.inner scope)) (ev.e (fc.inner scope)) tg iter elt ifs env
  | .FormattedValue e c none _, env => if c = -1 then bnd (ev.e fc e env) fun x => bnd (fmtM x) fun y => ret (.str y) else bad
  | .JoinedStr (e :: e2 :: r) _, env => bnd (joinE (ev.e fc) (e :: e2 :: r) Str.empty env) fun y => ret (.str y)
  | .JoinedStr [e] _, env => ev.e fc e env
  | _, _ => bad
def stepT (opc : CmpOp → T → T → M T) (ev : Ev) (fc : FC) : Expr → En → M Bool
  | .UnaryOp .Not a _, env => bnd (ev.t fc a env) fun b => ret (!b)
  | .BoolOp op vs _, env => boolT (ev.t fc) op vs env
  | .IfExp c a b _, env => bnd (ev.t fc c env) fun t => if t then ev.t fc a env else ev.t fc b env
  | .Compare a ops bs _, env => bnd (cmpE (ev.e fc) opc a ops bs env) asBool
  | e, env => bnd (ev.e fc e env) fun x => noX (truth x)
noncomputable def evs (P : Pg) (call : CallM) (opc : CmpOp → T → T → M T) : Nat → Ev
  | 0 => ⟨fun _ _ _ => bad, fun _ _ _ => bad⟩
  | n + 1 => ⟨stepE P call opc (evs P call opc n), stepT opc (evs P call opc n)⟩
/-! ### statements -/
inductive RS where
  | nx (env : En) (s : S) | bk (env : En) (s : S) | ct (env : En) (s : S)
  | rt (t : T) (s : S)
  | ex (C : Str) (ns : List Str) (vs : List T) (env : En) (s : S)
  | bad
def runE {α : Type} (m : M α) (env : En) (s : S) (k : α → S → RS) : RS := match m s with
  | .ok v s' => k v s'
  | .exc C ns vs s' => .ex C ns vs env s'
  | .bad => .bad
abbrev MS := En → S → RS
def seqS (a b : MS) : MS := fun env s => match a env s with
  | .nx env' s' => b env' s'
  | r => r
def whileS (c : En → M Bool) (body : MS) : Nat → MS
  | 0 => fun _ _ => .bad
  | n + 1 => fun env s => runE (c env) env s fun b s' => if b then match body env s' with
      | .nx e2 s2 => whileS c body n e2 s2
      | .ct e2 s2 => whileS c body n e2 s2
      | .bk e2 s2 => .nx e2 s2
      | r => r
    else .nx env s'
def forS (bind : S → T → En → Option En) (body : MS) : List T → MS
  | [] => fun env s => .nx env s
  | t :: ts => fun env s => match bind s t env with
    | some env' => match body env' s with
      | .nx e2 s2 => forS bind body ts e2 s2
      | .ct e2 s2 => forS bind body ts e2 s2
      | .bk e2 s2 => .nx e2 s2
      | r => r
    | none => .bad
/-- the store of a value -/
def storeS (P : Pg) (ev : FC → Expr → En → M T) (fc : FC) : Expr → T → MS
  | .Subscript o i _, v => fun env s => if isSlice i then .bad else runE (noX (ev fc o env)) env s fun x s1 => runE (noX (ev fc i env)) env s1 fun y s2 => runE (noX (setItemM v x y)) env s2 fun _ s3 => .nx env s3
  | .Attribute o f _, v => fun env s => runE (noX (ev fc o env)) env s fun x s1 => runE (noX (setAttrM P f v x)) env s1 fun _ s2 => .nx env s2
  | tg, v => fun env s => match bindT fc s tg v env with
    | some env' => .nx env' s
    | none => .bad
def isComp : Expr → Bool
  | .ListComp .. => true
  | .SetComp .. => true
  | .DictComp .. => true
  | _ => false
/-- may the stores of a, b = x, y be swapped: not known, no, yes -/
def nmLoc (fc : FC) (line : Nat) : Expr → Option Str
  | .Name id pos => if fc.sc.names.lookup id == some NameKind.local && pos.line == line then some id else none
  | _ => none
def swapN (fc : FC) (ts vs : List Expr) : Option (Option (List Str)) :=
  if !isFn fc.sc.kind then none
  else if !(ts.length == 2 || ts.length == 3) || vs.length != ts.length || false then some none
  else if vs.any isStarred then some none
  else
    let names := ts.filterMap (nmLoc fc ((ts.head?.map (·.pos.line)).getD 0))
    if names.length != ts.length || names.eraseDups.length != names.length then some none
    else if vs.all (foldedForSure 8) then some none
    else if vs.all (constantsAlone 8) then none
    else some (some names)
def namesIn (fc : FC) : Option (List Str) → Bool
  | none => true
  | some l => l.all fun x => (fc.loc x).isSome
/-- a op= b -/
def augop (op : Operator) (a b : T) : M T := fun s => match op, see s a, see s b with
  | .Add, .int i, .int j => .ok (.int (i + j)) s
  | .Sub, .int i, .int j => .ok (.int (i - j)) s
  | _, _, _ => .bad
/-- what an except clause catches -/
def catches (P : Pg) (x C : Str) : Option Bool := match P.cls? C, P.cls? x with
  | some c, some _ => if c.err.isSome then some (c.sup.contains x) else none
  | _, _ => none
def Pg.thaw? (P : Pg) (pos : Pos) : Bool := P.thaw.contains (pos.line, pos.col)
/-- a box that never changes again -/
def frzM (b : Bool) (t : T) : M T := fun s => match b, t with
  | true, .box n => match s.get n with
    | some (.lst xs) => .ok (.lst xs) (s.del n)
    | some (.ins C ns vs) => .ok (.ins C ns vs) (s.del n)
    | _ => .bad
  | _, t => .ok t s
/-- a suite's statements, while an exception is handled -/
inductive SuK where
  | set (x y : Str) | ret (c : Const) | no
def suK : Stmt → SuK
  | .Assign [.Name x _] (.Name y _) _ => .set x y
  | .Return (some (.Constant c _ _)) _ => .ret c
  | _ => .no
def setL (fc : FC) (i j : Nat) (x : Str) : MS := fun env s => if isLC (fc.raw.names.lookup x) then runE (getV env j) env s fun t s1 => .nx (env.set i (some t)) s1 else .bad
def suiteS (fc : FC) (P : Pg) (st : Stmt) : MS := match suK st with
  | .set x y => match fc.loc x, fc.loc y with
    | some i, some j => setL fc i j x
    | _, _ => fun _ _ => .bad
  | .ret c => fun env s => runE (constM c) env s fun t s1 => .rt t s1
  | .no => fun _ _ => .bad
def isCall : Expr → Bool
  | .Call _ _ _ _ => true
  | _ => false
def tgOk : Expr → Bool
  | .Name _ _ => true
  | .Tuple _ _ _ => true
  | .Attribute _ _ _ => true
  | .Subscript _ i _ => !isSlice i
  | _ => false
def asgS (P : Pg) (ev : Ev) (fc : FC) : Expr → Expr → MS
  | .Name x p, .ListComp elt [⟨tg, iter, ifs, 0⟩] scope lp => fun env s => if (fc.loc x).isNone then .bad else
    runE (lcM fc scope (P.box? lp) (iterM (ev.e fc) P fc tg iter) (ev.t (fc.inner scope)) (ev.e (fc.inner scope)) tg iter elt ifs env) env s fun v s' => storeS P ev.e fc (.Name x p) v env s'
  | .Tuple ts k p, .Tuple vs _ _ => fun env s => match swapN fc ts vs with
    | none => .bad
    | some r => if namesIn fc r then runE (bnd (argsM (ev.e fc) vs env) tupM) env s fun v s' => storeS P ev.e fc (.Tuple ts k p) v env s' else .bad
  | tg, e => if isComp e || !tgOk tg then fun _ _ => .bad else fun env s => runE (ev.e fc e env) env s fun v s' => storeS P ev.e fc tg v env s'
/-- the place of an except clause's name -/
def tryIx (P : Pg) (fc : FC) (x n : Str) : Option Nat := if fc.gl x && isLo (fc.kind n) then match P.glob.lookup x with
    | some (.cls cx) => if cx.err.isSome then fc.loc n else none
    | _ => none
  else none
def unName (i : Nat) : RS → RS
  | .nx e2 s2 => .nx (e2.set i none) s2
  | .rt t s2 => .rt t s2
  | _ => .bad
def tryS (P : Pg) (fc : FC) (x : Str) (i : Nat) (body suite : MS) : MS := fun env s => match body env s with
  | .ex C ns vs env' s' => match catches P x C with
    | some true => unName i (suite (env'.set i (some (.exc C ns vs))) s')
    | some false => .ex C ns vs env' s'
    | none => .bad
  | r => r
/-- what stands in a slot's box never changes again -/
def frzJ (j : Nat) (f : MS) : MS := fun env s => match env[j]? with
  | some (some (.box n)) => match s.get n with
    | some (.lst xs) => f (env.set j (some (.lst xs))) (s.del n)
    | some (.ins C ns vs) => f (env.set j (some (.ins C ns vs))) (s.del n)
    | _ => f env s
  | _ => f env s
def frzS (fc : FC) (f : MS) : List Str → MS
  | [] => f
  | x :: r => match fc.loc x with
    | some j => frzJ j (frzS fc f r)
    | none => frzS fc f r
def stLine : Stmt → Nat
  | .Expr _ p => p.line
  | .Assign _ _ p => p.line
  | .AugAssign _ _ _ p => p.line
  | .Return _ p => p.line
  | .If _ _ _ p => p.line
  | .While _ _ _ p => p.line
  | .For _ _ _ _ p => p.line
  | _ => 0
mutual
def evalS (P : Pg) (ev : Ev) (fc : FC) : Stmt → MS
  | .Pass _ => fun env s => .nx env s
  | .Break _ => fun env s => .bk env s
  | .Continue _ => fun env s => .ct env s
  | .Expr e _ => if isComp e then fun _ _ => .bad else fun env s => runE (ev.e fc e env) env s fun _ s' => .nx env s'
  | .Assign [tg] e _ => asgS P ev fc tg e
  | .AugAssign (.Name x _) op e _ => fun env s => match fc.loc x with
    | some i => if isLC (fc.raw.names.lookup x) then runE (getV env i) env s fun t s1 => runE (ev.e fc e env) env s1 fun u s2 => runE (noX (augop op t u)) env s2 fun r s3 => .nx (env.set i (some r)) s3 else .bad
    | none => .bad
  | .Return (some e) pos => fun env s => runE (bnd (ev.e fc e env) (frzM (P.thaw? pos))) env s fun v s' => .rt v s'
  | .Return none _ => fun _ s => .rt .non s
  | .If c a b _ => fun env s => runE (ev.t fc c env) env s fun t s' => if t then evalSs P ev fc a env s' else evalSs P ev fc b env s'
  | .While c body [] _ => whileS (ev.t fc c) (evalSs P ev fc body) (2 ^ 200)
  | .For tg iter body [] _ => if isSetE iter then fun _ _ => .bad else fun env s => runE (iterM (ev.e fc) P fc tg iter env) env s fun ts s' => forS (fun s t env => bindT fc s tg t env) (evalSs P ev fc body) ts env s'
  | .Raise (some (.Call (.Name x _) args [] _)) none _ => match errOf P fc x args with
    | some ns => fun env s => runE (argsM (ev.e fc) args env) env s fun ts s' => if ns.length = ts.length then .ex x ns.reverse ts.reverse env s' else .bad
    | none => fun _ _ => .bad
  | .Try body [.ExceptHandler (some (.Name x _)) (some n) [st] _] [] [] _ => match tryIx P fc x n with
    | some i => tryS P fc x i (evalSs P ev fc body) (suiteS fc P st)
    | none => fun _ _ => .bad
  | _ => fun _ _ => .bad
def evalSs (P : Pg) (ev : Ev) (fc : FC) : List Stmt → MS
  | [] => fun env s => .nx env s
  | st :: r => seqS (frzS fc (evalS P ev fc st) (P.frz? (stLine st))) (evalSs P ev fc r)
end
/-! ### defs -/
def dvT : He.Dv → T
  | .non => .non
  | .bl b => .bl b
  | .int i => .int i
  | .str x => .str x
  | .ty n => .ty n
  | .glo x => .glo x
  | _ => .ty ""
def dvOk : He.Dv → Bool
  | .non => true
  | .bl _ => true
  | .int _ => true
  | .str _ => true
  | .ty _ => true
  | .glo _ => true
  | _ => false
def bindArg (f : FnI) (ts : List T) : Option (List T) := match f.star with
  | some _ => if f.ps.length ≤ ts.length ∧ ts.length ≤ sizeLine ∧ f.dfl.length = 0 then some (ts.take f.ps.length ++ [.tup (ts.drop f.ps.length)]) else none
  | none => if ts.length ≤ f.ps.length ∧ f.ps.length ≤ ts.length + f.dfl.length ∧ f.dfl.all dvOk = true then some (ts ++ (f.dfl.drop (f.dfl.length - (f.ps.length - ts.length))).map dvT) else none
def startE (N : List Str) (vs : List T) : En := vs.map some ++ List.replicate (N.length - vs.length) none
def outR : RS → Res T
  | .nx _ s => .ok .non s
  | .rt t s => .ok t s
  | .ex C ns vs _ s => .exc C ns vs s
  | _ => .bad
/-- what f(lambda: e) does: the def f runs, which calls the lambda -/
noncomputable def clF (P : Pg) (call : CallM) (opc : CmpOp → T → T → M T) (f : FnI) (dep : Nat) (cg : Option (T × M T) → CallM) : Nat → Expr → Scope → En → M T := fun i body scope env =>
  lamM fun a c vs => cg (some (.lam a c (f.qual ++ ".<locals>." ++ "<lambda>") (env.filterMap id) vs, (evs P call opc 60).e ⟨f.N, scope, scope, dep, none, noL⟩ body env)) i [.lam a c (f.qual ++ ".<locals>." ++ "<lambda>") (env.filterMap id) vs]
/-- a level's defs, and those of the level below -/
noncomputable def callR (P : Pg) (opc : CallM → CmpOp → T → T → M T) : Nat → (Option (T × M T) → CallM) × CallM
  | 0 => (fun _ _ _ => bad, fun _ _ => bad)
  | k + 1 => (fun th i ts s => match P.fns[i]? with
    | some f => match bindArg f ts with
      | some vs => outR (evalSs P (evs P ((callR P opc k).1 none) (opc ((callR P opc k).1 none)) 60) ⟨f.N, f.scope, f.scope, 4 * k + 4, th, clF P (callR P opc k).2 (opc (callR P opc k).2) f (4 * k - 1) (callR P opc k).1⟩ f.body (startE f.N vs) s)
      | none => .bad
    | none => .bad, (callR P opc k).1 none)
noncomputable def callG (P : Pg) (opc : CallM → CmpOp → T → T → M T) (k : Nat) : Option (T × M T) → CallM := (callR P opc k).1
noncomputable abbrev callF (P : Pg) (opc : CallM → CmpOp → T → T → M T) (k : Nat) : CallM := callG P opc k none
end G
-- GtS8
namespace G
open PySem L2
/-! ### what a def promises -/
/-- arguments that are bound like these by place -/
def ArgsAt (P : Pg) (i : Nat) (a : Args) (us : List Value) : Prop := a = ⟨us, []⟩ ∨ ∃ e, e ∈ P.kws ∧ e.i = i ∧ ∃ us0 ws : List Value, us0.length = e.n ∧ ws.length = e.ks.length ∧ a = ⟨us0, e.ks.zip ws⟩ ∧ us = pick e.out (us0 ++ ws)
def FT (AA : Args → List Value → Prop) (P : Program) (w : World) (K : PySem.W.Frag) (mg : Str → Option Value) (base : Heap) (k : Nat) (f : Addr) (m : List T → M T) : Prop :=
  ∀ (A : Around) (outer : List PySem.Env) (s : Shared) (H : Hp) (a : Args) (us : List Value) (vs : List V) (Q : VK) (E : XK) (w0 : Wd) (st : S) (ts : List T), AA a us → Room k A → A.guards = some [] → Env0 P w K mg base A outer s H → Vals vs us →
    SR K w0 st H → RpL K w0 ts vs → Fi K w0 (m ts st) (PQ K Q) E → codeAny (model P w) A (.call (.ref f) a) (CR (L2.CX P w) outer P w H s Q E) s
def CallOk (P : Pg) (X : Cx) (call : CallM) (d : Nat) : Prop := ∀ i, FT (ArgsAt P i) X.prog X.w X.K X.mg X.base (d - 1) (fA X.K P i) (call i)
theorem CallOk.at {P : Pg} {X : Cx} {call : CallM} {d : Nat} (h : CallOk P X call d) (i : Nat) : FT (ArgsAt P i) X.prog X.w X.K X.mg X.base d (fA X.K P i) (call i) :=
  fun A outer s H a us vs Q E w0 st ts ha hr => h i A outer s H a us vs Q E w0 st ts ha (hr.mono (Nat.sub_le _ _))
section
variable {P : Pg} {fc : FC} {X : Cx} {W : WX} {call : CallM} {d : Nat} {pins : List (Addr × Obj)} {σ : L2.St} {H : Hp} {s : Shared}
theorem end_T {Q : VK} (tk : Takes X W) (I : Inv X pins σ H s) {r : Result} {s' : Shared} (hq : CR (L2.CX X.prog X.w) X.stack X.prog X.w H s Q (fun c d H' => W c d σ H') r s') :
    (match r with | .ok (.ret v) => EP X pins σ Q v s' | .ok _ => False | .error e => X.xe e s' : Prop) := by
  cases r with
  | error e => exact passAt tk σ pins H s e s' I hq
  | ok fl =>
    cases fl with
    | ret u => exact I.after hq
    | next => exact False.elim hq
    | brk => exact False.elim hq
    | cont => exact False.elim hq
theorem run_TK {AA : Args → List Value → Prop} {k : Nat} {f : Addr} {m : List T → M T} {Q : VK} {a : Args} {us : List Value} {vs : List V} {w0 : Wd} {st : S} {ts : List T} (F : FT AA X.prog X.w X.K X.mg X.base k f m) (ha : AA a us) (hr : Room k X.A) (hg : X.A.guards = some []) (tk : Takes X W) (I : Inv X pins σ H s) (r : Vals vs us)
    (sr : SR X.K w0 st H) (rl : RpL X.K w0 ts vs) (fin : Fi X.K w0 (m ts st) (PQ X.K Q) (fun c d H' => W c d σ H')) : wpAny (model X.prog X.w) X.A (PySem.call (.ref f) a.pos a.kw) (EP X pins σ Q) X.xe s :=
  wpAny_call (codeAny_mono (F X.A X.stack s H a us vs Q _ w0 st ts ha hr hg I.env0 r sr rl fin) fun r s' hq => by
    have z := end_T tk I hq
    cases r with
    | error e => exact z
    | ok fl => cases fl <;> first | exact z | exact z.elim)
theorem run_T {i : Nat} {k : Nat} {f : Addr} {m : List T → M T} {Q : VK} {us : List Value} {vs : List V} {w0 : Wd} {st : S} {ts : List T} (F : FT (ArgsAt P i) X.prog X.w X.K X.mg X.base k f m) (hr : Room k X.A) (hg : X.A.guards = some []) (tk : Takes X W) (I : Inv X pins σ H s) (r : Vals vs us)
    (sr : SR X.K w0 st H) (rl : RpL X.K w0 ts vs) (fin : Fi X.K w0 (m ts st) (PQ X.K Q) (fun c d H' => W c d σ H')) : wpAny (model X.prog X.w) X.A (PySem.call (.ref f) us) (EP X pins σ Q) X.xe s :=
  run_TK (a := ⟨us, []⟩) F (.inl rfl) hr hg tk I r sr rl fin
/-- a call whose first argument is no star -/
theorem cw_any {f : Value} {first : List Value} {e : Expr} {es : List Expr} {pos : Pos} {Q : Value → Shared → Prop} (I : Inv X pins σ H s) (hk : PySem.W.keepIn X.K f = true) (he : isStarred e = false)
    (h : wpAny (model X.prog X.w) X.A (spliced (backTo pos (starEach (e :: es) X.env))) (fun vs s₁ => X.K.In s₁.heap ∧ wpAny (model X.prog X.w) X.A (PySem.call f (first ++ vs)) Q X.xe s₁) X.xe s) :
    wpAny (model X.prog X.w) X.A (callWith pos f first (backTo pos (starEach (e :: es) X.env)) []) Q X.xe s := by
  cases hs : (backTo pos (starEach es X.env)).any (·.1) with
  | false => exact PySem.W.callWith_K (h₀ := X.base) I.ok.mod.kin hk h (star_not he _ _) hs
  | true => exact PySem.W.callWith_S2 (h₀ := X.base) I.ok.mod.kin hk h (star_not he _ _) hs
theorem ea_two {M : Model} {A : Around} {E : Value → Shared → Prop} {s : Shared} {f : Value} {x y : Bool × Sem Value} {rest : List (Bool × Sem Value)} {Q : Args → Shared → Prop}
    (h : wpAny M A (spliced (x :: y :: rest)) (fun vs s' => Q ⟨vs, []⟩ s') E s) : wpAny M A (evalArgs f true (x :: y :: rest) []) Q E s := by
  obtain ⟨bx, mx⟩ := x
  unfold evalArgs
  cases bx
  all_goals refine wpAny_bind (m := spliced (_ :: y :: rest)) (wpAny_mono h (fun vs s' h' => ?_) fun _ _ x => x)
  all_goals refine wpAny_bind (wpAny_pure ?_)
  all_goals refine wpAny_holding ?_
  all_goals exact wpAny_bind (wpAny_pure (wpAny_bind (wpAny_pure (wpAny_pure h'))))
theorem star_two {e : Expr} {es : List Expr} {env : PySem.Env} {pos : Pos} : ∃ x rest, backTo pos (starEach (e :: es) env) = x :: rest := by
  cases e <;> exact ⟨_, _, rfl⟩
/-- a call with any arguments, none of them a keyword -/
theorem cw_args {ev : Expr → En → M T} (h : ∀ e, PE X e (liftE X.K W (ev e))) {f : Value} {first : List Value} {pos : Pos} {env : En} {w : Wd} {st : S} {k : List T → M T} {Q : VK} (I : Inv X pins σ H s) (hk : PySem.W.keepIn X.K f = true) (r : SR X.K w st H) (er : EnR X.K w env σ) : ∀ (args : List Expr),
    Fi X.K w (bnd (argsM ev args env) k st) (PQ X.K Q) (fun c d H' => W c d σ H') →
    (∀ (s1 : Shared) (H1 : Hp) (us : List Value) (vs : List V) (w1 : Wd) (st1 : S) (ts : List T), Inv X pins σ H1 s1 → Vals vs us → Ext w w1 → SR X.K w1 st1 H1 → RpL X.K w1 ts vs → Fi X.K w1 (k ts st1) (PQ X.K Q) (fun c d H' => W c d σ H') →
      wpAny (model X.prog X.w) X.A (PySem.call f (first ++ us)) (EP X pins σ Q) X.xe s1) →
    wpAny (model X.prog X.w) X.A (callWith pos f first (backTo pos (starEach args X.env)) []) (EP X pins σ Q) X.xe s := fun args fin go => by
  have multi : ∀ es, PA X es (liftA X.K W (argsM ev es)) := la_args h
  have run : ∀ es, Fi X.K w (bnd (argsM ev es env) k st) (PQ X.K Q) (fun c d H' => W c d σ H') → wpAny (model X.prog X.w) X.A (spliced (backTo pos (starEach es X.env))) (fun us s₁ => X.K.In s₁.heap ∧ wpAny (model X.prog X.w) X.A (PySem.call f (first ++ us)) (EP X pins σ Q) X.xe s₁) X.xe s := fun es fin =>
    thn ((multi es).run pos pins s σ H (fun vs H1 => ∃ w1 s1 ts, Ext w w1 ∧ SR X.K w1 s1 H1 ∧ RpL X.K w1 ts vs ∧ Fi X.K w1 (k ts s1) (PQ X.K Q) (fun c d H' => W c d σ H')) I
      ⟨w, st, env, r, er, fin.bind fun ts s1 w1 H1 x1 r1 fin1 vs rs => ⟨w1, s1, ts, x1, r1, rs, fin1⟩⟩) fun us s1 ⟨vs, H1, I1, rv, w1, st1, ts, x1, r1, rl, fin1⟩ => ⟨I1.kIn, go s1 H1 us vs w1 st1 ts I1 rv x1 r1 rl fin1⟩
  match args, fin with
  | [], fin => exact PySem.W.callWith_K0 I.kIn hk (go s H [] [] w st [] I .nil (Ext.refl w) r RpL.nil fin)
  | e :: es, fin =>
    cases he : isStarred e with
    | false => exact cw_any I hk he (run (e :: es) fin)
    | true =>
      obtain ⟨e', p, rfl⟩ : ∃ e' p, e = .Starred e' p := by cases e <;> first | exact ⟨_, _, rfl⟩ | cases he
      cases es with
      | nil =>
        refine PySem.W.callWith_S (h₀ := X.base) I.ok.mod.kin hk (thn ((h e').run pins s σ H (fun x H1 => ∃ w1 s1 tx, Ext w w1 ∧ SR X.K w1 s1 H1 ∧ Rp X.K w1 tx x ∧ Fi X.K w1 (bnd (itemsM tx) (fun xs => k (xs ++ [])) s1) (PQ X.K Q) (fun c d H' => W c d σ H')) I ⟨w, st, env, r, er, ?_⟩) fun u s1 ⟨x, H1, I1, rx, w1, st1, tx, x1, r1, rt, fin1⟩ => ?_)
        · refine Fi.bind (k := fun x => bnd (itemsM x) fun xs => k (xs ++ [])) ?_ fun tx s1 w1 H1 x1 r1 fin1 v rv => ⟨w1, s1, tx, x1, r1, rv, fin1⟩
          have e0 : bnd (ev e' env) (fun x => bnd (itemsM x) fun xs => k (xs ++ [])) = bnd (argsM ev [.Starred e' p] env) k := by
            show _ = bnd (bnd (ev e' env) fun x => bnd (itemsM x) fun xs => bnd (ret []) fun ys => ret (xs ++ ys)) k
            rw [bnd_assoc]
            congr 1
            funext x
            rw [bnd_assoc]
            rfl
          rw [e0]
          exact fin
        · have f2 := Fi.bind (P1 := fun xs s2 w2 H2 => Ext w w2 → SR X.K w2 s2 H2 → ∀ vs, RpL X.K w2 xs vs → Fi X.K w2 (k xs s2) (PQ X.K Q) (fun c d H' => W c d σ H')) fin1 fun xs s2 w2 H2 x2 r2 fin2 _ _ vs _ => by rw [List.append_nil] at fin2; exact fin2
          obtain ⟨a, xs, ts, ex, sq, rl, q⟩ := itemsA_ok r1 rt f2
          subst ex
          obtain rfl : u = Value.ref a := rx
          exact StX.star_any I1 sq fun us s5 I5 rv => ⟨I5.kIn, go s5 H1 us xs w1 st1 ts I5 rv x1 r1 rl (q x1 r1 xs rl)⟩
      | cons e2 es =>
        have sp := run (.Starred e' p :: e2 :: es) fin
        have e1 : backTo pos (starEach (.Starred e' p :: e2 :: es) X.env) = (true, (do let v ← eval e' X.env; standAt pos; pure v)) :: backTo pos (starEach (e2 :: es) X.env) := rfl
        obtain ⟨y, rest, e3⟩ := star_two (e := e2) (es := es) (env := X.env) (pos := pos)
        rw [e1, e3] at sp ⊢
        exact PySem.W.ks_call rfl (PySem.W.keeps_K hk) (ea_two sp)
theorem le_callF (o : OkX P fc X W) (hc : CallOk P X call d) (hd : fc.dep = d + 1) {ev : Expr → En → M T} (h : ∀ e, PE X e (liftE X.K W (ev e))) {f : Str} {i : Nat} {p pos : Pos} (hg : fc.gl f = true) (hl : P.glob.lookup f = some (.fn i)) : ∀ args, argOk args = true →
    PE X (.Call (.Name f p) args [] pos) (liftE X.K W fun env => bnd (argsM ev args env) fun ts => call i ts) := fun args ha => by
  obtain ⟨g, hdb⟩ := o.gl hg
  obtain ⟨m1, k1, a1⟩ := o.K.fn f i hl
  have F := hc.at i
  rw [a1] at F
  have hr : Room d X.A := (by rw [← Nat.add_sub_cancel (n := d) (m := 1), ← hd]; exact o.rm.mono (Nat.sub_le _ _))
  refine ⟨fun pins s σ H Q I ⟨w, st, env, r, er, fin⟩ => ?_⟩
  refine wpAny_Call_Name_kw (ld_glob I g m1 ?_ hdb)
  exact cw_args h I k1 r er args fin fun s1 H1 us vs w1 st1 ts I1 rv x1 r1 rl fin1 => run_T F hr o.g o.tk I1 rv r1 rl fin1
/-! ### C(..) -/
/-- a new instance -/
theorem SR.newIns {K : PySem.W.Frag} {w : Wd} {s : S} {H : Hp} {C : Str} {x dx : Addr} (r : SR K w s H) (h1 : H x = none) (h2 : H dx = none) (hne : dx ≠ x) :
    ∃ w', Ext w w' ∧ SR K w' (s.new (.ins C [] [])) (upd (upd H dx (.own x)) x (.ins (He.ga K C) dx [])) ∧ Rp K w' (.box s.next) (.ref x) := by
  -- the dict's place is hidden first, then shown: it never was looked at
  have r1 : SR K w s (upd H dx (.own x)) := by
    have kp : ∀ a u, w.I a = some u → a ≠ dx := fun a u e => ne_of_none (r.sub a u e) h2
    have bp : ∀ n u, s.get n = some u → w.r n ≠ dx := fun n u e => by
      obtain ⟨_, b, _⟩ := r.box n u e
      obtain ⟨ho, h4⟩ := b.some
      exact ne_of_none h4 h2
    have hp : ∀ a u, w.k a = some u → a ≠ dx := fun a u e => ne_of_none (r.kH a u e) h2
    exact ⟨fun a u e => by rw [upd_ne (kp a u e)]; exact r.sub a u e, fun n u e => let ⟨a, b, c⟩ := r.box n u e; ⟨a, b.mono (Ext.refl w) (upd_ne (bp n u e)), c⟩, r.inj, r.nd, r.b, fun a u e => by rw [upd_ne (hp a u e)]; exact r.kH a u e, r.kI, r.kB, tabs_ext r.tb h2, r.ntI, r.ntk⟩
  have hx : upd H dx (.own x) x = none := by rw [upd_ne (Ne.symm hne)]; exact h1
  obtain ⟨ex, r2⟩ := r1.new (o := .ins C [] []) (ho := .ins (He.ga K C) dx []) hx fun w' x' => ⟨dx, [], upd_same, rfl, rfl⟩
  refine ⟨_, ex, r2, ?_, ?_⟩
  · show s.next < w.b + 1
    rw [r.b]; exact Nat.lt_succ_self _
  · show V.ref x = .ref (if s.next = s.next then x else w.r s.next)
    rw [if_pos rfl]
theorem mk_makeK {k : Nat} {C : Str} {c : ClI} {a0 : Args} {us : List Value} {vs : List V} {w : Wd} {st : S} {ts : List T} {Q : VK} (o : OkX P fc X W) (hc : CallOk P X call k) (hC : P.cls? C = some c) (hA : ∀ i, c.init = some i → ∀ self : Value, ArgsAt P i ⟨self :: a0.pos, a0.kw⟩ (self :: us)) (hr : Room (k + 1) X.A) (I : Inv X pins σ H s) (rv : Vals vs us)
    (r : SR X.K w st H) (rl : RpL X.K w ts vs) (fin : Fi X.K w (mkM call C c ts st) (PQ X.K Q) (fun c d H' => W c d σ H')) : wpAny (model X.prog X.w) X.A (PySem.call (.ref (He.ga X.K C)) a0.pos a0.kw) (EP X pins σ Q) X.xe s := by
  unfold mkM at fin
  cases e1 : c.err with
  | some _ => rw [e1] at fin; exact fin.elim
  | none =>
    cases e2 : c.init with
    | none => rw [e1, e2] at fin; exact fin.elim
    | some i =>
      rw [e1, e2] at fin
      have M := o.K.mke C c i hC e1 e2
      have I2 := Inv.made (C := He.ga X.K C) I
      have n1 : H (s.heap.objs.size + 1) = none := I.hok.fresh (Nat.le_succ _)
      have n2 : H s.heap.objs.size = none := I.hok.fresh (Nat.le_refl _)
      have ne : s.heap.objs.size ≠ s.heap.objs.size + 1 := Nat.ne_of_lt (Nat.lt_succ_self _)
      obtain ⟨w', ex, r', rb⟩ := r.newIns (C := C) n1 n2 ne
      have rv2 : Vals (V.ref (s.heap.objs.size + 1) :: vs) (Value.ref (s.heap.objs.size + 1) :: us) := .cons rfl rv
      have fin : Fi X.K w (match call i (.box st.next :: ts) (st.new (.ins C [] [])) with
        | .ok .non s' => if c.keep then .ok (.box st.next) s' else match s'.get st.next with
          | some (.ins D ns vs) => .ok (.ins D ns vs) (s'.del st.next)
          | _ => .bad
        | .ok _ _ => .bad
        | .exc C ns vs s' => .exc C ns vs s'
        | .bad => .bad : Res T) (PQ X.K Q) (fun c d H' => W c d σ H') := fin
      have f2 : Fi X.K w' (call i (.box st.next :: ts) (st.new (.ins C [] []))) (PQ X.K fun v H2 => v = .non ∧ Q (.ref (s.heap.objs.size + 1)) H2) (fun c d H' => W c d σ H') := by
        cases e3 : call i (.box st.next :: ts) (st.new (.ins C [] [])) with
        | bad => rw [e3] at fin; exact fin.elim
        | exc D ns us s' =>
          rw [e3] at fin
          exact fun w2 H2 d fs x2 r2 a b c => fin w2 H2 d fs (ex.trans x2) r2 a b c
        | ok t s' =>
          rw [e3] at fin
          cases t with
          | non =>
            intro w2 H2 x2 r2 v rv'
            have rv' : v = .non := rv'
            refine ⟨rv', ?_⟩
            have fin : Fi X.K w (if c.keep then .ok (.box st.next) s' else match s'.get st.next with
              | some (.ins D ns vs) => .ok (.ins D ns vs) (s'.del st.next)
              | _ => .bad : Res T) (PQ X.K Q) (fun c d H' => W c d σ H') := fin
            have rb2 := rb.mono x2
            split at fin
            · exact fin w2 H2 (ex.trans x2) r2 _ rb2
            · split at fin
              · rename_i D ns us eg
                obtain ⟨_, ⟨dx, fs, p1, p2, p3⟩, _⟩ := r2.box _ _ eg
                obtain ⟨ex3, r3⟩ := r2.froze eg p1
                refine fin _ H2 ((ex.trans x2).trans ex3) r3 _ ?_
                exact ⟨w2.r st.next, dx, fs, rb2.2, upd_same, p2, p3.mono ex3⟩
              · exact fin.elim
          | _ => exact fin.elim
      refine wpAny_call (make_map (f := fA X.K P i) I.kIn M.makes M.init (beq_iff_eq.mp M.fn) (codeAny_mono (hc.at i _ X.stack _ _ ⟨Value.ref (s.heap.objs.size + 1) :: a0.pos, a0.kw⟩ (Value.ref (s.heap.objs.size + 1) :: us) _ _ _ w' _ _ (hA i e2 _) (hr.make (He.ga X.K C) a0.pos a0.kw) (by exact o.g) (I2.env0.make (He.ga X.K C) a0.pos a0.kw) rv2 r' (RpL.cons rb (rl.mono ex)) f2) fun r s' hq' => ?_))
      cases r with
      | error e => exact passAt o.tk σ pins _ _ e s' I2 hq'
      | ok fl =>
        cases fl with
        | ret u =>
          obtain ⟨v, H', I3, rv, ev, q3⟩ := I2.after hq'
          subst ev
          exact ⟨rv, ⟨V.ref (s.heap.objs.size + 1), H', I3, rfl, q3⟩⟩
        | next => exact False.elim hq'
        | brk => exact False.elim hq'
        | cont => exact False.elim hq'
theorem mk_make {k : Nat} {C : Str} {c : ClI} {us : List Value} {vs : List V} {w : Wd} {st : S} {ts : List T} {Q : VK} (o : OkX P fc X W) (hc : CallOk P X call k) (hC : P.cls? C = some c) (hr : Room (k + 1) X.A) (I : Inv X pins σ H s) (rv : Vals vs us)
    (r : SR X.K w st H) (rl : RpL X.K w ts vs) (fin : Fi X.K w (mkM call C c ts st) (PQ X.K Q) (fun c d H' => W c d σ H')) : wpAny (model X.prog X.w) X.A (PySem.call (.ref (He.ga X.K C)) us) (EP X pins σ Q) X.xe s :=
  mk_makeK (a0 := ⟨us, []⟩) o hc hC (fun _ _ _ => .inl rfl) hr I rv r rl fin
theorem cls_of {x : Str} {c : ClI} (h : P.glob.lookup x = some (.cls c)) : P.cls? x = some c := by
  unfold Pg.cls?
  rw [h]
theorem le_make (o : OkX P fc X W) (hc : CallOk P X call d) (hd : fc.dep = d + 1) {ev : Expr → En → M T} (h : ∀ e, PE X e (liftE X.K W (ev e))) {f : Str} {c : ClI} {p pos : Pos} (hg : fc.gl f = true) (hl : P.glob.lookup f = some (.cls c)) (hi : (c.err.isNone && c.init.isSome) = true) : ∀ args, argOk args = true →
    PE X (.Call (.Name f p) args [] pos) (liftE X.K W fun env => bnd (argsM ev args env) fun ts => mkM call f c ts) := fun args ha => by
  obtain ⟨g, hdb⟩ := o.gl hg
  have m1 := o.K.cls f c hl
  have hC := cls_of hl
  have hr : Room (d + 1) X.A := by rw [← hd]; exact o.rm
  refine ⟨fun pins s σ H Q I ⟨w, st, env, r, er, fin⟩ => ?_⟩
  rw [Bool.and_eq_true, Option.isNone_iff_eq_none, Option.isSome_iff_exists] at hi
  obtain ⟨e1, i, e2⟩ := hi
  have kp : PySem.W.keepIn X.K (.ref (He.ga X.K f)) = true := (o.K.mke f c i hC e1 e2).kp
  refine wpAny_Call_Name_kw (ld_glob I g m1 ?_ hdb)
  exact cw_args h I kp r er args fin fun s1 H1 us vs w1 st1 ts I1 rv x1 r1 rl fin1 => mk_make o hc hC hr I1 rv r1 rl fin1
end
end G
-- GtS9
namespace G
open PySem L2
/-! ### fields -/
theorem lk_some {K : PySem.W.Frag} {w : Wd} {f : Str} {t : T} : ∀ {fs : List (Str × V)} {ts : List T}, RpL K w ts (fs.map (·.2)) → lkF (fs.map (·.1)) ts f = some t → ∃ v, fs.lookup f = some v ∧ Rp K w t v
  | [], ts, q, h => by cases ts <;> cases h
  | (n, x) :: r, [], q, h => by cases h
  | (n, x) :: r, u :: ts, ⟨v, ws, e, a, b⟩, h => by
    cases e
    rw [List.lookup_cons]
    have h : (if n = f then some u else lkF (r.map (·.1)) ts f) = some t := h
    by_cases hn : n = f
    · rw [if_pos hn] at h
      cases h
      rw [hn, beq_self_eq_true]
      exact ⟨x, rfl, a⟩
    · rw [if_neg hn] at h
      rw [beq_eq_false_iff_ne.mpr (Ne.symm hn)]
      exact lk_some b h
theorem lk_none {K : PySem.W.Frag} {w : Wd} {f : Str} : ∀ {fs : List (Str × V)} {ts : List T}, RpL K w ts (fs.map (·.2)) → lkF (fs.map (·.1)) ts f = none → fs.lookup f = none
  | [], ts, q, h => rfl
  | (n, x) :: r, [], q, h => by
    have q : _ = _ := q
    cases q
  | (n, x) :: r, u :: ts, ⟨v, ws, e, a, b⟩, h => by
    cases e
    rw [List.lookup_cons]
    have h : (if n = f then some u else lkF (r.map (·.1)) ts f) = none := h
    by_cases hn : n = f
    · rw [if_pos hn] at h
      cases h
    · rw [if_neg hn] at h
      rw [beq_eq_false_iff_ne.mpr (Ne.symm hn)]
      exact lk_none b h
theorem lk_mem {f : Str} : ∀ {fs : List (Str × V)}, (fs.map (·.1)).contains f = false → fs.lookup f = none
  | [], _ => rfl
  | (n, x) :: r, h => by
    have h : f ∉ ((n, x) :: r).map (·.1) := by simpa using h
    rw [List.map_cons, List.mem_cons, not_or] at h
    rw [List.lookup_cons, beq_eq_false_iff_ne.mpr h.1]
    exact lk_mem (by simpa using h.2)
theorem see_insI {K : PySem.W.Frag} {w : Wd} {s : S} {H : Hp} (r : SR K w s H) {t : T} {v : V} {C : Str} {ns : List Str} {ts : List T} (h : Rp K w t v) (e : see s t = .ins C ns ts) :
    ∃ a dx fs, v = .ref a ∧ H a = some (.ins (He.ga K C) dx fs) ∧ fs.map (·.1) = ns ∧ RpL K w ts (fs.map (·.2)) := by
  cases t with
  | box n =>
    have e : seeB n (s.get n) = _ := e
    obtain ⟨hn, hv⟩ := h
    cases e1 : s.get n with
    | none => rw [e1] at e; cases e
    | some o =>
      obtain ⟨_, b, _⟩ := r.box n o e1
      rw [e1] at e
      cases o with
      | ins C ns us =>
        cases e
        obtain ⟨dx, fs, p, q1, q2⟩ := b
        exact ⟨_, dx, fs, hv, p, q1, q2⟩
      | lst us => cases e
      | dct ks us => cases e
  | ins C ns us =>
    cases e
    obtain ⟨a, dx, fs, ev, p, q1, q2⟩ := h
    exact ⟨a, dx, fs, ev, r.sub _ _ p, q1, q2⟩
  | _ => cases e
theorem see_glo {K : PySem.W.Frag} {w : Wd} {s : S} {H : Hp} (r : SR K w s H) {t : T} {v : V} {C : Str} (h : Rp K w t v) (e : see s t = .glo C) : v = .ref (He.ga K C) := by
  have q := r.see h
  rw [e] at q
  exact q
theorem see_exc {s : S} {t : T} {C : Str} {ns : List Str} {ts : List T} (e : see s t = .exc C ns ts) : t = .exc C ns ts := by
  cases t with
  | box n =>
    have e : seeB n (s.get n) = _ := e
    cases e1 : s.get n with
    | none => rw [e1] at e; cases e
    | some o => rw [e1] at e; cases o <;> cases e
  | _ => exact e
theorem base_ok {o : Expr} (h : baseOk o = true) (f : Str) (env : PySem.Env) (m : Sem Value) : attributeBase o f env m = m := by
  unfold attributeBase
  split
  · rename_i id p pos
    have h : (!(id == ("super" : Str))) = true := h
    have e : (id != "super" || f == "__class__" || env.kindOf "super" != some .globalImplicit || env.kindOf "__class__" != some .free) = true := by
      have : (id != ("super" : Str)) = true := by rw [bne]; exact h
      rw [this]
      rfl
    rw [if_pos e]
  · rfl
section
variable {P : Pg} {fc : FC} {X : Cx} {W : WX} {call : CallM} {d : Nat} {pins : List (Addr × Obj)} {σ : L2.St} {H : Hp} {s : Shared}
theorem xAtW {w : Wd} {st : S} {C : Str} {ns : List Str} {ts : List T} {v : V} (I : Inv X pins σ H s) (r : SR X.K w st H) (h : Rp X.K w (.exc C ns ts) v) :
    ∃ (a d : Addr) (fs : List (Str × V)) (ox od : Obj), v = .ref a ∧ PySem.W.InstAt s.heap a ox (He.ga X.K C) (some od) ∧ (∃ mA, s.heap.Ns1 d mA ∧ (∀ f, RelO (fs.lookup f) (mA f)) ∧ s.heap.get? d = some od ∧ ∀ f, PySem.W.lookIn f od = some (mA f)) ∧ fs.map (·.1) = ns ∧ RpL X.K w ts (fs.map (·.2)) := by
  obtain ⟨a, d, φ, fs, ev, e1, hx, e2, e3, q⟩ := h
  have h1 : ObjOk X.prog X.w H s.heap a (.ext φ) := I.hok a _ (r.sub _ _ e1)
  obtain ⟨p, _, _⟩ := h1
  obtain ⟨ox, vs, g1, g2, g3, g4⟩ := hx _ p
  have h2 : ∃ mA, s.heap.Ns1 d mA ∧ ∀ f, RelO (fs.lookup f) (mA f) := by
    rcases e2 with e2 | ⟨ψ, e2, e4⟩
    · have h3 : ObjOk X.prog X.w H s.heap d (.xd fs) := I.hok d _ (r.sub _ _ e2)
      exact h3
    · have h3 : ObjOk X.prog X.w H s.heap d (.ext ψ) := I.hok d _ (r.sub _ _ e2)
      exact e4 _ h3.1
  obtain ⟨mA, hn, hr⟩ := h2
  obtain ⟨od, ho, hl⟩ := lookIn_ns hn
  exact ⟨a, d, fs, ox, od, ev, ⟨g1, g2, by unfold PySem.W.notCls; rw [g4] <;> rfl, by rw [g3]; exact ho⟩, ⟨mA, hn, hr, ho, hl⟩, e3, q⟩
/-- a property's value -/
theorem getprop_T {i : Nat} {f : Str} {p a dx : Addr} {C : Addr} {fs : List (Str × V)} {Q : VK} {b : Bool} {w : Wd} {st : S} {t : T} (o : OkX P fc X W) (hc : CallOk P X call d) (hr : Room (d + 1) X.A) (I : Inv X pins σ H s) (ea : H a = some (.ins C dx fs)) (c : Cls X.K C) (hp : PropOf X.K C f p (fA X.K P i))
    (r : SR X.K w st H) (rt : Rp X.K w t (.ref a)) (fin : Fi X.K w (call i [t] st) (PQ X.K Q) (fun _ _ _ => False)) :
    wpAny (model X.prog X.w) X.A (getAttr (.ref a) f b) (EP X pins σ Q) X.xe s := by
  obtain ⟨mA, O, _, _, _, _⟩ := ins_get I.hok ea
  obtain ⟨od, J, _⟩ := O.look
  obtain ⟨rest, hrec⟩ := hp.rec_
  have I1 := I.tok (s.toks + 1)
  have hcl : (PySem.W.clsIn X.K C).isSome = true := by
    obtain ⟨cd, hc, _⟩ := PySem.W.any_some c.hd
    rw [hc]
    rfl
  refine PySem.W.get_bind I.kIn J (PySem.W.plainGet_of (c.get f)).1 (PySem.W.findObj_data hcl hp.at_ hp.get hp.tak) (PySem.W.plainGet_of (c.get f)).2 (wpAny_call (PySem.W.prop_get (s := { s with toks := s.toks + 1 }) I.kIn hrec ?_))
  refine codeAny_mono (hc.at i X.A.in1 X.stack { s with toks := s.toks + 1 } H ⟨[.ref a], []⟩ [.ref a] [.ref a] Q _ w st [t] (.inl rfl) hr.in1 o.g I1.env0.in1 (.cons rfl .nil) r (RpL.cons rt RpL.nil) fin) fun r s' hq => ?_
  cases r with
  | error er =>
    obtain ⟨_, _, _, _, _, _, _, _, _, _, _, _, he⟩ := hq
    exact he.elim
  | ok fl =>
    cases fl with
    | ret u =>
      obtain ⟨v, H', I3, rv, q3⟩ := I1.after hq
      show wpAny _ _ (handedOut u) _ _ _
      rw [PySem.W.handedOut_of (handed_of rv)]
      exact wpAny_pure ⟨v, H', I3, rv, q3⟩
    | next => exact False.elim hq
    | brk => exact False.elim hq
    | cont => exact False.elim hq
theorem noX_call {m : M T} {st : S} {w : Wd} {Q : T → S → Wd → Hp → Prop} {E E1 : XK} (fin : Fi X.K w (noX m st) Q E) : Fi X.K w (m st) Q E1 := fin.noX
theorem le_attr (o : OkX P fc X W) (hc : CallOk P X call d) (hd : fc.dep = d + 1) {e : Expr} {f : Str} {pos : Pos} {fe : En → M T} (hb : baseOk e = true) (he : PE X e (liftE X.K W fe)) : PE X (.Attribute e f pos) (liftE X.K W fun env => bnd (fe env) fun x => attrM P call f x) := by
  have hr : Room (d + 1) X.A := by rw [← hd]; exact o.rm
  refine ⟨fun pins s σ H Q I ⟨w, st, env, r, er, fin⟩ => ?_⟩
  refine attr_of (base_ok hb f _ _) (thn (he.run pins s σ H (fun x H1 => ∃ w st tx, SR X.K w st H1 ∧ Rp X.K w tx x ∧ Fi X.K w (attrM P call f tx st) (PQ X.K Q) (fun c d H' => W c d σ H')) I
    ⟨w, st, env, r, er, fin.bind fun tx s1 w1 H1 x1 r1 fin1 vx rx => ⟨w1, s1, tx, r1, rx, fin1⟩⟩) fun u s1 ⟨x, H1, I1, rx, w1, st1, tx, r1, rt, fin1⟩ => ?_)
  clear fin r er
  unfold attrM at fin1
  split at fin1
  · rename_i C ns vs es
    obtain ⟨a, dx, fs, ev, ea, en, q⟩ := see_insI r1 rt es
    subst ev
    obtain rfl : u = Value.ref a := rx
    split at fin1
    · rename_i c hC
      split at fin1
      · exact fin1.elim
      · rename_i hne
        have hne : c.err = none := by
          cases e : c.err with
          | none => rfl
          | some _ => rw [e] at hne; exact absurd rfl hne
        have cl := o.K.cl C c hC hne
        split at fin1
        · rename_i i hm
          obtain ⟨p, hp⟩ := o.K.prop C c f i hC hne hm
          exact getprop_T o hc hr I1 ea cl hp r1 rt fin1.noX
        · rename_i t hm
          split at fin1
          · rename_i hn
            rw [Option.isNone_iff_eq_none, ← en] at hn
            obtain ⟨v, u, k, rr⟩ := o.K.con C c f t hC hne hm
            exact getcon_ok I1 ea cl k (lk_none q hn) fun s2 I2 => ⟨v, H1, I2, k.rel, Fi.ret fin1 r1 v (rr _)⟩
          · exact fin1.elim
        · exact fin1.elim
        · split at fin1
          · rename_i t ht
            split at fin1
            · rename_i hf
              rw [← en] at ht
              obtain ⟨v, hv, rv⟩ := lk_some q ht
              exact getattr_ok I1 ea cl (o.K.noat C c f hC (by simpa using hf)) hv fun u s2 I2 ru => ⟨v, H1, I2, ru, Fi.ret fin1 r1 v rv⟩
            · exact fin1.elim
          · exact fin1.elim
    · exact fin1.elim
  · rename_i C ns vs es
    have et := see_exc es
    subst et
    split at fin1
    · rename_i c hC
      split at fin1
      · rename_i hh
        rw [Bool.and_eq_true] at hh
        split at fin1
        · rename_i t ht
          obtain ⟨a, dd, fs, ox, od, ev, J, ⟨mA, hns, hrl, ho, hl⟩, en, q⟩ := xAtW I1 r1 rt
          subst ev
          obtain rfl : u = Value.ref a := rx
          rw [← en] at ht
          obtain ⟨v, hv, rv⟩ := lk_some q ht
          obtain ⟨u, hu, ru⟩ := RelO.some_of (v := v) (o := mA f) (by rw [← hv]; exact hrl f)
          have T := o.K.xf C c hC hh.1
          exact HandSPX.exc_get I1.kIn J T.ga T.gg T.exC (PySem.W.findObj_own T.hdC (o.K.noat C c f hC (by simpa using hh.2)) rfl (by rw [hl, hu])) (handed_of ru) ⟨v, H1, I1.tok _, ru, Fi.ret fin1 r1 v rv⟩
        · exact fin1.elim
      · exact fin1.elim
    · exact fin1.elim
  · rename_i C es
    have ev := see_glo r1 rt es
    subst ev
    obtain rfl : u = Value.ref _ := rx
    split at fin1
    · rename_i c hC
      split at fin1
      · rename_i t hm
        obtain ⟨mc, v, u, rd, k, rr⟩ := o.K.cval C c f t hC hm
        exact ClX.getcval_ok I1 rd k fun s2 I2 => ⟨v, H1, I2, k.rel, Fi.ret fin1 r1 v (rr _)⟩
      · exact fin1.elim
    · exact fin1.elim
  · exact fin1.elim
/-! ### o.m(..) -/
theorem call_form {o : Expr} {m : Str} {apos pos : Pos} {args : List Expr} {env : PySem.Env} (hb : baseOk o = true) (hl : (apos.endLine == pos.line) = true) (hp : args.any isStarred = false) (hn : args.length < 29) :
    eval (.Call (.Attribute o m apos) args [] pos) env = (do
      let ov ← eval o env
      standAt apos.atName
      let (f, first) ← holding [ov] (getMethod ov m (do return (← importBound o env).getD true))
      callWith pos f first (backTo pos (starEach args env)) (backToKw pos (keywordEach [] env))) := by
  have hf : methodCallForm (args.length + ([] : List Keyword).length) (backTo pos (starEach args env)) (backToKw pos (keywordEach [] env)) = true := by
    unfold methodCallForm
    rw [plain_all hp]
    show (true && true && decide (args.length + 0 + 0 < 30)) = true
    simp
    omega
  rw [arm_eval_Call, base_ok hb]
  unfold methodCall
  rw [hf]
  have hpos : methodCallPos true o env apos pos = pure pos := by
    unfold methodCallPos
    rw [hl]
    rfl
  rw [hpos]
  rfl
theorem code_T {k : Nat} {f : Addr} {m : List T → M T} {Q : VK} {us : List Value} {vs : List V} {w0 : Wd} {st : S} {ts : List T} {i : Nat} (F : FT (ArgsAt P i) X.prog X.w X.K X.mg X.base k f m) (hr : Room k X.A) (hg : X.A.guards = some []) (tk : Takes X W) (I : Inv X pins σ H s) (r : Vals vs us)
    (sr : SR X.K w0 st H) (rl : RpL X.K w0 ts vs) (fin : Fi X.K w0 (m ts st) (PQ X.K Q) (fun c d H' => W c d σ H')) :
    codeAny (model X.prog X.w) X.A (.call (.ref f) ⟨us, []⟩) (fun r s' => match r with | .ok (.ret v) => EP X pins σ Q v s' | .ok _ => False | .error e => X.xe e s') s :=
  codeAny_mono (F X.A X.stack s H ⟨us, []⟩ us vs Q _ w0 st ts (.inl rfl) hr hg I.env0 r sr rl fin) fun r s' hq => by
    have z := end_T tk I hq
    cases r with
    | error e => exact z
    | ok fl => cases fl <;> first | exact z | exact z.elim
theorem le_umeth (o : OkX P fc X W) (hc : CallOk P X call d) (hd : fc.dep = d + 1) {ev : Expr → En → M T} (h : ∀ e, PE X e (liftE X.K W (ev e))) {ob : Expr} {m : Str} {apos pos : Pos} {args : List Expr} (hk : okCall ob apos pos args = true) :
    PE X (.Call (.Attribute ob m apos) args [] pos) (liftE X.K W fun env => bnd (ev ob env) fun x => bnd (methI P m x) fun r => bnd (argsM ev args env) fun ts => call r.1 (r.2 ++ ts)) := by
  unfold okCall at hk
  simp only [Bool.and_eq_true, Bool.not_eq_true', decide_eq_true_eq] at hk
  obtain ⟨⟨hb, hl⟩, hp, hn⟩ := hk
  have hr : Room d X.A := (by rw [← Nat.add_sub_cancel (n := d) (m := 1), ← hd]; exact o.rm.mono (Nat.sub_le _ _))
  refine ⟨fun pins s σ H Q I ⟨w, st, env, r, er, fin⟩ => ?_⟩
  refine PySem.W.methodCall_KW (thn ((h ob).run pins s σ H (fun x H1 => ∃ w st tx, SR X.K w st H1 ∧ EnR X.K w env σ ∧ Rp X.K w tx x ∧ Fi X.K w (bnd (methI P m tx) (fun r => bnd (argsM ev args env) fun ts => call r.1 (r.2 ++ ts)) st) (PQ X.K Q) (fun c d H' => W c d σ H')) I
    ⟨w, st, env, r, er, fin.bind fun tx s1 w1 H1 x1 r1 fin1 vx rx => ⟨w1, s1, tx, r1, er.mono x1, rx, fin1⟩⟩) fun u s1 ⟨x, H1, I1, rx, w1, st1, tx, r1, er1, rt, fin1⟩ => ?_) (call_form hb hl hp hn)
  clear fin r er
  unfold bnd methI at fin1
  split at fin1
  · rename_i ri s2 e0
    split at e0
    · rename_i C ns vs es
      obtain ⟨a, dx, fs, ev', ea, en, q⟩ := see_insI r1 rt es
      subst ev'
      obtain rfl : u = Value.ref a := rx
      split at e0
      · rename_i c hC
        split at e0
        · cases e0
        · rename_i hne
          rw [Bool.or_eq_true, not_or] at hne
          have he : c.err = none := by
            cases e : c.err with
            | none => rfl
            | some _ => rw [e] at hne; exact absurd rfl hne.1
          have hno : fs.lookup m = none := lk_mem (by rw [en]; simpa using hne.2)
          split at e0
          · rename_i i hm
            cases e0
            have k := o.K.meth C c m i hC he hm
            refine getmeth_ok I1 ea (o.K.cl C c hC he) k hno ?_
            have fin1 : Fi X.K w1 (bnd (argsM ev args env) (fun ts => call i ([tx] ++ ts)) st1) (PQ X.K Q) (fun c d H' => W c d σ H') := fin1
            show wpAny _ _ (callWith pos (.ref (fA X.K P i)) [.ref a] _ _) _ _ _
            cases args with
            | nil => exact PySem.W.callWith_K0 (first := [.ref a]) I1.kIn k.kp (run_T (us := [.ref a]) (vs := [.ref a]) (hc.at i) hr o.g o.tk I1 (.cons rfl .nil) r1 (RpL.cons rt RpL.nil) fin1)
            | cons e es =>
              have hp' : isStarred e = false := by
                rw [List.any_cons, Bool.or_eq_false_iff] at hp
                exact hp.1
              refine cw_any (first := [.ref a]) I1 k.kp hp' (thn ((la_args h (e :: es)).run pos pins s1 σ H1 (fun vs H2 => ∃ w2 s2 ts, SR X.K w2 s2 H2 ∧ Rp X.K w2 tx (.ref a) ∧ RpL X.K w2 ts vs ∧ Fi X.K w2 (call i ([tx] ++ ts) s2) (PQ X.K Q) (fun c d H' => W c d σ H')) I1
                ⟨w1, st1, env, r1, er1, fin1.bind fun ts s2 w2 H2 x2 r2 fin2 vs rs => ⟨w2, s2, ts, r2, rt.mono x2, rs, fin2⟩⟩) fun us s2 ⟨vs, H2, I2, rv, w2, st2, ts, r2, rt2, rl, fin2⟩ => ⟨I2.kIn, ?_⟩)
              exact run_T (us := .ref a :: us) (vs := .ref a :: vs) (hc.at i) hr o.g o.tk I2 (.cons rfl rv) r2 (RpL.cons rt2 rl) fin2
          · cases e0
      · cases e0
    · rename_i C es
      have ev' := see_glo r1 rt es
      subst ev'
      obtain rfl : u = Value.ref _ := rx
      split at e0
      · rename_i c hC
        split at e0
        · rename_i i hm
          cases e0
          obtain ⟨mc, p, rd, k⟩ := o.K.cm C c m i hC hm
          refine ClX.getmethcm_ok I1 rd k fun s2 I2 => ?_
          have fin1 : Fi X.K w1 (bnd (argsM ev args env) (fun ts => call i ([tx] ++ ts)) st1) (PQ X.K Q) (fun c d H' => W c d σ H') := fin1
          have go : ∀ {s3 : Shared} {H3 : Hp} {us : List Value} {vs : List V} {w3 : Wd} {st3 : S} {ts : List T}, Inv X ((s1.heap.objs.size, PySem.W.methodObj (.ref (fA X.K P i)) (.ref (He.ga X.K C))) :: pins) σ H3 s3 → Vals vs us → SR X.K w3 st3 H3 → Rp X.K w3 tx (.ref (He.ga X.K C)) → RpL X.K w3 ts vs →
              Fi X.K w3 (call i ([tx] ++ ts) st3) (PQ X.K Q) (fun c d H' => W c d σ H') → wpAny (model X.prog X.w) X.A (PySem.call (.ref s1.heap.objs.size) us) (EP X pins σ Q) X.xe s3 := fun {s3 H3 us vs w3 st3 ts} I3 rv r3 rt3 rl f3 => by
            have z : wpAny (model X.prog X.w) X.A (PySem.call (.ref s1.heap.objs.size) us) (EP X ((s1.heap.objs.size, PySem.W.methodObj (.ref (fA X.K P i)) (.ref (He.ga X.K C))) :: pins) σ Q) X.xe s3 :=
              wpAny_call (PySem.W.method_call (ClX.pin_at I3) (code_T (us := .ref (He.ga X.K C) :: us) (vs := .ref (He.ga X.K C) :: vs) (hc.at i) hr o.g o.tk I3 (.cons rfl rv) r3 (RpL.cons rt3 rl) f3))
            exact thn z fun _ _ y => ClX.unpinE y
          cases args with
          | nil => exact PySem.W.callWith_M0 (first := []) ⟨ClX.pin_at I2, I2.kIn⟩ k.fi (go (us := []) (vs := []) (ts := []) I2 .nil r1 rt RpL.nil fin1)
          | cons e es =>
            have hp' : isStarred e = false ∧ es.any isStarred = false := by
              rw [List.any_cons, Bool.or_eq_false_iff] at hp
              exact hp
            refine ClX.callwith_cm I2 (ClX.base_none I1 (Nat.le_refl _)) k.fi (thn ((la_args h (e :: es)).run pos _ s2 σ H1 (fun vs H2 => ∃ w2 s2 ts, SR X.K w2 s2 H2 ∧ Rp X.K w2 tx (.ref (He.ga X.K C)) ∧ RpL X.K w2 ts vs ∧ Fi X.K w2 (call i ([tx] ++ ts) s2) (PQ X.K Q) (fun c d H' => W c d σ H')) I2
              ⟨w1, st1, env, r1, er1, fin1.bind fun ts s2 w2 H2 x2 r2 fin2 vs rs => ⟨w2, s2, ts, r2, rt.mono x2, rs, fin2⟩⟩) fun us s3 ⟨vs, H2, I3, rv, w2, st2, ts, r2, rt2, rl, fin2⟩ => ⟨⟨ClX.pin_at I3, I3.kIn⟩, ?_⟩) (star_not hp'.1 _ _) (plain_any hp'.2 _ _)
            exact go I3 rv r2 rt2 rl fin2
        · cases e0
      · cases e0
    · cases e0
  · rename_i e0
    split at e0
    · split at e0
      · split at e0
        · cases e0
        · split at e0 <;> cases e0
      · cases e0
    · split at e0
      · split at e0 <;> cases e0
      · cases e0
    · cases e0
  · exact fin1.elim
end
end G
-- GtX1
/-! an own error made with keywords -/
namespace PySem
namespace GX
open HandSPX Builtin
section
variable {prog : Program} {w : World} {A : Around} {E : Value → Shared → Prop} {R : Result → Shared → Prop} {h : Heap} {g : Array GenState} {d : Drawn} {t : Nat} {os : OsState}
variable {nm q : Str} {C N : Addr} {bs bm bmB : List Value} {hdct : Bool} {sn : List Str} {sub : List Value} {ab : Bool} {col : Option Bool} {dd : Option Addr} {k0 k1 k2 k3 k5 : Option Value} {B newId initId : String}

theorem newChk {M : Model} (F : ExcBaseFacts B newId initId bmB) (hT : ∀ X : String, bm.contains (.type X) = bmB.contains (.type X)) {us : List Value} {kw : List (Str × Value)} {Q : Unit → Shared → Prop}
    (hC : h.get? C = some (excClassObj nm q C N bs bm hdct sn sub ab col dd k0 k1 k2 k3 k5 newId)) (hq : Q () ⟨h, g, d, t, os⟩) : wpAny M A (checkBuiltinCall newId ⟨.ref C :: us, kw⟩) Q E ⟨h, g, d, t, os⟩ := by
  have c1 : (Value.ref C :: bm).contains (.type B) = true := by rw [List.contains_cons, hT, F.hasB, Bool.or_true]
  have c2 := F.noStar
  simp only [checkBuiltinCall, F.newKind, F.newSplit, F.newRow]
  repeat (first | refine wpAny_loadPart_at hC ?_ | (refine wpAny_isSubtype_exc hC ?_; rw [c1]) | refine wpAny_staticBase_exc hC ?_ | refine wpAny_madeBy_exc hC ?_ | simp only [bne_self_eq_false, Bool.false_eq_true, if_false] | wp_step)
  exact hq
theorem newRun (F : ExcBaseFacts B newId initId bmB) (hT : ∀ X : String, bm.contains (.type X) = bmB.contains (.type X)) {us : List Value} {kw : List (Str × Value)}
    (hC : h.get? C = some (excClassObj nm q C N bs bm hdct sn sub ab col dd k0 k1 k2 k3 k5 newId))
    (hq : R (.ok (.ret (.ref (h.objs.size + 1)))) ⟨(h.push (W.kdv_tup us)).push (excO C h.objs.size), g, d, t, os⟩) (hz : us.length ≤ sizeLine) :
    codeAny (model prog w) A (.builtin newId ⟨.ref C :: us, kw⟩) R ⟨h, g, d, t, os⟩ := by
  have c0 := F.ends
  have c1 : (Value.ref C :: bm).contains (.type B) = true := by rw [List.contains_cons, hT, F.hasB, Bool.or_true]
  have c2 : (Value.ref C :: bm).contains (.type "AttributeError") = false := by rw [List.contains_cons, hT, F.noAttr]; rfl
  have c3 : (Value.ref C :: bm).contains (.type "NameError") = false := by rw [List.contains_cons, hT, F.noName]; rfl
  refine codeAny_builtinAt F.entry ?_
  unfold Builtin.«BaseException.__new__»
  refine wpAt_bind ?_
  show wpAt _ _ _ (stack >>= _) _ _ _
  refine wpAt_bind (wpAt_stack fun p below => wpAt_of_wpAny ?_)
  wp_walk
  refine wpAt_of_wpAny ?_
  rw [F.owner]
  repeat (first | with_reducible refine wpAny_madeHere_exc F.canon hC ?_ | with_reducible refine wpAny_loadPart_at hC ?_ | (with_reducible refine wpAny_isSubtype_exc hC ?_; first | rw [c1] | rw [c2] | rw [c3]) | wp_step)
  show R _ _
  rw [Heap.size_push]
  exact hq
theorem tcRun (F : ExcBaseFacts B newId initId bmB) (hT : ∀ X : String, bm.contains (.type X) = bmB.contains (.type X)) {us : List Value} {kw : List (Str × Value)} {fI : Addr} {Q : Fin → Shared → Prop}
    (hC : h.get? C = some (excClassObj nm q C N bs bm hdct sn sub ab col dd k0 k1 k2 k3 k5 newId))
    (hi : W.Looks (model prog w) h (typeLookup (.ref C) "__init__") (some (.ref fI))) (hb : ∀ self, W.Looks (model prog w) h (bindSpecial (.ref fI) self) (.ref fI, [self])) (hz : us.length ≤ sizeLine)
    (hq : codeAny (model prog w) A (.call (.ref fI) ⟨.ref (h.objs.size + 1) :: us, kw⟩)
      (fun r s' => match r with | .ok (.ret v) => v = .none ∧ Q (.done (.ret (.ref (h.objs.size + 1)))) s' | .ok _ => False | .error e => E e s')
      ⟨(h.push (W.kdv_tup us)).push (excO C h.objs.size), g, d, t, os⟩) :
    wpAny (model prog w) A (Builtin.«type.__call__» ⟨.ref C :: us, kw⟩) Q E ⟨h, g, d, t, os⟩ := by
  repeat (first | with_reducible refine wpAny_loadPart_at hC ?_ | with_reducible refine wpAny_madeBy_exc hC ?_ | wp_step)
  refine codeAny_call_builtin_code (Code.quiet_builtin _ F.quiet) (newChk F hT hC ?_)
  refine newRun F hT hC ?_ hz
  show wpAny _ _ _ _ _ _
  have k : ∀ b o, h.get? b = some o → ((h.push (W.kdv_tup us)).push (excO C h.objs.size)).get? b = some o := fun b o e => Heap.get?_push_of_some _ (Heap.get?_push_of_some _ e)
  have p1 := k _ _ hC
  have p2 : ((h.push (W.kdv_tup us)).push (excO C h.objs.size)).get? (h.objs.size + 1) = some (excO C h.objs.size) := by heap_get
  have p3 : (Value.ref C :: bm).contains (.ref C) = true := by simp
  have i1 := hi.keeps k
  have b1 := (hb (.ref (h.objs.size + 1))).keeps k
  unfold isInstance
  repeat (first | with_reducible refine wpAny_loadPart_at p2 ?_ | (with_reducible refine wpAny_isSubtype_exc p1 ?_; rw [p3]) | wp_step)
  show wpAny _ _ (typeLookup (.ref C) _) _ _ _
  refine i1.at ?_
  refine wpAny_holding (wpAny_bind (b1.at ?_))
  refine wpAny_bind (wpAny_call (codeAny_mono hq fun r s' z => ?_))
  rcases r with e | (v | _ | _ | _) <;> first | exact z | exact z.elim | skip
  obtain ⟨rfl, z⟩ := z
  first
    | exact wpAny_pure (wpAny_pure z)
    | (wp_walk; exact z)
theorem callRun (F : ExcBaseFacts B newId initId bmB) (hT : ∀ X : String, bm.contains (.type X) = bmB.contains (.type X)) {us : List Value} {kw : List (Str × Value)} {fI : Addr}
    (hC : h.get? C = some (excClassObj nm q C N bs bm hdct sn sub ab col dd k0 k1 k2 k3 k5 newId))
    (hi : W.Looks (model prog w) h (typeLookup (.ref C) "__init__") (some (.ref fI))) (hb : ∀ self, W.Looks (model prog w) h (bindSpecial (.ref fI) self) (.ref fI, [self])) (hz : us.length ≤ sizeLine)
    (hq : codeAny (model prog w) (A.under (.builtin "type.__call__" ⟨.ref C :: us, kw⟩)) (.call (.ref fI) ⟨.ref (h.objs.size + 1) :: us, kw⟩) (W.InitBack (h.objs.size + 1) R)
      ⟨(h.push (W.kdv_tup us)).push (excO C h.objs.size), g, d, t, os⟩) :
    codeAny (model prog w) A (.call (.ref C) ⟨us, kw⟩) R ⟨h, g, d, t, os⟩ := by
  have f1 := tc_lookup
  have f2 := tc_bind (.ref C)
  have hTy : (⟨h, g, d, t, os⟩ : Shared).TypeIs (.ref C) "type" := ⟨_, hC, rfl⟩
  refine codeAny_of_tree ?_
  show wpAny _ _ (callAny (.ref C) _) _ _ _
  repeat (any_goals (first | assumption | with_reducible refine wpAny_loadPart_at hC ?_ | wp_step))
  refine ⟨rfl, ?_⟩
  have f3 := tc_sub
  have typ : W.Looks (model prog w) h (isInstance (.ref C) (.type "type")) true := fun A' Q' E' s' k' q' => by
    obtain ⟨hp, gg, dd', tt, oo⟩ := s'
    have hC' := k' _ _ hC
    have hTy' : (⟨hp, gg, dd', tt, oo⟩ : Shared).TypeIs (.ref C) "type" := ⟨_, hC', rfl⟩
    unfold isInstance
    repeat (any_goals (first | exact q' | assumption | with_reducible refine wpAny_loadPart_at hC' ?_ | wp_step))
  refine codeAny_call_builtin_at (Code.quiet_builtin _ (by decide +kernel)) entry_typeCall (W.check_slot tc_kind tc_split typ (W.tc_args _ _ _) (tcRun F hT hC hi hb hz ?_))
  refine codeAny_mono hq fun r s' z => ?_
  rcases r with e | (v | _ | _ | _) <;> exact z
end
end GX
end PySem
-- GtErr
namespace G
open PySem L2
/-! ### errors made -/
def addF : List Str → List V → List (Str × V) → List (Str × V)
  | n :: ns, w :: ws, fs => addF ns ws ((n, w) :: fs)
  | _, _, fs => fs
theorem addF_map : ∀ {ns : List Str} {ws : List V} {fs : List (Str × V)}, ns.length = ws.length → (addF ns ws fs).map (·.1) = ns.reverse ++ fs.map (·.1) ∧ (addF ns ws fs).map (·.2) = ws.reverse ++ fs.map (·.2)
  | [], [], fs, _ => ⟨rfl, rfl⟩
  | n :: ns, w :: ws, fs, h => by
    obtain ⟨h1, h2⟩ := addF_map (ns := ns) (ws := ws) (fs := (n, w) :: fs) (by simpa using h)
    unfold addF
    rw [h1, h2, List.reverse_cons, List.reverse_cons, List.append_assoc, List.append_assoc]
    exact ⟨rfl, rfl⟩
  | [], _ :: _, _, h => by cases h
  | _ :: _, [], _, h => by cases h
theorem addF_len : ∀ {ns : List Str} {ws : List V} {fs : List (Str × V)}, ns.length = ws.length → (addF ns ws fs).length = ns.length + fs.length := fun {ns ws fs} h => by
  have := congrArg List.length (addF_map (fs := fs) h).1
  simpa using this
/-- the heap with the error's dict at dx -/
def HX (H : Hp) (a C dx : Addr) (fs : List (Str × V)) : Hp := upd (upd H dx (exd dx fs)) a (exo a C (some dx))
theorem HX_a {H : Hp} {a C dx : Addr} {fs : List (Str × V)} : HX H a C dx fs a = some (exo a C (some dx)) := upd_same
theorem HX_d {H : Hp} {a C dx : Addr} {fs : List (Str × V)} (h : dx ≠ a) : HX H a C dx fs dx = some (exd dx fs) := by
  unfold HX
  rw [upd_ne h, upd_same]
theorem HX_put {H : Hp} {a C dx : Addr} {fs gs : List (Str × V)} (h : dx ≠ a) : upd (HX H a C dx fs) dx (exd dx gs) = HX H a C dx gs := by
  funext b
  unfold HX
  by_cases e : b = dx
  · subst e
    rw [upd_same, upd_ne h, upd_same]
  · rw [upd_ne e]
    by_cases e2 : b = a
    · subst e2; rw [upd_same, upd_same]
    · rw [upd_ne e2, upd_ne e, upd_ne e2, upd_ne e]
section
variable {X : Cx}
/-- the name of a parameter -/
def PNm (X : Cx) (j : Nat) (n : Str) : Prop := X.N[j]? = some n ∧ Vis X.env.scope n ∧ (n == ("__debug__" : Str)) = false ∧ (n == ("__classdict__" : Str)) = false
theorem asgN_ok {st : Stmt} {a f x : Str} (h : asgN st = some (a, f, x)) : ∃ p1 p2 p3 p4, st = .Assign [.Attribute (.Name a p1) f p2] (.Name x p3) p4 := by
  unfold asgN at h
  split at h
  · rename_i a' p1 f' p2 x' p3 p4
    cases h
    exact ⟨p1, p2, p3, p4, rfl⟩
  · cases h
/-- whatever can be said of the statements -/
def tAny (X : Cx) (body : List Stmt) : TS := fun D σ H => ∃ t, PSs X body t ∧ t D σ H
theorem pss_any {body : List Stmt} : PSs X body (tAny X body) := ⟨fun pins s σ H D I ⟨t, ht, hq⟩ => ht.run pins s σ H D I hq⟩
theorem init_later {C a dx : Addr} {H0 : Hp} (T : OexC X.K C) (hne : dx ≠ a) (h0 : PNm X 0 "self") : ∀ (ns : List Str) (body : List Stmt) (j : Nat) (ws : List V) (fs : List (Str × V)), initB ns body = true → ns.length = ws.length → fs.length + ns.length ≤ 900 → (∀ n ∈ ns, PySem.W.findIn X.K (.ref C) n = some none) →
    (∀ (k : Nat) (n : Str), ns[k]? = some n → PNm X (j + k) n) → ∃ t, PSs X body t ∧ ∀ (D : Ends) (σ : L2.St), σ[0]? = some (some (.ref a)) → (∀ (k : Nat) (v : V), ws[k]? = some v → σ[j + k]? = some (some v)) → D.nx σ (HX H0 a C dx (addF ns ws fs)) → t D σ (HX H0 a C dx fs)
  | [], body, j, ws, fs, hb, hl, _, _, _ => by
    cases body with
    | cons _ _ => cases hb
    | nil =>
      cases ws with
      | cons _ _ => cases hl
      | nil => exact ⟨tNext, pss_nil, fun D σ _ _ q => q⟩
  | n :: ns, body, j, ws, fs, hb, hl, hz, hno, hp => by
    cases ws with
    | nil => cases hl
    | cons v ws =>
      cases body with
      | nil => cases hb
      | cons st r =>
        have hb : (decide (asgN st = some (("self" : Str), n, n)) && initB ns r) = true := hb
        rw [Bool.and_eq_true, decide_eq_true_eq] at hb
        obtain ⟨p1, p2, p3, p4, est⟩ := asgN_ok hb.1
        subst est
        obtain ⟨t, ht, hq⟩ := init_later T hne h0 ns r (j + 1) ws ((n, v) :: fs) hb.2 (by simpa using hl) (by simp only [List.length_cons] at hz ⊢; omega) (fun m hm => hno m (List.mem_cons_of_mem _ hm)) (fun k m hk => by
          have := hp (k + 1) m (by simpa using hk)
          rwa [show j + (k + 1) = j + 1 + k by omega] at this)
        have hx := hp 0 n rfl
        have hn := hno n List.mem_cons_self
        refine ⟨_, pss_cons (ps_ost (pe_var h0.1 h0.2.1 h0.2.2.1 h0.2.2.2) (pe_var (i := j) hx.1 hx.2.1 hx.2.2.1 hx.2.2.2) rfl) ht, fun D σ s0 sv q => ?_⟩
        refine ⟨v, sv 0 v rfl, .ref a, s0, a, C, rfl, T, hn, .inr ⟨dx, fs, HX_a, HX_d hne, by simp only [List.length_cons] at hz; omega, ?_⟩⟩
        show t D σ _
        rw [HX_put hne]
        exact hq D σ s0 (fun k u hk => by
          have := sv (k + 1) u (by simpa using hk)
          rwa [show j + (k + 1) = j + 1 + k by omega] at this) q
/-- the promise of an error's __init__ -/
def spInit (C : Addr) (ns : List Str) : Sp := fun vs H Q _ => ∃ (a : Addr) (ws : List V), vs = .ref a :: ws ∧ ws.length = ns.length ∧ H a = some (exo a C none) ∧ ∀ dx, H dx = none → dx ≠ a → Q .non (HX H a C dx (addF ns ws []))
theorem init_all {C : Addr} (T : OexC X.K C) (h0 : PNm X 0 "self") {ns : List Str} {body : List Stmt} (hb : initB ns body = true) (hne : ns ≠ []) (hz : ns.length ≤ 900) (hno : ∀ n ∈ ns, PySem.W.findIn X.K (.ref C) n = some none) (hp : ∀ (k : Nat) (n : Str), ns[k]? = some n → PNm X (1 + k) n)
    {a : Addr} {ws : List V} {H : Hp} {Q : VK} (hl : ws.length = ns.length) (ha : H a = some (exo a C none)) (hN : X.N.length = ns.length + 1) (q : ∀ dx, H dx = none → dx ≠ a → Q .non (HX H a C dx (addF ns ws []))) :
    ∃ t, PSs X body t ∧ t { nx := fun _ H' => Q .non H', rt := Q } (L2.start X.N (.ref a :: ws)) H := by
  cases ns with
  | nil => exact absurd rfl hne
  | cons n ns =>
    cases ws with
    | nil => cases hl
    | cons v ws =>
      cases body with
      | nil => cases hb
      | cons st r =>
        have hb : (decide (asgN st = some (("self" : Str), n, n)) && initB ns r) = true := hb
        rw [Bool.and_eq_true, decide_eq_true_eq] at hb
        obtain ⟨p1, p2, p3, p4, est⟩ := asgN_ok hb.1
        subst est
        have hx := hp 0 n rfl
        have hn := hno n List.mem_cons_self
        have st0 : (L2.start X.N (.ref a :: v :: ws)) = (V.ref a :: v :: ws).map some := by
          unfold L2.start
          have : X.N.length - (V.ref a :: v :: ws).length = 0 := by
            simp only [List.length_cons] at hl hN ⊢
            omega
          rw [this]
          simp
        have sg : ∀ (k : Nat) (u : V), (V.ref a :: v :: ws)[k]? = some u → (L2.start X.N (.ref a :: v :: ws))[k]? = some (some u) := fun k u hk => by
          rw [st0, List.getElem?_map, hk]
          rfl
        refine ⟨_, pss_cons (ps_ost (pe_var h0.1 h0.2.1 h0.2.2.1 h0.2.2.2) (pe_var (i := 1) hx.1 hx.2.1 hx.2.2.1 hx.2.2.2) rfl) pss_any, ?_⟩
        refine ⟨v, sg 1 v rfl, .ref a, sg 0 (.ref a) rfl, a, C, rfl, T, hn, .inl ⟨ha, fun dx hd hda => ?_⟩⟩
        obtain ⟨t, ht, hq⟩ := init_later (H0 := H) T hda h0 ns r 2 ws [(n, v)] hb.2 (by simpa using hl.symm) (by simp only [List.length_cons, List.length_nil] at hz ⊢; omega) (fun m hm => hno m (List.mem_cons_of_mem _ hm)) (fun k m hk => by
          have := hp (k + 1) m (by simpa using hk)
          rwa [show 1 + (k + 1) = 2 + k by omega] at this)
        exact ⟨t, ht, hq _ _ (sg 0 (.ref a) rfl) (fun k u hk => sg (2 + k) u (by rw [show 2 + k = k + 1 + 1 by omega]; simpa using hk)) (q dx hd hda)⟩
end
section
variable {P : Pg} {fc : FC} {X : Cx} {W : WX} {call : CallM} {d : Nat}
theorem cx_false {P : Program} {w : World} {outer : List PySem.Env} {H : Hp} {s : Shared} {u : Value} {s' : Shared} (h : L2.CX P w outer H s (fun _ _ _ => False) u s') : False := by
  obtain ⟨_, _, _, _, _, _, _, _, _, _, _, _, he⟩ := h
  exact he
theorem errOf_ok {x : Str} {args : List Expr} {ns : List Str} (h : errOf P fc x args = some ns) : args.any isStarred = false ∧ fc.gl x = true ∧ (∃ e es, args = e :: es) ∧ (ns.length ≤ 900 ∧ ns ≠ []) ∧ ∃ c i, P.glob.lookup x = some (.cls c) ∧ c.err = some ns ∧ c.init = some i := by
  unfold errOf at h
  split at h
  · cases h
  · rename_i hc
    simp only [Bool.or_eq_true, not_or, Bool.not_eq_true, Bool.not_eq_false'] at hc
    obtain ⟨⟨h1, h2⟩, h3⟩ := hc
    split at h
    · rename_i c hl
      split at h
      · rename_i ns' i he hi
        split at h
        · rename_i hz
          cases h
          refine ⟨h1, by simpa using h3, ?_, ⟨hz.1, fun e => by rw [e] at hz; cases hz.2⟩, c, i, hl, he, hi⟩
          cases args with
          | nil => cases h2
          | cons e es => exact ⟨e, es, rfl⟩
        · cases h
      · cases h
    · cases h
theorem fnD_binds {f : FnI} {K : PySem.W.Frag} {A : Addr} {fd : FuncData} (F : FunD K f.name f.qual f.params f.body f.scope (f.dfl.map (He.Dv.v K)) [] A fd) (B : BindF f) (hs : f.star = none ∧ f.dfl = []) : Binds K fd f.ps [] := by
  unfold BindF at B
  rw [hs.1] at B
  obtain ⟨oc, od, dV, kV, doc, pm, an, cdv, ct, osl, rfl, lk, hcd, hD, _⟩ := F.ex
  have e : dV = .none := by
    rcases hD with ⟨_, e⟩ | ⟨e, _⟩
    · exact e
    · exact absurd (List.map_eq_nil_iff.mpr hs.2) e
  subst e
  exact Binds.all fun us hl => B.1 hs.2 kV doc pm an cdv ct us hl
/-- an error's __init__ keeps what it is given -/
theorem init_fn {ns : List Str} {x : Str} {c : ClI} {i : Nat} {pr : Program} {ww : World} {base : Heap} {K : PySem.W.Frag} {mg : Str → Option Value} (o : KOk P K mg) (hC : P.cls? x = some c) (hE : c.err = some ns) (hI : c.init = some i) (hne : ns ≠ []) (hz : ns.length ≤ 900) :
    ∃ fd f, P.fns[i]? = some f ∧ f.ps = ("self" : Str) :: ns ∧ (f.star = none ∧ f.dfl = []) ∧ FunD K f.name f.qual f.params f.body f.scope (f.dfl.map (He.Dv.v K)) [] (fA K P i) fd ∧ BindF f ∧
      FnOk pr ww K mg base (L2.CX pr ww) (d + 1) (fA K P i) fd f.ps (spInit (He.ga K x) ns) := by
  obtain ⟨T, iC, tI, f, hf, eps, hs, hN, hib, hloc, hfl⟩ := o.err x c ns i hC hE hI
  obtain ⟨⟨fd, F⟩, S, B⟩ := o.fnD i f hf
  have hall : f.allps = f.ps := by unfold FnI.allps; rw [hs.1]; simp
  rw [hall] at S
  have hno : ∀ n ∈ ns, PySem.W.findIn K (.ref (He.ga K x)) n = some none := fun n hn => o.noat x c n hC (hfl n hn)
  refine ⟨fd, f, hf, eps, hs, F, B, F.ok S (fun vs H Q E q => ?_) fun cdv A outer s H vs Q E hr q => ?_⟩
  · obtain ⟨a, ws, e1, e2, _⟩ := q
    rw [e1, eps, List.length_cons, List.length_cons, e2]
  · obtain ⟨a, ws, e1, e2, ha, q⟩ := q
    subst e1
    have nm : ∀ (k : Nat) (n : Str), f.ps[k]? = some n → PNm (cxOf (L2.CX pr ww) pr ww K mg base f.N f.qual f.scope (fA K P i) cdv A outer s H E) k n := fun k n hk => by
      have hm : n ∈ f.ps := List.mem_of_getElem? hk
      have lc := hloc n hm
      exact ⟨by show f.N[k]? = some n; rw [hN]; exact hk, .inl lc.1, okName_ok lc.2⟩
    exact init_all (X := cxOf (L2.CX pr ww) pr ww K mg base f.N f.qual f.scope (fA K P i) cdv A outer s H E) (C := He.ga K x) T (nm 0 "self" (by rw [eps]; rfl)) hib hne hz hno
      (fun k n hk => nm (1 + k) n (by rw [eps, Nat.add_comm]; simpa using hk)) e2 ha (by show f.N.length = _; rw [hN, eps]; rfl) q
/-- what binds like values by place -/
theorem args_bind {f : FnI} {i : Nat} {K : PySem.W.Frag} {mg : Str → Option Value} {A : Addr} {fd : FuncData} {a : Args} {us : List Value} {s : Shared} (o : KOk P K mg) (hf : P.fns[i]? = some f) (F : FunD K f.name f.qual f.params f.body f.scope (f.dfl.map (He.Dv.v K)) [] A fd) (B : BindF f) (hs : f.star = none ∧ f.dfl = [])
    (ha : ArgsAt P i a us) (hl : us.length = f.ps.length) (KX : K.In s.heap) : BindsTo s fd a (f.ps.zip us) := by
  rcases ha with e | ⟨e, he, ei, us0, ws, h1, h2, e1, e2⟩
  · subst e
    have z := fnD_binds F B hs s us KX (by simpa using hl)
    simpa using z
  · obtain ⟨f', hf', _, _, _, _, K1, _⟩ := o.kw e he
    rw [ei, hf] at hf'
    cases hf'
    subst e1 e2
    obtain ⟨oc, od, dV, kV, doc, pm, an, cdv, ct, osl, rfl, lk, hcd, hD, _⟩ := F.ex
    have ed : dV = .none := by
      rcases hD with ⟨_, e⟩ | ⟨e, _⟩
      · exact e
      · exact absurd (List.map_eq_nil_iff.mpr hs.2) e
    subst ed
    exact .of_eq (K1 hs.2 kV doc pm an cdv ct us0 ws h1 h2)
theorem args_few {f : FnI} {i : Nat} {K : PySem.W.Frag} {mg : Str → Option Value} {a : Args} {us : List Value} (o : KOk P K mg) (hf : P.fns[i]? = some f) (ha : ArgsAt P i a us) (hl : us.length = f.ps.length) : a.pos.length ≤ f.ps.length := by
  rcases ha with e | ⟨e, he, ei, us0, ws, h1, h2, e1, e2⟩
  · subst e
    exact Nat.le_of_eq hl
  · obtain ⟨f', hf', _, hn, _⟩ := o.kw e he
    rw [ei, hf] at hf'
    cases hf'
    subst e1
    exact Nat.le_trans (Nat.le_of_eq h1) hn
variable {pins : List (Addr × Obj)} {σ : L2.St} {s1 : Shared}
/-- C(..): a new error -/
theorem exc_make {x : Str} {c : ClI} {i : Nat} {ns : List Str} {a0 : Args} {us : List Value} {vs : List V} {w : Wd} {st : S} {ts : List T} {Q : VK} {H1 : Hp} (o : OkX P fc X W) (hC : P.cls? x = some c) (hE : c.err = some ns) (hI : c.init = some i) (hne : ns ≠ []) (hz : ns.length ≤ 900) (hr : Room (d + 2) X.A)
    (hA : ∀ self : Value, ArgsAt P i ⟨self :: a0.pos, a0.kw⟩ (self :: us)) (I1 : Inv X pins σ H1 s1) (r1 : Vals vs us) (r : SR X.K w st H1) (rl : RpL X.K w ts vs) (fin : Fi X.K w (excM x ns ts st) (PQ X.K Q) (fun c d H' => W c d σ H')) :
    wpAny (model X.prog X.w) X.A (PySem.call (.ref (He.ga X.K x)) a0.pos a0.kw) (EP X pins σ Q) X.xe s1 := by
  unfold excM at fin
  split at fin
  · rename_i hlen
    obtain ⟨T, iC, tI, _⟩ := o.K.err x c ns i hC hE hI
    obtain ⟨fd, f, hf, eps, hs, FD, B, F1⟩ := init_fn (d := d) (pr := X.prog) (ww := X.w) (base := X.base) o.K hC hE hI hne hz
    obtain ⟨nm, q, N, bs, bm, sn, sub, ab, col, dd, k0, k1, k2, k3, k5, hCl, hbm⟩ := T.cls
    have hlv : vs.length = ns.length := by rw [← rl.length]; exact hlen.symm
    have hlu : us.length = ns.length := by rw [← r1.length]; exact hlv
    obtain ⟨hp, g, dr, tk, os⟩ := s1
    have hsz : hp.objs.size ≤ hp.objs.size + 1 := Nat.le_succ _
    have hn : H1 (hp.objs.size + 1) = none := I1.hok.fresh hsz
    have kk : ∀ b o, hp.get? b = some o → ((hp.push (PySem.W.kdv_tup a0.pos)).push (PySem.HandSPX.excO (He.ga X.K x) hp.objs.size)).get? b = some o := fun b o e => Heap.get?_push_of_some _ (Heap.get?_push_of_some _ e)
    have hget : ((hp.push (PySem.W.kdv_tup a0.pos)).push (PySem.HandSPX.excO (He.ga X.K x) hp.objs.size)).get? (hp.objs.size + 1) = some (PySem.HandSPX.excO (He.ga X.K x) hp.objs.size) := by heap_get
    have I2 : Inv X pins σ (upd H1 (hp.objs.size + 1) (exo (hp.objs.size + 1) (He.ga X.K x) none)) ⟨(hp.push (PySem.W.kdv_tup a0.pos)).push (PySem.HandSPX.excO (He.ga X.K x) hp.objs.size), g, dr, tk, os⟩ :=
      I1.laid (t' := tk) (a := hp.objs.size + 1) (o := exo (hp.objs.size + 1) (He.ga X.K x) none) (h' := (hp.push (PySem.W.kdv_tup a0.pos)).push (PySem.HandSPX.excO (He.ga X.K x) hp.objs.size)) kk hsz (exo_ok hget)
    have r2 : Vals (V.ref (hp.objs.size + 1) :: vs) (Value.ref (hp.objs.size + 1) :: us) := .cons rfl r1
    have hl2 : (Value.ref (hp.objs.size + 1) :: us).length = f.ps.length := by rw [eps, List.length_cons, List.length_cons, hlu]
    have few := args_few o.K hf (hA (Value.ref (hp.objs.size + 1))) hl2
    have hus : a0.pos.length ≤ sizeLine := by
      have e : f.ps.length = ns.length + 1 := by rw [eps, List.length_cons]
      have few : a0.pos.length + 1 ≤ f.ps.length := few
      rw [sizeLine_eq]
      omega
    have hq : spInit (He.ga X.K x) ns (V.ref (hp.objs.size + 1) :: vs) (upd H1 (hp.objs.size + 1) (exo (hp.objs.size + 1) (He.ga X.K x) none)) (fun v H2 => v = .non ∧ Q (.ref (hp.objs.size + 1)) H2) (fun _ _ _ => False) := by
      refine ⟨hp.objs.size + 1, vs, rfl, hlv, upd_same, fun dx hdx hda => ⟨rfl, ?_⟩⟩
      rw [upd_ne hda] at hdx
      have eH : HX (upd H1 (hp.objs.size + 1) (exo (hp.objs.size + 1) (He.ga X.K x) none)) (hp.objs.size + 1) (He.ga X.K x) dx (addF ns vs []) = upd (upd H1 dx (exd dx (addF ns vs []))) (hp.objs.size + 1) (exo (hp.objs.size + 1) (He.ga X.K x) (some dx)) := by
        funext b
        unfold HX
        by_cases e2 : b = hp.objs.size + 1
        · subst e2; rw [upd_same, upd_same]
        · rw [upd_ne e2, upd_ne e2]
          by_cases e : b = dx
          · subst e; rw [upd_same, upd_same]
          · rw [upd_ne e, upd_ne e, upd_ne e2]
      rw [eH]
      obtain ⟨ex, q2⟩ := r.laid (o := exd dx (addF ns vs [])) hdx
      have ha2 : upd H1 dx (exd dx (addF ns vs [])) (hp.objs.size + 1) = none := by rw [upd_ne (Ne.symm hda)]; exact hn
      obtain ⟨ex2, q3⟩ := q2.laid (o := exo (hp.objs.size + 1) (He.ga X.K x) (some dx)) ha2
      obtain ⟨m1, m2⟩ := addF_map (ns := ns) (ws := vs) (fs := []) hlv.symm
      refine fin _ _ (ex.trans ex2) q3 _ ?_
      refine ⟨hp.objs.size + 1, dx, _, addF ns vs [], rfl, upd_same, fun h z => ?_, .inr ⟨_, ex2.same _ _ upd_same, fun h z => z⟩, by rw [m1]; simp, by rw [m2]; simpa using (rl.mono (ex.trans ex2)).reverse⟩
      obtain ⟨t1, z⟩ := z
      exact ⟨_, _, z, rfl, rfl, rfl⟩
    refine wpAny_call (PySem.GX.callRun PySem.F.excBase_ValueError (fun Y => PySem.HandSPX.refsVE_contains Y bm hbm) (I1.kIn _ _ hCl) (PySem.W.looks_findIn I1.kIn iC) (fun self => PySem.W.bind_fn I1.kIn self tI) hus
      (codeAny_mono (F1.run _ X.stack _ _ ⟨Value.ref (hp.objs.size + 1) :: a0.pos, a0.kw⟩ (Value.ref (hp.objs.size + 1) :: us) _ _ (fun _ _ _ => False) ((hr.mono (by omega : d + 1 + 1 ≤ d + 2)).make (He.ga X.K x) a0.pos a0.kw) (I2.env0.make (He.ga X.K x) a0.pos a0.kw) (args_bind o.K hf FD B hs (hA _) hl2 I2.kIn) r2 hq) fun r s' hq' => ?_))
    cases r with
    | error er => exact (cx_false hq').elim
    | ok fl =>
      cases fl with
      | ret u =>
        obtain ⟨v, H', I3, rv, ev, q3⟩ := I2.after hq'
        subst ev
        exact ⟨rv, ⟨V.ref (hp.objs.size + 1), H', I3, rfl, q3⟩⟩
      | next => exact False.elim hq'
      | brk => exact False.elim hq'
      | cont => exact False.elim hq'
  · exact fin.elim
/-- C(e, ..) with an error class, as a value -/
theorem le_excv (o : OkX P fc X W) (hd : 2 ≤ fc.dep) {ev : Expr → En → M T} (h : ∀ e, PE X e (liftE X.K W (ev e))) {x : Str} {args : List Expr} {ns : List Str} {p pos : Pos} (he : errOf P fc x args = some ns) :
    PE X (.Call (.Name x p) args [] pos) (liftE X.K W fun env => bnd (argsM ev args env) fun ts => excM x ns ts) := by
  obtain ⟨hst, hg, ⟨e, es, ea⟩, ⟨hz, hne⟩, c, i, hl, hE, hI⟩ := errOf_ok he
  subst ea
  obtain ⟨g, hdb⟩ := o.gl hg
  have hC := cls_of hl
  obtain ⟨T, _⟩ := o.K.err x c ns i hC hE hI
  have hst' := hst
  rw [List.any_cons, Bool.or_eq_false_iff] at hst'
  refine ⟨fun pins s σ H Q I ⟨w, st, env, r, er, fin⟩ => ?_⟩
  refine wpAny_Call_Name_kw (ld_glob I g (o.K.cls x c hl) ?_ hdb)
  refine cw_any I T.kC hst'.1 (thn ((la_args h (e :: es)).run pos pins s σ H (fun vs H1 => ∃ w1 s1 ts, SR X.K w1 s1 H1 ∧ RpL X.K w1 ts vs ∧ Fi X.K w1 (excM x ns ts s1) (PQ X.K Q) (fun c d H' => W c d σ H')) I
    ⟨w, st, env, r, er, fin.bind fun ts s1 w1 H1 x1 r1 fin1 vs rs => ⟨w1, s1, ts, r1, rs, fin1⟩⟩) fun us s1 ⟨vs, H1, I1, rv, w1, st1, ts, r1, rl, fin1⟩ => ⟨I1.kIn, ?_⟩)
  exact exc_make (d := 0) (a0 := ⟨us, []⟩) o hC hE hI hne hz (o.rm.mono hd) (fun _ => .inl rfl) I1 rv r1 rl fin1
end
end G
-- GtBinK
/-! ### an int and an instance -/
namespace GB
open PySem PySem.Calls PyProof.Rows PySem.W Builtin
section
variable {prog : Program} {w : World} {M : Model} {A : Around} {E : Value → Shared → Prop} {s : Shared} {K : Frag} {x C L f f0 : Addr} {h₀ : Heap} {m : Str → Option Value} {ox : Obj} {od : Option Obj} {i : Int} {t : Tok}
theorem bin_R {nm id sym : String} {op : Operator} {B : Builtin} {Q : Value → Shared → Prop} (hi : op.info = (sym, nm)) (F : Fr h₀ L s.heap m) (X₀ : K.In h₀) (I : InstAt s.heap x ox C od) (hc : selfFirst K C = true)
    (hs : findIn K (.ref C) (PySem.dunder nm) = some (some (.ref f0))) (hr : findIn K (.ref C) (dunderR nm) = some (some (.ref f))) (hf : isFn K (.ref f) = true) (hsub : subIn K (.ref C) (.type "int") = some false)
    (fills : fillsNumberSlot (.type "int") nm = pure true) (slot : Slot "int" (PySem.dunder nm) id) (entry : entryFor table id = some B) (args : argsOk id ⟨[.int i t, .ref x], []⟩) (hd : ox.data = .plain)
    (g : GivesAt (fun s => s.heap.get? x = some ox) (B ⟨[.int i t, .ref x], []⟩) (.val .notImplemented))
    (h : wpAny (model prog w) A (call (.ref f) [.ref x, .int i t]) (W.CmpBack Q) E s) : wpAny (model prog w) A (binaryOp op (.int i t) (.ref x)) Q E s := by
  have X := X₀.keeps F.keep
  obtain ⟨cd, rest, hcd, hm⟩ := ksp_first hc
  have hT : s.TypeIs (.int i t) "int" := rfl
  have L1 : Looks (model prog w) s.heap (typeOf (.ref x)) (.ref C) := I.type
  have L4 : Looks (model prog w) s.heap (fillsNumberSlot (.ref C) nm) true := fills_K X hcd hm hs
  have L5 : Looks (model prog w) s.heap (isSubtype (.ref C) (.type "int")) false := looks_subIn X hsub
  have one := ksp_try X I hr hf h
  have hne : (Value.type "int" == Value.ref C) = false := Bool.eq_false_iff.mpr fun q => by cases beq_iff_eq.mp q
  have hpy : numberSlotInPython (.type "int") nm = pure false := rfl
  simp only [binaryOp, hi]
  refine wpAny_holding (wpAny_bind ?_)
  unfold binaryOp1
  refine wpAny_bind (wpAny_typeOf hT (wpAny_bind (L1.here (wpAny_bind (wpAny_of_eq fills ?_)))))
  simp only [hne, Bool.false_eq_true, if_false]
  refine wpAny_bind (L4.here ?_)
  simp only [Bool.and_self, if_true]
  refine wpAny_bind (L5.here ?_)
  simp only [Bool.false_eq_true, if_false, pure_bind, Bool.not_false, Bool.and_self, if_true, hpy]
  refine wpAny_bind (wpAny_tryMethod_declines hT slot (call_givesAt slot hT entry args g I.at_ ⟨rfl, ?_⟩))
  dsimp only
  refine wpAny_bind (wpAny_mono one (fun r s' hr' => ?_) fun _ _ e => e)
  obtain ⟨v, rfl, hq⟩ := hr'
  exact wpAny_bind (wpAny_rule (wpAny_pure (wpAny_pure hq)))
theorem ni_add (hd : ox.data = .plain) : GivesAt (fun s => s.heap.get? x = some ox) (Builtin.«int.__add__» ⟨[.int i t, .ref x], []⟩) (.val .notImplemented) := fun prog w A R s hP h => by
  obtain ⟨hp, g, d, tk, os⟩ := s
  have hP : hp.get? x = some ox := hP
  wp_walk using (wpAny_load' hP)
  rw [hd]
  wp_walk
  exact h
theorem ni_sub (hd : ox.data = .plain) : GivesAt (fun s => s.heap.get? x = some ox) (Builtin.«int.__sub__» ⟨[.int i t, .ref x], []⟩) (.val .notImplemented) := fun prog w A R s hP h => by
  obtain ⟨hp, g, d, tk, os⟩ := s
  have hP : hp.get? x = some ox := hP
  wp_walk using (wpAny_load' hP)
  rw [hd]
  wp_walk
  exact h
theorem ni_mul (hd : ox.data = .plain) : GivesAt (fun s => s.heap.get? x = some ox) (Builtin.«int.__mul__» ⟨[.int i t, .ref x], []⟩) (.val .notImplemented) := fun prog w A R s hP h => by
  obtain ⟨hp, g, d, tk, os⟩ := s
  have hP : hp.get? x = some ox := hP
  wp_walk using (wpAny_load' hP)
  rw [hd]
  wp_walk
  exact h
theorem bool_in {y : Addr} : MeetsIn prog w (Builtin.«bool.__new__» ⟨[.type "bool", .ref y], []⟩) (fun A R s => wpAny (model prog w) A.in1 (truthy (.ref y)) (fun k s' => R (.ok (.ret (.bool k))) s') (fun e s' => R (.error e) s') s) :=
  .of_wp fun A R s h => by
    obtain ⟨hp, g, d, tk, os⟩ := s
    have f1 := PySem.F.conv_sub_bool
    repeat (any_goals (first | assumption | (with_reducible refine wpAny_mono h (fun k s' hk => ?_) fun _ _ e => e) | wp_step))
    all_goals first | exact ⟨_, rfl, hk⟩ | exact hk
/-- bool(x) of an instance with its own __bool__ -/
theorem bool_own {Q : Value → Shared → Prop} (h : wpAny (model prog w) A.in1.in1 (truthy (.ref x)) (fun k s' => Q (.bool k) s') E s) : wpAny (model prog w) A (call (.type "bool") [.ref x]) Q E s :=
  callType_newIn F.called_bool F.newNe_bool (F.typeCall_bool_1 _) (F.newCall_bool_1 _) (fun obj => F.args_object_init_2 obj _) F.entry_bool_new bool_in
    (wpAny_mono h (fun k s' hk => ⟨rfl, hk⟩) fun _ _ e => e)
end
end GB
-- GtS10
namespace G
open PySem L2
section
variable {P : Pg} {fc : FC} {X : Cx} {W : WX} {call : CallM} {d : Nat}
/-! ### str(x), len(x) by own methods -/
theorem own_val {A' : Around} {i : Nat} {u : Value} {x : V} {a : T} {w : Wd} {st : S} {Q : VK} {dd : Nat} {g : T → M T} {pins : List (Addr × Obj)} {σ : L2.St} {H : Hp} {s : Shared} (F : FT (ArgsAt P i) X.prog X.w X.K X.mg X.base dd (fA X.K P i) (call i)) (I : Inv X pins σ H s) (e0 : Env0 X.prog X.w X.K X.mg X.base A' X.stack s H) (hr : Room dd A') (hg : A'.guards = some [])
    (rx : RelV x u) (sr : SR X.K w st H) (ra : Rp X.K w a x) (fin : Fi X.K w (noX (bnd (call i [a]) g) st) (PQ X.K Q) (fun _ _ _ => False)) :
    wpAny (model X.prog X.w) A' (PySem.call (.ref (fA X.K P i)) [u]) (fun r s' => ∃ v H' t w1 st1, Inv X pins σ H' s' ∧ RelV v r ∧ SR X.K w1 st1 H' ∧ Rp X.K w1 t v ∧ Fi X.K w1 (g t st1) (PQ X.K Q) (fun _ _ _ => False)) X.xe s := by
  have f1 : Fi X.K w (call i [a] st) (PQ X.K fun v' H' => ∃ t w1 st1, SR X.K w1 st1 H' ∧ Rp X.K w1 t v' ∧ Fi X.K w1 (g t st1) (PQ X.K Q) (fun _ _ _ => False)) (fun _ _ _ => False) := Fi.bind (Fi.noX (E1 := fun _ _ _ => False) fin) fun r s1 w1 H1 x1 r1 f v' rv => ⟨r, w1, s1, r1, rv, f⟩
  refine wpAny_call (codeAny_mono (F A' X.stack s H ⟨[u], []⟩ [u] [x] _ _ w st [a] (.inl rfl) hr hg e0 (.cons rx .nil) sr (RpL.cons ra RpL.nil) f1) fun r s' hq => ?_)
  cases r with
  | error er => exact (cx_false hq).elim
  | ok fl =>
    cases fl with
    | ret z =>
      obtain ⟨v', H', I3, rv, t, w1, st1, q1, q2, q3⟩ := I.after hq
      exact ⟨v', H', t, w1, st1, I3, rv, q1, q2, q3⟩
    | next => exact False.elim hq
    | brk => exact False.elim hq
    | cont => exact False.elim hq
theorem ownI_ok {P : Pg} {m : Str} {t : T} {i : Nat} (h : ownI P m t = some i) : ∃ C ns ts c, t = .ins C ns ts ∧ P.cls? C = some c ∧ c.err = none ∧ c.mem.lookup m = some (.fn i) := by
  unfold ownI at h
  split at h
  · rename_i C ns ts
    split at h
    · rename_i c hc
      split at h
      · cases h
      · rename_i he
        split at h
        · rename_i j hj
          cases h
          refine ⟨C, ns, ts, c, rfl, hc, ?_, hj⟩
          cases z : c.err with
          | none => rfl
          | some _ => rw [z] at he; exact absurd rfl he
        · cases h
    · cases h
  · cases h
theorem call_biO (o : OkX P fc X W) (hc : CallOk P X call d) (hd : fc.dep = d + 1) (h1 : 1 ≤ d) (box : Bool) (b : BI) : CallR X b.val (liftC X.K (bcallO P call box b)) := by
  have old : CallR X b.val (liftC X.K (bcallB P box b)) := call_biB o box b
  cases b with
  | str =>
    intro pins s σ H xs us Q I rv ⟨w, st, ts, sr, rl, fin⟩
    match ts, rl, fin with
    | [], rl, fin => exact old pins s σ H xs us Q I rv ⟨w, st, [], sr, rl, fin⟩
    | a :: b :: r, rl, fin => exact old pins s σ H xs us Q I rv ⟨w, st, a :: b :: r, sr, rl, fin⟩
    | [a], rl, fin =>
      have fin : Fi X.K w (match ownI P "__str__" (see st a) with
        | some i => noX (bnd (call i [a]) asStr) st
        | none => bcallB P box .str [a] st : Res T) (PQ X.K Q) (fun _ _ _ => False) := fin
      cases e1 : ownI P "__str__" (see st a) with
      | none =>
        rw [e1] at fin
        exact old pins s σ H xs us Q I rv ⟨w, st, [a], sr, rl, fin⟩
      | some i =>
        rw [e1] at fin
        obtain ⟨C, ns, ts, c, es, hC, he, hm⟩ := ownI_ok e1
        have M := o.K.meth C c "__str__" i hC he hm
        obtain ⟨v, e2, ra⟩ := one_of rl
        subst e2
        obtain ⟨u, rfl, ru⟩ := vals1 rv
        obtain ⟨p, dx, fs, ev, ea, _⟩ := see_insI sr ra es
        subst ev
        obtain rfl : u = .ref p := ru
        obtain ⟨mA, J, _⟩ := ins_get I.hok ea
        obtain ⟨od, J, _⟩ := J.look
        have hr1 : Room (d - 1 + 1 + 1) X.A := by
          have := o.rm
          rw [hd] at this
          exact this.mono (by omega)
        refine PySem.W.kso_call (by have := o.u; show X.A.units + 1 + 1 < cLine; omega) I.kIn J M.at_ M.fn (wpAny_mono (own_val (hc i) I I.env0.in1.in1 hr1.in1.in1 o.g (show RelV (V.ref p) (Value.ref p) from rfl) sr ra fin) (fun r s' hz => ?_) fun _ _ q => q)
        obtain ⟨v, H', t, w1, st1, I', rv', q1, q2, q3⟩ := hz
        cases t with
        | str y =>
          have q2 : v = .str y := q2
          subst q2
          obtain ⟨tk, rfl⟩ := rv'
          exact ⟨.str y, H', I', ⟨_, rfl⟩, Fi.ret (P := PQ X.K Q) (E := fun _ _ _ => False) q3 q1 _ rfl⟩
        | _ => exact q3.elim
  | len =>
    intro pins s σ H xs us Q I rv ⟨w, st, ts, sr, rl, fin⟩
    match ts, rl, fin with
    | [], rl, fin => exact old pins s σ H xs us Q I rv ⟨w, st, [], sr, rl, fin⟩
    | a :: b :: r, rl, fin => exact old pins s σ H xs us Q I rv ⟨w, st, a :: b :: r, sr, rl, fin⟩
    | [a], rl, fin =>
      have fin : Fi X.K w (match ownI P "__len__" (see st a) with
        | some i => noX (bnd (call i [a]) asLen) st
        | none => bcallB P box .len [a] st : Res T) (PQ X.K Q) (fun _ _ _ => False) := fin
      cases e1 : ownI P "__len__" (see st a) with
      | none =>
        rw [e1] at fin
        exact old pins s σ H xs us Q I rv ⟨w, st, [a], sr, rl, fin⟩
      | some i =>
        rw [e1] at fin
        obtain ⟨C, ns, ts, c, es, hC, he, hm⟩ := ownI_ok e1
        have M := o.K.meth C c "__len__" i hC he hm
        obtain ⟨v, e2, ra⟩ := one_of rl
        subst e2
        obtain ⟨u, rfl, ru⟩ := vals1 rv
        obtain ⟨p, dx, fs, ev, ea, _⟩ := see_insI sr ra es
        subst ev
        obtain rfl : u = .ref p := ru
        obtain ⟨mA, J, _⟩ := ins_get I.hok ea
        obtain ⟨od, J, _⟩ := J.look
        obtain ⟨m, hF⟩ := I.fr
        have hr1 : Room (d + 1) X.A := by
          have := o.rm
          rw [hd] at this
          exact this
        refine PySem.W.len_K hF I.ok.mod.kin J M.at_ M.fn (wpAny_mono (own_val (hc.at i) I I.env0.in1 hr1.in1 o.g (show RelV (V.ref p) (Value.ref p) from rfl) sr ra fin) (fun r s' hz => ?_) fun _ _ q => q)
        obtain ⟨v, H', t, w1, st1, I', rv', q1, q2, q3⟩ := hz
        cases t with
        | int y =>
          have q2 : v = .int y := q2
          subst q2
          obtain ⟨tk, rfl⟩ := rv'
          have q3 : Fi X.K w1 (if 0 ≤ y ∧ y < 2 ^ 63 then .ok (.int y) st1 else .bad : Res T) (PQ X.K Q) (fun _ _ _ => False) := q3
          split at q3
          · rename_i hz
            exact ⟨hz, .int y, H', I'.tok _, ⟨_, rfl⟩, Fi.ret (P := PQ X.K Q) (E := fun _ _ _ => False) q3 q1 _ rfl⟩
          · exact q3.elim
        | _ => exact q3.elim
  | bool =>
    intro pins s σ H xs us Q I rv ⟨w, st, ts, sr, rl, fin⟩
    match ts, rl, fin with
    | [], rl, fin => exact old pins s σ H xs us Q I rv ⟨w, st, [], sr, rl, fin⟩
    | a :: b :: r, rl, fin => exact old pins s σ H xs us Q I rv ⟨w, st, a :: b :: r, sr, rl, fin⟩
    | [a], rl, fin =>
      have fin : Fi X.K w (match ownI P "__bool__" (see st a) with
        | some i => noX (bnd (call i [a]) asBl) st
        | none => bcallB P box .bool [a] st : Res T) (PQ X.K Q) (fun _ _ _ => False) := fin
      cases e1 : ownI P "__bool__" (see st a) with
      | none =>
        rw [e1] at fin
        exact old pins s σ H xs us Q I rv ⟨w, st, [a], sr, rl, fin⟩
      | some i =>
        rw [e1] at fin
        obtain ⟨C, ns, ts, c, es, hC, he, hm⟩ := ownI_ok e1
        have M := o.K.meth C c "__bool__" i hC he hm
        obtain ⟨v, e2, ra⟩ := one_of rl
        subst e2
        obtain ⟨u, rfl, ru⟩ := vals1 rv
        obtain ⟨p, dx, fs, ev, ea, _⟩ := see_insI sr ra es
        subst ev
        obtain rfl : u = .ref p := ru
        obtain ⟨mA, J, _⟩ := ins_get I.hok ea
        obtain ⟨od, J, _⟩ := J.look
        obtain ⟨m, hF⟩ := I.fr
        have hr1 : Room (d - 1 + 1 + 1) X.A := by
          have := o.rm
          rw [hd] at this
          exact this.mono (by omega)
        refine GB.bool_own (PySem.W.truthy_K hF I.ok.mod.kin J M.at_ M.fn (wpAny_mono (own_val (hc i) I I.env0.in1.in1 hr1.in1.in1 o.g (show RelV (V.ref p) (Value.ref p) from rfl) sr ra fin) (fun r s' hz => ?_) fun _ _ q => q))
        obtain ⟨v, H', t, w1, st1, I', rv', q1, q2, q3⟩ := hz
        cases t with
        | bl y =>
          have q2 : v = .bl y := q2
          subst q2
          obtain rfl : r = .bool y := rv'
          exact ⟨.bl y, H', I', rfl, Fi.ret (P := PQ X.K Q) (E := fun _ _ _ => False) q3 q1 _ rfl⟩
        | _ => exact q3.elim
  | _ => exact old
theorem le_biO (o : OkX P fc X W) (hc : CallOk P X call d) (hdd : fc.dep = d + 1) (h1 : 1 ≤ d) {f : Str} {b : BI} {box : Bool} {e : Expr} {es : List Expr} {fa : En → M (List T)} {p pos : Pos} (hb : biNames.lookup f = some b) (hg : fc.gl f = true) (hl : P.glob.lookup f = none) (ha : PA X (e :: es) (liftA X.K W fa))
    (hp : (e :: es).any isStarred = false) : PE X (.Call (.Name f p) (e :: es) [] pos) (liftE X.K W fun env => bnd (fa env) fun ts => noX (bcallO P call box b ts)) := by
  obtain ⟨g, hd⟩ := o.gl hg
  have hm := mem_of_lk hb
  obtain ⟨b1, b2, b3⟩ := bi_boot _ hm
  have no := o.K.no f (bi_names _ hm) hl
  have hp' := hp
  rw [List.any_cons, Bool.or_eq_false_iff] at hp'
  have key : ∀ σ H Q, liftE X.K W (fun env => bnd (fa env) fun ts => noX (bcallO P call box b ts)) σ H Q → tCB (liftC X.K (bcallO P call box b)) (liftA X.K W fa) σ H Q := fun σ H Q ⟨w, st, env, r, er, fin⟩ =>
    ⟨w, st, env, r, er, fin.bind fun ts s1 w1 H1 x1 r1 fin1 vs rs => ⟨w1, s1, ts, r1, rs, fin1.noX⟩⟩
  have cb := call_biO o hc hdd h1 box b
  rcases b.val_or with ⟨id, ev⟩ | ⟨T, ev⟩
  · rw [ev] at cb b1
    exact PE.imp (pe_callB cb g no b1 ha b2 hd (star_not hp'.1 es _) (plain_any hp'.2 _ _)) key
  · rw [ev] at cb b1
    exact PE.imp (pe_callTy cb g no b1 ha b2 hd (star_not hp'.1 es _) (plain_any hp'.2 _ _)) key
/-! ### texts -/
theorem le_fmt {e : Expr} {fe : En → M T} {pos : Pos} (he : PE X e (liftE X.K W fe)) : PE X (.FormattedValue e (-1) none pos) (liftE X.K W fun env => bnd (fe env) fun x => bnd (fmtM x) fun y => ret (.str y)) :=
  PE.imp (pe_fmt he) fun σ H Q ⟨w, st, env, r, er, fin⟩ => ⟨w, st, env, r, er, fin.bind fun tx s1 w1 H1 x1 r1 fin1 vx rx => by
    unfold bnd fmtM at fin1
    split at fin1
    · rename_i y s2 e0
      split at e0
      · rename_i z es
        split at e0
        · rename_i hz
          cases e0
          exact .inl ⟨_, see_str r1 rx es, hz, Fi.ret (E := fun c d H' => W c d σ H') (P := PQ X.K Q) fin1 r1 _ rfl⟩
        · cases e0
      · rename_i i ei
        split at e0
        · rename_i hz
          cases e0
          exact .inr ⟨_, see_int r1 rx ei, hz, Fi.ret (E := fun c d H' => W c d σ H') (P := PQ X.K Q) fin1 r1 _ rfl⟩
        · cases e0
      · cases e0
    · rename_i e0
      split at e0
      · split at e0 <;> cases e0
      · split at e0 <;> cases e0
      · cases e0
    · exact fin1.elim⟩
theorem pj_all {ev : Expr → En → M T} (h : ∀ e, PE X e (liftE X.K W (ev e))) : ∀ es : List Expr, PJ X es (es.map fun e => liftE X.K W (ev e))
  | [] => .nil
  | e :: r => .cons (h e) (pj_all h r)
def joinK (ev : Expr → En → M T) (es : List Expr) (acc : Str) (env : En) (x : T) : M Str := fun s => match x with
  | .str y => if (acc ++ y).length ≤ sizeLine then joinE ev es (acc ++ y) env s else .bad
  | _ => .bad
theorem joinE_cons {ev : Expr → En → M T} {e : Expr} {es : List Expr} {acc : Str} {env : En} : joinE ev (e :: es) acc env = bnd (ev e env) (joinK ev es acc env) := by
  rw [joinE]
  rfl
theorem tj_all {ev : Expr → En → M T} {σ : L2.St} {Q : Str → Hp → Prop} : ∀ (es : List Expr) (acc : Str) (H : Hp) (w : Wd) (st : S) (env : En), SR X.K w st H → EnR X.K w env σ → Fi X.K w (joinE ev es acc env st) (fun y _ _ H' => Q y H') (fun c d H' => W c d σ H') →
    tJs (es.map fun e => liftE X.K W (ev e)) acc σ H Q
  | [], acc, H, w, st, env, r, er, fin => Fi.ret (E := fun c d H' => W c d σ H') (P := fun y _ _ H' => Q y H') fin r
  | e :: es, acc, H, w, st, env, r, er, fin => by
    rw [joinE_cons] at fin
    refine ⟨w, st, env, r, er, fin.bind fun tx s1 w1 H1 x1 r1 fin1 vx rx => ?_⟩
    unfold joinK at fin1
    split at fin1
    · rename_i y
      split at fin1
      · rename_i hz
        have rx : _ = _ := rx
        exact ⟨y, rx, hz, tj_all es (acc ++ y) H1 w1 s1 env r1 (er.mono x1) fin1⟩
      · exact fin1.elim
    · exact fin1.elim
theorem le_joined {ev : Expr → En → M T} (h : ∀ e, PE X e (liftE X.K W (ev e))) {e e2 : Expr} {r : List Expr} {pos : Pos} : PE X (.JoinedStr (e :: e2 :: r) pos) (liftE X.K W fun env => bnd (joinE ev (e :: e2 :: r) Str.empty env) fun y => ret (.str y)) :=
  PE.imp (pe_joined (pj_all h (e :: e2 :: r))) fun σ H Q ⟨w, st, env, sr, er, fin⟩ => tj_all (e :: e2 :: r) Str.empty H w st env sr er (fin.bind fun y s1 w1 H1 x1 r1 fin1 => Fi.ret (E := fun c d H' => W c d σ H') (P := PQ X.K Q) fin1 r1 _ rfl)
/-! ### comprehensions -/
theorem le_lc (o : OkX P fc X W) {ev evI : Expr → En → M T} {evT : Expr → En → M Bool} (h : ∀ e, PE X e (liftE X.K W (ev e))) {scope : Scope} {b : Bool} {tg iter elt : Expr} {ifs : List Expr} {pos : Pos}
    (hI : ∀ X', OkX P (fc.inner scope) X' (fun _ _ _ _ => False) → X'.prog = X.prog → X'.w = X.w → X'.K = X.K → X'.mg = X.mg → X'.base = X.base → (∀ e, PE X' e (liftE X'.K (fun _ _ _ _ => False) (evI e))) ∧ ∀ e, PT X' e (liftT X'.K (fun _ _ _ _ => False) (evT e))) :
    PE X (.ListComp elt [⟨tg, iter, ifs, 0⟩] scope pos) (liftE X.K W (lcM fc scope b (iterM ev P fc tg iter) evT evI tg iter elt ifs)) := by
  cases hb : blkB fc scope tg && !isSetE iter with
  | false => exact lE le_bad (funext fun env => by unfold lcM; rw [hb]; rfl)
  | true =>
    have e0 : lcM fc scope b (iterM ev P fc tg iter) evT evI tg iter elt ifs = fun env => bnd (iterM ev P fc tg iter env) fun ts => if ts.length ≤ sizeLine then
        bnd (compM (turnM (fc.inner scope) evT evI tg elt ifs (wipeE env ((ownOf fc.N scope.names).map (·.2)))) ts) fun ys => boxM b (.lst ys) else bad := by
      funext env
      unfold lcM
      rw [hb]
      rfl
    rw [e0]
    rw [Bool.and_eq_true, Bool.not_eq_true'] at hb
    obtain ⟨ok, sub⟩ := blkB_ok hb.1
    have ok' : BlkOk X.N X.env.scope scope (ownOf fc.N scope.names) := by rw [o.N, o.sc]; exact ok
    have inn := fun s H C cl fp => hI (X.blk s H scope (compEnvC scope cl C X.env) fp) (o.inner s H C cl fp) rfl rfl rfl rfl rfl
    refine PE.imp (pe_lc (g := liftG X.K (tgIx (fc.inner scope) tg) (fun st t env => bindT (fc.inner scope) st tg t env)) (tt := liftT X.K (fun _ _ _ _ => False) (testsM evT ifs)) (te := liftE X.K (fun _ _ _ _ => False) (evI elt)) o.calm (by rw [o.N]; exact o.nd) (li_iter o h iter) ok' (fun s H C cl fp => lg_bind (o.inner s H C cl fp) tg) (fun s H C cl fp => lt_tests (inn s H C cl fp).2 ifs) (fun s H C cl fp => (inn s H C cl fp).1 elt) (fold_set hb.2 _)) fun σ H Q ⟨w, st, env, r, er, fin⟩ => ?_
    refine ⟨w, st, env, r, er, fin.bind fun ts s1 w1 H1 x1 r1 fin1 => fun J G D hD => ?_⟩
    split at fin1
    · rename_i hz
      exact lc_turns sub (er.mono x1) r1 G hD hz fin1
    · exact fin1.elim
end
end G
-- GtBin
namespace G
open PySem L2
section
variable {P : Pg} {fc : FC} {X : Cx} {W : WX} {call : CallM} {d : Nat} {pins : List (Addr × Obj)} {σ : L2.St} {H : Hp} {s : Shared}
/-! ### own operators -/
theorem opN_eq : ∀ {op : Operator}, isOp op = true → opN op = PySem.dunder op.info.2 ∧ op.info.2 ∈ opNames := by
  intro op h
  cases op <;> first | exact ⟨by decide +kernel, by decide⟩ | cases h
theorem opR_eq : ∀ {op : Operator}, isOpR op = true → isOp op = true ∧ opR op = PySem.dunderR op.info.2 := by
  intro op h
  cases op <;> first | exact ⟨rfl, by decide +kernel⟩ | cases h
/-- an own def's call, somewhere below -/
theorem run_TA {A' : Around} {i : Nat} {k : Nat} {f : Addr} {m : List T → M T} {Q : VK} {us : List Value} {vs : List V} {w0 : Wd} {st : S} {ts : List T} (F : FT (ArgsAt P i) X.prog X.w X.K X.mg X.base k f m) (hr : Room k A') (hg : A'.guards = some []) (e0 : Env0 X.prog X.w X.K X.mg X.base A' X.stack s H) (tk : Takes X W) (I : Inv X pins σ H s) (r : Vals vs us)
    (sr : SR X.K w0 st H) (rl : RpL X.K w0 ts vs) (fin : Fi X.K w0 (m ts st) (PQ X.K Q) (fun c d H' => W c d σ H')) : wpAny (model X.prog X.w) A' (PySem.call (.ref f) us) (EP X pins σ Q) X.xe s :=
  wpAny_call (codeAny_mono (F A' X.stack s H ⟨us, []⟩ us vs Q _ w0 st ts (.inl rfl) hr hg e0 r sr rl fin) fun r s' hq => by
    have z := end_T tk I hq
    cases r with
    | error e => exact z
    | ok fl => cases fl <;> first | exact z | exact z.elim)
theorem ep_back {Q : VK} {v : Value} {s' : Shared} (h : EP X pins σ Q v s') : PySem.W.CmpBack (EP X pins σ Q) v s' := by
  obtain ⟨x, H', I, r, q⟩ := h
  cases v with
  | notImplemented => cases x <;> first | (obtain ⟨_, e⟩ := r; cases e; done) | (cases r; done)
  | _ => exact ⟨x, H', I, r, q⟩
theorem own_ins {w : Wd} {st : S} {m : Str} {a : T} {x : V} {u : Value} {i : Nat} (o : OkX P fc X W) (I : Inv X pins σ H s) (r : SR X.K w st H) (ra : Rp X.K w a x) (rx : RelV x u) (h : ownI P m (see st a) = some i) :
    ∃ (p : Addr) (C : Str) (c : ClI) (ns : List Str) (ts : List T) (ox : Obj) (od : Obj), x = .ref p ∧ u = .ref p ∧ see st a = .ins C ns ts ∧ P.cls? C = some c ∧ c.err = none ∧ c.mem.lookup m = some (.fn i) ∧ PySem.W.InstAt s.heap p ox (He.ga X.K C) (some od) ∧ ox.data = .plain ∧ Meth X.K (He.ga X.K C) m (fA X.K P i) := by
  obtain ⟨C, ns, ts, c, es, hC, he, hm⟩ := ownI_ok h
  have M := o.K.meth C c m i hC he hm
  obtain ⟨p, dx, fs, ev, ea, _⟩ := see_insI r ra es
  subst ev
  obtain rfl : u = .ref p := rx
  obtain ⟨mA, J, _⟩ := ins_get I.hok ea
  obtain ⟨od, J, _⟩ := J.look
  exact ⟨p, C, c, ns, ts, _, od, rfl, rfl, es, hC, he, hm, J, rfl, M⟩
theorem fn_in (o : OkX P fc X W) {i : Nat} {f : FnI} (h : P.fns[i]? = some f) : PySem.W.fnIn X.K (fA X.K P i) = true := by
  obtain ⟨⟨fd, F⟩, _⟩ := o.K.fnD i f h
  obtain ⟨oc, od, dV, kV, doc, pm, an, cdv, ct, osl, e, lk, _⟩ := F.ex
  unfold PySem.W.fnIn
  rw [lk]
/-- an operator on two values -/
theorem run_bin (o : OkX P fc X W) (hc : CallOk P X call d) (hd : fc.dep = d + 1) {op : Operator} {x y : V} {v u : Value} {a b : T} {w : Wd} {st : S} {Q : VK} (I : Inv X pins σ H s) (rx : RelV x v) (ry : RelV y u) (r : SR X.K w st H) (ra : Rp X.K w a x) (rb : Rp X.K w b y)
    (fin : Fi X.K w (binO P call op a b st) (PQ X.K Q) (fun c d H' => W c d σ H')) : wpAny (model X.prog X.w) X.A (binaryOp op v u) (EP X pins σ Q) X.xe s := by
  have hr : Room d X.A := (by rw [← Nat.add_sub_cancel (n := d) (m := 1), ← hd]; exact o.rm.mono (Nat.sub_le _ _))
  have plain : Fi X.K w (noX (binop op a b) st) (PQ X.K Q) (fun c d H' => W c d σ H') → wpAny (model X.prog X.w) X.A (binaryOp op v u) (EP X pins σ Q) X.xe s := fun f => op_bin pins s σ H x y v u Q I rx ry ⟨w, st, a, b, r, ra, rb, f.noX⟩
  obtain ⟨m, hF⟩ := I.fr
  unfold binO at fin
  cases e1 : ownI P (opN op) (see st a) with
  | some i =>
    rw [e1] at fin
    have fin : Fi X.K w (if isOp op = true then match see st b with
      | .int _ => call i [a, b] st
      | .ins D _ _ => if D = insC (see st a) then call i [a, b] st else .bad
      | _ => .bad
      else .bad : Res T) (PQ X.K Q) (fun c d H' => W c d σ H') := fin
    split at fin
    · rename_i hop
      obtain ⟨q1, q2⟩ := opN_eq hop
      obtain ⟨p, C, c, ns, ts, ox, od, ex, eu, es, hC, he, hm, J, hp, M⟩ := own_ins o I r ra rx e1
      subst ex eu
      rw [q1] at M hm
      have B := o.K.bop C c i _ q2 hC he hm
      have go : Fi X.K w (call i [a, b] st) (PQ X.K Q) (fun c d H' => W c d σ H') → wpAny (model X.prog X.w) X.A (PySem.call (.ref (fA X.K P i)) [.ref p, u]) (PySem.W.CmpBack (EP X pins σ Q)) X.xe s := fun f =>
        wpAny_mono (run_TA (hc.at i) hr o.g I.env0 o.tk I (.cons rx (.cons ry .nil)) r (RpL.cons ra (RpL.cons rb RpL.nil)) f) (fun _ _ z => ep_back z) fun _ _ z => z
      split at fin
      · rename_i n en
        obtain ⟨⟨fo, h1⟩, ⟨ro, h2⟩, h3⟩ := B.kinds "int" (by decide)
        obtain ⟨rc, h4, h5⟩ := B.refl
        have ey := see_int r rb en
        subst ey
        obtain ⟨tk, rfl⟩ := ry
        exact PySem.W.ksp_binT hF I.ok.mod.kin J rfl B.first M.at_ M.fn h4 h5 h1 h2 h3 (go fin)
      · rename_i D ns' ts' en
        split at fin
        · rename_i hD
          rw [es] at hD
          have hD : D = C := hD
          subst hD
          obtain ⟨p2, dx2, fs2, ev2, ea2, _⟩ := see_insI r rb en
          subst ev2
          obtain rfl : u = .ref p2 := ry
          obtain ⟨mA, J2, _⟩ := ins_get I.hok ea2
          obtain ⟨od2, J2, _⟩ := J2.look
          exact PySem.W.binop_K hF I.ok.mod.kin J J2.type B.first M.at_ M.fn (go fin)
        · exact fin.elim
      · exact fin.elim
    · exact fin.elim
  | none =>
    rw [e1] at fin
    have fin : Fi X.K w (match see st a with
      | .int _ => match ownI P (opR op) (see st b) with
        | some i => if (isOpR op && (ownI P (opN op) (see st b)).isSome) = true then call i [b, a] st else .bad
        | none => noX (binop op a b) st
      | _ => noX (binop op a b) st : Res T) (PQ X.K Q) (fun c d H' => W c d σ H') := fin
    split at fin
    · rename_i n en
      cases e2 : ownI P (opR op) (see st b) with
      | none => rw [e2] at fin; exact plain fin
      | some i =>
        rw [e2] at fin
        have fin : Fi X.K w (if (isOpR op && (ownI P (opN op) (see st b)).isSome) = true then call i [b, a] st else .bad : Res T) (PQ X.K Q) (fun c d H' => W c d σ H') := fin
        split at fin
        · rename_i hop
          rw [Bool.and_eq_true] at hop
          obtain ⟨hopR, hs⟩ := hop
          obtain ⟨i0, e3⟩ := Option.isSome_iff_exists.mp hs
          obtain ⟨hop, q3⟩ := opR_eq hopR
          obtain ⟨q1, q2⟩ := opN_eq hop
          obtain ⟨p, C, c, ns, ts, ox, od, ex, eu, es, hC, he, hm, J, hp, M⟩ := own_ins o I r rb ry e2
          obtain ⟨p', C', c', ns', ts', ox', od', ex', eu', es', hC', he', hm', J', hp', M'⟩ := own_ins o I r rb ry e3
          subst ex eu
          rw [es] at es'
          cases es'
          rw [hC] at hC'
          cases hC'
          rw [q3] at M
          rw [q1] at M' hm'
          have B := o.K.bop C c i0 _ q2 hC he hm'
          have ex := see_int r ra en
          subst ex
          obtain ⟨tk, rfl⟩ := rx
          have go : wpAny (model X.prog X.w) X.A (PySem.call (.ref (fA X.K P i)) [.ref p, .int n tk]) (PySem.W.CmpBack (EP X pins σ Q)) X.xe s :=
            wpAny_mono (run_TA (hc.at i) hr o.g I.env0 o.tk I (.cons ry (.cons (show RelV (V.int n) (Value.int n tk) from ⟨tk, rfl⟩) .nil)) r (RpL.cons rb (RpL.cons ra RpL.nil)) fin) (fun _ _ z => ep_back z) fun _ _ z => z
          cases op with
          | Add => exact GB.bin_R (sym := "+") rfl hF I.ok.mod.kin J B.first M'.at_ M.at_ M.fn B.noint F.fills_int_add F.slot_int_add F.entry_int_add (F.args_int_add_2 _ _) hp (GB.ni_add hp) go
          | Sub => exact GB.bin_R (sym := "-") rfl hF I.ok.mod.kin J B.first M'.at_ M.at_ M.fn B.noint F.fills_int_sub F.slot_int_sub F.entry_int_sub (F.args_int_sub_2 _ _) hp (GB.ni_sub hp) go
          | Mult => exact GB.bin_R (sym := "*") rfl hF I.ok.mod.kin J B.first M'.at_ M.at_ M.fn B.noint F.fills_int_mul F.slot_int_mul F.entry_int_mul (F.args_int_mul_2 _ _) hp (GB.ni_mul hp) go
          | _ => cases hopR
        · exact fin.elim
    · exact plain fin
theorem le_bin (o : OkX P fc X W) (hc : CallOk P X call d) (hd : fc.dep = d + 1) {op : Operator} {a b : Expr} {fa fb : En → M T} {pos : Pos} (ha : PE X a (liftE X.K W fa)) (hb : PE X b (liftE X.K W fb)) :
    PE X (.BinOp a op b pos) (liftE X.K W fun env => bnd (fa env) fun x => bnd (fb env) fun y => binO P call op x y) := ⟨fun pins s σ H Q I ⟨w, st, env, r, er, fin⟩ => by
  refine wpAny_BinOp (thn (ha.run pins s σ H (fun x H1 => ∃ w1 s1 tx, SR X.K w1 s1 H1 ∧ EnR X.K w1 env σ ∧ Rp X.K w1 tx x ∧ Fi X.K w1 (bnd (fb env) (fun y => binO P call op tx y) s1) (PQ X.K Q) (fun c d H' => W c d σ H')) I
    ⟨w, st, env, r, er, fin.bind fun tx s1 w1 H1 x1 r1 fin1 vx rx => ⟨w1, s1, tx, r1, er.mono x1, rx, fin1⟩⟩) fun v s1 ⟨x, H1, I1, rx, w1, st1, tx, r1, er1, rt, fin1⟩ => ?_)
  refine thn (hb.run pins s1 σ H1 (fun y H2 => ∃ w2 s2 ty, SR X.K w2 s2 H2 ∧ Rp X.K w2 tx x ∧ Rp X.K w2 ty y ∧ Fi X.K w2 (binO P call op tx ty s2) (PQ X.K Q) (fun c d H' => W c d σ H')) I1
    ⟨w1, st1, env, r1, er1, fin1.bind fun ty s2 w2 H2 x2 r2 fin2 vy ry => ⟨w2, s2, ty, r2, rt.mono x2, ry, fin2⟩⟩) fun u s2 ⟨y, H2, I2, ry, w2, st2, ty, r2, rt2, ru, fin2⟩ => ?_
  exact run_bin o hc hd I2 rx ry r2 rt2 ru fin2⟩
theorem le_negO (o : OkX P fc X W) (hc : CallOk P X call d) (hd : fc.dep = d + 1) {a : Expr} {fa : En → M T} {pos : Pos} (ha : PE X a (liftE X.K W fa)) :
    PE X (.UnaryOp .USub a pos) (liftE X.K W fun env => bnd (fa env) fun x => negO P call x) := ⟨fun pins s σ H Q I ⟨w, st, env, r, er, fin⟩ => by
  have hr : Room d X.A := (by rw [← Nat.add_sub_cancel (n := d) (m := 1), ← hd]; exact o.rm.mono (Nat.sub_le _ _))
  refine PyProof.Rows.UnaryOp_ (thn (ha.run pins s σ H (fun x H1 => ∃ w1 s1 tx, SR X.K w1 s1 H1 ∧ Rp X.K w1 tx x ∧ Fi X.K w1 (negO P call tx s1) (PQ X.K Q) (fun c d H' => W c d σ H')) I
    ⟨w, st, env, r, er, fin.bind fun tx s1 w1 H1 x1 r1 fin1 vx rx => ⟨w1, s1, tx, r1, rx, fin1⟩⟩) fun v s1 ⟨x, H1, I1, rx, w1, st1, tx, r1, rt, fin1⟩ => ?_)
  unfold negO at fin1
  cases e1 : ownI P "__neg__" (see st1 tx) with
  | none =>
    rw [e1] at fin1
    exact un_negT pins s1 σ H1 x v Q I1 rx ⟨w1, st1, tx, r1, rt, Fi.noX fin1⟩
  | some i =>
    rw [e1] at fin1
    obtain ⟨p, C, c, ns, ts, ox, od, ex, eu, es, hC, he, hm, J, hp, M⟩ := own_ins o I1 r1 rt rx e1
    subst ex eu
    obtain ⟨m, hF⟩ := I1.fr
    exact PySem.W.ksp_neg hF I1.ok.mod.kin J M.at_ M.fn (run_TA (hc.at i) hr o.g I1.env0 o.tk I1 (.cons rx .nil) r1 (RpL.cons rt RpL.nil) fin1)⟩
theorem le_ixO (o : OkX P fc X W) (hc : CallOk P X call d) (hd : fc.dep = d + 1) {a b : Expr} {fa fb : En → M T} {pos : Pos} (ha : PE X a (liftE X.K W fa)) (hb : PE X b (liftE X.K W fb)) (hs : isSlice b = false) :
    PE X (.Subscript a b pos) (liftE X.K W fun env => bnd (fa env) fun x => bnd (fb env) fun y => ixO P call x y) := ⟨fun pins s σ H Q I ⟨w, st, env, r, er, fin⟩ => by
  have hr : Room (d + 1) X.A := (by rw [← hd]; exact o.rm)
  refine PyProof.Rows.Subscript_ (thn (ha.run pins s σ H (fun x H1 => ∃ w1 s1 tx, SR X.K w1 s1 H1 ∧ EnR X.K w1 env σ ∧ Rp X.K w1 tx x ∧ Fi X.K w1 (bnd (fb env) (fun y => ixO P call tx y) s1) (PQ X.K Q) (fun c d H' => W c d σ H')) I
    ⟨w, st, env, r, er, fin.bind fun tx s1 w1 H1 x1 r1 fin1 vx rx => ⟨w1, s1, tx, r1, er.mono x1, rx, fin1⟩⟩) fun v s1 ⟨x, H1, I1, rx, w1, st1, tx, r1, er1, rt, fin1⟩ => ?_)
  refine thn (hb.run pins s1 σ H1 (fun y H2 => ∃ w2 s2 ty, SR X.K w2 s2 H2 ∧ Rp X.K w2 tx x ∧ Rp X.K w2 ty y ∧ Fi X.K w2 (ixO P call tx ty s2) (PQ X.K Q) (fun c d H' => W c d σ H')) I1
    ⟨w1, st1, env, r1, er1, fin1.bind fun ty s2 w2 H2 x2 r2 fin2 vy ry => ⟨w2, s2, ty, r2, rt.mono x2, ry, fin2⟩⟩) fun u s2 ⟨y, H2, I2, ry, w2, st2, ty, r2, rt2, ru, fin2⟩ => ?_
  unfold ixO at fin2
  cases e1 : ownI P "__getitem__" (see st2 tx) with
  | none =>
    rw [e1] at fin2
    exact ix_any a b pins s2 σ H2 x y v u Q I2 rx ry ⟨w2, st2, tx, ty, r2, rt2, ru, Fi.noX fin2⟩ (plainIx hs _ _)
  | some i =>
    rw [e1] at fin2
    obtain ⟨p, C, c, ns, ts, ox, od, ex, eu, es, hC, he, hm, J, hp, M⟩ := own_ins o I2 r2 rt2 rx e1
    subst ex eu
    obtain ⟨m, hF⟩ := I2.fr
    have fin2 : Fi X.K w2 (if (P.fns[i]?).isSome = true then call i [tx, ty] st2 else .bad : Res T) (PQ X.K Q) (fun c d H' => W c d σ H') := fin2
    cases hf : P.fns[i]? with
    | none =>
      rw [hf] at fin2
      exact fin2.elim
    | some f =>
      rw [hf] at fin2
      exact PySem.W.sub_K hF I2.ok.mod.kin J M.at_ (fn_in o hf) M.fn (run_TA (hc.at i) hr.in1 o.g I2.env0.in1 o.tk I2 (.cons rx (.cons ry .nil)) r2 (RpL.cons rt2 (RpL.cons ru RpL.nil)) fin2) (by with_unfolding_all (cases b <;> first | rfl | cases hs))⟩
end
end G
-- GtCE
namespace G
open PySem L2
section
variable {P : Pg} {fc : FC} {X : Cx} {W : WX} {call : CallM} {d : Nat} {pins : List (Addr × Obj)} {σ : L2.St} {H : Hp} {s : Shared}
/-! ### a call of a value -/
theorem run_callG (o : OkX P fc X W) (hc : CallOk P X call d) (hd : fc.dep = d + 1) {ev : Expr → En → M T} (h : ∀ e, PE X e (liftE X.K W (ev e))) {C : Str} {pos : Pos} {env : En} {w : Wd} {st : S} {Q : VK} (args : List Expr) (I : Inv X pins σ H s) (r : SR X.K w st H) (er : EnR X.K w env σ) (st0 : Bool) (hv : vOk P st0 (.glo C) = true)
    (fin : Fi X.K w (bnd (argsM ev args env) (callV P call (.glo C)) st) (PQ X.K Q) (fun c d H' => W c d σ H')) :
    wpAny (model X.prog X.w) X.A (callWith pos (.ref (He.ga X.K C)) [] (backTo pos (starEach args X.env)) []) (EP X pins σ Q) X.xe s := by
  have hr1 : Room (d + 1) X.A := by rw [← hd]; exact o.rm
  have hr : Room d X.A := hr1.mono (Nat.le_succ _)
  unfold vOk at hv
  dsimp only at hv
  cases hl : P.glob.lookup C with
  | none => rw [hl] at hv; cases hv
  | some g =>
    rw [hl] at hv
    cases g with
    | cst _ => cases hv
    | fn i =>
      obtain ⟨m1, k1, a1⟩ := o.K.fn C i hl
      have F := hc.at i
      rw [a1] at F
      have e0 : callV P call (.glo C) = call i := by unfold callV; simp only [hl]
      rw [e0] at fin
      exact cw_args h I k1 r er args fin fun s1 H1 us vs w1 st1 ts I1 rv x1 r1 rl fin1 => run_T F hr o.g o.tk I1 rv r1 rl fin1
    | cls c =>
      have hok : (c.err.isNone && c.init.isSome) = true := hv
      have hC := cls_of hl
      rw [Bool.and_eq_true, Option.isNone_iff_eq_none, Option.isSome_iff_exists] at hok
      obtain ⟨e1, i, e2⟩ := hok
      have kp : PySem.W.keepIn X.K (.ref (He.ga X.K C)) = true := (o.K.mke C c i hC e1 e2).kp
      have e0 : callV P call (.glo C) = mkM call C c := by unfold callV; simp only [hl]
      rw [e0] at fin
      exact cw_args h I kp r er args fin fun s1 H1 us vs w1 st1 ts I1 rv x1 r1 rl fin1 => mk_make o hc hC hr1 I1 rv r1 rl fin1
theorem run_callI (o : OkX P fc X W) (hc : CallOk P X call d) (hd : fc.dep = d + 1) {ev : Expr → En → M T} (h : ∀ e, PE X e (liftE X.K W (ev e))) {C : Str} {ns : List Str} {vs : List T} {x : V} {u : Value} {pos : Pos} {env : En} {w : Wd} {st : S} {Q : VK} (args : List Expr) (I : Inv X pins σ H s) (rx : RelV x u) (ra : Rp X.K w (.ins C ns vs) x) (r : SR X.K w st H) (er : EnR X.K w env σ)
    (hv : vOk P (args.any isStarred) (.ins C ns vs) = true) (fin : Fi X.K w (bnd (argsM ev args env) (callV P call (.ins C ns vs)) st) (PQ X.K Q) (fun c d H' => W c d σ H')) :
    wpAny (model X.prog X.w) X.A (callWith pos u [] (backTo pos (starEach args X.env)) []) (EP X pins σ Q) X.xe s := by
  have hr1 : Room (d + 1) X.A := by rw [← hd]; exact o.rm
  have hr : Room d X.A := hr1.mono (Nat.le_succ _)
  unfold vOk at hv
  dsimp only at hv
  rw [Bool.and_eq_true, Bool.not_eq_true'] at hv
  obtain ⟨hst, hok⟩ := hv
  cases e1 : ownI P "__call__" (.ins C ns vs) with
  | none => rw [e1] at hok; cases hok
  | some i =>
    rw [e1] at hok
    obtain ⟨f, hf⟩ := Option.isSome_iff_exists.mp hok
    have e0 : callV P call (.ins C ns vs) = fun ts => call i (.ins C ns vs :: ts) := by unfold callV; simp only [e1]
    rw [e0] at fin
    have step : ∀ (s1 : Shared) (H1 : Hp) (us : List Value) (vs1 : List V) (w1 : Wd) (st1 : S) (ts : List T), Inv X pins σ H1 s1 → Vals vs1 us → Ext w w1 → SR X.K w1 st1 H1 → RpL X.K w1 ts vs1 → Fi X.K w1 (call i (.ins C ns vs :: ts) st1) (PQ X.K Q) (fun c d H' => W c d σ H') →
        ∃ p : Addr, u = .ref p ∧ (∃ C ox od, PySem.W.InstAt s1.heap p ox C od ∧ ox.data = .plain) ∧ wpAny (model X.prog X.w) X.A (PySem.call (.ref p) us) (EP X pins σ Q) X.xe s1 := fun s1 H1 us vs1 w1 st1 ts I1 rv x1 r1 rl fin1 => by
      obtain ⟨p, C', c, ns', ts', ox, od, ex, eu, es, hC, he, hm, J, hp, M⟩ := own_ins (a := .ins C ns vs) o I1 r1 (ra.mono x1) rx e1
      have ra1 := ra.mono x1
      subst ex eu
      exact ⟨p, rfl, ⟨_, _, _, J, hp⟩, wpAny_call (PySem.W.kco_code I1.kIn J hp M.at_ M.fn (fn_in o hf) (code_T (us := .ref p :: us) (vs := .ref p :: vs1) (hc.at i) hr o.g o.tk I1 (.cons rfl rv) r1 (RpL.cons ra1 rl) fin1))⟩
    obtain ⟨p, eu⟩ : ∃ p : Addr, u = .ref p := by
      obtain ⟨p, C', c, ns', ts', ox, od, ex, eu, _⟩ := own_ins (a := .ins C ns vs) o I r ra rx e1
      exact ⟨p, eu⟩
    subst eu
    cases args with
    | nil =>
      obtain ⟨p', eu, hi, q⟩ := step s H [] [] w st [] I .nil (Ext.refl w) r RpL.nil fin
      cases eu
      exact StX.callO_of rfl (PyProof.Rows.evalArgs_nil3 ⟨hi, q⟩)
    | cons e es =>
      rw [List.any_cons, Bool.or_eq_false_iff] at hst
      refine StX.callO_with (thn ((la_args h (e :: es)).run pos pins s σ H (fun vs1 H1 => ∃ w1 s1 ts, Ext w w1 ∧ SR X.K w1 s1 H1 ∧ RpL X.K w1 ts vs1 ∧ Fi X.K w1 (call i (.ins C ns vs :: ts) s1) (PQ X.K Q) (fun c d H' => W c d σ H')) I
        ⟨w, st, env, r, er, fin.bind fun ts s1 w1 H1 x1 r1 fin1 vs1 rs => ⟨w1, s1, ts, x1, r1, rs, fin1⟩⟩) fun us s1 ⟨vs1, H1, I1, rv, w1, st1, ts, x1, r1, rl, fin1⟩ => ?_) (star_not hst.1 _ _) (plain_any hst.2 _ _)
      obtain ⟨p', eu, hi, q⟩ := step s1 H1 us vs1 w1 st1 ts I1 rv x1 r1 rl fin1
      cases eu
      exact ⟨hi, q⟩
theorem run_callV (o : OkX P fc X W) (hc : CallOk P X call d) (hd : fc.dep = d + 1) {ev : Expr → En → M T} (h : ∀ e, PE X e (liftE X.K W (ev e))) {v : T} {x : V} {u : Value} {pos : Pos} {env : En} {w : Wd} {st : S} {Q : VK} (args : List Expr) (I : Inv X pins σ H s) (rx : RelV x u) (ra : Rp X.K w v x) (r : SR X.K w st H) (er : EnR X.K w env σ)
    (hv : vOk P (args.any isStarred) v = true) (fin : Fi X.K w (bnd (argsM ev args env) (callV P call v) st) (PQ X.K Q) (fun c d H' => W c d σ H')) :
    wpAny (model X.prog X.w) X.A (callWith pos u [] (backTo pos (starEach args X.env)) []) (EP X pins σ Q) X.xe s := by
  cases v with
  | glo C =>
    have ra : x = .ref (He.ga X.K C) := ra
    subst ra
    obtain rfl : u = .ref (He.ga X.K C) := rx
    exact run_callG o hc hd h args I r er _ hv fin
  | ins C ns vs => exact run_callI o hc hd h args I rx ra r er hv fin
  | _ => cases hv
theorem le_callLoc (o : OkX P fc X W) (hc : CallOk P X call d) (hd : fc.dep = d + 1) {ev : Expr → En → M T} (h : ∀ e, PE X e (liftE X.K W (ev e))) {f : Str} {j : Nat} {p pos : Pos} (hj : fc.loc f = some j) (args : List Expr) :
    PE X (.Call (.Name f p) args [] pos) (liftE X.K W fun env => bnd (getV env j) fun v => if args.isEmpty then callL P call fc.th v else if vOk P (args.any isStarred) v then bnd (argsM ev args env) fun ts => callV P call v ts else bad) := ⟨fun pins s σ H Q I ⟨w, st, env, r, er, fin⟩ => by
  obtain ⟨h1, h2, h3, h4⟩ := o.loc hj
  have getF : ∀ (k : T → M T), (∀ t, env[j]? ≠ some (some t)) → bnd (getV env j) k st = .bad := fun k hn => by
    unfold bnd getV
    cases e : env[j]? with
    | none => rfl
    | some ot => cases ot with
      | none => rfl
      | some t => exact absurd e (hn t)
  cases e : env[j]? with
  | none =>
    have z := getF (fun v => if args.isEmpty then callL P call fc.th v else if vOk P (args.any isStarred) v then bnd (argsM ev args env) fun ts => callV P call v ts else bad) (by rw [e]; exact fun t z => by cases z)
    have fin : Fi X.K w (bnd (getV env j) _ st) (PQ X.K Q) (fun c d H' => W c d σ H') := fin
    rw [z] at fin
    exact fin.elim
  | some ot =>
    cases ot with
    | none =>
      have z := getF (fun v => if args.isEmpty then callL P call fc.th v else if vOk P (args.any isStarred) v then bnd (argsM ev args env) fun ts => callV P call v ts else bad) (by rw [e]; exact fun t z => by cases z)
      have fin : Fi X.K w (bnd (getV env j) _ st) (PQ X.K Q) (fun c d H' => W c d σ H') := fin
      rw [z] at fin
      exact fin.elim
    | some t =>
      have eg : ∀ (k : T → M T), bnd (getV env j) k st = k t st := fun k => by unfold bnd getV; rw [e]; rfl
      have fin : Fi X.K w (bnd (getV env j) (fun v => if args.isEmpty then callL P call fc.th v else if vOk P (args.any isStarred) v then bnd (argsM ev args env) fun ts => callV P call v ts else bad) st) (PQ X.K Q) (fun c d H' => W c d σ H') := fin
      rw [eg] at fin
      obtain ⟨x, hs, rt⟩ := er.at_ j t e
      have key : vOk P (args.any isStarred) t = true → Fi X.K w (bnd (argsM ev args env) (callV P call t) st) (PQ X.K Q) (fun c d H' => W c d σ H') → wpAny (model X.prog X.w) X.A (eval (.Call (.Name f p) args [] pos) X.env) (EP X pins σ Q) X.xe s := fun hv fin => by
        refine wpAny_Call_Name_kw (thn ((pe_var (pos := p) h1 h2 h3 h4).run pins s σ H (fun v H1 => v = x ∧ H1 = H) I ⟨x, hs, rfl, rfl⟩) fun u s1 ⟨v, H1, I1, r1, q1⟩ => ?_)
        obtain ⟨rfl, rfl⟩ := q1
        exact run_callV o hc hd h args I1 r1 rt r er hv fin
      cases args with
      | nil =>
        have fin : Fi X.K w (callL P call fc.th t st) (PQ X.K Q) (fun c d H' => W c d σ H') := fin
        unfold callL at fin
        split at fin
        · rename_i hv
          exact key hv fin
        · exact (o.th f j p pos hj X.pn X.xe W o.tk).run pins s σ H Q I ⟨w, st, env, r, er, by show Fi X.K w (bnd (getV env j) (thC fc.th) st) _ _; rw [eg]; exact fin⟩
      | cons a as =>
        cases hv : vOk P ((a :: as).any isStarred) t with
        | true =>
          rw [if_neg (by exact Bool.false_ne_true), if_pos hv] at fin
          exact key hv fin
        | false =>
          rw [if_neg (by exact Bool.false_ne_true), if_neg (by rw [hv]; exact Bool.false_ne_true)] at fin
          exact fin.elim⟩
/-! ### calls by name -/
theorem le_callE (o : OkX P fc X W) (hc : CallOk P X call d) (hd : fc.dep = d + 1) (h2 : 2 ≤ fc.dep) {ev : Expr → En → M T} (h : ∀ e, PE X e (liftE X.K W (ev e))) {f : Str} {args : List Expr} {p pos : Pos} : PE X (.Call (.Name f p) args [] pos) (liftE X.K W (callE P call ev fc f args pos)) := by
  cases hg : fc.gl f with
  | false =>
    cases hj : fc.loc f with
    | none => exact lE le_bad (funext fun env => by unfold callE; rw [hg, hj]; rfl)
    | some j => exact lE (le_callLoc o hc hd h hj args) (funext fun env => by unfold callE; rw [hg, hj]; rfl)
  | true =>
    cases hl : P.glob.lookup f with
    | some g =>
      cases g with
      | fn i =>
        cases hL : lamE fc args with
        | none =>
          cases ha : argOk args with
          | true => exact lE (le_callF o hc hd h hg hl args ha) (funext fun env => by unfold callE; rw [hg, hl]; simp only [hL, ha, if_true])
          | false => exact lE le_bad (funext fun env => by unfold callE; rw [hg, hl]; simp only [hL, ha]; rfl)
        | some bs =>
          obtain ⟨body, scope⟩ := bs
          cases hi : thOk P i with
          | false => exact lE le_bad (funext fun env => by unfold callE; rw [hg, hl]; simp only [hL, hi]; rfl)
          | true =>
            obtain ⟨params, lpos, ea, h1, h3⟩ : ∃ params lpos, args = [.Lambda params body scope lpos] ∧ noPar params = true ∧ LamX.lamSB fc.sc scope = true := by
              unfold lamE at hL
              split at hL
              · rename_i params b sc lpos
                split at hL
                · rename_i hh
                  rw [Bool.and_eq_true] at hh
                  cases hL
                  exact ⟨params, lpos, rfl, hh.1, hh.2⟩
                · cases hL
              · cases hL
            subst ea
            exact lE (o.lm f i params body scope p lpos pos hg hl h1 h3 hi X.pn X.xe W o.tk) (funext fun env => by unfold callE; rw [hg, hl]; simp only [hL, hi, if_true])
      | cls c =>
        cases ha : argOk args && (c.err.isNone && c.init.isSome) with
        | true =>
          have ha' := ha
          rw [Bool.and_eq_true] at ha'
          exact lE (le_make o hc hd h hg hl ha'.2 args ha'.1) (funext fun env => by unfold callE; rw [hg, hl]; simp only [ha, if_true])
        | false =>
          cases he : errOf P fc f args with
          | none => exact lE le_bad (funext fun env => by unfold callE; rw [hg, hl]; simp only [ha, he]; rfl)
          | some ns => exact lE (le_excv o h2 h he) (funext fun env => by unfold callE; rw [hg, hl]; simp only [ha, he]; rfl)
      | cst t => exact lE le_bad (funext fun env => by unfold callE; rw [hg, hl]; rfl)
    | none =>
      have usual : ∀ (a : Expr) (as : List Expr), (a :: as).any isStarred = false → PE X (.Call (.Name f p) (a :: as) [] pos) (liftE X.K W fun env => match biNames.lookup f with
          | some b => bnd (argsM ev (a :: as) env) fun ts => noX (bcallO P call (P.box? pos) b ts)
          | none => bad) := fun a as hst => by
        cases hb : biNames.lookup f with
        | none => exact le_bad
        | some b => exact le_biO o hc hd (by omega) hb hg hl (la_args h (a :: as)) hst
      have gen : (∀ env, callE P call ev fc f args pos env = match biNames.lookup f with
          | some b => if args.any isStarred || args.isEmpty then bad else bnd (argsM ev args env) fun ts => noX (bcallO P call (P.box? pos) b ts)
          | none => bad) → PE X (.Call (.Name f p) args [] pos) (liftE X.K W (callE P call ev fc f args pos)) := fun q => by
        cases args with
        | nil => exact lE le_bad (funext fun env => by rw [q]; cases biNames.lookup f <;> rfl)
        | cons a as =>
          cases hst : (a :: as).any isStarred with
          | true => exact lE le_bad (funext fun env => by
              rw [q]
              cases biNames.lookup f with
              | none => rfl
              | some b =>
                show (if ((a :: as).any isStarred || _) = true then _ else _) = _
                rw [hst]
                rfl)
          | false => exact lE (usual a as hst) (funext fun env => by
              rw [q]
              cases biNames.lookup f with
              | none => rfl
              | some b =>
                show (if ((a :: as).any isStarred || _) = true then _ else _) = _
                rw [hst]
                rfl)
      by_cases hr : ∃ q a r p2, args = [.Call (.Name q p2) (a :: r) [] pos] ∨ ∃ p3, args = [.Call (.Name q p2) (a :: r) [] p3]
      · obtain ⟨q, a, r, p2, hr⟩ := hr
        have hr : ∃ p3, args = [.Call (.Name q p2) (a :: r) [] p3] := by
          rcases hr with hr | hr
          · exact ⟨_, hr⟩
          · exact hr
        obtain ⟨p3, hr⟩ := hr
        subst hr
        have e0 : ∀ env, callE P call ev fc f [.Call (.Name q p2) (a :: r) [] p3] pos env = if isNm fc P f "list" && isNm fc P q "range" then
            if (a :: r).any isStarred then bad else bnd (argsM ev (a :: r) env) fun ts => bnd (rangeM ts) fun xs => lstM (P.box? pos) xs
          else match biNames.lookup f with
            | some b => bnd (argsM ev [.Call (.Name q p2) (a :: r) [] p3] env) fun ts => noX (bcallO P call (P.box? pos) b ts)
            | none => bad := fun env => by
          unfold callE
          rw [hg, hl]
          rfl
        cases hn : isNm fc P f "list" && isNm fc P q "range" with
        | false => exact lE (usual (.Call (.Name q p2) (a :: r) [] p3) [] rfl) (funext fun env => by rw [e0, hn]; rfl)
        | true =>
          cases hst : (a :: r).any isStarred with
          | true => exact lE le_bad (funext fun env => by rw [e0, hn, hst]; rfl)
          | false =>
            rw [Bool.and_eq_true] at hn
            obtain ⟨h1, h2⟩ := eqb hn.1
            obtain ⟨h3, h4⟩ := eqb hn.2
            subst h1 h3
            exact lE (le_listRg o h2 h4 hst (la_args h (a :: r))) (funext fun env => by rw [e0, hn.1, hn.2, hst]; rfl)
      · refine gen fun env => ?_
        unfold callE
        rw [hg, hl]
        simp only [if_true]
        split
        · rename_i q a r p3 p2 x1
          exact absurd ⟨_, _, _, _, .inr ⟨_, rfl⟩⟩ hr
        · rfl
end
end G
-- GtKw
namespace G
open PySem L2
section
variable {P : Pg} {fc : FC} {X : Cx} {W : WX} {call : CallM} {d : Nat} {pins : List (Addr × Obj)} {σ : L2.St} {H : Hp} {s : Shared}
/-! ### keywords -/
theorem kw_ok {pos : Pos} {env : PySem.Env} : ∀ {kws : List Keyword} {ks : List Str}, kwNm kws = some ks →
    (backToKw pos (keywordEach kws env)).all (·.1.isSome) = true ∧ (backToKw pos (keywordEach kws env)).filterMap (·.1) = ks ∧ (backToKw pos (keywordEach kws env)).any (·.1.isNone) = false
  | [], _, h => by
    cases h
    exact ⟨rfl, rfl, rfl⟩
  | ⟨some n, v, p⟩ :: r, ks, h => by
    have h : (kwNm r).map (n :: ·) = some ks := h
    cases e : kwNm r with
    | none => rw [e] at h; cases h
    | some ks' =>
      rw [e] at h
      cases h
      obtain ⟨h1, h2, h3⟩ := kw_ok (pos := pos) (env := env) e
      unfold backToKw at h1 h2 h3 ⊢
      refine ⟨?_, ?_, ?_⟩
      · show (List.map _ ((some n, eval v env) :: keywordEach r env)).all _ = true
        rw [List.map_cons, List.all_cons, h1]
        rfl
      · show (List.map _ ((some n, eval v env) :: keywordEach r env)).filterMap _ = _
        rw [List.map_cons, List.filterMap_cons, h2]
      · show (List.map _ ((some n, eval v env) :: keywordEach r env)).any _ = false
        rw [List.map_cons, List.any_cons, h3]
        rfl
  | ⟨none, v, p⟩ :: r, ks, h => by cases h
theorem pk_all {ev : Expr → En → M T} (h : ∀ e, PE X e (liftE X.K W (ev e))) : ∀ (kws : List Keyword), (kwVs kws).any isStarred = false → PK X kws (liftA X.K W (argsM ev (kwVs kws)))
  | [], _ => ⟨fun pos pins s σ H Q I ⟨w, st, env, r, er, fin⟩ => pk_nil.run pos pins s σ H Q I (Fi.ret (E := fun c d H' => W c d σ H') fin r [] rfl)⟩
  | ⟨nm, v, p⟩ :: r, hs => by
    have hs : ((isStarred v) || (kwVs r).any isStarred) = false := hs
    rw [Bool.or_eq_false_iff] at hs
    have q : argsM ev (v :: kwVs r) = fun env => bnd (ev v env) fun x => bnd (argsM ev (kwVs r) env) fun xs => ret (x :: xs) := by
      funext env
      cases v <;> first | rfl | cases hs.1
    show PK X _ (liftA X.K W (argsM ev (v :: kwVs r)))
    rw [q]
    refine ⟨fun pos pins s σ H Q I ⟨w, st, env, r', er, fin⟩ => (pk_cons (h v) (pk_all h r hs.2)).run pos pins s σ H Q I ?_⟩
    refine ⟨w, st, env, r', er, fin.bind fun tx s1 w1 H1 x1 r1 fin1 vx rx => ?_⟩
    exact ⟨w1, s1, env, r1, er.mono x1, fin1.bind fun ts s2 w2 H2 x2 r2 fin2 vs rs => Fi.ret (E := fun c d H' => W c d σ H') fin2 r2 _ ⟨vx, vs, rfl, rx.mono x2, rs⟩⟩
/-- plain arguments are as many as they look -/
theorem args_len {ev : Expr → En → M T} {env : En} : ∀ {es : List Expr} {st st' : S} {ts : List T}, es.any isStarred = false → argsM ev es env st = .ok ts st' → ts.length = es.length
  | [], st, st', ts, _, h => by cases h; rfl
  | e :: es, st, st', ts, hs, h => by
    rw [List.any_cons, Bool.or_eq_false_iff] at hs
    have q : argsM ev (e :: es) env = bnd (ev e env) fun x => bnd (argsM ev es env) fun xs => ret (x :: xs) := by
      cases e <;> first | rfl | cases hs.1
    rw [q] at h
    unfold bnd at h
    cases e1 : ev e env st with
    | ok x s1 =>
      rw [e1] at h
      have h : (bnd (argsM ev es env) fun xs => ret (x :: xs)) s1 = .ok ts st' := h
      unfold bnd at h
      cases e2 : argsM ev es env s1 with
      | ok xs s2 =>
        rw [e2] at h
        cases h
        rw [List.length_cons, List.length_cons, args_len hs.2 e2]
      | exc C ns vs s2 => rw [e2] at h; cases h
      | bad => rw [e2] at h; cases h
    | exc C ns vs s1 => rw [e1] at h; cases h
    | bad => rw [e1] at h; cases h
theorem kwVs_len : ∀ {kws : List Keyword} {ks : List Str}, kwNm kws = some ks → (kwVs kws).length = ks.length
  | [], _, h => by cases h; rfl
  | ⟨some n, v, p⟩ :: r, ks, h => by
    have h : (kwNm r).map (n :: ·) = some ks := h
    cases e : kwNm r with
    | none => rw [e] at h; cases h
    | some ks' =>
      rw [e] at h
      cases h
      rw [List.length_cons, ← kwVs_len e]
      rfl
  | ⟨none, v, p⟩ :: r, ks, h => by cases h
theorem kw_in {i n : Nat} {ks : List Str} {out : List Nat} (h : P.kw? i n ks = some out) : ∃ e, e ∈ P.kws ∧ e.i = i ∧ e.n = n ∧ e.ks = ks ∧ e.out = out := by
  unfold Pg.kw? at h
  cases e : P.kws.find? (fun e => e.i == i && (e.n == n && decide (e.ks = ks))) with
  | none => rw [e] at h; cases h
  | some k =>
    rw [e] at h
    cases h
    have z := List.find?_some e
    simp only [Bool.and_eq_true, beq_iff_eq, decide_eq_true_eq] at z
    exact ⟨k, List.mem_of_find?_eq_some e, z.1, z.2.1, z.2.2, rfl⟩
theorem pick_dn {α : Type} {x : α} {xs : List α} : ∀ {r : List Nat}, (r.all fun j => decide (0 < j)) = true → pick r (x :: xs) = pick (r.map (· - 1)) xs
  | [], _ => rfl
  | j :: r, h => by
    rw [List.all_cons, Bool.and_eq_true, decide_eq_true_eq] at h
    have ih := pick_dn (x := x) (xs := xs) h.2
    unfold pick at ih ⊢
    rw [List.map_cons, List.filterMap_cons, List.filterMap_cons, ih]
    cases j with
    | zero => omega
    | succ j => rfl
theorem pick_tl {α : Type} {out o : List Nat} {x : α} {xs : List α} (h : tl1 out = some o) : pick out (x :: xs) = x :: pick o xs := by
  unfold tl1 at h
  split at h
  · rename_i r
    split at h
    · rename_i hr
      cases h
      rw [pick_cons (by simp)]
      show x :: pick r (x :: xs) = x :: pick (r.map (· - 1)) xs
      rw [pick_dn hr]
    · cases h
  · cases h
/-- f(e, .., k = v, ..): the values, then what is to be done with them -/
theorem le_kwcall (o : OkX P fc X W) {ev : Expr → En → M T} (h : ∀ e, PE X e (liftE X.K W (ev e))) {f : Str} {fv : Value} {args : List Expr} {kws : List Keyword} {ks : List Str} {p pos : Pos} {m : List T → List T → M T} (hg : fc.gl f = true) (hm : X.mg f = some fv) (kp : PySem.W.keepIn X.K fv = true)
    (hs : args.any isStarred = false) (hk : kwNm kws = some ks) (hv : (kwVs kws).any isStarred = false)
    (run : ∀ (pins : List (Addr × Obj)) (s : Shared) (σ : L2.St) (H : Hp) (Q : VK) (us ws : List Value) (vs zs : List V) (w : Wd) (st : S) (ts xs : List T), Inv X pins σ H s → Vals vs us → Vals zs ws → ts.length = args.length → xs.length = ks.length → SR X.K w st H → RpL X.K w ts vs → RpL X.K w xs zs →
      Fi X.K w (m ts xs st) (PQ X.K Q) (fun c d H' => W c d σ H') → wpAny (model X.prog X.w) X.A (PySem.call fv us (ks.zip ws)) (EP X pins σ Q) X.xe s) :
    PE X (.Call (.Name f p) args kws pos) (liftE X.K W fun env => bnd (argsM ev args env) fun ts => bnd (argsM ev (kwVs kws) env) fun zs => m ts zs) := by
  obtain ⟨g, hdb⟩ := o.gl hg
  refine ⟨fun pins s σ H Q I ⟨w, st, env, r, er, fin⟩ => ?_⟩
  obtain ⟨k1, k2, k3⟩ := kw_ok (pos := pos) (env := X.env) hk
  refine wpAny_Call_Name_kw (ld_glob I g hm ?_ hdb)
  have after : ∀ {us : List Value} {vs : List V} {s1 : Shared} {H1 : Hp} {w1 : Wd} {st1 : S} {ts : List T}, Inv X pins σ H1 s1 → Vals vs us → SR X.K w1 st1 H1 → EnR X.K w1 env σ → RpL X.K w1 ts vs → ts.length = args.length →
      Fi X.K w1 (bnd (argsM ev (kwVs kws) env) (fun zs => m ts zs) st1) (PQ X.K Q) (fun c d H' => W c d σ H') →
      wpAny (model X.prog X.w) X.A (evalAll ((backToKw pos (keywordEach kws X.env)).map (·.2))) (fun ws s2 => X.K.In s2.heap ∧ wpAny (model X.prog X.w) X.A (PySem.call fv us (((backToKw pos (keywordEach kws X.env)).filterMap (·.1)).zip ws)) (EP X pins σ Q) X.xe s2) X.xe s1 := fun {us vs s1 H1 w1 st1 ts} I1 rv r1 er1 rl hl fin1 => by
    refine thn ((pk_all h kws hv).run pos pins s1 σ H1 (fun zs H2 => ∃ w2 s2 xs, SR X.K w2 s2 H2 ∧ RpL X.K w2 ts vs ∧ RpL X.K w2 xs zs ∧ xs.length = ks.length ∧ Fi X.K w2 (m ts xs s2) (PQ X.K Q) (fun c d H' => W c d σ H')) I1
      ⟨w1, st1, env, r1, er1, fin1.bindE fun xs s2 w2 H2 e2 x2 r2 fin2 zs rz => ⟨w2, s2, xs, r2, rl.mono x2, rz, by rw [args_len hv e2]; exact kwVs_len hk, fin2⟩⟩) fun ws s2 ⟨zs, H2, I2, rz, w2, st2, xs, r2, rl2, rx, hx, fin2⟩ => ⟨I2.kIn, ?_⟩
    rw [k2]
    exact run pins s2 σ H2 Q us ws vs zs w2 st2 ts xs I2 rv rz hl hx r2 rl2 rx fin2
  cases args with
  | nil =>
    refine PySem.W.callWith_KW0 (h₀ := X.base) I.ok.mod.kin kp k1 ?_ (by rw [k3]; rfl)
    exact after (us := []) (vs := []) (ts := []) I .nil r er RpL.nil rfl fin
  | cons e es =>
    have hs' := hs
    rw [List.any_cons, Bool.or_eq_false_iff] at hs'
    refine PySem.W.callWith_KW (h₀ := X.base) I.ok.mod.kin kp k1 (thn ((la_args h (e :: es)).run pos pins s σ H (fun vs H1 => ∃ w1 s1 ts, SR X.K w1 s1 H1 ∧ EnR X.K w1 env σ ∧ RpL X.K w1 ts vs ∧ ts.length = (e :: es).length ∧ Fi X.K w1 (bnd (argsM ev (kwVs kws) env) (fun zs => m ts zs) s1) (PQ X.K Q) (fun c d H' => W c d σ H')) I
      ⟨w, st, env, r, er, fin.bindE fun ts s1 w1 H1 e1 x1 r1 fin1 vs rs => ⟨w1, s1, ts, r1, er.mono x1, rs, args_len hs e1, fin1⟩⟩) fun us s1 ⟨vs, H1, I1, rv, w1, st1, ts, r1, er1, rl, hl, fin1⟩ => ?_) (by rw [plain_any hs, k3]; rfl) (star_not hs'.1 _ _)
    exact after I1 rv r1 er1 rl hl fin1
theorem le_callK (o : OkX P fc X W) (hc : CallOk P X call d) (hd : fc.dep = d + 1) (h2 : 2 ≤ fc.dep) {ev : Expr → En → M T} (h : ∀ e, PE X e (liftE X.K W (ev e))) {f : Str} {args : List Expr} {kws : List Keyword} {p pos : Pos} : PE X (.Call (.Name f p) args kws pos) (liftE X.K W (callK P call ev fc f args kws)) := by
  cases hb : args.any isStarred || ((kwVs kws).any isStarred || !fc.gl f) with
  | true => exact lE le_bad (funext fun env => by unfold callK; rw [hb]; rfl)
  | false =>
    have hb' := hb
    simp only [Bool.or_eq_false_iff, Bool.not_eq_false'] at hb'
    obtain ⟨b1, b2, b3⟩ := hb'
    cases hk : kwNm kws with
    | none => exact lE le_bad (funext fun env => by unfold callK; rw [hb, hk]; rfl)
    | some ks =>
      cases hl : P.glob.lookup f with
      | none => exact lE le_bad (funext fun env => by unfold callK; rw [hb, hk, hl]; rfl)
      | some g =>
        cases g with
        | cst t => exact lE le_bad (funext fun env => by unfold callK; rw [hb, hk, hl]; rfl)
        | fn i =>
          cases ho : P.kw? i args.length ks with
          | none => exact lE le_bad (funext fun env => by unfold callK; rw [hb, hk, hl]; simp only [ho]; rfl)
          | some out =>
            obtain ⟨e, he, ei, en, eks, eo⟩ := kw_in ho
            obtain ⟨m1, k1, a1⟩ := o.K.fn f i hl
            have F := hc.at i
            rw [a1] at F
            have hr : Room d X.A := (by rw [← Nat.add_sub_cancel (n := d) (m := 1), ← hd]; exact o.rm.mono (Nat.sub_le _ _))
            refine lE (le_kwcall o h b3 m1 k1 b1 hk b2 (m := fun ts zs => call i (pick out (ts ++ zs))) fun pins s σ H Q us ws vs zs w st ts xs I rv rz l1 l2 r rl rx fin => ?_) (funext fun env => by unfold callK; rw [hb, hk, hl]; simp only [ho]; rfl)
            have q1 : us.length = e.n := by rw [← rv.length, ← rl.length, l1, en]
            have q2 : ws.length = e.ks.length := by rw [← rz.length, ← rx.length, l2, eks]
            exact run_TK (a := ⟨us, ks.zip ws⟩) F (.inr ⟨e, he, ei, us, ws, q1, q2, by rw [eks], rfl⟩) hr o.g o.tk I (by rw [eo]; exact vals_pick (rv.append rz) out) r ((rl.append rx).pick out) fin
        | cls c =>
          cases hi : c.init with
          | none => exact lE le_bad (funext fun env => by unfold callK; rw [hb, hk, hl]; simp only [hi]; rfl)
          | some i =>
            cases ho : P.kw? i (args.length + 1) ks with
            | none => exact lE le_bad (funext fun env => by unfold callK; rw [hb, hk, hl]; simp only [hi, ho]; rfl)
            | some out =>
              cases ht : tl1 out with
              | none => exact lE le_bad (funext fun env => by unfold callK; rw [hb, hk, hl]; simp only [hi, ho, Option.bind, ht]; rfl)
              | some o' =>
                obtain ⟨e, he, ei, en, eks, eo⟩ := kw_in ho
                have hC := cls_of hl
                have kp : PySem.W.keepIn X.K (.ref (He.ga X.K f)) = true := by
                  cases ee : c.err with
                  | none => exact (o.K.mke f c i hC ee hi).kp
                  | some ns => exact (o.K.err f c ns i hC ee hi).1.kC
                refine lE (le_kwcall o h b3 (o.K.cls f c hl) kp b1 hk b2 (m := fun ts zs => mkK call f c (pick o' (ts ++ zs))) fun pins s σ H Q us ws vs zs w st ts xs I rv rz l1 l2 r rl rx fin => ?_) (funext fun env => by unfold callK; rw [hb, hk, hl]; simp only [hi, ho, Option.bind, ht]; rfl)
                have q1 : us.length + 1 = e.n := by rw [← rv.length, ← rl.length, l1, en]
                have q2 : ws.length = e.ks.length := by rw [← rz.length, ← rx.length, l2, eks]
                have hA : ∀ self : Value, ArgsAt P i ⟨self :: us, ks.zip ws⟩ (self :: pick o' (us ++ ws)) := fun self =>
                  .inr ⟨e, he, ei, self :: us, ws, q1, q2, by rw [eks], by rw [eo, List.cons_append, pick_tl ht]⟩
                have rvp := vals_pick (rv.append rz) o'
                have rlp := (rl.append rx).pick o'
                unfold mkK at fin
                cases ee : c.err with
                | none =>
                  rw [ee] at fin
                  exact mk_makeK (a0 := ⟨us, ks.zip ws⟩) o hc hC (fun j hj => by rw [hi] at hj; cases hj; exact hA) (by rw [← hd]; exact o.rm) I rvp r rlp fin
                | some ns =>
                  rw [ee] at fin
                  have fin : Fi X.K w ((if ns.length ≤ 900 ∧ ns.isEmpty = false then excM f ns (pick o' (ts ++ xs)) else bad : M T) st) (PQ X.K Q) (fun c d H' => W c d σ H') := fin
                  split at fin
                  · rename_i hz
                    exact exc_make (d := 0) (a0 := ⟨us, ks.zip ws⟩) o hC ee hi (fun z => by rw [z] at hz; cases hz.2) hz.1 (o.rm.mono h2) hA I rvp r rlp fin
                  · exact fin.elim
/-! ### o.m(.., k = v, ..) -/
theorem kw_some {pos : Pos} {env : PySem.Env} {kws : List Keyword} {ks : List Str} (h : kwNm kws = some ks) : (backToKw pos (keywordEach kws env)).all (·.1.isSome) = true := (kw_ok (pos := pos) (env := env) h).1
theorem kw_len {pos : Pos} {env : PySem.Env} {kws : List Keyword} {ks : List Str} (h : kwNm kws = some ks) : ks.length = kws.length := by
  rw [← kwVs_len h]
  clear h
  induction kws with
  | nil => rfl
  | cons a r ih => cases a; show (kwVs r).length + 1 = r.length + 1; rw [ih]
theorem call_formK {o : Expr} {m : Str} {apos pos : Pos} {args : List Expr} {kws : List Keyword} {ks : List Str} {env : PySem.Env} (hb : baseOk o = true) (hl : (apos.endLine == pos.line) = true) (hp : args.any isStarred = false) (hk : kwNm kws = some ks) (hn : args.length + kws.length + 1 < 30) :
    eval (.Call (.Attribute o m apos) args kws pos) env = (do
      let ov ← eval o env
      standAt apos.atName
      let (f, first) ← holding [ov] (getMethod ov m (do return (← importBound o env).getD true))
      callWith pos f first (backTo pos (starEach args env)) (backToKw pos (keywordEach kws env))) := by
  have hf : methodCallForm (args.length + kws.length) (backTo pos (starEach args env)) (backToKw pos (keywordEach kws env)) = true := by
    unfold methodCallForm
    rw [plain_all hp, kw_some hk]
    simp only [Bool.true_and, decide_eq_true_eq, Bool.and_eq_true, true_and]
    split <;> omega
  rw [arm_eval_Call, base_ok hb]
  unfold methodCall
  rw [hf]
  have hpos : methodCallPos true o env apos pos = pure pos := by
    unfold methodCallPos
    rw [hl]
    rfl
  rw [hpos]
  rfl
theorem code_TK {k : Nat} {f : Addr} {m : List T → M T} {Q : VK} {a : Args} {us : List Value} {vs : List V} {w0 : Wd} {st : S} {ts : List T} {i : Nat} (F : FT (ArgsAt P i) X.prog X.w X.K X.mg X.base k f m) (ha : ArgsAt P i a us) (hr : Room k X.A) (hg : X.A.guards = some []) (tk : Takes X W) (I : Inv X pins σ H s) (r : Vals vs us)
    (sr : SR X.K w0 st H) (rl : RpL X.K w0 ts vs) (fin : Fi X.K w0 (m ts st) (PQ X.K Q) (fun c d H' => W c d σ H')) :
    codeAny (model X.prog X.w) X.A (.call (.ref f) a) (fun r s' => match r with | .ok (.ret v) => EP X pins σ Q v s' | .ok _ => False | .error e => X.xe e s') s :=
  codeAny_mono (F X.A X.stack s H a us vs Q _ w0 st ts ha hr hg I.env0 r sr rl fin) fun r s' hq => by
    have z := end_T tk I hq
    cases r with
    | error e => exact z
    | ok fl => cases fl <;> first | exact z | exact z.elim
theorem le_umethK (o : OkX P fc X W) (hc : CallOk P X call d) (hd : fc.dep = d + 1) {ev : Expr → En → M T} (h : ∀ e, PE X e (liftE X.K W (ev e))) {ob : Expr} {m : Str} {apos pos : Pos} {args : List Expr} {kws : List Keyword} (hk : okCallK ob apos pos args kws = true) :
    PE X (.Call (.Attribute ob m apos) args kws pos) (liftE X.K W (methK P call ev ob m args kws)) := by
  unfold okCallK at hk
  simp only [Bool.and_eq_true, Bool.not_eq_true', decide_eq_true_eq] at hk
  obtain ⟨⟨hb, hl⟩, hp, hn⟩ := hk
  cases hv : (kwVs kws).any isStarred with
  | true => exact lE le_bad (funext fun env => by unfold methK; rw [hv]; rfl)
  | false =>
  cases hks : kwNm kws with
  | none => exact lE le_bad (funext fun env => by unfold methK; rw [hv, hks]; rfl)
  | some ks =>
  have hr : Room d X.A := (by rw [← Nat.add_sub_cancel (n := d) (m := 1), ← hd]; exact o.rm.mono (Nat.sub_le _ _))
  obtain ⟨k1, k2, k3⟩ := kw_ok (pos := pos) (env := X.env) hks
  let mm (tx : T) (r : Nat × List T) : En → M T := fun env => bnd (argsM ev args env) fun ts => bnd (argsM ev (kwVs kws) env) fun zs => match P.kw? r.1 (args.length + 1) ks with
    | some out => call r.1 (pick out (r.2 ++ ts ++ zs))
    | none => bad
  refine lE (f := fun env => bnd (ev ob env) fun x => bnd (methI P m x) fun r => mm x r env) ?_ (funext fun env => by unfold methK; rw [hv, hks]; rfl)
  refine ⟨fun pins s σ H Q I ⟨w, st, env, r, er, fin⟩ => ?_⟩
  refine PySem.W.methodCall_KW (thn ((h ob).run pins s σ H (fun x H1 => ∃ w st tx, SR X.K w st H1 ∧ EnR X.K w env σ ∧ Rp X.K w tx x ∧ Fi X.K w (bnd (methI P m tx) (fun r => mm tx r env) st) (PQ X.K Q) (fun c d H' => W c d σ H')) I
    ⟨w, st, env, r, er, fin.bind fun tx s1 w1 H1 x1 r1 fin1 vx rx => ⟨w1, s1, tx, r1, er.mono x1, rx, fin1⟩⟩) fun u s1 ⟨x, H1, I1, rx, w1, st1, tx, r1, er1, rt, fin1⟩ => ?_) (call_formK hb hl hp hks hn)
  clear fin r er
  unfold bnd methI at fin1
  -- behind the positional ones
  have tailK : ∀ {i : Nat} {rcv : Value} {pins : List (Addr × Obj)} {s2 : Shared} {H2 : Hp} {us : List Value} {vs : List V} {w2 : Wd} {st2 : S} {ts : List T} {G : List Value → Shared → Prop}, Inv X pins σ H2 s2 → RelV x rcv → Vals vs us → SR X.K w2 st2 H2 → EnR X.K w2 env σ → Rp X.K w2 tx x → RpL X.K w2 ts vs → ts.length = args.length →
      Fi X.K w2 (bnd (argsM ev (kwVs kws) env) (fun zs => match P.kw? i (args.length + 1) ks with
        | some out => call i (pick out ([tx] ++ ts ++ zs))
        | none => bad) st2) (PQ X.K Q) (fun c d H' => W c d σ H') →
      (∀ (ws : List Value) (s3 : Shared) (H3 : Hp) (us' : List Value) (vs' : List V) (w3 : Wd) (st3 : S) (ts' : List T), Inv X pins σ H3 s3 → ArgsAt P i ⟨rcv :: us, ks.zip ws⟩ us' → Vals vs' us' → SR X.K w3 st3 H3 → RpL X.K w3 ts' vs' → Fi X.K w3 (call i ts' st3) (PQ X.K Q) (fun c d H' => W c d σ H') → G ws s3) →
      wpAny (model X.prog X.w) X.A (evalAll ((backToKw pos (keywordEach kws X.env)).map (·.2))) G X.xe s2 := fun {i rcv pins s2 H2 us vs w2 st2 ts G} I2 rr rv r2 er2 rt2 rl hl2 fin2 hq => by
    refine thn ((pk_all h kws hv).run pos pins s2 σ H2 (fun zs H3 => ∃ w3 s3 xs, SR X.K w3 s3 H3 ∧ Rp X.K w3 tx x ∧ RpL X.K w3 ts vs ∧ RpL X.K w3 xs zs ∧ xs.length = ks.length ∧ Fi X.K w3 ((match P.kw? i (args.length + 1) ks with
        | some out => call i (pick out ([tx] ++ ts ++ xs))
        | none => bad : M T) s3) (PQ X.K Q) (fun c d H' => W c d σ H')) I2
      ⟨w2, st2, env, r2, er2, fin2.bindE fun xs s3 w3 H3 e3 x3 r3 fin3 zs rz => ⟨w3, s3, xs, r3, rt2.mono x3, rl.mono x3, rz, by rw [args_len hv e3]; exact kwVs_len hks, fin3⟩⟩) fun ws s3 ⟨zs, H3, I3, rz, w3, st3, xs, r3, rt3, rl3, rx3, hx, fin3⟩ => ?_
    cases ho : P.kw? i (args.length + 1) ks with
    | none => rw [ho] at fin3; exact fin3.elim
    | some out =>
      rw [ho] at fin3
      have fin3 : Fi X.K w3 (call i (pick out ([tx] ++ ts ++ xs)) st3) (PQ X.K Q) (fun c d H' => W c d σ H') := fin3
      obtain ⟨e, he, ei, en, eks, eo⟩ := kw_in ho
      have q1 : (rcv :: us).length = e.n := by rw [List.length_cons, ← rv.length, ← rl3.length, hl2, en]
      have q2 : ws.length = e.ks.length := by rw [← rz.length, ← rx3.length, hx, eks]
      exact hq ws s3 H3 _ _ w3 st3 _ I3 (.inr ⟨e, he, ei, rcv :: us, ws, q1, q2, by rw [eks], rfl⟩) (vals_pick ((show Vals (x :: vs) (rcv :: us) from .cons rr rv).append rz) e.out) r3 (by rw [eo]; exact ((RpL.cons rt3 rl3).append rx3).pick out) fin3
  split at fin1
  · rename_i ri s2 e0
    split at e0
    · rename_i C ns vs es
      obtain ⟨a, dx, fs, ev', ea, en, q⟩ := see_insI r1 rt es
      subst ev'
      obtain rfl : u = Value.ref a := rx
      split at e0
      · rename_i c hC
        split at e0
        · cases e0
        · rename_i hne
          rw [Bool.or_eq_true, not_or] at hne
          have he : c.err = none := by
            cases e : c.err with
            | none => rfl
            | some _ => rw [e] at hne; exact absurd rfl hne.1
          have hno : fs.lookup m = none := lk_mem (by rw [en]; simpa using hne.2)
          split at e0
          · rename_i i hm
            cases e0
            have k := o.K.meth C c m i hC he hm
            refine getmeth_ok I1 ea (o.K.cl C c hC he) k hno ?_
            have fin1 : Fi X.K w1 (bnd (argsM ev args env) (fun ts => bnd (argsM ev (kwVs kws) env) fun zs => match P.kw? i (args.length + 1) ks with
              | some out => call i (pick out ([tx] ++ ts ++ zs))
              | none => bad) st1) (PQ X.K Q) (fun c d H' => W c d σ H') := fin1
            show wpAny _ _ (callWith pos (.ref (fA X.K P i)) [.ref a] _ _) _ _ _
            have fini : ∀ {s2 : Shared} {H2 : Hp} {us : List Value} {vs : List V} {w2 : Wd} {st2 : S} {ts : List T}, Inv X pins σ H2 s2 → Vals vs us → SR X.K w2 st2 H2 → EnR X.K w2 env σ → Rp X.K w2 tx (.ref a) → RpL X.K w2 ts vs → ts.length = args.length →
                Fi X.K w2 (bnd (argsM ev (kwVs kws) env) (fun zs => match P.kw? i (args.length + 1) ks with
                  | some out => call i (pick out ([tx] ++ ts ++ zs))
                  | none => bad) st2) (PQ X.K Q) (fun c d H' => W c d σ H') →
                wpAny (model X.prog X.w) X.A (evalAll ((backToKw pos (keywordEach kws X.env)).map (·.2))) (fun ws s3 => X.K.In s3.heap ∧ wpAny (model X.prog X.w) X.A (PySem.call (.ref (fA X.K P i)) ([.ref a] ++ us) (((backToKw pos (keywordEach kws X.env)).filterMap (·.1)).zip ws)) (EP X pins σ Q) X.xe s3) X.xe s2 := fun {s2 H2 us vs w2 st2 ts} I2 rv r2 er2 rt2 rl hl2 fin2 =>
              tailK I2 rfl rv r2 er2 rt2 rl hl2 fin2 fun ws s3 H3 us' vs' w3 st3 ts' I3 hA rv' r3 rl' fin3 => ⟨I3.kIn, by
                rw [k2]
                exact run_TK (a := ⟨.ref a :: us, ks.zip ws⟩) (hc.at i) hA hr o.g o.tk I3 rv' r3 rl' fin3⟩
            cases args with
            | nil =>
              refine PySem.W.callWith_KW0 (h₀ := X.base) (first := [.ref a]) I1.ok.mod.kin k.kp k1 ?_ (by rw [k3]; rfl)
              exact fini (us := []) (vs := []) (ts := []) I1 .nil r1 er1 rt RpL.nil rfl fin1
            | cons e es =>
              have hs' := hp
              rw [List.any_cons, Bool.or_eq_false_iff] at hs'
              refine PySem.W.callWith_KW (h₀ := X.base) (first := [.ref a]) I1.ok.mod.kin k.kp k1 (thn ((la_args h (e :: es)).run pos pins s1 σ H1 (fun vs H2 => ∃ w2 s2 ts, SR X.K w2 s2 H2 ∧ EnR X.K w2 env σ ∧ Rp X.K w2 tx (.ref a) ∧ RpL X.K w2 ts vs ∧ ts.length = (e :: es).length ∧ Fi X.K w2 (bnd (argsM ev (kwVs kws) env) (fun zs => match P.kw? i ((e :: es).length + 1) ks with
                  | some out => call i (pick out ([tx] ++ ts ++ zs))
                  | none => bad) s2) (PQ X.K Q) (fun c d H' => W c d σ H')) I1
                ⟨w1, st1, env, r1, er1, fin1.bindE fun ts s2 w2 H2 e2 x2 r2 fin2 vs rs => ⟨w2, s2, ts, r2, er1.mono x2, rt.mono x2, rs, args_len hp e2, fin2⟩⟩) fun us s2 ⟨vs, H2, I2, rv, w2, st2, ts, r2, er2, rt2, rl, hl2, fin2⟩ => ?_) (by rw [plain_any hp, k3]; rfl) (star_not hs'.1 _ _)
              exact fini I2 rv r2 er2 rt2 rl hl2 fin2
          · cases e0
      · cases e0
    · rename_i C es
      have ev' := see_glo r1 rt es
      subst ev'
      obtain rfl : u = Value.ref _ := rx
      split at e0
      · rename_i c hC
        split at e0
        · rename_i i hm
          cases e0
          obtain ⟨mc, p, rd, k⟩ := o.K.cm C c m i hC hm
          refine ClX.getmethcm_ok I1 rd k fun s2 I2 => ?_
          have fin1 : Fi X.K w1 (bnd (argsM ev args env) (fun ts => bnd (argsM ev (kwVs kws) env) fun zs => match P.kw? i (args.length + 1) ks with
              | some out => call i (pick out ([tx] ++ ts ++ zs))
              | none => bad) st1) (PQ X.K Q) (fun c d H' => W c d σ H') := fin1
          have fini : ∀ {s3 : Shared} {H2 : Hp} {us : List Value} {vs : List V} {w2 : Wd} {st2 : S} {ts : List T}, Inv X ((s1.heap.objs.size, PySem.W.methodObj (.ref (fA X.K P i)) (.ref (He.ga X.K C))) :: pins) σ H2 s3 → Vals vs us → SR X.K w2 st2 H2 → EnR X.K w2 env σ → Rp X.K w2 tx (.ref (He.ga X.K C)) → RpL X.K w2 ts vs → ts.length = args.length →
                Fi X.K w2 (bnd (argsM ev (kwVs kws) env) (fun zs => match P.kw? i (args.length + 1) ks with
                  | some out => call i (pick out ([tx] ++ ts ++ zs))
                  | none => bad) st2) (PQ X.K Q) (fun c d H' => W c d σ H') →
                wpAny (model X.prog X.w) X.A (evalAll ((backToKw pos (keywordEach kws X.env)).map (·.2))) (fun ws s3 => PySem.W.MethP X.K s1.heap.objs.size (fA X.K P i) (.ref (He.ga X.K C)) s3.heap ∧ wpAny (model X.prog X.w) X.A (PySem.call (.ref s1.heap.objs.size) ([] ++ us) (((backToKw pos (keywordEach kws X.env)).filterMap (·.1)).zip ws)) (EP X pins σ Q) X.xe s3) X.xe s3 := fun {s2 H2 us vs w2 st2 ts} I2 rv r2 er2 rt2 rl hl2 fin2 =>
              tailK I2 rfl rv r2 er2 rt2 rl hl2 fin2 fun ws s3 H3 us' vs' w3 st3 ts' I3 hA rv' r3 rl' fin3 => ⟨⟨ClX.pin_at I3, I3.kIn⟩, by
                rw [k2]
                have z : wpAny (model X.prog X.w) X.A (PySem.call (.ref s1.heap.objs.size) us (ks.zip ws)) (EP X ((s1.heap.objs.size, PySem.W.methodObj (.ref (fA X.K P i)) (.ref (He.ga X.K C))) :: pins) σ Q) X.xe s3 :=
                  wpAny_call (PySem.W.method_call (ClX.pin_at I3) (code_TK (a := ⟨.ref (He.ga X.K C) :: us, ks.zip ws⟩) (hc.at i) hA hr o.g o.tk I3 rv' r3 rl' fin3))
                exact thn z fun _ _ y => ClX.unpinE y⟩
          have hall := k1
          cases args with
          | nil =>
            exact PySem.W.callWith_of (P := PySem.W.MethP X.K s1.heap.objs.size (fA X.K P i) (.ref (He.ga X.K C))) (by rw [k3]; rfl) (PySem.W.keeps_M k.fi) (PyProof.Rows.evalArgs_kw2_nil hall (fini (us := []) (vs := []) (ts := []) I2 .nil r1 er1 rt RpL.nil rfl fin1))
          | cons e es =>
            have hs' := hp
            rw [List.any_cons, Bool.or_eq_false_iff] at hs'
            refine PySem.W.callWith_of (P := PySem.W.MethP X.K s1.heap.objs.size (fA X.K P i) (.ref (He.ga X.K C))) (by rw [plain_any hp, k3]; rfl) (PySem.W.keeps_M k.fi) (PyProof.Rows.evalArgs_kw2 hall (thn ((la_args h (e :: es)).run pos _ s2 σ H1 (fun vs H2 => ∃ w2 s2 ts, SR X.K w2 s2 H2 ∧ EnR X.K w2 env σ ∧ Rp X.K w2 tx (.ref (He.ga X.K C)) ∧ RpL X.K w2 ts vs ∧ ts.length = (e :: es).length ∧ Fi X.K w2 (bnd (argsM ev (kwVs kws) env) (fun zs => match P.kw? i ((e :: es).length + 1) ks with
                  | some out => call i (pick out ([tx] ++ ts ++ zs))
                  | none => bad) s2) (PQ X.K Q) (fun c d H' => W c d σ H')) I2
              ⟨w1, st1, env, r1, er1, fin1.bindE fun ts s2 w2 H2 e2 x2 r2 fin2 vs rs => ⟨w2, s2, ts, r2, er1.mono x2, rt.mono x2, rs, args_len hp e2, fin2⟩⟩) fun us s3 ⟨vs, H2, I3, rv, w2, st2, ts, r2, er2, rt2, rl, hl2, fin2⟩ => fini I3 rv r2 er2 rt2 rl hl2 fin2) (star_not hs'.1 _ _))
        · cases e0
      · cases e0
    · cases e0
  · rename_i e0
    split at e0
    · split at e0
      · split at e0
        · cases e0
        · split at e0 <;> cases e0
      · cases e0
    · split at e0
      · split at e0 <;> cases e0
      · cases e0
    · cases e0
  · exact fin1.elim
/-! ### displays of dicts -/
theorem pe_cst {e : Expr} {t : T} (h : cstT e = some t) : ∃ v, PE X e (tC v) ∧ ∀ w, Rp X.K w t v := by
  unfold cstT at h
  split at h
  · cases h; exact ⟨_, pe_int, fun _ => rfl⟩
  · cases h; exact ⟨_, pe_bl, fun _ => rfl⟩
  · cases h; exact ⟨_, pe_str, fun _ => rfl⟩
  · cases h; exact ⟨_, pe_non, fun _ => rfl⟩
  · cases h
theorem pe_cstK {e : Option Expr} {k : Key} (h : cstK e = some k) : ∃ e', e = some e' ∧ PE X e' (tC (kV k)) := by
  unfold cstK at h
  split at h
  · cases h; exact ⟨_, rfl, pe_int⟩
  · cases h; exact ⟨_, rfl, pe_str⟩
  · cases h
theorem dict_all {pos : Pos} : ∀ {keys : List (Option Expr)} {vals : List Expr} {ks : List Key} {ts : List T}, dictC keys vals = some (ks, ts) →
    ∃ (kvs : List (Key × V)) (trs : List (TE × TE)), PPs X pos keys vals trs ∧ kvs.map (·.1) = ks ∧ (∀ w, RpL X.K w ts (kvs.map (·.2))) ∧ ks.Nodup ∧ keys.all (·.isSome) = true ∧ keys.length = vals.length ∧ kvs.length = keys.length ∧
      ∀ σ H Q, Q (kvs.map fun kv => (kV kv.1, kv.2)) H → tPairs trs σ H Q
  | [], [], ks, ts, h => by
    cases h
    exact ⟨[], [], pps_nil, rfl, fun _ => rfl, List.nodup_nil, rfl, rfl, rfl, fun σ H Q q => q⟩
  | k :: keys, v :: vals, ks, ts, h => by
    have h : (match cstK k, cstT v, dictC keys vals with
      | some a, some t, some (as, ts) => if as.all (fun b => decide (b ≠ a)) then some (a :: as, t :: ts) else none
      | _, _, _ => none) = some (ks, ts) := h
    split at h
    · rename_i a t as ts' e1 e2 e3
      split at h
      · rename_i hn
        cases h
        obtain ⟨k', ek, pk⟩ := pe_cstK (X := X) e1
        obtain ⟨v', pv, rv⟩ := pe_cst (X := X) e2
        obtain ⟨kvs, trs, h1, h2, h3, h4, h5, h6, h7, h8⟩ := dict_all (pos := pos) e3
        subst ek
        refine ⟨(a, v') :: kvs, (tC (kV a), tC v') :: trs, pps_cons pk pv h1, by rw [List.map_cons, h2], fun w => ⟨v', _, rfl, rv w, h3 w⟩, List.nodup_cons.mpr ⟨fun hm => ?_, h4⟩, by rw [List.all_cons, h5]; rfl, by rw [List.length_cons, List.length_cons, h6], by rw [List.length_cons, List.length_cons, h7], fun σ H Q q => ?_⟩
        · exact of_decide_eq_true (List.all_eq_true.mp hn a hm) rfl
        · exact h8 σ H _ q
      · cases h
    · cases h
  | [], _ :: _, _, _, h => by cases h
  | _ :: _, [], _, _, h => by cases h
theorem merge_nd : ∀ {more kvs : List (Key × V)}, (kvs.map (·.1) ++ more.map (·.1)).Nodup → mergeK kvs more = kvs ++ more
  | [], kvs, _ => (List.append_nil _).symm
  | p :: r, kvs, h => by
    have hp : p.1 ∉ kvs.map (·.1) := fun hm => by
      have z := (List.nodup_append.mp h).2.2 _ hm p.1 (by simp)
      exact z rfl
    have e : putK kvs p.1 p.2 = kvs ++ [p] := by
      unfold putK
      rw [if_neg]
      intro z
      obtain ⟨q, hq, e⟩ := List.any_eq_true.mp z
      exact hp (List.mem_map.mpr ⟨q, hq, of_decide_eq_true e⟩)
    show mergeK (putK kvs p.1 p.2) r = _
    rw [e, merge_nd (by simpa using h)]
    simp
theorem le_dict {keys : List (Option Expr)} {vals : List Expr} {pos : Pos} : PE X (.Dict keys vals pos) (liftE X.K W fun _ => dictE keys vals) := by
  unfold dictE
  split
  · rename_i h15
    cases e : dictC keys vals with
    | none => exact le_bad
    | some kt =>
      obtain ⟨ks, ts⟩ := kt
      obtain ⟨kvs, trs, h1, h2, h3, h4, h5, h6, h7, h8⟩ := dict_all (X := X) (pos := pos) e
      have done : ∀ {σ : L2.St} {H : Hp} {Q : VK} {w : Wd} {st : S}, SR X.K w st H → Fi X.K w (.ok (.dct ks ts) st : Res T) (PQ X.K Q) (fun c d H' => W c d σ H') → ∀ p, H p = none → Q (.ref p) (upd H p (.dK kvs)) := fun {σ H Q w st} r fin p hp => by
        obtain ⟨ex, r'⟩ := r.laid (o := .dK kvs) hp
        exact fin _ _ ex r' _ ⟨p, kvs, rfl, upd_same, h2, h3 _⟩
      cases keys with
      | nil =>
        cases vals with
        | cons _ _ => cases h6
        | nil =>
          have hk : kvs = [] := List.length_eq_zero_iff.mp h7
          subst hk
          exact PE.imp pe_dnewK fun σ H Q ⟨w, st, env, r, er, fin⟩ p hp => done r fin p hp
      | cons k keys =>
        refine PE.imp (pe_disp h1 h5 h6 (by simp) h15) fun σ H Q ⟨w, st, env, r, er, fin⟩ p hp => h8 σ _ _ ⟨upd_same, kvs, rfl, by rw [h7]; exact h15, ?_⟩
        have e1 : mergeK [] kvs = kvs := by rw [merge_nd (by simpa [h2] using h4)]; rfl
        have e2 : upd (upd H p (.dK [])) p (.dK (mergeK [] kvs)) = upd H p (.dK kvs) := by
          rw [e1]
          funext b
          by_cases e : b = p
          · subst e; rw [upd_same, upd_same]
          · rw [upd_ne e, upd_ne e, upd_ne e]
        rw [e2]
        exact done r fin p hp
  · exact le_bad
end
end G
-- GtS11
namespace G
open PySem L2
/-! ### every expression, every test -/
def OpOk (P : Pg) (call : CallM) (opc : CmpOp → T → T → M T) (d : Nat) : Prop := ∀ (X : Cx) (fc : FC) (W : WX), OkX P fc X W → CallOk P X call d → fc.dep = d + 1 → ∀ op, OpR X (compareOp op) (liftOp X.K (opc op))
section
variable {P : Pg} {call : CallM} {opc : CmpOp → T → T → M T} {d : Nat}
theorem step_ix {ev : Ev} {fc : FC} {o i : Expr} {pos : Pos} (h : isSlice i = false) : stepE P call opc ev fc (.Subscript o i pos) = fun env => bnd (ev.e fc o env) fun x => bnd (ev.e fc i env) fun y => ixO P call x y := by
  cases i <;> first | rfl | cases h
theorem stepE_ok {ev : Ev} {fc : FC} {X : Cx} {W : WX} (o : OkX P fc X W) (hc : CallOk P X call d) (hd : fc.dep = d + 1) (h2 : 1 ≤ d) (ho : OpOk P call opc d)
    (he : ∀ e, PE X e (liftE X.K W (ev.e fc e))) (ht : ∀ e, PT X e (liftT X.K W (ev.t fc e)))
    (hin : ∀ scope X', OkX P (fc.inner scope) X' (fun _ _ _ _ => False) → X'.prog = X.prog → X'.w = X.w → X'.K = X.K → X'.mg = X.mg → X'.base = X.base →
      (∀ e, PE X' e (liftE X'.K (fun _ _ _ _ => False) (ev.e (fc.inner scope) e))) ∧ ∀ e, PT X' e (liftT X'.K (fun _ _ _ _ => False) (ev.t (fc.inner scope) e))) : ∀ e, PE X e (liftE X.K W (stepE P call opc ev fc e)) := fun e => by
  have bd : ∀ e, (∀ env, stepE P call opc ev fc e env = bad) → PE X e (liftE X.K W (stepE P call opc ev fc e)) := fun e q => lE le_bad (funext q)
  cases e with
  | Constant c j pos => exact lE le_constant (funext fun env => rfl)
  | Name x pos => exact lE (le_name o) (funext fun env => rfl)
  | BinOp a op b pos => exact lE (le_bin o hc hd (he a) (he b)) (funext fun env => rfl)
  | UnaryOp op a pos =>
    cases op with
    | Not => exact lE (le_not (he a)) (funext fun env => rfl)
    | USub => exact lE (le_negO o hc hd (he a)) (funext fun env => rfl)
    | _ => exact bd _ fun env => rfl
  | BoolOp op vs pos => exact lE (le_boolE he vs) (funext fun env => rfl)
  | Compare a ops bs pos => exact lE (le_cmp (ho X fc W o hc hd) he ops bs) (funext fun env => rfl)
  | IfExp c a b pos => exact lE (le_if (ht c) (he a) (he b)) (funext fun env => rfl)
  | Dict keys vals pos => exact lE le_dict (funext fun env => rfl)
  | List es pos => exact lE (le_lst (la_args he es)) (funext fun env => rfl)
  | Tuple es k pos => exact lE (le_tup (la_args he es)) (funext fun env => rfl)
  | Subscript a i pos =>
    cases hi : isSlice i with
    | false => exact lE (le_ixO o hc hd (he a) (he i) hi) (step_ix hi)
    | true =>
      cases i with
      | Slice lo hi' st p =>
        cases st with
        | none => exact lE (le_slice (b := P.box? pos) he) (funext fun env => rfl)
        | some st =>
          cases lo with
          | some _ =>
            refine bd _ fun env => ?_
            unfold stepE
            split <;> first | rfl | (rename_i heq; cases heq; rfl) | simp_all [isSlice]
          | none =>
            cases hi' with
            | some _ =>
              refine bd _ fun env => ?_
              unfold stepE
              split <;> first | rfl | (rename_i heq; cases heq; rfl) | simp_all [isSlice]
            | none =>
              cases st with
              | UnaryOp uop c p2 =>
                cases uop with
                | USub =>
                  cases c with
                  | Constant c k p3 =>
                    cases c with
                    | int n =>
                      by_cases hn : n = 1
                      · subst hn
                        exact lE (le_rev (he a)) (funext fun env => rfl)
                      · exact bd _ fun env => if_neg hn
                    | _ => exact bd _ fun env => rfl
                  | _ => exact bd _ fun env => rfl
                | _ => exact bd _ fun env => rfl
              | _ => exact bd _ fun env => rfl
      | _ => cases hi
  | Attribute a f pos =>
    cases hb : baseOk a with
    | true => exact lE (le_attr o hc hd hb (he a)) (funext fun env => if_pos hb)
    | false => exact bd _ fun env => if_neg (by rw [hb]; exact Bool.false_ne_true)
  | Call f args kws pos =>
    cases f with
    | Name f p =>
      cases kws with
      | nil => exact lE (le_callE o hc hd (by omega) he) (funext fun env => rfl)
      | cons k kws => exact lE (le_callK o hc hd (by omega) he) (funext fun env => rfl)
    | Attribute ob m apos =>
      cases kws with
      | cons k kws =>
        cases hk : okCallK ob apos pos args (k :: kws) with
        | false => exact bd _ fun env => if_neg (by rw [hk]; exact Bool.false_ne_true)
        | true => exact lE (le_umethK o hc hd he hk) (funext fun env => if_pos hk)
      | nil =>
        cases hk : okCall ob apos pos args with
        | false => exact bd _ fun env => if_neg (by rw [hk]; exact Bool.false_ne_true)
        | true =>
          have e0 : stepE P call opc ev fc (.Call (.Attribute ob m apos) args [] pos) = methE P call (ev.e fc) ob m args := funext fun env => if_pos hk
          rw [e0]
          cases hm : bmNames.contains m with
          | false => exact lE (le_umeth o hc hd he hk) (funext fun env => by unfold methE; rw [hm]; rfl)
          | true =>
            have hk' := hk
            unfold okCall at hk'
            simp only [Bool.and_eq_true, Bool.not_eq_true', decide_eq_true_eq] at hk'
            obtain ⟨⟨hb, hl⟩, hp, hn⟩ := hk'
            cases args with
            | nil => exact lE (le_meth0 (he ob) (base_ok hb _ _ _) hl) (funext fun env => by unfold methE; rw [hm]; rfl)
            | cons a as => exact lE (le_meth (he ob) (la_args he (a :: as)) (base_ok hb _ _ _) hl (callChk_of hp (by omega) _ _)) (funext fun env => by unfold methE; rw [hm]; rfl)
    | _ => exact bd _ fun env => rfl
  | ListComp elt gens scope pos =>
    match gens with
    | [] => exact bd _ fun env => rfl
    | _ :: _ :: _ =>
      refine bd _ fun env => ?_
      unfold stepE
      split <;> first | rfl | simp_all
    | [⟨tg, iter, ifs, n⟩] =>
      by_cases hn : n = 0
      · subst hn
        exact lE (le_lc (b := P.box? pos) o he (hin scope)) (funext fun env => rfl)
      · refine bd _ fun env => ?_
        unfold stepE
        split <;> first | rfl | (rename_i h; exact absurd rfl hn) | simp_all
  | FormattedValue a c spec pos =>
    cases spec with
    | some _ => exact bd _ fun env => rfl
    | none =>
      by_cases hn : c = -1
      · subst hn
        exact lE (le_fmt (he a)) (funext fun env => rfl)
      · exact bd _ fun env => if_neg hn
  | JoinedStr vs pos =>
    match vs with
    | [] => exact bd _ fun env => rfl
    | [a] => exact lE (pe_joined1 (he a)) (funext fun env => rfl)
    | a :: b :: r => exact lE (le_joined he) (funext fun env => rfl)
  | _ => exact bd _ fun env => rfl
theorem stepT_ok {ev : Ev} {fc : FC} {X : Cx} {W : WX} (o : OkX P fc X W) (hc : CallOk P X call d) (hd : fc.dep = d + 1) (ho : OpOk P call opc d)
    (he : ∀ e, PE X e (liftE X.K W (ev.e fc e))) (ht : ∀ e, PT X e (liftT X.K W (ev.t fc e))) : ∀ e, PT X e (liftT X.K W (stepT opc ev fc e)) := fun e => by
  cases e with
  | UnaryOp op a pos =>
    cases op with
    | Not => exact lT (lt_not (ht a)) (funext fun env => rfl)
    | _ => exact lT (lt_truth (he _) (fun _ => rfl)) (funext fun env => rfl)
  | BoolOp op vs pos => exact lT (lw_boolT ht vs).pt (funext fun env => rfl)
  | IfExp c a b pos => exact lT (lt_if (ht c) (ht a) (ht b)) (funext fun env => rfl)
  | Compare a ops bs pos => exact lT (lt_cmp (ho X fc W o hc hd) he ops bs) (funext fun env => rfl)
  | _ => exact lT (lt_truth (he _) (fun _ => rfl)) (funext fun env => rfl)
theorem evs_ok (h1d : 1 ≤ d) (ho : OpOk P call opc d) : ∀ (n : Nat) (fc : FC) (X : Cx) (W : WX), OkX P fc X W → CallOk P X call d → fc.dep = d + 1 →
    (∀ e, PE X e (liftE X.K W ((evs P call opc n).e fc e))) ∧ ∀ e, PT X e (liftT X.K W ((evs P call opc n).t fc e))
  | 0, fc, X, W, _, _, _ => ⟨fun e => le_bad, fun e => lt_bad⟩
  | n + 1, fc, X, W, o, hc, hd => by
    obtain ⟨h1, h2⟩ := evs_ok h1d ho n fc X W o hc hd
    refine ⟨stepE_ok o hc hd h1d ho h1 h2 fun scope X' o' p1 p2 p3 p4 p5 => ?_, stepT_ok o hc hd ho h1 h2⟩
    have hc' : CallOk P X' call d := by
      unfold CallOk
      rw [p1, p2, p3, p4, p5]
      exact hc
    exact evs_ok h1d ho n (fc.inner scope) X' _ o' hc' hd
end
end G
-- GtS12
namespace G
open PySem L2
/-! ### statements -/
def FiS (K : PySem.W.Frag) (w : Wd) (rs : RS) (D : Ends) (W : WX) : Prop := match rs with
  | .nx env s => ∀ w' H' σ', Ext w w' → SR K w' s H' → EnR K w' env σ' → D.nx σ' H'
  | .bk env s => ∀ w' H' σ', Ext w w' → SR K w' s H' → EnR K w' env σ' → D.bk σ' H'
  | .ct env s => ∀ w' H' σ', Ext w w' → SR K w' s H' → EnR K w' env σ' → D.ct σ' H'
  | .rt t s => ∀ w' H' v, Ext w w' → SR K w' s H' → Rp K w' t v → D.rt v H'
  | .ex C ns ts env s => ∀ w' H' σ' d fs, Ext w w' → SR K w' s H' → EnR K w' env σ' → w'.I d = some (.xd fs) → fs.map (·.1) = ns → RpL K w' ts (fs.map (·.2)) → W (.ref (He.ga K C)) (some d) σ' H'
  | .bad => False
def liftS (K : PySem.W.Frag) (W : WX) (f : MS) : TS := fun D σ H => ∃ w s env, SR K w s H ∧ EnR K w env σ ∧ FiS K w (f env s) D W
section
variable {K : PySem.W.Frag} {w w1 : Wd} {rs : RS} {D D1 : Ends} {W : WX}
theorem FiS.mono (x : Ext w w1) (h : FiS K w rs D W) : FiS K w1 rs D W := by
  cases rs with
  | nx env s => exact fun w' H' σ' x1 r e => h w' H' σ' (x.trans x1) r e
  | bk env s => exact fun w' H' σ' x1 r e => h w' H' σ' (x.trans x1) r e
  | ct env s => exact fun w' H' σ' x1 r e => h w' H' σ' (x.trans x1) r e
  | rt t s => exact fun w' H' v x1 r e => h w' H' v (x.trans x1) r e
  | ex C ns ts env s => exact fun w' H' σ' d fs x1 r e a b c => h w' H' σ' d fs (x.trans x1) r e a b c
  | bad => exact h
theorem FiS.run {α : Type} {m : M α} {env : En} {s : S} {k : α → S → RS} {σ : L2.St} (h : FiS K w (runE m env s k) D W) (er : EnR K w env σ) : Fi K w (m s) (fun a s1 w1 H1 => FiS K w1 (k a s1) D W) (fun c d H' => W c d σ H') := by
  unfold runE at h
  cases e : m s with
  | ok a s1 =>
    rw [e] at h
    exact fun w1 H1 x1 r1 => FiS.mono x1 h
  | exc C ns ts s1 =>
    rw [e] at h
    exact fun w1 H1 d fs x1 r1 a b c => h w1 H1 σ d fs x1 r1 (er.mono x1) a b c
  | bad =>
    rw [e] at h
    exact h
end
structure OkS (P : Pg) (fc : FC) (X : Cx) (W : WX) : Prop extends OkX P fc X W where
  own : PassesOwn (model X.prog X.w) X.A X.env X.xe
  stk : X.stack = X.env :: X.outer
  frm : X.env.frame = some X.env.locals
section
variable {P : Pg} {fc : FC} {X : Cx} {W : WX} {call : CallM} {d : Nat}
theorem ls_bad {st : Stmt} : PS X st (liftS X.K W fun _ _ => .bad) := ⟨fun pins s σ H D I ⟨w, st, env, r, er, fin⟩ => fin.elim⟩
theorem lS {st : Stmt} {f g : MS} (h : PS X st (liftS X.K W f)) (hf : g = f) : PS X st (liftS X.K W g) := by rw [hf]; exact h
theorem ls_nil : PSs X [] (liftS X.K W fun env s => .nx env s) := PSs.imp pss_nil fun D σ H ⟨w, st, env, r, er, fin⟩ => fin w H σ (Ext.refl w) r er
theorem ls_cons {st : Stmt} {rest : List Stmt} {f g : MS} (h : PS X st (liftS X.K W f)) (h2 : PSs X rest (liftS X.K W g)) : PSs X (st :: rest) (liftS X.K W (seqS f g)) :=
  PSs.imp (pss_cons h h2) fun D σ H ⟨w, st, env, r, er, fin⟩ => ⟨w, st, env, r, er, by
    unfold seqS at fin
    cases e : f env st with
    | nx env' s' =>
      rw [e] at fin
      exact fun w1 H1 σ1 x1 r1 er1 => ⟨w1, s', env', r1, er1, FiS.mono x1 fin⟩
    | bk env' s' => rw [e] at fin; exact fin
    | ct env' s' => rw [e] at fin; exact fin
    | rt t s' => rw [e] at fin; exact fin
    | ex C ns ts env' s' => rw [e] at fin; exact fin
    | bad => rw [e] at fin; exact fin⟩
theorem ls_pass {pos : Pos} : PS X (.Pass pos) (liftS X.K W fun env s => .nx env s) := PS.imp ps_pass fun D σ H ⟨w, st, env, r, er, fin⟩ => fin w H σ (Ext.refl w) r er
theorem ls_break {pos : Pos} : PS X (.Break pos) (liftS X.K W fun env s => .bk env s) := PS.imp ps_break fun D σ H ⟨w, st, env, r, er, fin⟩ => fin w H σ (Ext.refl w) r er
theorem ls_cont {pos : Pos} : PS X (.Continue pos) (liftS X.K W fun env s => .ct env s) := PS.imp ps_continue fun D σ H ⟨w, st, env, r, er, fin⟩ => fin w H σ (Ext.refl w) r er
theorem noSwap {e : Expr} (h : isComp e = false) (t : Option Expr) (n : Nat) (env : PySem.Env) : swapsWith e t n env = pure false := by
  cases e <;> first | rfl | cases h
theorem ls_expr {e : Expr} {fe : En → M T} {pos : Pos} (h : PE X e (liftE X.K W fe)) (hs : isComp e = false) : PS X (.Expr e pos) (liftS X.K W fun env s => runE (fe env) env s fun _ s' => .nx env s') :=
  PS.imp (ps_expr h (noSwap hs _ _ _)) fun D σ H ⟨w, st, env, r, er, fin⟩ => ⟨w, st, env, r, er, Fi.mono (Ext.refl w) (fin.run er) (fun a s1 w1 H1 x1 r1 z v rv => z w1 H1 σ (Ext.refl w1) r1 (er.mono x1)) fun _ _ _ z => z⟩
theorem frz_ok {b : Bool} {t : T} {w : Wd} {st : S} {H : Hp} {v : V} {Q : VK} {E : XK} (r : SR X.K w st H) (rt : Rp X.K w t v) (fin : Fi X.K w (frzM b t st) (PQ X.K Q) E) : Q v H := by
  unfold frzM at fin
  split at fin
  · rename_i n
    split at fin
    · rename_i xs eg
      obtain ⟨_, ⟨vs, p, q⟩, _⟩ := r.box _ _ eg
      obtain ⟨ex, r'⟩ := r.froze eg p
      exact fin _ H ex r' v ⟨_, vs, rt.2, upd_same, q.mono ex⟩
    · rename_i C ns us eg
      obtain ⟨_, ⟨dx, fs, p1, p2, p3⟩, _⟩ := r.box _ _ eg
      obtain ⟨ex, r'⟩ := r.froze eg p1
      exact fin _ H ex r' v ⟨_, dx, fs, rt.2, upd_same, p2, p3.mono ex⟩
    · exact fin.elim
  · exact Fi.ret fin r v rt
theorem ls_ret {e : Expr} {fe : En → M T} {pos : Pos} {b : Bool} (h : PE X e (liftE X.K W fe)) : PS X (.Return (some e) pos) (liftS X.K W fun env s => runE (bnd (fe env) (frzM b)) env s fun v s' => .rt v s') :=
  PS.imp (ps_ret h) fun D σ H ⟨w, st, env, r, er, fin⟩ => ⟨w, st, env, r, er, by
    have f1 := Fi.mono (P1 := PQ X.K D.rt) (E1 := fun c d H' => W c d σ H') (Ext.refl w) (fin.run er) (fun a s1 w1 H1 x1 r1 z v rv => z w1 H1 v (Ext.refl w1) r1 rv) fun _ _ _ z => z
    exact f1.bind fun t s1 w1 H1 x1 r1 fin1 v rv => frz_ok r1 rv fin1⟩
theorem ls_retN {pos : Pos} : PS X (.Return none pos) (liftS X.K W fun _ s => .rt .non s) := PS.imp ps_retN fun D σ H ⟨w, st, env, r, er, fin⟩ => fin w H .non (Ext.refl w) r rfl
theorem ls_if {c : Expr} {a b : List Stmt} {fc : En → M Bool} {fa fb : MS} {pos : Pos} (hc : PT X c (liftT X.K W fc)) (ha : PSs X a (liftS X.K W fa)) (hb : PSs X b (liftS X.K W fb)) :
    PS X (.If c a b pos) (liftS X.K W fun env s => runE (fc env) env s fun t s' => if t then fa env s' else fb env s') :=
  PS.imp (ps_if hc ha hb) fun D σ H ⟨w, st, env, r, er, fin⟩ => ⟨w, st, env, r, er, Fi.mono (Ext.refl w) (fin.run er) (fun t s1 w1 H1 x1 r1 z => by
    cases t with
    | true => exact ⟨w1, s1, env, r1, er.mono x1, z⟩
    | false => exact ⟨w1, s1, env, r1, er.mono x1, z⟩) fun _ _ _ z => z⟩
theorem ls_while {c : Expr} {body : List Stmt} {fc : En → M Bool} {fb : MS} {pos : Pos} {n : Nat} (hp : PassesOwn (model X.prog X.w) X.A X.env X.xe) (hc : PT X c (liftT X.K W fc)) (hb : PSs X body (liftS X.K W fb)) :
    PS X (.While c body [] pos) (liftS X.K W (whileS fc fb n)) :=
  PS.imp (ps_while hp hc hb) fun D σ H ⟨w, st, env, r, er, fin⟩ => by
    refine ⟨fun m σ H => ∃ w st env, SR X.K w st H ∧ EnR X.K w env σ ∧ FiS X.K w (whileS fc fb m env st) D W, ⟨n, w, st, env, r, er, fin⟩, ?_⟩
    rintro m σ1 H1 ⟨w1, st1, env1, r1, er1, fin1⟩
    cases m with
    | zero => exact fin1.elim
    | succ m =>
      have fin1 : FiS X.K w1 (runE (fc env1) env1 st1 fun b s' => if b then match fb env1 s' with
        | .nx e2 s2 => whileS fc fb m e2 s2
        | .ct e2 s2 => whileS fc fb m e2 s2
        | .bk e2 s2 => .nx e2 s2
        | r => r
        else .nx env1 s') D W := fin1
      refine ⟨w1, st1, env1, r1, er1, Fi.mono (Ext.refl w1) (fin1.run er1) (fun b s2 w2 H2 x2 r2 z => ?_) fun _ _ _ z => z⟩
      cases b with
      | false => exact z w2 H2 σ1 (Ext.refl w2) r2 (er1.mono x2)
      | true =>
        have z : FiS X.K w2 (match fb env1 s2 with
          | .nx e2 s2 => whileS fc fb m e2 s2
          | .ct e2 s2 => whileS fc fb m e2 s2
          | .bk e2 s2 => .nx e2 s2
          | r => r) D W := z
        refine ⟨fun σ H => ∃ w st env, SR X.K w st H ∧ EnR X.K w env σ ∧ FiS X.K w (whileS fc fb m env st) D W, fun σ' H' q => ⟨m, Nat.lt_succ_self m, q⟩, w2, s2, env1, r2, er1.mono x2, ?_⟩
        cases e : fb env1 s2 with
        | nx e2 s3 =>
          rw [e] at z
          exact fun w3 H3 σ3 x3 r3 er3 => ⟨w3, s3, e2, r3, er3, FiS.mono x3 z⟩
        | ct e2 s3 =>
          rw [e] at z
          exact fun w3 H3 σ3 x3 r3 er3 => ⟨w3, s3, e2, r3, er3, FiS.mono x3 z⟩
        | bk e2 s3 => rw [e] at z; exact z
        | rt t s3 => rw [e] at z; exact z
        | ex C ns ts e2 s3 => rw [e] at z; exact z
        | bad => rw [e] at z; exact z
theorem ls_for {tg iter : Expr} {body : List Stmt} {fi : En → M (List T)} {fb : MS} {pos : Pos} (o : OkS P fc X W) (hi : PI X tg iter (liftI X.K W fi)) (hb : PSs X body (liftS X.K W fb)) (hs : isSetE iter = false) :
    PS X (.For tg iter body [] pos) (liftS X.K W fun env s => runE (fi env) env s fun ts s' => forS (fun s t env => bindT fc s tg t env) fb ts env s') :=
  PS.imp (ps_for o.own o.calm hi (lg_bind o.toOkX tg) hb (fold_set hs _)) fun D σ H ⟨w, st, env, r, er, fin⟩ => by
    refine ⟨w, st, env, r, er, Fi.mono (Ext.refl w) (fin.run er) (fun ts s1 w1 H1 x1 r1 z J G => ?_) fun _ _ _ z => z⟩
    refine ⟨fun i m σ' H' => m = ts.length - i ∧ i ≤ ts.length ∧ ∃ w' st' env', Ext w1 w' ∧ SR X.K w' st' H' ∧ EnR X.K w' env' σ' ∧ FiS X.K w' (forS (fun s t env => bindT fc s tg t env) fb (ts.drop i) env' st') D W,
      ⟨ts.length, rfl, Nat.zero_le _, w1, s1, env, Ext.refl _, r1, er.mono x1, z⟩, ?_⟩
    rintro i m σ' H' ⟨em, hi, w', st', env', x', r', er', f⟩
    have g := G w' st' H' x'.x0 r'
    by_cases hlt : i < ts.length
    · obtain ⟨t, ht⟩ : ∃ t, ts[i]? = some t := ⟨ts[i], by simp [hlt]⟩
      obtain ⟨go, yld⟩ := g.2 i t ht
      have hdrop : ts.drop i = t :: ts.drop (i + 1) := by
        rw [List.drop_eq_getElem_cons hlt]
        congr 1
        have := List.getElem?_eq_getElem hlt
        rw [ht] at this
        exact (Option.some.inj this).symm
      rw [hdrop] at f
      refine .inr ⟨go, fun σ2 H2 => ∃ w' st' env', Ext w1 w' ∧ SR X.K w' st' H2 ∧ EnR X.K w' env' σ2 ∧ FiS X.K w' (forS (fun s t env => bindT fc s tg t env) fb (ts.drop (i + 1)) env' st') D W, fun σ2 H2 q => ⟨ts.length - (i + 1), by omega, rfl, hlt, q⟩, fun x H2 hy => ?_⟩
      obtain ⟨w2, x2, r2, rx⟩ := yld x H2 hy
      have f : FiS X.K w' (match bindT fc st' tg t env' with
        | some env' => match fb env' st' with
          | .nx e2 s2 => forS (fun s t env => bindT fc s tg t env) fb (ts.drop (i + 1)) e2 s2
          | .ct e2 s2 => forS (fun s t env => bindT fc s tg t env) fb (ts.drop (i + 1)) e2 s2
          | .bk e2 s2 => .nx e2 s2
          | r => r
        | none => .bad) D W := f
      cases eb : bindT fc st' tg t env' with
      | none => rw [eb] at f; exact f.elim
      | some env2 =>
        rw [eb] at f
        have f : FiS X.K w' (match fb env2 st' with
          | .nx e2 s2 => forS (fun s t env => bindT fc s tg t env) fb (ts.drop (i + 1)) e2 s2
          | .ct e2 s2 => forS (fun s t env => bindT fc s tg t env) fb (ts.drop (i + 1)) e2 s2
          | .bk e2 s2 => .nx e2 s2
          | r => r) D W := f
        refine ⟨w2, st', env', t, env2, r2, er'.mono x2, rx, eb, fun σ2 er2 off => ⟨w2, st', env2, r2, er2, ?_⟩⟩
        have f2 := FiS.mono x2 f
        have xx := x'.trans x2
        cases e : fb env2 st' with
        | nx e2 s3 =>
          rw [e] at f2
          exact fun w3 H3 σ3 x3 r3 er3 => ⟨w3, s3, e2, xx.trans x3, r3, er3, FiS.mono x3 f2⟩
        | ct e2 s3 =>
          rw [e] at f2
          exact fun w3 H3 σ3 x3 r3 er3 => ⟨w3, s3, e2, xx.trans x3, r3, er3, FiS.mono x3 f2⟩
        | bk e2 s3 => rw [e] at f2; exact f2
        | rt t s3 => rw [e] at f2; exact f2
        | ex C ns us e2 s3 => rw [e] at f2; exact f2
        | bad => rw [e] at f2; exact f2
    · have hdrop : ts.drop i = [] := List.drop_eq_nil_of_le (by omega)
      rw [hdrop] at f
      exact .inl ⟨g.1 i (by omega), f w' H' σ' (Ext.refl _) r' er'⟩
end
end G
-- GtS13
namespace G
open PySem L2
/-! ### a field stored -/
theorem putF_keys (f : Str) (y : V) : ∀ fs : List (Str × V), (putF f y fs).map (·.1) = putNs f (fs.map (·.1))
  | [] => rfl
  | (n, x) :: r => by
    show (if n = f then (n, y) :: r else (n, x) :: putF f y r).map (·.1) = if n = f then n :: r.map (·.1) else n :: putNs f (r.map (·.1))
    by_cases h : n = f
    · rw [if_pos h, if_pos h]; rfl
    · rw [if_neg h, if_neg h, List.map_cons, putF_keys f y r]
theorem putF_vals {K : PySem.W.Frag} {w : Wd} {f : Str} {y : V} {t : T} (rt : Rp K w t y) : ∀ {fs : List (Str × V)} {ts : List T}, RpL K w ts (fs.map (·.2)) → RpL K w (putVs f t (fs.map (·.1)) ts) ((putF f y fs).map (·.2))
  | [], ts, q => ⟨y, [], rfl, rt, rfl⟩
  | (n, x) :: r, [], q => by
    have q : _ = _ := q
    cases q
  | (n, x) :: r, u :: ts, ⟨v, ws, e, a, b⟩ => by
    cases e
    show RpL K w (if n = f then t :: ts else u :: putVs f t (r.map (·.1)) ts) ((if n = f then (n, y) :: r else (n, x) :: putF f y r).map (·.2))
    by_cases h : n = f
    · rw [if_pos h, if_pos h]; exact ⟨y, _, rfl, rt, b⟩
    · rw [if_neg h, if_neg h]; exact ⟨x, _, rfl, a, putF_vals rt b⟩
section
variable {P : Pg} {fc : FC} {X : Cx} {W : WX} {call : CallM} {d : Nat}
theorem ls_fld (o : OkX P fc X W) {ob e : Expr} {f : Str} {p pos : Pos} {fe fo : En → M T} (he : PE X e (liftE X.K W fe)) (ho : PE X ob (liftE X.K W fo)) (hs : isComp e = false) :
    PS X (.Assign [.Attribute ob f p] e pos) (liftS X.K W fun env s => runE (fe env) env s fun v s1 => runE (noX (fo env)) env s1 fun x s2 => runE (noX (setAttrM P f v x)) env s2 fun _ s3 => .nx env s3) :=
  PS.imp (ps_fld ho he (noSwap hs _ _ _)) fun D σ H ⟨w, st, env, r, er, fin⟩ => ⟨w, st, env, r, er, Fi.mono (Ext.refl w) (fin.run er) (fun v s1 w1 H1 x1 r1 z vy rv => by
    have f1 := z.run (er.mono x1)
    refine ⟨w1, s1, env, r1, er.mono x1, f1.noX.mono (Ext.refl w1) (fun x s2 w2 H2 x2 r2 z2 vx rx => ?_) fun _ _ _ q => q⟩
    have f2 := (z2.run ((er.mono x1).mono x2)).noX (E1 := fun _ _ _ => False)
    unfold setAttrM at f2
    split at f2
    · rename_i n
      split at f2
      · rename_i C ns vs eg
        split at f2
        · rename_i c hC
          split at f2
          · rename_i hk
            simp only [Bool.and_eq_true, decide_eq_true_eq, Option.isNone_iff_eq_none] at hk
            obtain ⟨⟨k1, k2⟩, k3⟩ := hk
            obtain ⟨_, ⟨dx, fs, p1, p2, p3⟩, _⟩ := r2.box _ _ eg
            have rv2 := rv.mono x2
            refine ⟨w2.r n, He.ga X.K C, dx, fs, rx.2, p1, o.K.cl C c hC k1, o.K.noat C c f hC (by simpa using k2), ?_, ?_⟩
            · have := congrArg List.length p2
              rw [List.length_map] at this
              omega
            · have z3 := f2 w2 (upd H2 (w2.r n) (.ins (He.ga X.K C) dx (putF f vy fs))) (Ext.refl w2) (r2.put eg ⟨dx, _, upd_same, by rw [putF_keys, p2], by rw [← p2]; exact putF_vals rv2 p3⟩)
              exact z3 w2 _ σ (Ext.refl w2) (r2.put eg ⟨dx, _, upd_same, by rw [putF_keys, p2], by rw [← p2]; exact putF_vals rv2 p3⟩) ((er.mono x1).mono x2)
          · exact f2.elim
        · exact f2.elim
      · exact f2.elim
    · exact f2.elim) fun _ _ _ q => q⟩
/-! ### o[i] = v -/
def liftSet (K : PySem.W.Frag) (f : T → T → T → M Unit) : TSet := fun o i v H Q => ∃ w st tv to ti, SR K w st H ∧ Rp K w tv v ∧ Rp K w to o ∧ Rp K w ti i ∧ Fi K w (f tv to ti st) (fun _ _ _ H' => Q H') (fun _ _ _ => False)
theorem set_any : PSet X (liftSet X.K setItemM) := by
  intro pins s σ H o i v ov iv u Q I ro ri rv ⟨w, st, tv, to, ti, r, hv, ho, hi, fin⟩
  unfold setItemM at fin
  split at fin
  · rename_i n
    split at fin
    · rename_i xs eg
      obtain ⟨_, ⟨vs, p, q⟩, _⟩ := r.box _ _ eg
      split at fin
      · rename_i k ek
        split at fin
        · rename_i j hj
          refine set_list pins s σ H o i v ov iv u Q I ro ri rv ⟨w.r n, vs, k, j, ho.2, see_int r hi ek, p, by rw [← q.length]; exact hj, ?_⟩
          exact fin w _ (Ext.refl w) (r.put eg ⟨_, upd_same, q.set j hv⟩)
        · exact fin.elim
      · exact fin.elim
    · exact fin.elim
  · exact fin.elim
theorem sub_assign {o i : Expr} {pos : Pos} {env : PySem.Env} (h : isSlice i = false) (v : Value) : assign (.Subscript o i pos) env v = (do
      let ov ← holding [v] (eval o env)
      let iv ← holding [v, ov] (eval i env)
      standAt pos
      holding [v, ov, iv] (setItem ov iv v)
      release [v, ov, iv] []) := by
  cases i <;> first | rfl | cases h
theorem ls_item {ob i e : Expr} {p pos : Pos} {fe fo fi : En → M T} (he : PE X e (liftE X.K W fe)) (ho : PE X ob (liftE X.K W fo)) (hi : PE X i (liftE X.K W fi)) (hs : isComp e = false) (hsl : isSlice i = false) :
    PS X (.Assign [.Subscript ob i p] e pos) (liftS X.K W fun env s => runE (fe env) env s fun v s1 => runE (noX (fo env)) env s1 fun x s2 => runE (noX (fi env)) env s2 fun y s3 => runE (noX (setItemM v x y)) env s3 fun _ s4 => .nx env s4) :=
  PS.imp (ps_asg he (pg_sub ho hi set_any (fun v => sub_assign hsl v)) (show swapsWithSole [.Subscript ob i p] e pos.line X.env = pure false from noSwap hs (some (.Subscript ob i p)) pos.line X.env) rfl rfl) fun D σ H ⟨w, st, env, r, er, fin⟩ => ⟨w, st, env, r, er, Fi.mono (Ext.refl w) (fin.run er) (fun v s1 w1 H1 x1 r1 z vy rv => by
    have er1 := er.mono x1
    refine ⟨w1, s1, env, r1, er1, (z.run er1).noX.mono (Ext.refl w1) (fun x s2 w2 H2 x2 r2 z2 vx rx => ?_) fun _ _ _ q => q⟩
    have er2 := er1.mono x2
    refine ⟨w2, s2, env, r2, er2, (z2.run er2).noX.mono (Ext.refl w2) (fun y s3 w3 H3 x3 r3 z3 vi ri => ?_) fun _ _ _ q => q⟩
    have er3 := er2.mono x3
    refine ⟨w3, s3, v, x, y, r3, (rv.mono x2).mono x3, rx.mono x3, ri, (z3.run er3).noX.mono (Ext.refl w3) (fun _ s4 w4 H4 x4 r4 z4 => z4 w4 H4 σ (Ext.refl _) r4 (er3.mono x4)) fun _ _ _ q => q⟩) fun _ _ _ q => q⟩
/-! ### names and tuples stored to -/
/-- what a bound value leads to -/
theorem bind_out {f : S → T → En → Option En} {v : T} {env : En} {st : S} {w : Wd} {H : Hp} {σ : L2.St} {vy : V} {D : Ends} {l : List Nat} (r : SR X.K w st H) (er : EnR X.K w env σ) (rv : Rp X.K w v vy)
    (fin : FiS X.K w (match f st v env with
      | some env' => .nx env' st
      | none => .bad) D W) : liftG X.K l f vy σ H D.nx := by
  cases e : f st v env with
  | none => rw [e] at fin; exact fin.elim
  | some env' =>
    rw [e] at fin
    exact ⟨w, st, env, v, env', r, er, rv, e, fun σ' er' _ => fin w H σ' (Ext.refl w) r er'⟩
theorem ls_bind (o : OkX P fc X W) {tg e : Expr} {pos : Pos} {fe : En → M T} (he : PE X e (liftE X.K W fe)) (hst : isStarred tg = false) (h1 : swapsWithSole [tg] e pos.line X.env = pure false) (h2 : swappedStores [tg] e X.env = pure none) :
    PS X (.Assign [tg] e pos) (liftS X.K W fun env s => runE (fe env) env s fun v s' => match bindT fc s' tg v env with
      | some env' => .nx env' s'
      | none => .bad) :=
  PS.imp (ps_asg he (lg_bind o tg) h1 h2 (by rw [starG hst]; rfl)) fun D σ H ⟨w, st, env, r, er, fin⟩ => ⟨w, st, env, r, er, Fi.mono (Ext.refl w) (fin.run er) (fun v s1 w1 H1 x1 r1 z vy rv => bind_out (f := fun st t env => bindT fc st tg t env) r1 (er.mono x1) rv z) fun _ _ _ q => q⟩
theorem kindOf_eq (o : OkX P fc X W) (x : Str) : X.env.kindOf x = fc.sc.names.lookup x := by
  unfold Env.kindOf
  rw [o.sc]
theorem swapN_ok (o : OkX P fc X W) {ts vs : List Expr} {k k2 : Nat} {p p2 : Pos} {r : Option (List Str)} (h : swapN fc ts vs = some r) : swappedStores [.Tuple ts k p] (.Tuple vs k2 p2) X.env = pure r := by
  let F : Expr → Option Str := fun
    | .Name id pos => if X.env.kindOf id == some NameKind.local && pos.line == (ts.head?.map (·.pos.line)).getD 0 then some id else none
    | _ => none
  have nm : ts.filterMap F = ts.filterMap (nmLoc fc ((ts.head?.map (·.pos.line)).getD 0)) := by
    congr 1
    funext e
    cases e with
    | Name id pos =>
      show (if X.env.kindOf id == some NameKind.local && _ then _ else _) = _
      rw [kindOf_eq o]
      rfl
    | _ => rfl
  have st : (vs.any fun | .Starred .. => true | _ => false) = vs.any isStarred := by
    congr 1
  unfold swapN at h
  split at h
  · cases h
  rename_i hk
  have bk : (X.env.blockKind != ScopeKind.function) = false := by
    have : fc.sc.kind = .function := isFn_ok (by simpa using hk)
    unfold Env.blockKind
    rw [o.sc, this]
    rfl
  unfold swappedStores
  show (if (!(ts.length == 2 || ts.length == 3) || vs.length != ts.length || X.env.blockKind != ScopeKind.function) = true then pure none else _ : Sem (Option (List Str))) = _
  rw [bk]
  split at h
  · rename_i c
    cases h
    rw [if_pos c]
  · rename_i c
    rw [if_neg c]
    show (if (vs.any fun | .Starred .. => true | _ => false) = true then pure none else _ : Sem (Option (List Str))) = _
    rw [st]
    split at h
    · rename_i c
      cases h
      rw [if_pos c]
    · rename_i c
      rw [if_neg c]
      show (if ((ts.filterMap F).length != ts.length || (ts.filterMap F).eraseDups.length != (ts.filterMap F).length) = true then pure none else if vs.all (foldedForSure 8) = true then pure none else if vs.all (constantsAlone 8) = true then _ else pure (some (ts.filterMap F)) : Sem (Option (List Str))) = _
      rw [nm]
      dsimp only at h
      split at h
      · rename_i c
        cases h
        rw [if_pos c]
      · rename_i c
        rw [if_neg c]
        split at h
        · rename_i c
          cases h
          rw [if_pos c]
        · rename_i c
          rw [if_neg c]
          split at h
          · cases h
          · rename_i c
            cases h
            rw [if_neg c]
/-- what (a, b) = x, y binds -/
theorem bindT_tup {st : S} {es : List Expr} {k : Nat} {p : Pos} {ts : List T} {env : En} : bindT fc st (.Tuple es k p) (.tup ts) env = if ts.length = es.length then bindTs fc st es ts env else none := by
  rw [bindT_eq, bindR]
  all_goals rfl
theorem bindTs_nil {st : S} {env : En} : bindTs fc st [] [] env = some env := by rw [bindTs]
theorem bindTs_cons {st : S} {e : Expr} {es : List Expr} {t : T} {ts : List T} {env : En} : bindTs fc st (e :: es) (t :: ts) env = match bindT fc st e t env with
    | some env' => bindTs fc st es ts env'
    | none => none := by
  rw [bindTs, bindT_eq]
  all_goals (cases bindR fc st e t env <;> rfl)
theorem bindName_some {st : S} {x : Str} {p : Pos} {t : T} {env env' : En} (h : bindT fc st (.Name x p) t env = some env') : ∃ i, fc.loc x = some i ∧ env' = env.set i (some t) := by
  rw [bindT_name] at h
  cases e : fc.loc x with
  | none => rw [e] at h; cases h
  | some i =>
    rw [e] at h
    refine ⟨i, rfl, ?_⟩
    have h : (if isLC (fc.raw.names.lookup x) then some (env.set i (some t)) else none : Option En) = some env' := h
    split at h
    · cases h; rfl
    · cases h
theorem nmLoc_some {l : Nat} {e : Expr} {x : Str} (h : nmLoc fc l e = some x) : (∃ p, e = .Name x p) ∧ fc.sc.names.lookup x = some .local := by
  cases e with
  | Name id pos =>
    have h : (if fc.sc.names.lookup id == some NameKind.local && pos.line == l then some id else none) = some x := h
    split at h
    · rename_i c
      cases h
      rw [Bool.and_eq_true] at c
      exact ⟨⟨pos, rfl⟩, by simpa using c.1⟩
    · cases h
  | _ => cases h
theorem fm_len {α β : Type} {f : α → Option β} : ∀ {l : List α}, (l.filterMap f).length ≤ l.length
  | [] => Nat.le_refl _
  | a :: r => by
    rw [List.filterMap_cons]
    split
    · exact Nat.le_succ_of_le fm_len
    · rw [List.length_cons, List.length_cons]; exact Nat.succ_le_succ fm_len
theorem fm_all {α β : Type} {f : α → Option β} : ∀ {l : List α}, (l.filterMap f).length = l.length → ∀ a ∈ l, ∃ b, f a = some b
  | [], _, a, h => by cases h
  | a :: r, hl, x, h => by
    rw [List.filterMap_cons] at hl
    cases e : f a with
    | none =>
      rw [e] at hl
      have := fm_len (f := f) (l := r)
      have hl : (r.filterMap f).length = r.length + 1 := hl
      omega
    | some b =>
      rw [e] at hl
      rcases List.mem_cons.mp h with h | h
      · rw [h]; exact ⟨b, e⟩
      · exact fm_all (by simpa using hl) x h
theorem swapN_names {ts vs : List Expr} {names : List Str} (h : swapN fc ts vs = some (some names)) : (∃ x y p q, ts = [.Name x p, .Name y q] ∧ names = [x, y] ∧ fc.sc.names.lookup x = some .local ∧ fc.sc.names.lookup y = some .local ∧ vs.length = 2 ∧ vs.any isStarred = false ∧ x ≠ y) ∨
    (∃ x y z p q r, ts = [.Name x p, .Name y q, .Name z r] ∧ names = [x, y, z] ∧ fc.sc.names.lookup x = some .local ∧ fc.sc.names.lookup y = some .local ∧ fc.sc.names.lookup z = some .local ∧ vs.length = 3 ∧ vs.any isStarred = false ∧ x ≠ y ∧ x ≠ z ∧ y ≠ z) := by
  unfold swapN at h
  split at h
  · cases h
  split at h
  · cases h
  rename_i c1
  split at h
  · cases h
  rename_i c2
  dsimp only at h
  split at h
  · cases h
  rename_i c3
  split at h
  · cases h
  split at h
  · cases h
  simp only [Bool.or_eq_true, not_or, Bool.not_eq_true', bne_iff_ne, ne_eq, Decidable.not_not, Bool.or_false, Bool.not_eq_false', beq_iff_eq, Bool.not_eq_eq_eq_not, Bool.not_true] at c1 c3
  have hv : vs.any isStarred = false := by simpa using c2
  have h := Option.some.inj h
  have h := Option.some.inj h
  obtain ⟨c3a, c3b⟩ := c3
  match ts, c1, c3a, c3b, h with
  | [], c1, _, _, _ => simp at c1
  | [_], c1, _, _, _ => simp at c1
  | [a, b], c1, c3a, c3b, h =>
    obtain ⟨x, hx⟩ := fm_all c3a a (by simp)
    obtain ⟨y, hy⟩ := fm_all c3a b (by simp)
    obtain ⟨⟨p, e1⟩, l1⟩ := nmLoc_some hx
    obtain ⟨⟨q, e2⟩, l2⟩ := nmLoc_some hy
    rw [List.filterMap_cons, hx, List.filterMap_cons, hy] at h c3b
    have h : [x, y] = names := h
    refine .inl ⟨x, y, p, q, by rw [e1, e2], h.symm, l1, l2, by simpa using c1.2, hv, fun z => ?_⟩
    subst z
    have c3b : ([x, x] : List Str).eraseDups.length = 2 := c3b
    simp [List.eraseDups_cons] at c3b
  | [a, b, c], c1, c3a, c3b, h =>
    obtain ⟨x, hx⟩ := fm_all c3a a (by simp)
    obtain ⟨y, hy⟩ := fm_all c3a b (by simp)
    obtain ⟨z, hz⟩ := fm_all c3a c (by simp)
    obtain ⟨⟨p, e1⟩, l1⟩ := nmLoc_some hx
    obtain ⟨⟨q, e2⟩, l2⟩ := nmLoc_some hy
    obtain ⟨⟨r, e3⟩, l3⟩ := nmLoc_some hz
    rw [List.filterMap_cons, hx, List.filterMap_cons, hy, List.filterMap_cons, hz] at h c3b
    have h : [x, y, z] = names := h
    have c3b : ([x, y, z] : List Str).eraseDups.length = 3 := c3b
    refine .inr ⟨x, y, z, p, q, r, by rw [e1, e2, e3], h.symm, l1, l2, l3, by simpa using c1.2, hv, fun e => ?_, fun e => ?_, fun e => ?_⟩
    · subst e
      by_cases e2 : x = z
      · subst e2; simp [List.eraseDups_cons] at c3b
      · simp [List.eraseDups_cons, e2, Ne.symm e2] at c3b
    · subst e
      by_cases e2 : x = y
      · subst e2; simp [List.eraseDups_cons] at c3b
      · simp [List.eraseDups_cons, e2, Ne.symm e2] at c3b
    · subst e
      by_cases e2 : x = y
      · subst e2; simp [List.eraseDups_cons] at c3b
      · simp [List.eraseDups_cons, e2, Ne.symm e2] at c3b
  | _ :: _ :: _ :: _ :: _, c1, _, _, _ => simp at c1
theorem two_out {x y : Str} {px py p : Pos} {k i j : Nat} {ts : List T} {vs : List V} {env : En} {st : S} {w : Wd} {H : Hp} {σ : L2.St} {D : Ends} (hx : fc.loc x = some i) (hy : fc.loc y = some j) (r : SR X.K w st H) (er : EnR X.K w env σ) (rs : RpL X.K w ts vs)
    (fin : FiS X.K w (match bindT fc st (.Tuple [.Name x px, .Name y py] k p) (.tup ts) env with
      | some env' => .nx env' st
      | none => .bad) D W) : ∃ u v, vs = [u, v] ∧ D.nx ((σ.set i (some u)).set j (some v)) H := by
  rw [bindT_tup] at fin
  match ts, rs, fin with
  | [], _, fin => exact fin.elim
  | [_], _, fin => exact fin.elim
  | _ :: _ :: _ :: _, _, fin => exact (by
      rw [if_neg (by simp)] at fin
      exact fin.elim)
  | [a, b], rs, fin =>
    obtain ⟨u, v, e, ra, rb⟩ := two_of rs
    rw [if_pos (show [a, b].length = [Expr.Name x px, Expr.Name y py].length from rfl), bindTs_cons] at fin
    cases e1 : bindT fc st (.Name x px) a env with
    | none => rw [e1] at fin; exact fin.elim
    | some env1 =>
      rw [e1] at fin
      obtain ⟨i', h1, h2⟩ := bindName_some e1
      rw [hx] at h1
      cases h1
      have fin : FiS X.K w (match bindTs fc st [.Name y py] [b] env1 with
        | some env' => .nx env' st
        | none => .bad) D W := fin
      rw [bindTs_cons] at fin
      cases e2 : bindT fc st (.Name y py) b env1 with
      | none => rw [e2] at fin; exact fin.elim
      | some env2 =>
        rw [e2] at fin
        obtain ⟨j', h3, h4⟩ := bindName_some e2
        rw [hy] at h3
        cases h3
        have fin : FiS X.K w (match bindTs fc st [] [] env2 with
          | some env' => .nx env' st
          | none => .bad) D W := fin
        rw [bindTs_nil] at fin
        refine ⟨u, v, e, fin w H _ (Ext.refl w) r ?_⟩
        rw [h4, h2]
        exact (er.set ra).set rb
theorem three_out {x y z : Str} {px py pz p : Pos} {k i j l : Nat} {ts : List T} {vs : List V} {env : En} {st : S} {w : Wd} {H : Hp} {σ : L2.St} {D : Ends} (hx : fc.loc x = some i) (hy : fc.loc y = some j) (hz : fc.loc z = some l) (r : SR X.K w st H) (er : EnR X.K w env σ) (rs : RpL X.K w ts vs)
    (fin : FiS X.K w (match bindT fc st (.Tuple [.Name x px, .Name y py, .Name z pz] k p) (.tup ts) env with
      | some env' => .nx env' st
      | none => .bad) D W) : ∃ u v t, vs = [u, v, t] ∧ D.nx (((σ.set i (some u)).set j (some v)).set l (some t)) H := by
  rw [bindT_tup] at fin
  match ts, rs, fin with
  | [], _, fin => exact fin.elim
  | [_], _, fin => exact fin.elim
  | [_, _], _, fin => exact fin.elim
  | _ :: _ :: _ :: _ :: _, _, fin => exact (by
      rw [if_neg (by simp)] at fin
      exact fin.elim)
  | [a, b, c], rs, fin =>
    obtain ⟨u, ws, e0, ra, rl⟩ := rs
    obtain ⟨v, t, e, rb, rc⟩ := two_of rl
    subst e
    rw [if_pos (show [a, b, c].length = [Expr.Name x px, Expr.Name y py, Expr.Name z pz].length from rfl), bindTs_cons] at fin
    cases e1 : bindT fc st (.Name x px) a env with
    | none => rw [e1] at fin; exact fin.elim
    | some env1 =>
      rw [e1] at fin
      obtain ⟨i', h1, h2⟩ := bindName_some e1
      rw [hx] at h1
      cases h1
      have fin : FiS X.K w (match bindTs fc st [.Name y py, .Name z pz] [b, c] env1 with
        | some env' => .nx env' st
        | none => .bad) D W := fin
      rw [bindTs_cons] at fin
      cases e2 : bindT fc st (.Name y py) b env1 with
      | none => rw [e2] at fin; exact fin.elim
      | some env2 =>
        rw [e2] at fin
        obtain ⟨j', h3, h4⟩ := bindName_some e2
        rw [hy] at h3
        cases h3
        have fin : FiS X.K w (match bindTs fc st [.Name z pz] [c] env2 with
          | some env' => .nx env' st
          | none => .bad) D W := fin
        rw [bindTs_cons] at fin
        cases e3 : bindT fc st (.Name z pz) c env2 with
        | none => rw [e3] at fin; exact fin.elim
        | some env3 =>
          rw [e3] at fin
          obtain ⟨l', h5, h6⟩ := bindName_some e3
          rw [hz] at h5
          cases h5
          have fin : FiS X.K w (match bindTs fc st [] [] env3 with
            | some env' => .nx env' st
            | none => .bad) D W := fin
          rw [bindTs_nil] at fin
          refine ⟨u, v, t, e0, fin w H _ (Ext.refl w) r ?_⟩
          rw [h6, h4, h2]
          exact ((er.set ra).set rb).set rc
theorem tup_out {ev : Expr → En → M T} {vs : List Expr} {env : En} {st : S} {w : Wd} {Q : T → S → Wd → Hp → Prop} {E : XK} (fin : Fi X.K w (bnd (argsM ev vs env) tupM st) Q E) : Fi X.K w (argsM ev vs env st) (fun ts s1 w1 H1 => Q (.tup ts) s1 w1 H1) E :=
  fin.bind fun ts s1 w1 H1 x1 r1 fin1 => by
    unfold tupM at fin1
    split at fin1
    · exact Fi.ret fin1 r1
    · exact fin1.elim
theorem ls_tup (o : OkX P fc X W) {ev : Expr → En → M T} (h : ∀ e, PE X e (liftE X.K W (ev e))) {ts vs : List Expr} {k k2 : Nat} {p p2 pos : Pos} :
    PS X (.Assign [.Tuple ts k p] (.Tuple vs k2 p2) pos) (liftS X.K W fun env s => match swapN fc ts vs with
      | none => .bad
      | some r => if namesIn fc r then runE (bnd (argsM ev vs env) tupM) env s fun v s' => match bindT fc s' (.Tuple ts k p) v env with
          | some env' => .nx env' s'
          | none => .bad
        else .bad) := by
  cases hs : swapN fc ts vs with
  | none => exact lS ls_bad (funext fun env => by funext s; rfl)
  | some r =>
    cases hn : namesIn fc r with
    | false => exact lS ls_bad (funext fun env => by funext s; show (if namesIn fc r = true then _ else _) = _; rw [hn]; rfl)
    | true =>
      have sw := swapN_ok (k := k) (k2 := k2) (p := p) (p2 := p2) o hs
      have h1 : swapsWithSole [.Tuple ts k p] (.Tuple vs k2 p2) pos.line X.env = pure false := noSwap (e := .Tuple vs k2 p2) rfl (some (.Tuple ts k p)) pos.line X.env
      refine lS (f := fun env s => runE (bnd (argsM ev vs env) tupM) env s fun v s' => match bindT fc s' (.Tuple ts k p) v env with
          | some env' => .nx env' s'
          | none => .bad) ?_ (funext fun env => by funext s; show (if namesIn fc r = true then _ else _) = _; rw [hn]; rfl)
      cases r with
      | none => exact ls_bind o (le_tup (la_args h vs)) rfl h1 sw
      | some names =>
        have hN : X.N.Nodup := by rw [o.N]; exact o.nd
        have hn : names.all (fun x => (fc.loc x).isSome) = true := hn
        have hn := List.all_eq_true.mp hn
        have ne : ∀ {x y : Str} {i j : Nat}, x ≠ y → fc.loc x = some i → fc.loc y = some j → i ≠ j := fun {x y i j} hne hx hy e => by
          have a := (o.loc hx).1
          have b := (o.loc hy).1
          rw [e, b] at a
          exact hne (Option.some.inj a).symm
        rcases swapN_names hs with ⟨x, y, px, py, et, en, lx, ly, hl, hst, hne⟩ | ⟨x, y, z, px, py, pz, et, en, lx, ly, lz, hl, hst, hxy, hxz, hyz⟩
        · subst et en
          match vs, hl, hst, sw, h1 with
          | [a, b], _, hst, sw, h1 =>
            obtain ⟨i, hx⟩ := Option.isSome_iff_exists.mp (hn x (by simp))
            obtain ⟨j, hy⟩ := Option.isSome_iff_exists.mp (hn y (by simp))
            exact PS.imp (ps_par o.calm hN (o.loc hx).1 (o.loc hy).1 (ne hne hx hy) (by rw [o.sc]; exact lx) (by rw [o.sc]; exact ly) (la_args h [a, b]) sw h1) fun D σ H ⟨w, st, env, r, er, fin⟩ =>
              ⟨w, st, env, r, er, Fi.mono (Ext.refl w) (tup_out (fin.run er)) (fun ts s1 w1 H1 x1 r1 z vs rs => two_out hx hy r1 (er.mono x1) rs z) fun _ _ _ q => q⟩
        · subst et en
          match vs, hl, hst, sw, h1 with
          | [a, b, c], _, hst, sw, h1 =>
            obtain ⟨i, hx⟩ := Option.isSome_iff_exists.mp (hn x (by simp))
            obtain ⟨j, hy⟩ := Option.isSome_iff_exists.mp (hn y (by simp))
            obtain ⟨l, hz⟩ := Option.isSome_iff_exists.mp (hn z (by simp))
            exact PS.imp (ps_par3 o.calm hN (o.loc hx).1 (o.loc hy).1 (o.loc hz).1 (ne hxy hx hy) (ne hxz hx hz) (ne hyz hy hz) (by rw [o.sc]; exact lx) (by rw [o.sc]; exact ly) (by rw [o.sc]; exact lz) (la_args h [a, b, c]) sw h1) fun D σ H ⟨w, st, env, r, er, fin⟩ =>
              ⟨w, st, env, r, er, Fi.mono (Ext.refl w) (tup_out (fin.run er)) (fun ts s1 w1 H1 x1 r1 z vs rs => three_out hx hy hz r1 (er.mono x1) rs z) fun _ _ _ q => q⟩
/-- name = [..] -/
theorem ls_lc (o : OkX P fc X W) {ev evI : Expr → En → M T} {evT : Expr → En → M Bool} (h : ∀ e, PE X e (liftE X.K W (ev e))) {scope : Scope} {b : Bool} {x : Str} {px : Pos} {tg iter elt : Expr} {ifs : List Expr} {lp pos : Pos}
    (hI : ∀ X', OkX P (fc.inner scope) X' (fun _ _ _ _ => False) → X'.prog = X.prog → X'.w = X.w → X'.K = X.K → X'.mg = X.mg → X'.base = X.base → (∀ e, PE X' e (liftE X'.K (fun _ _ _ _ => False) (evI e))) ∧ ∀ e, PT X' e (liftT X'.K (fun _ _ _ _ => False) (evT e))) :
    PS X (.Assign [.Name x px] (.ListComp elt [⟨tg, iter, ifs, 0⟩] scope lp) pos) (liftS X.K W fun env s => if (fc.loc x).isNone then .bad else runE (lcM fc scope b (iterM ev P fc tg iter) evT evI tg iter elt ifs env) env s fun v s' => match bindT fc s' (.Name x px) v env with
      | some env' => .nx env' s'
      | none => .bad) := by
  cases hx : fc.loc x with
  | none => exact lS ls_bad (funext fun env => by funext s; rfl)
  | some i =>
    refine lS (f := fun env s => runE (lcM fc scope b (iterM ev P fc tg iter) evT evI tg iter elt ifs env) env s fun v s' => match bindT fc s' (.Name x px) v env with
      | some env' => .nx env' s'
      | none => .bad) ?_ (funext fun env => by funext s; rfl)
    obtain ⟨h1, h2, h3, h4⟩ := o.loc hx
    have e0 : swapsWithSole [.Name x px] (.ListComp elt [⟨tg, iter, ifs, 0⟩] scope lp) pos.line X.env = pure (X.env.blockKind == .function && X.env.kindOf x == some .local && px.line == lp.line
        && !(scope.names.any fun (n, k) => n == x && (k == .local || k == .cell))) := rfl
    cases hb : (X.env.blockKind == .function && X.env.kindOf x == some .local && px.line == lp.line && !(scope.names.any fun (n, k) => n == x && (k == .local || k == .cell))) with
    | false => exact ls_bind o (le_lc (b := b) o h hI) rfl (by rw [e0, hb]) rfl
    | true =>
      have hsw : swapsWith (.ListComp elt [⟨tg, iter, ifs, 0⟩] scope lp) (some (.Name x px)) pos.line X.env = pure true := by
        rw [← hb]
        rfl
      simp only [Bool.and_eq_true, beq_iff_eq] at hb
      have hloc : X.env.scope.names.lookup x = some .local := hb.1.1.2
      cases hbk : blkB fc scope tg && !isSetE iter with
      | false => exact lS ls_bad (funext fun env => by
          funext s
          unfold lcM
          rw [hbk]
          rfl)
      | true =>
        have hbk' := hbk
        rw [Bool.and_eq_true, Bool.not_eq_true'] at hbk'
        obtain ⟨ok, sub⟩ := blkB_ok hbk'.1
        have ok' : BlkOk X.N X.env.scope scope (ownOf fc.N scope.names) := by rw [o.N, o.sc]; exact ok
        have inn := fun s H C cl fp => hI (X.blk s H scope (compEnvC scope cl C X.env) fp) (o.inner s H C cl fp) rfl rfl rfl rfl rfl
        refine PS.imp (ps_setLc (g := liftG X.K (tgIx (fc.inner scope) tg) (fun st t env => bindT (fc.inner scope) st tg t env)) (tt := liftT X.K (fun _ _ _ _ => False) (testsM evT ifs)) (te := liftE X.K (fun _ _ _ _ => False) (evI elt)) o.calm (by rw [o.N]; exact o.nd) h1 hloc hsw
          (li_iter o h iter) ok' (fun s H C cl fp => lg_bind (o.inner s H C cl fp) tg) (fun s H C cl fp => lt_tests (inn s H C cl fp).2 ifs) (fun s H C cl fp => (inn s H C cl fp).1 elt) (fold_set hbk'.2 _)) fun D σ H ⟨w, st, env, r, er, fin⟩ => ?_
        have f1 := fin.run er
        have e2 : lcM fc scope b (iterM ev P fc tg iter) evT evI tg iter elt ifs env = bnd (iterM ev P fc tg iter env) fun ts => if ts.length ≤ sizeLine then
            bnd (compM (turnM (fc.inner scope) evT evI tg elt ifs (wipeE env ((ownOf fc.N scope.names).map (·.2)))) ts) fun ys => boxM b (.lst ys) else bad := by
          unfold lcM
          rw [hbk]
          rfl
        rw [e2] at f1
        have f2 := Fi.mono (P1 := PQ X.K fun v H' => gName i v σ H' D.nx) (E1 := fun c d H' => W c d σ H') (Ext.refl w) f1 (fun a s1 w1 H1 x1 r1 z v rv => by
          cases eb : bindT fc s1 (.Name x px) a env with
          | none => rw [eb] at z; exact z.elim
          | some env' =>
            rw [eb] at z
            obtain ⟨i', hi', he'⟩ := bindName_some eb
            rw [hx] at hi'
            cases hi'
            have z : FiS X.K w1 (.nx env' s1) D W := z
            rw [he'] at z
            exact z w1 H1 _ (Ext.refl w1) r1 ((er.mono x1).set rv)) fun _ _ _ z => z
        refine ⟨w, st, env, r, er, f2.bind fun ts s1 w1 H1 x1 r1 fin1 => fun J G D' hD => ?_⟩
        split at fin1
        · rename_i hz
          exact lc_turns sub (er.mono x1) r1 G hD hz fin1
        · exact fin1.elim
/-! ### name op= e -/
theorem aug_ok {op : Operator} : PIp X op (liftOp X.K (augop op)) := by
  intro pins s σ H x y v u Q I rx ry ⟨w, st, tx, ty, r, ra, rb, fin⟩
  unfold augop at fin
  split at fin
  · rename_i i j ei ej
    exact ip_add pins s σ H x y v u Q I rx ry ⟨i, j, see_int r ra ei, see_int r rb ej, Fi.ret fin r _ rfl⟩
  · rename_i i j ei ej
    exact ip_sub pins s σ H x y v u Q I rx ry ⟨i, j, see_int r ra ei, see_int r rb ej, Fi.ret fin r _ rfl⟩
  · exact fin.elim
theorem ls_aug (o : OkX P fc X W) {x : Str} {op : Operator} {e : Expr} {fe : En → M T} {px pos : Pos} (he : PE X e (liftE X.K W fe)) :
    PS X (.AugAssign (.Name x px) op e pos) (liftS X.K W fun env s => match fc.loc x with
      | some i => if isLC (fc.raw.names.lookup x) then runE (getV env i) env s fun t s1 => runE (fe env) env s1 fun u s2 => runE (noX (augop op t u)) env s2 fun r s3 => .nx (env.set i (some r)) s3 else .bad
      | none => .bad) := by
  cases hx : fc.loc x with
  | none => exact lS ls_bad (funext fun env => by funext s; rfl)
  | some i =>
    cases hl : isLC (fc.raw.names.lookup x) with
    | false => exact lS ls_bad (funext fun env => by funext s; rfl)
    | true =>
      obtain ⟨h1, h2, h3, h4⟩ := o.loc hx
      obtain ⟨lo, lf⟩ := o.asg x hl
      refine lS (f := fun env s => runE (getV env i) env s fun t s1 => runE (fe env) env s1 fun u s2 => runE (noX (augop op t u)) env s2 fun r s3 => .nx (env.set i (some r)) s3) ?_ (funext fun env => by funext s; rfl)
      refine PS.imp (ps_aug (by rw [o.N]; exact o.nd) h1 lo he aug_ok lf) fun D σ H ⟨w, st, env, r, er, fin⟩ => ?_
      have f1 := fin.run er
      rcases e : env[i]? with _ | _ | t
      · rw [show getV env i = bad by unfold getV; rw [e]] at f1
        exact f1.elim
      · rw [show getV env i = bad by unfold getV; rw [e]] at f1
        exact f1.elim
      · rw [show getV env i = ret t by unfold getV; rw [e]] at f1
        obtain ⟨v, hv, rv⟩ := er.at_ i t e
        have f2 := Fi.ret f1 r
        refine ⟨v, hv, w, st, env, r, er, Fi.mono (Ext.refl w) (f2.run er) (fun u s1 w1 H1 x1 r1 z vu ru => ?_) fun _ _ _ z => z⟩
        refine ⟨w1, s1, t, u, r1, rv.mono x1, ru, ?_⟩
        exact (z.run (er.mono x1)).noX.mono (Ext.refl w1) (fun r s2 w2 H2 x2 r2 z2 vr rr => z2 w2 H2 _ (Ext.refl w2) r2 (((er.mono x1).mono x2).set rr)) fun _ _ _ z => z
end
end G
-- GtS14
namespace G
open PySem L2
section
variable {P : Pg} {fc : FC} {X : Cx} {W : WX} {call : CallM} {d : Nat}
/-- raise C(..) -/
theorem ls_raise (o : OkX P fc X W) (hd : fc.dep = d + 2) {ev : Expr → En → M T} (h : ∀ e, PE X e (liftE X.K W (ev e))) {x : Str} {args : List Expr} {ns : List Str} {p p2 pos : Pos} (he : errOf P fc x args = some ns) :
    PS X (.Raise (some (.Call (.Name x p) args [] p2)) none pos) (liftS X.K W fun env s => runE (argsM ev args env) env s fun ts s' => if ns.length = ts.length then .ex x ns.reverse ts.reverse env s' else .bad) := by
  obtain ⟨hst, hg, ⟨e, es, ea⟩, ⟨hz, hne⟩, c, i, hl, hE, hI⟩ := errOf_ok he
  subst ea
  obtain ⟨g, hdb⟩ := o.gl hg
  have hC := cls_of hl
  obtain ⟨T, iC, tI, f, hf, eps, hs, hN, hib, hloc, hfl⟩ := o.K.err x c ns i hC hE hI
  obtain ⟨⟨fd, F⟩, S, B⟩ := o.K.fnD i f hf
  have hst' := hst
  rw [List.any_cons, Bool.or_eq_false_iff] at hst'
  have hall : f.allps = f.ps := by unfold FnI.allps; rw [hs.1]; simp
  rw [hall] at S
  have hno : ∀ n ∈ ns, PySem.W.findIn X.K (.ref (He.ga X.K x)) n = some none := fun n hn => o.K.noat x c n hC (hfl n hn)
  have F1 : ns ≠ [] → FnOk X.prog X.w X.K X.mg X.base (L2.CX X.prog X.w) (d + 1) (fA X.K P i) fd f.ps (spInit (He.ga X.K x) ns) := fun hne => by
    refine F.ok S (fun vs H Q E q => ?_) fun cdv A outer s H vs Q E hr q => ?_
    · obtain ⟨a, ws, e1, e2, _⟩ := q
      rw [e1, eps, List.length_cons, List.length_cons, e2]
    · obtain ⟨a, ws, e1, e2, ha, q⟩ := q
      subst e1
      have nm : ∀ (k : Nat) (n : Str), f.ps[k]? = some n → PNm (cxOf (L2.CX X.prog X.w) X.prog X.w X.K X.mg X.base f.N f.qual f.scope (fA X.K P i) cdv A outer s H E) k n := fun k n hk => by
        have hm : n ∈ f.ps := List.mem_of_getElem? hk
        have lc := hloc n hm
        exact ⟨by show f.N[k]? = some n; rw [hN]; exact hk, .inl lc.1, okName_ok lc.2⟩
      have z := init_all (X := cxOf (L2.CX X.prog X.w) X.prog X.w X.K X.mg X.base f.N f.qual f.scope (fA X.K P i) cdv A outer s H E) (C := He.ga X.K x) T (nm 0 "self" (by rw [eps]; rfl)) hib hne hz hno
        (fun k n hk => nm (1 + k) n (by rw [eps, Nat.add_comm]; simpa using hk)) e2 ha (by show f.N.length = _; rw [hN, eps]; rfl) q
      exact z
  have raise_ := fun hne => ps_raise (pos := pos) o.calm o.tk (pmk_oex (p := p) (pos := p2) (CX := L2.CX X.prog X.w) T iC tI (F1 hne) (by have := o.rm; rw [hd] at this; exact this) (fnD_binds F B hs) .nil (fun pins σ H s e s' _ z => (cx_false z).elim) g (o.K.cls x c hl) (la_args h (e :: es)) hdb (star_not hst'.1 _ _) (plain_any hst'.2 _ _))
  · refine PS.imp (raise_ hne) fun D σ H ⟨w, st, env, r, er, fin⟩ => ?_
    refine ⟨w, st, env, r, er, Fi.mono (Ext.refl w) (fin.run er) (fun ts s1 w1 H1 x1 r1 z vs rs => ?_) fun _ _ _ z => z⟩
    split at z
    · rename_i hlen
      have hlv : vs.length = ns.length := by rw [← rs.length]; exact hlen.symm
      refine ⟨by omega, fun a ha => ?_⟩
      refine ⟨a, vs ++ [], rfl, by rw [List.append_nil]; exact hlv, upd_same, fun dx hdx hda => ⟨rfl, dx, addF ns (vs ++ []) [], HX_a, HX_d hda, ?_, ?_⟩⟩
      · rw [upd_ne hda] at hdx
        exact hdx
      · rw [List.append_nil]
        rw [upd_ne hda] at hdx
        have eH : upd (del (HX (upd H1 a (exo a (He.ga X.K x) none)) a (He.ga X.K x) dx (addF ns vs [])) a) dx (.xd (addF ns vs [])) = upd H1 dx (.xd (addF ns vs [])) := by
          funext b
          by_cases e : b = dx
          · subst e; rw [upd_same, upd_same]
          · rw [upd_ne e, upd_ne e]
            by_cases e2 : b = a
            · subst e2; rw [del_same, ha]
            · rw [del_ne e2]
              unfold HX
              rw [upd_ne e2, upd_ne e, upd_ne e2]
        rw [eH]
        obtain ⟨ex, r2⟩ := r1.laid (o := .xd (addF ns vs [])) hdx
        obtain ⟨m1, m2⟩ := addF_map (ns := ns) (ws := vs) (fs := []) hlv.symm
        exact z _ _ σ dx (addF ns vs []) ex r2 ((er.mono x1).mono ex) upd_same (by rw [m1]; simp) (by rw [m2]; simpa using (rs.mono ex).reverse)
    · exact z.elim
end
end G
-- GtS15
namespace G
open PySem PySem.Spec PyProof.Rows L2
/-! ### an error caught is tracked from then on -/
def phiX (cls : Value) (d : Option Addr) (a : Addr) : Heap → Prop := fun h => ∃ (o : Obj) (vs : Array Value), h.get? a = some o ∧ o.cls = cls ∧ o.dict = d ∧ o.data = .fields vs
theorem phiX_ok {P : Program} {w : World} {H : Hp} {h : Heap} {a : Addr} {cls : Value} {d : Option Addr} {o : Obj} {vs : Array Value} (e : h.get? a = some o) (z : Zc cls d o) (hd : o.data = .fields vs) : ObjOk P w H h a (.ext (phiX cls d a)) :=
  ⟨⟨o, vs, e, z.1, z.2, hd⟩, ⟨o, e⟩, fun h1 h2 z k => by
    obtain ⟨o', vs', q1, q2, q3, q4⟩ := z
    exact ⟨o', vs', k _ q1, q2, q3, q4⟩⟩
section
variable {X : Cx} {pins : List (Addr × Obj)} {σ : L2.St} {H : Hp} {sI s s' : Shared} {B : Heap}
theorem landedX {a : Addr} {o : HO} (I : Inv X pins σ H sI) (nb : ∀ b o, sI.heap.get? b = some o → b ∉ frs X.stack → B.get? b = some o) (st : B.StaysIn s'.heap) (up : sI.heap.UpToSlots s'.heap) (os : s'.os = sI.os) (ag : AllBare s'.gens)
    (na : H a = none) (nI : sI.heap.get? a = none) (new : ObjOk X.prog X.w (upd H a o) s'.heap a o) : Inv X pins σ (upd H a o) s' := by
  have nf : ∀ b ∈ frs X.stack, ∀ o, sI.heap.get? b = some o → ∃ sl, s'.heap.get? b = some { o with slots := sl } := fun b hb o e => by
    obtain ⟨_, o', e', hd⟩ := I.stack.mem hb
    rw [e] at e'; cases e'
    exact up b o e hd
  have ne : ∀ {b : Addr} {u : Obj}, sI.heap.get? b = some u → b ≠ a := fun {b u} e z => by rw [z, nI] at e; cases e
  have neH : ∀ {b : Addr} {u : HO}, H b = some u → b ≠ a := fun {b u} e z => by rw [z, na] at e; cases e
  have J := I.call (ch := []) (h' := s'.heap) (g' := s'.gens) (t' := s'.toks) (d' := s'.drawn) (H' := upd H a o)
    ⟨fun b o e _ hb _ => st b o (nb b o e hb), fun b o e _ hb _ => nf b hb o e, fun b u e n _ => by rw [upd_ne (ne e)]; exact n, fun b o e _ => by
      by_cases hb : b ∈ frs X.stack
      · obtain ⟨sl, q⟩ := nf b hb o e
        exact ⟨_, q⟩
      · exact ⟨o, st b o (nb b o e hb)⟩, fun b xs e => by rw [upd_ne (neH e)]; exact e, fun b u v e => by rw [upd_ne (neH e)]; exact e, fun b ps e => ⟨#[], by rw [upd_ne (neH e), e]; simp⟩⟩
    ((I.inGround nb).laidN st na new) ag (fun _ z => nomatch z)
  have e : s' = { sI with heap := s'.heap, gens := s'.gens, toks := s'.toks, drawn := s'.drawn } := by
    obtain ⟨h, g, d, t, o'⟩ := s'
    have os : o' = sI.os := os
    subst os
    rfl
  rw [e]
  exact J
/-- the context of a suite, nothing new pinned -/
theorem suite0 (I : Inv X pins σ H s) (a : Addr) : Inv (X.suite a (X.pn ++ pins)) [] σ H s :=
  ⟨I.ok.suite _ _, I.os, I.bare, I.base, I.loc, I.cell, I.free, I.freeC, fun p hp => I.pin p (by rw [List.append_nil] at hp; exact hp), I.hok, I.len⟩
theorem unsuite0 {a : Addr} {pn' : List (Addr × Obj)} (I : Inv (X.suite a (X.pn ++ pins)) pn' σ H s) (ok : X.Ok) : Inv X pins σ H s :=
  ⟨ok, I.os, I.bare, I.base, I.loc, I.cell, I.free, I.freeC, fun p hp => I.pin p (List.mem_append_left _ hp), I.hok, I.len⟩
end
/-- what the clause 'except x as n' wishes of an exception of the body: slot i is n's; the exception is tracked -/
def wReg (K : PySem.W.Frag) (c : Value) (i : Nat) (ts : TS) (Wout : WX) (D : Ends) : WX := fun cls d σ H =>
  ∃ b, PySem.W.exmOne K cls c = some b ∧ (b = true → ∀ a, H a = none → ts { nx := fun σ' H' => D.nx (σ'.set i none) H', rt := D.rt, bk := fun σ' H' => D.bk (σ'.set i none) H', ct := fun σ' H' => D.ct (σ'.set i none) H' } (σ.set i (some (.ref a))) (upd H a (.ext (phiX cls d a)))) ∧
    (b = false → Wout cls d σ H)
section
variable {X : Cx} {x n : Str} {c : Value} {i : Nat} {body suite : List Stmt} {b₀ : Stmt} {np pos pos' : Pos} {tb : WX → TS} {ts : TS} {Wout : WX}
theorem ps_try_reg (hs : X.stack = X.env :: X.outer) (hf : X.env.frame = some X.env.locals) (hN : X.N.Nodup) (hi : X.N[i]? = some n) (hln : X.env.kindOf n = some .local) (hc : Names X x c) (tk : Takes X Wout)
    (hb : ∀ (W : WX) (pn : List (Addr × Obj)) (xe : Value → Shared → Prop), Takes (X.tr pn xe) W → PassesOwn (model X.prog X.w) X.A X.env xe → PSs (X.tr pn xe) body (tb W))
    (hsu : ∀ (a : Addr) (pn : List (Addr × Obj)), PSs (X.suite a pn) (b₀ :: suite) ts) :
    PS X (.Try body [.ExceptHandler (some (.Name x np)) (some n) (b₀ :: suite) pos'] [] [] pos) (fun D σ H => tb (wReg X.K c i ts Wout D) D σ H) := by
  refine ⟨fun pins s σ H D I h => ?_⟩
  have ok := I.ok
  have hfr : X.A.frames = some (X.env :: X.outer) := by rw [ok.frames, hs]
  have hloc : Loc X.env.scope n := .inl hln
  refine wpAny_Try_except ?_
  refine wpAny_mono ((hb (wReg X.K c i ts Wout D) (X.pn ++ pins) (fun e s₁ => wpAny (model X.prog X.w) X.A (noteFrame e X.env) (fun _ s₂ => wpAny (model X.prog X.w) X.A (setFlight e none) (fun _ s₃ =>
    wpAny (model X.prog X.w) X.A (handleBy e X.env [.ExceptHandler (some (.Name x np)) (some n) (b₀ :: suite) pos']) (SP X pins D) X.xe s₃) X.xe s₂) X.xe s₁) (fun u s' xx => ?_) PassesOwn.looking).run [] s σ H D (I.toTry _) h) (fun f s1 hsp => ?_) (fun e s1 he => he)
  · -- the catch
    obtain ⟨a, B, sI, pins', σ', H', cls, d, rfl, J', nb, up, sky, na, os, ag, b, hb1, hyes, hno⟩ := xx
    have J : Inv X pins σ' H' sI := J'.ofTry ok
    have sky' : Sky B (X.env :: X.outer) a (Zc cls d) X.env.locals s'.heap := by rw [← hs]; exact sky
    show wpAny (model X.prog X.w) X.A (noteFrame (.ref a) X.env) _ _ _
    refine Sky.land Zc.steady hfr hf sky' fun h3 fl3 up3 => ?_
    have J3 : Inv X pins σ' H' { s' with heap := h3 } := J.landed nb fl3.1 (up.trans up3) os ag
    obtain ⟨oe3, vs3, he3, hz3, hd3⟩ := fl3.there
    have notFr : ∀ {h : Heap} {o : Obj} {vs : Array Value}, h.FunFrames B (X.env :: X.outer) → h.get? a = some o → o.data = .fields vs → a ∉ frs (X.env :: X.outer) := fun {h o vs} ff e dd hm => by
      obtain ⟨_, o', e', hnf⟩ := ff.mem hm
      rw [e] at e'; cases e'
      exact hnf _ dd
    have nfr := notFr fl3.2.2.1 he3 hd3
    have nI : sI.heap.get? a = none := by
      cases e : sI.heap.get? a with
      | none => rfl
      | some o =>
        have z := nb a o e (by rw [hs]; exact nfr)
        rw [fl3.2.1] at z
        cases z
    have nL : a ≠ X.env.locals := fun z => nfr (List.mem_filterMap.mpr ⟨X.env, List.mem_cons_self, by rw [hf, z]⟩)
    have nF : a ∉ X.fs := fun hm => by
      obtain ⟨e, he, q⟩ := List.mem_filterMap.mp hm
      exact nfr (List.mem_filterMap.mpr ⟨e, List.mem_cons_of_mem _ he, q⟩)
    have S3 := J3.suite he3 hd3 na nL nF
    refine wpAny_handleBy_cons (codeAny_handlers_test ?_) (by intro q; cases q)
    have LT : PySem.W.Looks (model X.prog X.w) h3 (typeOf (.ref a)) cls := fun A Q E s k q => wpAny_typeOf_ref (k _ _ he3) (by rw [hz3.1]; exact q)
    have LM := PySem.W.exm_one (M := model X.prog X.w) (J3.kIn) LT hb1
    have test : ∀ {Q : Value → Shared → Prop} {E : Value → Shared → Prop}, Q c { s' with heap := h3 } → wpAny (model X.prog X.w) (X.A.mark (some (.ref a))) (eval (.Name x np) X.env) Q E { s' with heap := h3 } := fun {Q E} q => by
      obtain ⟨hg, hdbg, hm | ⟨hm, hv, hnn⟩⟩ := hc
      · exact ld_glob (X := X.suite a ((a, oe3) :: (X.pn ++ pins))) S3 hg hm q hdbg
      · exact ld_blt (X := X.suite a ((a, oe3) :: (X.pn ++ pins))) S3 hg hm hv q hnn hdbg
    refine test (LM.here ?_)
    cases b with
    | true =>
      refine codeAny_handlers_suite_as ?_
      refine HandSPX.lands_againZ fl3 fun h4 fl4 up4 => ?_
      obtain ⟨oe4, vs4, he4, hz4, hd4⟩ := fl4.there
      have J4 : Inv X pins σ' (upd H' a (.ext (phiX cls d a))) { s' with heap := h4 } := landedX (s' := { s' with heap := h4 }) J nb fl4.1 ((up.trans up3).trans up4) os ag na nI (phiX_ok he4 hz4 hd4)
      have S4 := suite0 J4 a
      refine store_ok (X := X.suite a (X.pn ++ pins)) (v := .ref a) S4 hN hi hloc rfl (fun s5 S5 => ?_) (.inr hln)
      refine wpAny_mono ((hsu a (X.pn ++ pins)).run [] s5 _ _ _ S5 (hyes rfl a na)) (fun f s6 hsp => ?_) (fun _ _ z => False.elim z)
      have end_ : ∀ {σ6 : L2.St} {H6 : Hp} {Q : Shared → Prop}, Inv (X.suite a (X.pn ++ pins)) [] σ6 H6 s6 → (∀ s7, Inv X pins (σ6.set i none) H6 s7 → Q s7) →
          wpAny (model X.prog X.w) X.A (do bindName X.env n .none; unbindBehindTheSuite X.env n pos') (fun _ s7 => Q s7) X.xe s6 := fun {σ6 H6 Q} S6 hq => gone_ok (unsuite0 S6 ok) hN hi hln hq
      cases f with
      | next =>
        obtain ⟨σ6, H6, S6, q6⟩ := hsp
        exact end_ S6 fun s7 J7 => ⟨_, _, J7, q6⟩
      | brk =>
        obtain ⟨σ6, H6, S6, q6⟩ := hsp
        exact end_ S6 fun s7 J7 => ⟨_, _, J7, q6⟩
      | cont =>
        obtain ⟨σ6, H6, S6, q6⟩ := hsp
        exact end_ S6 fun s7 J7 => ⟨_, _, J7, q6⟩
      | ret u =>
        obtain ⟨v6, σ6, H6, S6, r6, q6⟩ := hsp
        exact end_ S6 fun s7 J7 => ⟨_, _, _, J7, r6, q6⟩
    | false =>
      show wpAny _ X.A (handleBy (.ref a) X.env []) _ _ _
      refine wpAny_handleBy_nil ?_
      obtain ⟨k1, k2, k3, oe, vs, T, oT, ts', he, hz, hd, h1, hr⟩ := id fl3
      unfold PySem.passOn
      refine wpAny_bind (wpAny_field he hd h1 ?_)
      rw [if_neg (show ¬ ((Value.ref T == Value.none) = true) from by simp)]
      have fin : wpAny (model X.prog X.w) X.A (setFlight (.ref a) X.env.frame) (fun _ s4 => wpAny (model X.prog X.w) X.A (throw (.ref a) : Sem Flow) (SP X pins D) X.xe s4) X.xe { s' with heap := h3 } := by
        rw [hf]
        refine HandSPX.setFlight_upZ fl3 fun h4 hh4 up4 => wpAny_throw (tk _ _ ?_)
        exact ⟨a, B, sI, pins, σ', H', cls, d, rfl, J, nb, (up.trans up3).trans up4, .inr (.inr (by rw [hs]; exact hh4)), na, os, ag, hno rfl⟩
      first
        | exact wpAny_bind (wpAny_pure (wpAny_bind fin))
        | exact wpAny_bind fin
  · cases f with
    | next =>
      obtain ⟨σ', H', J', q⟩ := hsp
      exact wpAny_execs_nil ⟨σ', H', J'.ofTry ok, q⟩
    | brk =>
      obtain ⟨σ', H', J', q⟩ := hsp
      exact ⟨σ', H', J'.ofTry ok, q⟩
    | cont =>
      obtain ⟨σ', H', J', q⟩ := hsp
      exact ⟨σ', H', J'.ofTry ok, q⟩
    | ret u =>
      obtain ⟨v, σ', H', J', r, q⟩ := hsp
      exact ⟨v, σ', H', J'.ofTry ok, r, q⟩
end
end G
-- GtS16
namespace G
open PySem L2
theorem suK_set {st : Stmt} {x y : Str} (h : suK st = .set x y) : ∃ px py pos, st = .Assign [.Name x px] (.Name y py) pos := by
  unfold suK at h
  split at h
  · rename_i x' px y' py pos
    cases h
    exact ⟨px, py, pos, rfl⟩
  · cases h
  · cases h
theorem suK_ret {st : Stmt} {c : Const} (h : suK st = .ret c) : ∃ k p pos, st = .Return (some (.Constant c k p)) pos := by
  unfold suK at h
  split at h
  · cases h
  · rename_i c' k p pos
    cases h
    exact ⟨k, p, pos, rfl⟩
  · cases h
section
variable {P : Pg} {fc : FC} {X : Cx} {W : WX} {call : CallM} {d : Nat}
/-- a suite's statement -/
theorem ls_suite (o : OkX P fc X W) {a : Addr} {pn : List (Addr × Obj)} (st : Stmt) : PS (X.suite a pn) st (liftS X.K (fun _ _ _ _ => False) (suiteS fc P st)) := by
  cases hk : suK st with
  | no => exact lS ls_bad (by unfold suiteS; rw [hk])
  | ret c =>
    obtain ⟨k, p, pos, e⟩ := suK_ret hk
    subst e
    have h : PE (X.suite a pn) (.Constant c k p) (liftE X.K (fun _ _ _ _ => False) fun _ => constM c) := le_constant
    refine lS (PS.imp (ps_ret h) fun D σ H ⟨w, st, env, r, er, fin⟩ => ?_) (show suiteS fc P _ = (fun env s => runE (constM c) env s fun t s1 => .rt t s1) from rfl)
    exact ⟨w, st, env, r, er, Fi.mono (Ext.refl w) (FiS.run (σ := σ) fin er) (fun t s1 w1 H1 x1 r1 z v rv => z w1 H1 v (Ext.refl w1) r1 rv) fun _ _ _ z => z⟩
  | set x y =>
    obtain ⟨px, py, pos, e⟩ := suK_set hk
    subst e
    cases hx : fc.loc x with
    | none => exact lS ls_bad (by unfold suiteS; rw [hk]; simp only [hx])
    | some i =>
      cases hy : fc.loc y with
      | none => exact lS ls_bad (by unfold suiteS; rw [hk]; simp only [hx, hy])
      | some j =>
        refine lS (f := setL fc i j x) ?_ (by unfold suiteS; rw [hk]; simp only [hx, hy])
        cases hl : isLC (fc.raw.names.lookup x) with
        | false => exact lS ls_bad (funext fun env => funext fun s => by unfold setL; rw [hl]; rfl)
        | true =>
          obtain ⟨h1, h2, h3, h4⟩ := o.loc hy
          obtain ⟨g1, g2, g3, g4⟩ := o.loc hx
          obtain ⟨lo, lf⟩ := o.asg x hl
          have he : PE (X.suite a pn) (.Name y py) (liftE X.K (fun _ _ _ _ => False) fun env => getV env j) := le_var (X := X.suite a pn) (pe_var (X := X.suite a pn) h1 h2 h3 h4)
          refine lS (PS.imp (ps_set (X := X.suite a pn) (by show X.N.Nodup; rw [o.N]; exact o.nd) g1 lo he rfl lf) fun D σ H ⟨w, st, env, r, er, fin⟩ => ?_) (show setL fc i j x = (fun env s => runE (getV env j) env s fun t s1 => .nx (env.set i (some t)) s1) from funext fun env => funext fun s => by unfold setL; rw [hl]; rfl)
          exact ⟨w, st, env, r, er, Fi.mono (Ext.refl w) (FiS.run (σ := σ) fin er) (fun t s1 w1 H1 x1 r1 z v rv => z w1 H1 _ (Ext.refl w1) r1 ((er.mono x1).set rv)) fun _ _ _ z => z⟩
/-- try: .. except x as n: one statement -/
theorem ls_try (o : OkS P fc X W) {body : List Stmt} {fb : MS} {x n : Str} {st : Stmt} {i : Nat} {np hp pos : Pos} (hi : tryIx P fc x n = some i)
    (hb : ∀ (W' : WX) (pn : List (Addr × Obj)) (xe : Value → Shared → Prop), Takes (X.tr pn xe) W' → PassesOwn (model X.prog X.w) X.A X.env xe → PSs (X.tr pn xe) body (liftS X.K W' fb)) :
    PS X (.Try body [.ExceptHandler (some (.Name x np)) (some n) [st] hp] [] [] pos) (liftS X.K W (tryS P fc x i fb (suiteS fc P st))) := by
  unfold tryIx at hi
  split at hi
  · rename_i hg
    rw [Bool.and_eq_true] at hg
    obtain ⟨g, hdb⟩ := o.gl hg.1
    split at hi
    · rename_i cx hl
      split at hi
      · rename_i hcx
        obtain ⟨h1, h2, h3, h4⟩ := o.loc hi
        have hln : X.env.kindOf n = some .local := by rw [kindOf_eq o.toOkX]; exact isLo_ok hg.2
        have hC := cls_of hl
        refine PS.imp (ps_try_reg (c := .ref (He.ga X.K x)) (i := i) (tb := fun W' => liftS X.K W' fb) (ts := liftS X.K (fun _ _ _ _ => False) (suiteS fc P st)) o.stk o.frm (by rw [o.N]; exact o.nd) h1 hln ⟨g, hdb, .inl (o.K.cls x cx hl)⟩ o.tk hb (fun a pn => pss_one' (ls_suite o.toOkX st))) fun D σ H ⟨w, s0, env, r, er, fin⟩ => ?_
        refine ⟨w, s0, env, r, er, ?_⟩
        unfold tryS at fin
        cases e : fb env s0 with
        | nx e2 s2 => rw [e] at fin; exact fin
        | bk e2 s2 => rw [e] at fin; exact fin
        | ct e2 s2 => rw [e] at fin; exact fin
        | rt t s2 => rw [e] at fin; exact fin
        | bad => rw [e] at fin; exact fin
        | ex C ns vs env' s' =>
          rw [e] at fin
          have fin : FiS X.K w (match catches P x C with
            | some true => unName i (suiteS fc P st (env'.set i (some (.exc C ns vs))) s')
            | some false => .ex C ns vs env' s'
            | none => .bad) D W := fin
          intro w' H' σ' dd fs x' r' er' hdd hns hvs
          cases ec : catches P x C with
          | none => rw [ec] at fin; exact fin.elim
          | some b =>
            rw [ec] at fin
            have ex : PySem.W.exmOne X.K (.ref (He.ga X.K C)) (.ref (He.ga X.K x)) = some b := by
              unfold catches at ec
              split at ec
              · rename_i c cx' e1 e2
                split at ec
                · rename_i hce
                  cases ec
                  exact o.K.exm C c x cx' e1 e2 hce (by rw [hC] at e2; cases e2; exact hcx)
                · cases ec
              · cases ec
            refine ⟨b, ex, fun hb a ha => ?_, fun hb => ?_⟩
            · subst hb
              obtain ⟨ex2, r2⟩ := r'.laid (o := .ext (phiX (.ref (He.ga X.K C)) (some dd) a)) ha
              have fin : FiS X.K w (unName i (suiteS fc P st (env'.set i (some (.exc C ns vs))) s')) D W := fin
              have rx : Rp X.K ⟨upd w'.I a (.ext (phiX (.ref (He.ga X.K C)) (some dd) a)), w'.r, w'.b, w'.k⟩ (.exc C ns vs) (.ref a) :=
                ⟨a, dd, _, fs, rfl, upd_same, fun h ⟨o, vs, q1, q2, q3, q4⟩ => ⟨o, vs, q1, q2, q3, q4⟩, .inl (ex2.same _ _ hdd), hns, hvs.mono ex2⟩
              refine ⟨_, s', env'.set i (some (.exc C ns vs)), r2, (er'.mono ex2).set rx, ?_⟩
              have f2 := FiS.mono (x'.trans ex2) fin
              cases es : suiteS fc P st (env'.set i (some (.exc C ns vs))) s' with
              | nx e2 s2 =>
                rw [es] at f2
                exact fun w3 H3 σ3 x3 r3 er3 => f2 w3 H3 _ x3 r3 er3.none
              | rt t s2 =>
                rw [es] at f2
                exact f2
              | bk e2 s2 => rw [es] at f2; exact f2.elim
              | ct e2 s2 => rw [es] at f2; exact f2.elim
              | ex C2 ns2 vs2 e2 s2 => rw [es] at f2; exact f2.elim
              | bad => rw [es] at f2; exact f2.elim
            · subst hb
              exact fin w' H' σ' dd fs x' r' er' hdd hns hvs
      · cases hi
    · cases hi
  · cases hi
where
  pss_one' {X : Cx} {st : Stmt} {t : TS} (h : PS X st t) : PSs X [st] t := pss_one h
end
end G
-- GtS17
namespace G
open PySem L2
section
variable {P : Pg} {call : CallM} {opc : CmpOp → T → T → M T} {d : Nat}
theorem storeS_bind {ev : FC → Expr → En → M T} {fc : FC} {tg : Expr} {v : T} (h : (match tg with | .Subscript _ _ _ => false | .Attribute _ _ _ => false | _ => true) = true) : storeS P ev fc tg v = fun env s => match bindT fc s tg v env with
    | some env' => .nx env' s
    | none => .bad := by
  cases tg <;> first | rfl | cases h
theorem asgS_gen {ev : Ev} {fc : FC} {tg e : Expr} (h : (match tg, e with | .Name _ _, .ListComp _ _ _ _ => false | .Tuple _ _ _, .Tuple _ _ _ => false | _, _ => true) = true) : asgS P ev fc tg e = if isComp e || !tgOk tg then fun _ _ => .bad else fun env s => runE (ev.e fc e env) env s fun v s' => storeS P ev.e fc tg v env s' := by
  unfold asgS
  split
  · cases h
  · cases h
  · rfl
theorem asg_ok {ev : Ev} {fc : FC} {X : Cx} {W : WX} (o : OkX P fc X W) (hc : CallOk P X call d)
    (he : ∀ e, PE X e (liftE X.K W (ev.e fc e)))
    (hin : ∀ scope X', OkX P (fc.inner scope) X' (fun _ _ _ _ => False) → X'.prog = X.prog → X'.w = X.w → X'.K = X.K → X'.mg = X.mg → X'.base = X.base →
      (∀ e, PE X' e (liftE X'.K (fun _ _ _ _ => False) (ev.e (fc.inner scope) e))) ∧ ∀ e, PT X' e (liftT X'.K (fun _ _ _ _ => False) (ev.t (fc.inner scope) e))) (tg e : Expr) (pos : Pos) : PS X (.Assign [tg] e pos) (liftS X.K W (asgS P ev fc tg e)) := by
  have gen : (match tg, e with | .Name _ _, .ListComp _ _ _ _ => false | .Tuple _ _ _, .Tuple _ _ _ => false | _, _ => true) = true → PS X (.Assign [tg] e pos) (liftS X.K W (asgS P ev fc tg e)) := fun hk => by
    rw [asgS_gen hk]
    cases hb : isComp e || !tgOk tg with
    | true => exact lS ls_bad (by simp)
    | false =>
      rw [Bool.or_eq_false_iff, Bool.not_eq_false'] at hb
      obtain ⟨hcomp, htg⟩ := hb
      refine lS (f := fun env s => runE (ev.e fc e env) env s fun v s' => storeS P ev.e fc tg v env s') ?_ (by simp)
      cases tg with
      | Name x p => exact lS (ls_bind o (he e) rfl (noSwap hcomp (some (.Name x p)) pos.line X.env) rfl) (funext fun env => funext fun s => rfl)
      | Tuple ts k p =>
        have sw : swappedStores [.Tuple ts k p] e X.env = pure none := by cases e <;> first | rfl | cases hk
        exact lS (ls_bind o (he e) rfl (noSwap hcomp (some (.Tuple ts k p)) pos.line X.env) sw) (funext fun env => funext fun s => rfl)
      | Attribute ob f p => exact lS (ls_fld o (he e) (he ob) hcomp) (funext fun env => funext fun s => rfl)
      | Subscript ob i p =>
        have hsl : isSlice i = false := by simpa [tgOk] using htg
        refine lS (ls_item (he e) (he ob) (he i) hcomp hsl) (funext fun env => funext fun s => ?_)
        congr 1
        funext v s'
        show (if isSlice i then RS.bad else _) = _
        rw [hsl]
        rfl
      | _ => cases htg
  cases tg with
  | Name x p =>
    cases e with
    | ListComp elt gens scope lp =>
      have bd : ∀ gens, (∀ tg iter ifs, gens ≠ [⟨tg, iter, ifs, 0⟩]) → PS X (.Assign [.Name x p] (.ListComp elt gens scope lp) pos) (liftS X.K W (asgS P ev fc (.Name x p) (.ListComp elt gens scope lp))) := fun gens hne => by
        refine lS ls_bad ?_
        unfold asgS
        split
        · rename_i h1 h2
          cases h1
          cases h2
          exact absurd rfl (hne _ _ _)
        · rename_i h1 h2
          cases h1
        · rfl
      match gens with
      | [] => exact bd _ (fun _ _ _ h => by cases h)
      | _ :: _ :: _ => exact bd _ (fun _ _ _ h => by cases h)
      | [⟨tg, iter, ifs, n⟩] =>
        by_cases hn : n = 0
        · subst hn
          exact lS (ls_lc (b := P.box? lp) o he (hin scope)) (funext fun env => funext fun s => rfl)
        · exact bd _ (fun _ _ _ h => by cases h; exact hn rfl)
    | _ => exact gen rfl
  | Tuple ts k p =>
    cases e with
    | Tuple vs k2 p2 => exact lS (ls_tup o he) (funext fun env => funext fun s => rfl)
    | _ => exact gen rfl
  | _ => exact gen (by cases e <;> rfl)
end
end G
-- GtS18
namespace G
open PySem L2
/-! ### every statement -/
section
variable {P : Pg} {call : CallM} {opc : CmpOp → T → T → M T} {d : Nat}
/-- a try's body: the same context but for the pins and the wish -/
theorem OkS.tr {fc : FC} {X : Cx} {W W' : WX} (o : OkS P fc X W) {pn : List (Addr × Obj)} {xe : Value → Shared → Prop} (tk : Takes (X.tr pn xe) W') (hp : PassesOwn (model X.prog X.w) X.A X.env xe) : OkS P fc (X.tr pn xe) W' :=
  { N := o.N, sc := o.sc, nd := o.nd, asg := o.asg, calm := o.calm, tk := tk, g := o.g, u := o.u, K := o.K, rm := o.rm, th := fun x j p1 p2 h pn' xe' W2 tk' => o.th x j p1 p2 h pn' xe' W2 tk', lm := fun x i params body scope p lpos pos h1 h2 h3 h4 h5 pn' xe' W2 tk' => o.lm x i params body scope p lpos pos h1 h2 h3 h4 h5 pn' xe' W2 tk', own := hp, stk := o.stk, frm := o.frm }
theorem ls_frzJ {X : Cx} {W : WX} {st : Stmt} {f : MS} {j : Nat} (h : PS X st (liftS X.K W f)) : PS X st (liftS X.K W (frzJ j f)) := PS.imp h fun D σ H ⟨w, s, env, r, er, fin⟩ => by
  unfold frzJ at fin
  have same : FiS X.K w (f env s) D W → liftS X.K W f D σ H := fun z => ⟨w, s, env, r, er, z⟩
  have go : ∀ (n : Nat) (o : BO) (ho : HO) (t : T), env[j]? = some (some (.box n)) → s.get n = some o → H (w.r n) = some ho → (∀ w', Ext w w' → w'.I (w.r n) = some ho → Rp X.K w' t (.ref (w.r n))) → FiS X.K w (f (env.set j (some t)) (s.del n)) D W → liftS X.K W f D σ H := fun n o ho t e1 e2 e3 e4 z => by
    obtain ⟨v, hs, hv⟩ := er.at_ j _ e1
    obtain ⟨ex, r'⟩ := r.froze e2 e3
    have hv : n < w.b ∧ v = .ref (w.r n) := hv
    have hjl : j < env.length := by
      rcases Nat.lt_or_ge j env.length with z | z
      · exact z
      · rw [List.getElem?_eq_none z] at e1; cases e1
    refine ⟨_, _, env.set j (some t), r', ⟨by rw [List.length_set]; exact er.len, fun i u q => ?_⟩, z.mono ex⟩
    by_cases hij : j = i
    · subst hij
      rw [List.getElem?_set_self hjl] at q
      cases q
      exact ⟨v, hs, by rw [hv.2]; exact e4 _ ex upd_same⟩
    · rw [List.getElem?_set_ne hij] at q
      obtain ⟨v', h1, h2⟩ := er.at_ i u q
      exact ⟨v', h1, h2.mono ex⟩
  split at fin
  · rename_i n e1
    split at fin
    · rename_i xs e2
      obtain ⟨_, ⟨vs, p, q⟩, _⟩ := r.box _ _ e2
      exact go n _ _ (.lst xs) e1 e2 p (fun w' x e => ⟨w.r n, vs, rfl, e, q.mono ⟨x.same, fun m hm => x.at_ m hm, x.le, x.hid⟩⟩) fin
    · rename_i C ns vs e2
      obtain ⟨_, ⟨dx, fs, p, p2, q⟩, _⟩ := r.box _ _ e2
      exact go n _ _ (.ins C ns vs) e1 e2 p (fun w' x e => ⟨w.r n, dx, fs, rfl, e, p2, q.mono x⟩) fin
    · exact same fin
  · exact same fin
theorem ls_frzS {X : Cx} {W : WX} {st : Stmt} {f : MS} {fc : FC} (h : PS X st (liftS X.K W f)) : ∀ l, PS X st (liftS X.K W (frzS fc f l))
  | [] => h
  | x :: r => by
    unfold frzS
    split
    · exact ls_frzJ (ls_frzS h r)
    · exact ls_frzS h r
theorem stmts_ok (n : Nat) (ho : OpOk P call opc (d + 1)) : ∀ k : Nat,
    (∀ (st : Stmt), sizeOf st < k → ∀ (fc : FC) (X : Cx) (W : WX), OkS P fc X W → CallOk P X call (d + 1) → fc.dep = d + 2 → PS X st (liftS X.K W (evalS P (evs P call opc n) fc st))) ∧
    (∀ (sts : List Stmt), sizeOf sts < k → ∀ (fc : FC) (X : Cx) (W : WX), OkS P fc X W → CallOk P X call (d + 1) → fc.dep = d + 2 → PSs X sts (liftS X.K W (evalSs P (evs P call opc n) fc sts)))
  | 0 => ⟨fun _ h => absurd h (Nat.not_lt_zero _), fun _ h => absurd h (Nat.not_lt_zero _)⟩
  | k + 1 => by
    obtain ⟨ih1, ih2⟩ := stmts_ok n ho k
    refine ⟨fun st hk fc X W o hc hd => ?_, fun sts hk fc X W o hc hd => ?_⟩
    · have ⟨he, ht⟩ := evs_ok (by omega) ho n fc X W o.toOkX hc hd
      rw [evalS.eq_def]
      revert hk
      split
      · exact fun _ => ls_pass
      · exact fun _ => ls_break
      · exact fun _ => ls_cont
      · rename_i e pos
        intro _
        cases hcomp : isComp e with
        | true => exact lS ls_bad (by simp)
        | false => exact lS (ls_expr (he e) hcomp) (by simp)
      · rename_i tg e pos
        intro _
        refine asg_ok (call := call) (d := d + 1) o.toOkX hc he (fun scope X' o' p1 p2 p3 p4 p5 => ?_) tg e pos
        have hc' : CallOk P X' call (d + 1) := by
          unfold CallOk
          rw [p1, p2, p3, p4, p5]
          exact hc
        exact evs_ok (by omega) ho n (fc.inner scope) X' _ o' hc' hd
      · rename_i x px op e pos
        intro _
        exact lS (ls_aug o.toOkX (he e)) (by funext env s; cases fc.loc x <;> rfl)
      · rename_i e pos
        intro _
        exact ls_ret (b := P.thaw? pos) (he e)
      · exact fun _ => ls_retN
      · rename_i c a b pos
        intro hk
        have h1 : sizeOf a < k ∧ sizeOf b < k := by simp at hk; omega
        exact ls_if (ht c) (ih2 a h1.1 fc X W o hc hd) (ih2 b h1.2 fc X W o hc hd)
      · rename_i c body pos
        intro hk
        have h1 : sizeOf body < k := by simp at hk; omega
        exact ls_while (n := 2 ^ 200) o.own (ht c) (ih2 body h1 fc X W o hc hd)
      · rename_i tg iter body pos
        intro hk
        have h1 : sizeOf body < k := by simp at hk; omega
        cases hs : isSetE iter with
        | true => exact lS ls_bad (by simp)
        | false => exact lS (ls_for o (li_iter o.toOkX he iter) (ih2 body h1 fc X W o hc hd) hs) (by simp)
      · rename_i x p args p2 pos
        intro _
        cases hE : errOf P fc x args with
        | none => exact ls_bad
        | some ns => exact ls_raise (d := d) o.toOkX hd he hE
      · rename_i body x np nm st hp pos
        intro hk
        have h1 : sizeOf body < k := by simp at hk; omega
        cases hI : tryIx P fc x nm with
        | none => exact ls_bad
        | some i => exact ls_try o hI fun W' pn xe tk hp => ih2 body h1 fc (X.tr pn xe) W' (o.tr tk hp) hc hd
      · exact fun _ => ls_bad
    · match sts, hk with
      | [], _ =>
        rw [evalSs]
        exact ls_nil
      | st :: r, hk =>
        have h1 : sizeOf st < k ∧ sizeOf r < k := by simp at hk; omega
        rw [evalSs]
        exact ls_cons (ls_frzS (ih1 st h1.1 fc X W o hc hd) _) (ih2 r h1.2 fc X W o hc hd)
theorem evalSs_ok (n : Nat) (ho : OpOk P call opc (d + 1)) (sts : List Stmt) (fc : FC) (X : Cx) (W : WX) (o : OkS P fc X W) (hc : CallOk P X call (d + 1)) (hd : fc.dep = d + 2) : PSs X sts (liftS X.K W (evalSs P (evs P call opc n) fc sts)) :=
  (stmts_ok n ho (sizeOf sts + 1)).2 sts (Nat.lt_succ_self _) fc X W o hc hd
end
end G
-- GtLam
namespace G
open PySem L2 PyProof.Rows
/-! ### lambdas -/
/-- the heap after a lambda was made -/
theorem SR.lamd {K : PySem.W.Frag} {w : Wd} {s : S} {H H1 : Hp} {c : Addr} {q : Str} (x : SR K w s H) (eN : LamX.ExtN H H1) (T1 : LamX.Tabs (tabs K) H1) (hc : H1 c = some (LamX.CodeO c q)) :
    ∃ w', Ext w w' ∧ SR K w' s H1 ∧ w'.I c = some (LamX.CodeO c q) := by
  have keep : ∀ a u, H a = some u → Plain u → H1 a = some u := fun a u e p => eN a u e p.1
  have I1 : ∀ a u, w.I a = some u → H1 a = some u := fun a u e => eN a u (x.sub a u e) fun ps z => x.ntI a ps (by rw [← z]; exact e)
  have np : ∀ a u, H1 a = some u → Plain u → a ≠ c := fun a u e p z => by
    rw [z, hc] at e
    exact p.2 _ (Option.some.inj e).symm
  refine ⟨⟨upd w.I c (LamX.CodeO c q), w.r, w.b, w.k⟩, ⟨fun a u e => ?_, fun _ _ => rfl, Nat.le_refl _, rfl⟩, ?_, upd_same⟩
  · show upd w.I c (LamX.CodeO c q) a = some u
    by_cases h : a = c
    · subst h
      rw [upd_same, ← hc]
      exact I1 _ _ e
    · rw [upd_ne h]
      exact e
  · have ex : Ex0 w ⟨upd w.I c (LamX.CodeO c q), w.r, w.b, w.k⟩ := ⟨fun a u e => by
      show upd w.I c (LamX.CodeO c q) a = some u
      by_cases h : a = c
      · subst h
        rw [upd_same, ← hc]
        exact I1 _ _ e
      · rw [upd_ne h]
        exact e, fun _ _ => rfl, Nat.le_refl _⟩
    refine ⟨fun a u e => ?_, fun n o e => ?_, x.inj, x.nd, x.b, fun a o e => keep a o (x.kH a o e) (x.ntk a o e), fun a o e => ?_, x.kB, T1, nt_upd x.ntI fun ps => LamX.codeO_ne ps, x.ntk⟩
    · have e : upd w.I c (LamX.CodeO c q) a = some u := e
      by_cases h : a = c
      · subst h
        rw [upd_same] at e
        rw [hc]
        exact e
      · rw [upd_ne h] at e
        exact I1 a u e
    · obtain ⟨h1, h2, h3⟩ := x.box n o e
      obtain ⟨ho, p1, p2⟩ := bat_plain h2
      have k1 := keep _ _ p1 p2
      refine ⟨h1, BAt.mono0 ex (k1.trans p1.symm) h2, ?_⟩
      show upd w.I c (LamX.CodeO c q) (w.r n) = none
      rw [upd_ne (np _ _ k1 p2)]
      exact h3
    · show upd w.I c (LamX.CodeO c q) a = none
      rw [upd_ne (np a o (keep a o (x.kH a o e) (x.ntk a o e)) (x.ntk a o e))]
      exact x.kI a o e
/-- what is caught -/
def capV : En → L2.St → List V
  | some _ :: e, some v :: σ => v :: capV e σ
  | some _ :: e, none :: σ => .non :: capV e σ
  | none :: e, _ :: σ => capV e σ
  | _, _ => []
theorem cap_rel {K : PySem.W.Frag} {w : Wd} : ∀ {env : En} {σ : L2.St}, EnR K w env σ → RpL K w (env.filterMap id) (capV env σ)
  | [], σ, h => by cases σ <;> exact RpL.nil
  | t :: e, [], h => by cases h.len
  | none :: e, v :: σ, h => cap_rel (env := e) (σ := σ) ⟨by have := h.len; simpa using this, fun i t hi => by simpa using h.at_ (i + 1) t (by simpa using hi)⟩
  | some t :: e, v :: σ, h => by
    obtain ⟨u, h1, h2⟩ := h.at_ 0 t rfl
    have h1 : v = some u := by simpa using h1
    subst h1
    exact RpL.cons h2 (cap_rel (env := e) (σ := σ) ⟨by have := h.len; simpa using this, fun i t hi => by simpa using h.at_ (i + 1) t (by simpa using hi)⟩)
/-- which slots are filled -/
structure Bd (env : En) (σ : L2.St) : Prop where
  len : σ.length = env.length
  at_ : ∀ (i : Nat) (t : T), env[i]? = some (some t) → ∃ v, σ[i]? = some (some v)
theorem EnR.bd {K : PySem.W.Frag} {w : Wd} {env : En} {σ : L2.St} (h : EnR K w env σ) : Bd env σ := ⟨h.len, fun i t hi => let ⟨v, h1, _⟩ := h.at_ i t hi; ⟨v, h1⟩⟩
theorem cap_env {K : PySem.W.Frag} {w : Wd} : ∀ {env : En} {σ : L2.St}, Bd env σ → RpL K w (env.filterMap id) (capV env σ) → EnR K w env σ
  | [], σ, b, h => ⟨b.len, fun i t hi => by simp at hi⟩
  | t :: e, [], b, h => by cases b.len
  | none :: e, v :: σ, b, h => by
    have ih := cap_env (K := K) (w := w) (env := e) (σ := σ) ⟨by have := b.len; simpa using this, fun i t hi => by simpa using b.at_ (i + 1) t (by simpa using hi)⟩ h
    refine ⟨b.len, fun i t hi => ?_⟩
    cases i with
    | zero => simp at hi
    | succ i => simpa using ih.at_ i t (by simpa using hi)
  | some t0 :: e, v :: σ, b, h => by
    obtain ⟨u, h1⟩ := b.at_ 0 t0 rfl
    have h1 : v = some u := by simpa using h1
    subst h1
    obtain ⟨v', ws, e1, h2, h3⟩ := h
    have e1 : u :: capV e σ = v' :: ws := e1
    injection e1 with e1 e2
    subst e1 e2
    have ih := cap_env (K := K) (w := w) (env := e) (σ := σ) ⟨by have := b.len; simpa using this, fun i t hi => by simpa using b.at_ (i + 1) t (by simpa using hi)⟩ h3
    refine ⟨b.len, fun i t hi => ?_⟩
    cases i with
    | zero =>
      have hi : t0 = t := by simpa using hi
      subst hi
      exact ⟨_, rfl, h2⟩
    | succ i => simpa using ih.at_ i t (by simpa using hi)
/-- a lambda that was handed in is called -/
theorem th_pe {X : Cx} {pins : List (Addr × Obj)} {σ : L2.St} {H1 : Hp} {s1 : Shared} (I : Inv X pins σ H1 s1) {scope : Scope} {params : Arguments} {body : Expr} (L : LamX.LamS X.env.scope scope) {f c' : Addr} {pm ctv : Value}
    (hf : s1.heap.get? f = some (PySem.W.kla_obj "<lambda>" (X.env.qual ++ "<lambda>") params body scope (cloFrom X.env.cells scope.names []) pm c' ctv)) (hfn : H1 f = none) (hfr : f ∉ frs X.stack)
    (hbind : bindArgs (PySem.W.kla_fn "<lambda>" (X.env.qual ++ "<lambda>") params body scope (cloFrom X.env.cells scope.names []) pm (.ref c') ctv) ⟨[], []⟩ = pure [])
    {Ng : List Str} {qg : Str} {sg : Scope} {g : Addr} {cdg : Value} {Eg : XK} {k : Nat} (hr : Room (k + 1) (X.A.deeper (envOfC qg sg s1.heap.objs.size g cdg))) (hgd : X.A.guards = some []) {env : En} (bd : Bd env σ) {evb : En → M T}
    (hbody : ∀ (A : Around) (outer : List PySem.Env) (s : Shared) (H : Hp) (E : XK), A.guards = some [] → Room k (A.deeper (LamX.lamEnv X scope s.heap.objs.size f c')) → PE (LamX.lamCx X A outer s H E scope f c') body (liftE X.K (fun c d _ H => E c d H) evb))
    (pn : List (Addr × Obj)) (xe : Value → Shared → Prop) (W' : WX) (tk : Takes ((cxOf (L2.CX X.prog X.w) X.prog X.w X.K X.mg X.base Ng qg sg g cdg X.A X.stack s1 H1 Eg).tr pn xe) W') {x : Str} {j : Nat} {p1 p2 : Pos}
    (hN : Ng[j]? = some x) (hv : Vis sg x) (hd : (x == ("__debug__" : Str)) = false) (hcd : (x == ("__classdict__" : Str)) = false) :
    PE ((cxOf (L2.CX X.prog X.w) X.prog X.w X.K X.mg X.base Ng qg sg g cdg X.A X.stack s1 H1 Eg).tr pn xe) (.Call (.Name x p1) [] [] p2)
      (liftE X.K W' fun env' => bnd (getV env' j) (thC (some (.lam f c' (X.env.qual ++ "<lambda>") (env.filterMap id) (capV env σ), evb env)))) := by
  refine ⟨fun pinsZ sZ σZ HZ Q IZ ⟨wZ, stZ, envZ, rZ, erZ, finZ⟩ => ?_⟩
  have finZ : Fi X.K wZ (bnd (getV envZ j) (thC (some (.lam f c' (X.env.qual ++ "<lambda>") (env.filterMap id) (capV env σ), evb env))) stZ) (PQ X.K Q) (fun c d H' => W' c d σZ H') := finZ
  unfold bnd getV at finZ
  cases hj : envZ[j]? with
  | none => rw [hj] at finZ; exact finZ.elim
  | some ot =>
    cases ot with
    | none => rw [hj] at finZ; exact finZ.elim
    | some t =>
      rw [hj] at finZ
      have finA : Fi X.K wZ (thC (some (.lam f c' (X.env.qual ++ "<lambda>") (env.filterMap id) (capV env σ), evb env)) t stZ) (PQ X.K Q) (fun c d H' => W' c d σZ H') := finZ
      unfold thC at finA
      dsimp only at finA
      split at finA
      · rename_i ht
        subst ht
        obtain ⟨v, hs, hv1, hI, hcap⟩ := erZ.at_ j _ hj
        subst hv1
        have er : EnR X.K wZ env σ := cap_env bd hcap
        have hcode := rZ.sub _ _ hI
        refine wpAny_Call_Name_kw (thn ((pe_var (pos := p1) (i := j) hN hv hd hcd).run pinsZ sZ σZ HZ (fun v' H' => v' = .ref f ∧ H' = HZ) IZ ⟨.ref f, hs, rfl, rfl⟩) fun u s2 ⟨v', H2, I2, r2, q2⟩ => ?_)
        obtain ⟨ev, eH⟩ := q2
        subst ev eH
        have eu : u = Value.ref f := r2
        subst eu
        have obf : s2.heap.get? f = some (PySem.W.kla_obj "<lambda>" (X.env.qual ++ "<lambda>") params body scope (cloFrom X.env.cells scope.names []) pm c' ctv) :=
          I2.base.keep f _ hf hfn hfr (fun z => by cases (show f ∈ ([] : List Addr) from z))
        refine PySem.W.callWith_F0 ⟨_, _, _, _, obf⟩ ?_
        have unZ : Un (frs X.stack) [] H1 H2 s1.heap s2.heap := I2.base
        obtain ⟨⟨oc, vs, tc, ho, hdt, hvt⟩, _, _⟩ := I2.hok c' _ hcode
        have run : codeAny (model X.prog X.w) (X.A.deeper (envOfC qg sg s1.heap.objs.size g cdg)) (.call (.ref f) ⟨[], []⟩)
            (CR (L2.CX X.prog X.w) (envOfC qg sg s1.heap.objs.size g cdg :: X.stack) X.prog X.w H2 s2 Q (fun c d H' => W' c d σZ H')) s2 := by
          refine PySem.W.kla_callFunE hr.depth obf rfl L.co L.gen rfl ⟨c', oc, vs, tc, rfl, ho, hdt, hvt⟩ ?_
          rw [hbind]
          refine wpAny_pure (wpAny_newFunctionEnv (fun y hy => (L.own y hy).2) (fun y hy => absurd hy (by simp)) (fun h₁ nsL same => ⟨I2.nolimit.fresh _ same, ?_⟩) L.kind)
          have kept : ∀ b o, s2.heap.get? b = some o → h₁.get? b = some o := fun b o e => same.extBut b o (Nat.ne_of_lt (Heap.lt_size e)) (Heap.get?_push_of_some _ e)
          have J : Inv (LamX.lamCx X (X.A.deeper (envOfC qg sg s1.heap.objs.size g cdg)) (envOfC qg sg s1.heap.objs.size g cdg :: X.stack) s2 H2 (fun c d H' => W' c d σZ H') scope f c') [] σ H2
              { s2 with heap := h₁, toks := s2.toks + ([] : List (Str × Value)).length } := LamX.lam_start2 I L I2.env0 hr.hd unZ nsL kept
          have gd : (X.A.deeper (envOfC qg sg s1.heap.objs.size g cdg)).guards = some [] := hgd
          show codeAny _ _ (.expr body (LamX.lamEnv X scope s2.heap.objs.size f c')) _ _
          refine PySem.W.kla_codeExpr (wpAny_mono ((hbody _ _ s2 H2 (fun c d H' => W' c d σZ H') gd (hr.deeper _)).run [] _ _ H2 Q J ⟨wZ, stZ, env, rZ, er, finA⟩) (fun z s' hz => ?_) fun e s' hz => hz)
          obtain ⟨v2, H', J', rv, qv⟩ := hz
          exact ⟨v2, H', J'.os, J'.bare, J'.base, J'.hok, rv, qv⟩
        refine wpAny_call (codeAny_mono run fun r s' hz => ?_)
        cases r with
        | error e => exact passAt tk σZ pinsZ H2 s2 e s' I2 hz
        | ok fl =>
          cases fl with
          | ret u => exact I2.after hz
          | next => exact False.elim hz
          | brk => exact False.elim hz
          | cont => exact False.elim hz
      · exact finA.elim
theorem FT.mono {AA : Args → List Value → Prop} {Pr : Program} {w : World} {K : PySem.W.Frag} {mg : Str → Option Value} {base : Heap} {k k2 : Nat} {f : Addr} {m : List T → M T} (F : FT AA Pr w K mg base k f m) (h : k ≤ k2) : FT AA Pr w K mg base k2 f m :=
  fun A outer s H a us vs Q E w0 st ts ha hr => F A outer s H a us vs Q E w0 st ts ha (hr.mono h)
/-- a def that is handed a lambda -/
def FTh (P : Pg) (Pr : Program) (w : World) (K : PySem.W.Frag) (mg : Str → Option Value) (base : Heap) (k i : Nat) (f : FnI) (cg : Option (T × M T) → CallM) : Prop :=
  ∀ (A : Around) (outer : List PySem.Env) (s : Shared) (H : Hp) (fl : Addr) (Q : VK) (E : XK) (w0 : Wd) (st : S) (y : T) (m : M T), Room k A → A.guards = some [] → Env0 Pr w K mg base A outer s H → SR K w0 st H → Rp K w0 y (.ref fl) →
    (∀ cdv : Value, Room (k - 1) (A.deeper (envOfC f.qual f.scope s.heap.objs.size (fA K P i) cdv)) → ∀ (x : Str) (j : Nat) (p1 p2 : Pos), f.N[j]? = some x → Vis f.scope x → (x == ("__debug__" : Str)) = false → (x == ("__classdict__" : Str)) = false →
      ∀ pn xe W', Takes ((cxOf (L2.CX Pr w) Pr w K mg base f.N f.qual f.scope (fA K P i) cdv A outer s H E).tr pn xe) W' →
        PE ((cxOf (L2.CX Pr w) Pr w K mg base f.N f.qual f.scope (fA K P i) cdv A outer s H E).tr pn xe) (.Call (.Name x p1) [] [] p2) (liftE K W' fun env => bnd (getV env j) (thC (some (y, m))))) →
    Fi K w0 (cg (some (y, m)) i [y] st) (PQ K Q) E → codeAny (model Pr w) A (.call (.ref (fA K P i)) ⟨[.ref fl], []⟩) (CR (L2.CX Pr w) outer Pr w H s Q E) s
theorem noPar_ok {params : Arguments} (h : noPar params = true) : params = ⟨[], [], none, [], [], none, []⟩ := by
  unfold noPar at h
  split at h
  · rfl
  · cases h
theorem thOk_ok {P : Pg} {i : Nat} (h : thOk P i = true) : ∃ f, P.fns[i]? = some f ∧ f.star = none ∧ f.dfl = [] ∧ f.ps.length = 1 := by
  unfold thOk at h
  split at h
  · rename_i f hf
    simp only [Bool.and_eq_true, Option.isNone_iff_eq_none, List.isEmpty_iff, beq_iff_eq] at h
    exact ⟨f, hf, h.1, h.2.1, h.2.2⟩
  · cases h
theorem th_none {X : Cx} {W : WX} {e : Expr} {j : Nat} : PE X e (liftE X.K W fun env => bnd (getV env j) (thC none)) := lE le_bad (funext fun env => funext fun st => by
    show bnd (getV env j) (thC none) st = bad st
    unfold bnd getV
    cases h : env[j]? with
    | none => rfl
    | some t =>
      cases t with
      | none => rfl
      | some t => cases t <;> rfl)
section
variable {P : Pg} {Pr : Program} {w : World} {K : PySem.W.Frag} {mg : Str → Option Value} {base : Heap}
/-- the lambda's body -/
theorem lam_body (ok : KOk P K mg) {call : CallM} {opc : CmpOp → T → T → M T} {j : Nat} (F0 : ∀ i, FT (ArgsAt P i) Pr w K mg base (4 * j + 1) (fA K P i) (call i)) (ho : OpOk P call opc (4 * j + 2))
    {X : Cx} (hP : X.prog = Pr) (hw : X.w = w) (hK : X.K = K) (hm : X.mg = mg) (hb : X.base = base) (hnd : X.N.Nodup) {scope : Scope} (L : LamX.LamS X.env.scope scope) {f c' : Addr} {body : Expr}
    (A : Around) (outer : List PySem.Env) (s : Shared) (H : Hp) (E : XK) (hg : A.guards = some []) (hr : Room (4 * j + 3) (A.deeper (LamX.lamEnv X scope s.heap.objs.size f c'))) :
    PE (LamX.lamCx X A outer s H E scope f c') body (liftE X.K (fun c d _ H => E c d H) ((evs P call opc 60).e ⟨X.N, scope, scope, 4 * j + 3, none, noL⟩ body)) := by
  subst hP hw hK hm hb
  have o : OkX P ⟨X.N, scope, scope, 4 * j + 3, none, noL⟩ (LamX.lamCx X A outer s H E scope f c') (fun c d _ H => E c d H) :=
    { N := rfl, sc := rfl, nd := hnd
      asg := fun x hx => by
        rcases isLC_ok hx with z | z
        · exact absurd rfl (L.own _ (PySem.mem_of_lookup z)).1
        · exact absurd rfl (L.own _ (PySem.mem_of_lookup z)).2
      calm := rfl
      tk := takes_of rfl rfl rfl rfl
      g := hg
      u := hr.units
      K := ok
      rm := hr
      th := fun x j p1 p2 _ pn xe W' _ => th_none
      lm := fun x i params body scope p lpos pos _ _ _ _ _ pn xe W' _ => le_bad }
  exact (evs_ok (d := 4 * j + 2) (by omega) ho 60 _ _ _ o (fun i => F0 i) rfl).1 body
theorem mem_lkN {a : Addr} {o : Obj} : ∀ {l : List (Addr × Obj)}, l.lookup a = some o → (a, o) ∈ l
  | [], h => by cases h
  | (b, u) :: r, h => by
    rw [List.lookup_cons] at h
    cases e : a == b with
    | true =>
      rw [e] at h
      have h : u = o := Option.some.inj h
      rw [← h, eq_of_beq e]
      exact List.mem_cons_self
    | false =>
      rw [e] at h
      exact List.mem_cons_of_mem _ (mem_lkN h)
/-- x(lambda: body) -/
theorem lam_pe (ok : KOk P K mg) (lb : LamB K mg base) {call : CallM} {opc : CmpOp → T → T → M T} {j : Nat} (F0 : ∀ i, FT (ArgsAt P i) Pr w K mg base (4 * j + 1) (fA K P i) (call i)) (ho : OpOk P call opc (4 * j + 2))
    {cg : Option (T × M T) → CallM} {fm : FnI} {gm : Addr} {cdv : Value} (hcd : PySem.W.codeIn K cdv fm.qual = true) (hnd : fm.N.Nodup) {A : Around} {outer : List PySem.Env} {s0 : Shared} {H0 : Hp} {E0 : XK}
    (rm : Room (4 * j + 8) (A.deeper (envOfC fm.qual fm.scope s0.heap.objs.size gm cdv))) (hgd : A.guards = some [])
    (Fth : ∀ (i : Nat) (f : FnI), P.fns[i]? = some f → thOk P i = true → FTh P Pr w K mg base (4 * j + 5) i f cg)
    {x : Str} {i : Nat} {params : Arguments} {body : Expr} {scope : Scope} {p lpos pos : Pos} (hgl : (isGl (fm.scope.names.lookup x) && okName x) = true) (hl : P.glob.lookup x = some (.fn i)) (hp : noPar params = true) (hL : LamX.lamSB fm.scope scope = true) (hi : thOk P i = true)
    (pn : List (Addr × Obj)) (xe : Value → Shared → Prop) (W' : WX) (tk : Takes ((cxOf (L2.CX Pr w) Pr w K mg base fm.N fm.qual fm.scope gm cdv A outer s0 H0 E0).tr pn xe) W') :
    PE ((cxOf (L2.CX Pr w) Pr w K mg base fm.N fm.qual fm.scope gm cdv A outer s0 H0 E0).tr pn xe) (.Call (.Name x p) [.Lambda params body scope lpos] [] pos) (liftE K W' (clF P call opc fm (4 * j + 3) cg i body scope)) := by
  have hpar := noPar_ok hp
  have L : LamX.LamS fm.scope scope := LamX.lamS_by hL
  rw [Bool.and_eq_true] at hgl
  have hg1 : fm.scope.names.lookup x = some .globalImplicit := isGl_ok hgl.1
  have hdb := (okName_ok hgl.2).1
  obtain ⟨m1, kp, ef⟩ := ok.fn x i hl
  obtain ⟨f, hf, fs, fd0, fl0⟩ := thOk_ok hi
  obtain ⟨c, oc, tp, ec, lkc, et⟩ := ok.tabC cdv fm.qual hcd
  subst ec
  have hmem : (tp, fm.qual ++ ".<locals>." ++ "<lambda>") ∈ tabs K := List.mem_filterMap.mpr ⟨(c, oc), mem_lkN lkc, et⟩
  have huq : ∀ q ∈ tabs K, q.1 = tp → q.2 = fm.qual ++ ".<locals>." ++ "<lambda>" := fun q hq e => by
    have hn := ok.tabN
    have e2 : q = (tp, fm.qual ++ ".<locals>." ++ "<lambda>") := by
      generalize tabs K = l at hmem hq hn
      induction l with
      | nil => cases hq
      | cons a r ih =>
        rw [List.map_cons, List.nodup_cons] at hn
        rcases List.mem_cons.mp hmem with h1 | h1
        · rcases List.mem_cons.mp hq with h2 | h2
          · rw [h1, h2]
          · exact absurd (List.mem_map.mpr ⟨q, h2, by rw [e, ← h1]⟩) hn.1
        · rcases List.mem_cons.mp hq with h2 | h2
          · exact absurd (List.mem_map.mpr ⟨_, h1, by rw [← e, h2]⟩) hn.1
          · exact ih h1 h2 hn.2
    rw [e2]
  have TB := lb c oc tp _ lkc et
  refine ⟨fun pins s σ H Q I ⟨w1, st, env, r, er, fin⟩ => ?_⟩
  have fin : Fi K w1 (clF P call opc fm (4 * j + 3) cg i body scope env st) (PQ K Q) (fun c d H' => W' c d σ H') := fin
  unfold clF lamM at fin
  dsimp only at fin
  split at fin
  · rename_i hex
    have run0 := hex.choose_spec
    generalize hex.choose = res at run0 fin
    refine wpAny_Call_Name_kw (ld_glob I hg1 m1 ?_ hdb)
    refine PySem.W.callWith_K (h₀ := base) I.ok.mod.kin kp ?_ (by rfl) (by rfl)
    show wpAny _ _ (spliced ((false, eval (.Lambda params body scope lpos) ((cxOf (L2.CX Pr w) Pr w K mg base fm.N fm.qual fm.scope gm (.ref c) A outer s0 H0 E0).tr pn xe).env) :: backTo pos (starEach [] ((cxOf (L2.CX Pr w) Pr w K mg base fm.N fm.qual fm.scope gm (.ref c) A outer s0 H0 E0).tr pn xe).env))) _ _ s
    refine Calls.spliced_cons (LamX.lam_make2 (T := tabs K) (c := c) (P := tp) I TB rfl hmem huq r.tb (by rw [hpar]; rfl) (LamX.LamS.has L I.ok) fun fa c' pm' ctv H1 s' I1 eN T1 hfa hfn hfr hco => ?_)
    refine Calls.spliced_nil ⟨I1.kIn, ?_⟩
    obtain ⟨w2, ex, r2, hI⟩ := r.lamd eN T1 hco
    have er2 : EnR K w2 env σ := er.mono ex
    have ry : Rp K w2 (.lam fa c' (fm.qual ++ ".<locals>." ++ "<lambda>") (env.filterMap id) (capV env σ)) (.ref fa) := ⟨rfl, hI, cap_rel er2⟩
    have fin2 : Fi K w2 (cg (some (.lam fa c' (fm.qual ++ ".<locals>." ++ "<lambda>") (env.filterMap id) (capV env σ), (evs P call opc 60).e ⟨fm.N, scope, scope, 4 * j + 3, none, noL⟩ body env)) i [.lam fa c' (fm.qual ++ ".<locals>." ++ "<lambda>") (env.filterMap id) (capV env σ)] st) (PQ K Q) (fun c d H' => W' c d σ H') := by
      rw [run0 fa c' (capV env σ)]
      exact Fi.mono ex fin (fun _ _ _ _ _ _ z => z) fun _ _ _ z => z
    have hgd2 : (A.deeper (envOfC fm.qual fm.scope s0.heap.objs.size gm (.ref c))).guards = some [] := hgd
    have run := Fth i f hf hi _ _ s' H1 fa Q (fun c d H' => W' c d σ H') w2 st _ _ (rm.mono (by omega)) hgd2 I1.env0 r2 ry
      (fun cdv' hr' x' j' q1 q2 hN hv hd hcd' pn' xe' W2 tk2 => th_pe I1 L hfa hfn hfr (by rw [hpar]; rfl) (k := 4 * j + 3) hr' hgd2 er2.bd
        (fun A outer s H E gA rA => lam_body (Pr := Pr) (w := w) (base := base) ok F0 ho rfl rfl rfl rfl rfl hnd L A outer s H E gA rA) pn' xe' W2 tk2 hN hv hd hcd') fin2
    rw [ef] at run
    refine wpAny_call (codeAny_mono run fun r s2 hq => ?_)
    cases r with
    | error e => exact passAt tk σ pins H1 s' e s2 I1 hq
    | ok fl =>
      cases fl with
      | ret u => exact I1.after hq
      | next => exact False.elim hq
      | brk => exact False.elim hq
      | cont => exact False.elim hq
  · exact fin.elim
end
end G
-- GtS19
namespace G
open PySem L2 PyProof.Rows
/-! ### every def -/
theorem startE_ok {K : PySem.W.Frag} {w : Wd} {N : List Str} {xs : List T} {vs : List V} (q : RpL K w xs vs) : EnR K w (startE N xs) (L2.start N vs) := by
  have hl := q.length
  refine ⟨?_, fun i t h => ?_⟩
  · unfold startE L2.start
    rw [List.length_append, List.length_append, List.length_map, List.length_map, List.length_replicate, List.length_replicate, hl]
  · unfold startE at h
    unfold L2.start
    by_cases hi : i < xs.length
    · rw [List.getElem?_append_left (by rw [List.length_map]; exact hi), List.getElem?_map] at h
      cases e : xs[i]? with
      | none => rw [e] at h; cases h
      | some u =>
        rw [e] at h
        cases h
        obtain ⟨v, hv, rv⟩ := q.get e
        exact ⟨v, by rw [List.getElem?_append_left (by rw [List.length_map, ← hl]; exact hi), List.getElem?_map, hv]; rfl, rv⟩
    · rw [List.getElem?_append_right (by rw [List.length_map]; omega), List.getElem?_replicate] at h
      split at h <;> cases h
theorem dv_rel {K : PySem.W.Frag} {w : Wd} : ∀ {ds : List He.Dv}, ds.all dvOk = true → RpL K w (ds.map dvT) (ds.map (He.Dv.v K))
  | [], _ => rfl
  | d :: r, h => by
    rw [List.all_cons, Bool.and_eq_true] at h
    refine ⟨_, _, rfl, ?_, dv_rel h.2⟩
    cases d <;> first | rfl | (cases h.1)
section
variable {P : Pg} {opc : CallM → CmpOp → T → T → M T} {Pr : Program} {w : World} {K : PySem.W.Frag} {mg : Str → Option Value} {base : Heap}
/-- what f(lambda: e) does in a def at this level -/
noncomputable def clK (P : Pg) (opc : CallM → CmpOp → T → T → M T) (f : FnI) : Nat → Nat → Expr → Scope → En → M T
  | 0 => clF P (fun _ _ => bad) (opc (fun _ _ => bad)) f 0 (fun _ _ _ => bad)
  | j + 1 => clF P (callG P opc j none) (opc (callG P opc j none)) f (4 * j + 3) (callG P opc (j + 1))
theorem lam_bad {run : Nat → Nat → List V → M T} (h : ∀ a c vs, run a c vs = bad) : lamM run = bad := by
  funext s
  unfold lamM
  split
  · rename_i hx
    have := hx.choose_spec 0 0 []
    rw [h] at this
    exact this.symm
  · rfl
theorem callG_succ {P : Pg} {opc : CallM → CmpOp → T → T → M T} {k : Nat} {th : Option (T × M T)} {i : Nat} {ts : List T} {s : S} : callG P opc (k + 1) th i ts s = match P.fns[i]? with
    | some f => match bindArg f ts with
      | some vs => outR (evalSs P (evs P (callG P opc k none) (opc (callG P opc k none)) 60) ⟨f.N, f.scope, f.scope, 4 * k + 4, th, clK P opc f k⟩ f.body (startE f.N vs) s)
      | none => .bad
    | none => .bad := by
  cases k <;> rfl
/-- a def's body runs -/
theorem body_run {k i : Nat} {f : FnI} {cdv : Value} {A : Around} {outer : List PySem.Env} {s2 : Shared} {H2 : Hp} {E : XK} {Q : VK} {th : Option (T × M T)} {ys : List V} {xs : List T} {w0 w2 : Wd} {st : S} (ok : KOk P K mg) (lb : LamB K mg base)
    (ho : ∀ k d, OpOk P (callF P opc k) (opc (callF P opc k)) d) (nd : f.N.Nodup) (hg : A.guards = some []) (hr' : Room (4 * k + 4) (A.deeper (envOfC f.qual f.scope s2.heap.objs.size (fA K P i) cdv))) (hcd : PySem.W.codeIn K cdv f.qual = true)
    (IH : ∀ j, j ≤ k → ∀ i, FT (ArgsAt P i) Pr w K mg base (4 * j + 1) (fA K P i) (callF P opc j i)) (IL : ∀ (i : Nat) (f : FnI), P.fns[i]? = some f → thOk P i = true → FTh P Pr w K mg base (4 * k + 1) i f (callG P opc k))
    (hth : ∀ (x : Str) (j : Nat) (p1 p2 : Pos), f.N[j]? = some x → Vis f.scope x → (x == ("__debug__" : Str)) = false → (x == ("__classdict__" : Str)) = false → ∀ pn xe W', Takes ((cxOf (L2.CX Pr w) Pr w K mg base f.N f.qual f.scope (fA K P i) cdv A outer s2 H2 E).tr pn xe) W' →
      PE ((cxOf (L2.CX Pr w) Pr w K mg base f.N f.qual f.scope (fA K P i) cdv A outer s2 H2 E).tr pn xe) (.Call (.Name x p1) [] [] p2) (liftE K W' fun env => bnd (getV env j) (thC th)))
    (x2 : Ext w0 w2) (r2 : SR K w2 st H2) (q2 : RpL K w2 xs ys)
    (fin : Fi K w0 (outR (evalSs P (evs P (callF P opc k) (opc (callF P opc k)) 60) ⟨f.N, f.scope, f.scope, 4 * k + 4, th, clK P opc f k⟩ f.body (startE f.N xs) st)) (PQ K Q) E) :
    ∃ t, PSs (cxOf (L2.CX Pr w) Pr w K mg base f.N f.qual f.scope (fA K P i) cdv A outer s2 H2 E) f.body t ∧ t { nx := fun _ H' => Q .non H', rt := Q } (L2.start f.N ys) H2 := by
  have oS : OkS P ⟨f.N, f.scope, f.scope, 4 * k + 4, th, clK P opc f k⟩ (cxOf (L2.CX Pr w) Pr w K mg base f.N f.qual f.scope (fA K P i) cdv A outer s2 H2 E) (fun cls d _ H => E cls d H) :=
    { N := rfl, sc := rfl, nd := nd
      asg := fun x hx => ⟨by
        rcases isLC_ok hx with z | z
        · exact .inl z
        · exact .inr z, .inl rfl⟩
      calm := rfl
      tk := takes_of rfl rfl rfl rfl
      g := hg
      u := hr'.units
      K := ok
      rm := hr'
      th := fun x j p1 p2 hj pn xe W' tk => by
        unfold FC.loc at hj
        split at hj
        · rename_i e
          simp only [Bool.and_eq_true] at e
          obtain ⟨h1, h2⟩ := okName_ok e.2
          exact hth x j p1 p2 (ixOf_get hj) (isVis_ok e.1) h1 h2 pn xe W' tk
        · cases hj
      lm := fun x i' params body scope p lpos pos h1 h2 h3 h4 h5 pn xe W' tk => by
        cases k with
        | zero => exact lE le_bad (funext fun env => lam_bad fun _ _ _ => rfl)
        | succ j => exact lam_pe (cg := callG P opc (j + 1)) ok lb (IH j (Nat.le_succ j)) (ho j _) hcd nd (hr'.mono (by omega)) hg (fun i f h1 h2 => IL i f h1 h2) h1 h2 h3 h4 h5 pn xe W' tk
      own := passes_of rfl
      stk := rfl
      frm := rfl }
  refine ⟨_, evalSs_ok (d := 4 * k + 2) 60 (ho k _) f.body _ _ _ oS (fun j => (IH k (Nat.le_refl k) j).mono (by omega)) rfl, w2, st, startE f.N xs, r2, startE_ok q2, ?_⟩
  cases er : evalSs P (evs P (callF P opc k) (opc (callF P opc k)) 60) ⟨f.N, f.scope, f.scope, 4 * k + 4, th, clK P opc f k⟩ f.body (startE f.N xs) st with
  | nx env s3 =>
    rw [er] at fin
    exact fun w3 H3 σ3 x3 r3 er3 => fin w3 H3 (x2.trans x3) r3 .non rfl
  | rt t s3 =>
    rw [er] at fin
    exact fun w3 H3 v x3 r3 rv3 => fin w3 H3 (x2.trans x3) r3 v rv3
  | ex C ns us2 env s3 =>
    rw [er] at fin
    exact fun w3 H3 σ3 d fs x3 r3 _ a b c => fin w3 H3 d fs (x2.trans x3) r3 a b c
  | bk env s3 => rw [er] at fin; exact fin.elim
  | ct env s3 => rw [er] at fin; exact fin.elim
  | bad => rw [er] at fin; exact fin.elim
/-- a def at the next level -/
theorem fn_step {k : Nat} (ok : KOk P K mg) (lb : LamB K mg base) (ho : ∀ k d, OpOk P (callF P opc k) (opc (callF P opc k)) d) (IH : ∀ j, j ≤ k → ∀ i, FT (ArgsAt P i) Pr w K mg base (4 * j + 1) (fA K P i) (callF P opc j i))
    (IL : ∀ (i : Nat) (f : FnI), P.fns[i]? = some f → thOk P i = true → FTh P Pr w K mg base (4 * k + 1) i f (callG P opc k)) (i : Nat) : FT (ArgsAt P i) Pr w K mg base (4 * (k + 1) + 1) (fA K P i) (callF P opc (k + 1) i) :=
  fun A outer s H a us vs Q E w0 st ts ha hr hg e0 rv sr rl fin => by
    rw [show callF P opc (k + 1) i ts st = _ from callG_succ] at fin
    cases hf : P.fns[i]? with
    | none => rw [hf] at fin; exact fin.elim
    | some f =>
      rw [hf] at fin
      have fin : Fi K w0 (match bindArg f ts with
        | some vs => outR (evalSs P (evs P (callF P opc k) (opc (callF P opc k)) 60) ⟨f.N, f.scope, f.scope, 4 * k + 4, none, clK P opc f k⟩ f.body (startE f.N vs) st)
        | none => .bad : Res T) (PQ K Q) E := fin
      cases hb : bindArg f ts with
      | none => rw [hb] at fin; exact fin.elim
      | some xs =>
        rw [hb] at fin
        have fin : Fi K w0 (outR (evalSs P (evs P (callF P opc k) (opc (callF P opc k)) 60) ⟨f.N, f.scope, f.scope, 4 * k + 4, none, clK P opc f k⟩ f.body (startE f.N xs) st)) (PQ K Q) E := fin
        obtain ⟨⟨fd, F⟩, S, B⟩ := ok.fnD i f hf
        obtain ⟨oc, od, dV, kV, doc, pm, an, cdv, ct, osl, efd, lk, hcd, hD, _⟩ := F.ex
        subst efd
        have KX : K.In s.heap := e0.mod.kin.keeps fun b o e => (e0.bs b o e).1
        have hl0 := rl.length
        have hlu := rv.length
        refine StX.run_bnd (k := 4 * k + 4) (CX := L2.CX Pr w) lk hcd S hr e0 (G := fun ys H2 => ∃ w2, Ext w0 w2 ∧ SR K w2 st H2 ∧ RpL K w2 xs ys) (fun A' Ex Q' h => ?_) fun s2 H2 ys ⟨w2, x2, r2, q2⟩ hr' => ?_
        · -- the binding
          rcases ha with ea | ⟨e, he, ei, us0, ws, n1, n2, ea, eu⟩
          rotate_left
          · -- by name
            obtain ⟨f', hf', hst, hn, hol, hou, K1, K2⟩ := ok.kw e he
            rw [ei, hf] at hf'
            cases hf'
            subst ea
            have hlu : us.length = f.ps.length := by
              rw [eu, pick_len hou (by rw [List.length_append, n1, n2]; exact Nat.le_refl _), hol]
            have hp : f.ps = f.allps := by unfold FnI.allps; rw [hst]; simp
            have hxs : xs = ts := by
              unfold bindArg at hb
              rw [hst] at hb
              have hb : (if ts.length ≤ f.ps.length ∧ f.ps.length ≤ ts.length + f.dfl.length ∧ f.dfl.all dvOk = true then some (ts ++ (f.dfl.drop (f.dfl.length - (f.ps.length - ts.length))).map dvT) else none) = some xs := hb
              split at hb
              · cases hb
                have : f.ps.length - ts.length = 0 := by omega
                rw [this, Nat.sub_zero, List.drop_length]
                simp
              · cases hb
            subst hxs
            have fin2 := h s H vs us e0 Un.refl rfl (fun _ _ z => z) rv (by rw [← hp]; omega) ⟨w0, Ext.refl _, sr, rl⟩
            rw [← hp, eu] at fin2
            rcases hD with ⟨e9, eV⟩ | ⟨ne, T9, o9, its, m9, eV, lT, oT, rT⟩
            · have ed0 : f.dfl = [] := List.map_eq_nil_iff.mp e9
              subst eV
              rw [K1 ed0 kV doc pm an cdv ct us0 ws n1 n2]
              exact wpAny_pure fin2
            · have nd : f.dfl ≠ [] := fun z => ne (List.map_eq_nil_iff.mpr z)
              subst eV
              have hits : its.length = f.dfl.length := by rw [← rT.length, List.length_map]
              obtain ⟨k2, e1, e2⟩ := K2 nd T9 kV doc pm an cdv ct us0 ws its n1 n2 hits
              rw [e1]
              refine wpAny_bind (wpAny_seqItems (KX _ _ lT) oT ?_)
              rw [e2]
              exact wpAny_pure fin2
          subst ea
          unfold bindArg at hb
          unfold BindF at B
          cases hs : f.star with
          | none =>
            rw [hs] at hb B
            have hb : (if ts.length ≤ f.ps.length ∧ f.ps.length ≤ ts.length + f.dfl.length ∧ f.dfl.all dvOk = true then some (ts ++ (f.dfl.drop (f.dfl.length - (f.ps.length - ts.length))).map dvT) else none) = some xs := hb
            split at hb
            · rename_i hc
              cases hb
              rcases hD with ⟨e, eV⟩ | ⟨ne, T, o, its, m, eV, lT, oT, rT⟩
              · have ed0 : f.dfl = [] := List.map_eq_nil_iff.mp e
                subst eV
                have heq : ts.length = f.ps.length := by
                  have h1 := hc.1
                  have h2 := hc.2.1
                  rw [ed0] at h2
                  simp only [List.length_nil] at h2
                  omega
                rw [B.1 ed0 kV doc pm an cdv ct us (by omega)]
                have ed : f.dfl.drop (f.dfl.length - (f.ps.length - ts.length)) = [] := by rw [ed0, List.drop_nil]
                have hp : f.ps = f.allps := by unfold FnI.allps; rw [hs]; simp
                rw [hp]
                refine wpAny_pure (h s H vs us e0 Un.refl rfl (fun _ _ z => z) rv (by rw [← hp]; omega) ⟨w0, Ext.refl _, sr, ?_⟩)
                rw [ed, List.map_nil, List.append_nil]
                exact rl
              · have nd : f.dfl ≠ [] := fun z => ne (List.map_eq_nil_iff.mpr z)
                have one : True := trivial
                · subst eV
                  have hits : its.length = f.dfl.length := by rw [← rT.length, List.length_map]
                  obtain ⟨k2, e1, e2⟩ := B.2 us.length (by omega) (by omega) nd T kV doc pm an cdv ct us its rfl hits
                  rw [e1]
                  refine wpAny_bind (wpAny_seqItems (KX _ _ lT) oT ?_)
                  rw [e2]
                  have hp : f.ps = f.allps := by unfold FnI.allps; rw [hs]; simp
                  have ej : f.dfl.length - (f.ps.length - us.length) = f.dfl.length - (f.ps.length - ts.length) := by omega
                  have ez : f.ps.zip (us ++ its.drop (f.dfl.length - (f.ps.length - us.length))) = f.allps.zip (us ++ its.drop (f.dfl.length - (f.ps.length - ts.length))) := by rw [ej, ← hp]
                  rw [ez]
                  refine wpAny_pure (h s H (vs ++ (f.dfl.map (He.Dv.v K)).drop (f.dfl.length - (f.ps.length - ts.length))) _ e0 Un.refl rfl (fun _ _ z => z) (rv.append (rT.drop _)) ?_ ⟨w0, Ext.refl _, sr, rl.append ?_⟩)
                  · rw [← hp, List.length_append, List.length_drop, List.length_map]
                    omega
                  · rw [List.map_drop]
                    exact (dv_rel hc.2.2).drop _
            · cases hb
          | some pv =>
            rw [hs] at hb B
            have hb : (if f.ps.length ≤ ts.length ∧ ts.length ≤ sizeLine ∧ f.dfl.length = 0 then some (ts.take f.ps.length ++ [.tup (ts.drop f.ps.length)]) else none) = some xs := hb
            split at hb
            · rename_i hc
              cases hb
              have edV : dV = .none := by
                rcases hD with ⟨_, e⟩ | ⟨e, _⟩
                · exact e
                · exact absurd (List.map_eq_nil_iff.mpr (List.length_eq_zero_iff.mp hc.2.2)) e
              subst edV
              have B := B kV doc pm an cdv ct (us.take f.ps.length) (us.drop f.ps.length) (by rw [List.length_take]; omega)
              rw [List.take_append_drop] at B
              rw [B]
              have r1 : Vals (vs.take f.ps.length) (us.take f.ps.length) := rv.take _
              have r2 : Vals (vs.drop f.ps.length) (us.drop f.ps.length) := rv.drop _
              have hl2 : (us.drop f.ps.length).length ≤ sizeLine := by rw [List.length_drop]; omega
              have hn : H s.heap.objs.size = none := e0.hok.fresh (Nat.le_refl _)
              refine wpAny_bind (wpAny_newTuple (wpAny_pure ?_) hl2)
              have new : ObjOk Pr w (upd H s.heap.objs.size (.tup (vs.drop f.ps.length))) (s.heap.push ({ cls := .type "tuple", data := .seq (us.drop f.ps.length).toArray } : Obj)) s.heap.objs.size (.tup (vs.drop f.ps.length)) :=
                ⟨by rw [r2.length]; exact hl2, us.drop f.ps.length, r2, ⟨_, Heap.get?_push_size _ rfl, rfl, _, rfl⟩⟩
              have un := StX.un_laid (fs := frs outer) (s := s) (o := ({ cls := .type "tuple", data := .seq (us.drop f.ps.length).toArray } : Obj)) (u := .tup (vs.drop f.ps.length)) hn
              obtain ⟨ex, sr2⟩ := sr.laid (o := .tup (vs.drop f.ps.length)) hn
              have z := h _ _ (vs.take f.ps.length ++ [V.ref s.heap.objs.size]) (us.take f.ps.length ++ [Value.ref s.heap.objs.size]) (StX.env0_laid e0 new) un rfl (fun e s' => StX.cxUp outer s H _ _ E e s' un (fun b o q => Heap.get?_push_of_some _ q) rfl) (r1.append (.cons rfl .nil))
                (by unfold FnI.allps; rw [hs, List.length_append, List.length_append, List.length_take]; simp; omega) ⟨_, ex, sr2, ?_⟩
              · unfold FnI.allps at z
                rw [hs] at z
                rw [show f.ps ++ (some pv).toList = f.ps ++ [pv] from rfl, List.zip_append (by rw [List.length_take]; omega)] at z
                exact z
              · exact ((rl.take _).mono ex).append ⟨_, [], rfl, ⟨_, _, rfl, SqT.of upd_same, (rl.drop _).mono ex⟩, rfl⟩
            · cases hb
        · -- the body
          exact body_run ok lb ho S.nd hg hr' hcd IH IL (fun x j p1 p2 _ _ _ _ pn xe W' _ => th_none) x2 r2 q2 fin
/-- .. handed a lambda -/
theorem fth_step {k : Nat} (ok : KOk P K mg) (lb : LamB K mg base) (ho : ∀ k d, OpOk P (callF P opc k) (opc (callF P opc k)) d) (IH : ∀ j, j ≤ k → ∀ i, FT (ArgsAt P i) Pr w K mg base (4 * j + 1) (fA K P i) (callF P opc j i))
    (IL : ∀ (i : Nat) (f : FnI), P.fns[i]? = some f → thOk P i = true → FTh P Pr w K mg base (4 * k + 1) i f (callG P opc k)) (i : Nat) (f : FnI) (hf : P.fns[i]? = some f) (hi : thOk P i = true) : FTh P Pr w K mg base (4 * (k + 1) + 1) i f (callG P opc (k + 1)) :=
  fun A outer s H fl Q E w0 st y m hr hg e0 sr ry hth fin => by
    obtain ⟨f', hf', fs, fd0, fl0⟩ := thOk_ok hi
    rw [hf] at hf'
    cases hf'
    have hb : bindArg f [y] = some [y] := by
      unfold bindArg
      rw [fs]
      dsimp only
      rw [if_pos ⟨by rw [fl0]; exact Nat.le_refl _, by rw [fl0]; exact Nat.le_add_right _ _, by rw [fd0]; rfl⟩, fd0]
      simp
    rw [callG_succ, hf] at fin
    dsimp only at fin
    rw [hb] at fin
    obtain ⟨⟨fd, F⟩, S, B⟩ := ok.fnD i f hf
    have hbd := fnD_binds F B ⟨fs, fd0⟩
    obtain ⟨oc, od, dV, kV, doc, pm, an, cdv, ct, osl, efd, lk, hcd, hD, _⟩ := F.ex
    subst efd
    have KX : K.In s.heap := e0.mod.kin.keeps fun b o e => (e0.bs b o e).1
    have hp : f.allps = f.ps := by unfold FnI.allps; rw [fs]; simp
    rw [hp] at S
    have b2 := hbd s [.ref fl] KX (by rw [fl0]; rfl)
    rw [List.append_nil] at b2
    exact LamX.run_ofS (CX := L2.CX Pr w) (N := f.N) (ps := f.ps) (us := [.ref fl]) (vs := [.ref fl]) lk hcd S hr e0 b2 (.cons rfl .nil) (by rw [fl0]; rfl) fun hr' =>
      body_run ok lb ho S.nd hg hr' hcd IH IL (fun x j p1 p2 h1 h2 h3 h4 pn xe W' tk => hth cdv hr' x j p1 p2 h1 h2 h3 h4 pn xe W' tk) (Ext.refl w0) sr (RpL.cons ry RpL.nil) fin
theorem fn_all (ok : KOk P K mg) (lb : LamB K mg base) (ho : ∀ k d, OpOk P (callF P opc k) (opc (callF P opc k)) d) : ∀ k, (∀ j, j ≤ k → ∀ i, FT (ArgsAt P i) Pr w K mg base (4 * j + 1) (fA K P i) (callF P opc j i)) ∧
    ∀ (i : Nat) (f : FnI), P.fns[i]? = some f → thOk P i = true → FTh P Pr w K mg base (4 * k + 1) i f (callG P opc k)
  | 0 => ⟨fun j hj i => by
      have : j = 0 := by omega
      subst this
      exact fun A outer s H a us vs Q E w0 st ts _ _ _ _ _ _ _ fin => fin.elim, fun i f _ _ A outer s H fl Q E w0 st y m _ _ _ _ _ _ fin => fin.elim⟩
  | k + 1 => by
    obtain ⟨h1, h2⟩ := fn_all ok lb ho k
    refine ⟨fun j hj i => ?_, fun i f hf hi => fth_step ok lb ho h1 h2 i f hf hi⟩
    rcases Nat.lt_or_ge j (k + 1) with z | z
    · exact h1 j (by omega) i
    · have : j = k + 1 := by omega
      subst this
      exact fn_step ok lb ho h1 h2 i
theorem fn_ok (ok : KOk P K mg) (lb : LamB K mg base) (ho : ∀ k d, OpOk P (callF P opc k) (opc (callF P opc k)) d) (k i : Nat) : FT (ArgsAt P i) Pr w K mg base (4 * k + 1) (fA K P i) (callF P opc k i) := (fn_all ok lb ho k).1 k (Nat.le_refl k) i
/-- without own comparisons -/
theorem op_plain (k d : Nat) : OpOk P (callF P (fun _ => cmpop) k) cmpop d := fun X fc W o _ _ op => op_cmp o.u
end
end G
-- GtX2
/-! x != y by the class's own == -/
namespace PySem
namespace GX
open PySem.W PySem.Calls PyProof.Rows Builtin
section
variable {prog : Program} {w : World} {A : Around} {E : Value → Shared → Prop} {s : Shared} {K : Frag} {x C f L : Addr} {ox : Obj} {od : Option Obj} {b tb : Value} {h₀ : Heap} {m : Str → Option Value}
theorem ifNe {M : Model} {args : List Value} {Q : Option Value → Shared → Prop} (X : K.In s.heap) (I : InstAt s.heap x ox C od) (hs : findIn K (.ref C) "__ne__" = some (some (.builtin "object.__ne__")))
    (h : wpAny M A (call (.builtin "object.__ne__") (.ref x :: args)) (fun v => Q (some v)) E s) : wpAny M A (callSpecialIfBound? (.ref x) "__ne__" args) Q E s := by
  simp only [callSpecialIfBound?, bindSpecialIfBound?]
  refine wpAny_holding (wpAny_bind (wpAny_bind (wpAny_bind (I.type.here ((looks_findIn X hs).here ?_)))))
  refine wpAny_bind (wpAny_askSetting (wpAny_ite ?_))
  have q : wpAny M A (call (.builtin "object.__ne__") ([.ref x] ++ args) >>= fun v => pure (some v)) Q E s := wpAny_bind (wpAny_mono h (fun v s' h' => wpAny_pure h') fun _ _ h' => h')
  split
  · exact wpAny_bind (wpAny_of_eq (PySem.F.slot_object_ne.bind _) (wpAny_pure (by exact q)))
  · exact wpAny_tryCatch (wpAny_bind (wpAny_of_eq (PySem.F.slot_object_ne.bind _) (wpAny_pure (by exact q))))
theorem callNe {Q : Value → Shared → Prop} (hu : A.in1.units < cLine) (X : K.In s.heap) (I : InstAt s.heap x ox C od) (hm : mroIn K C (.type "object") = some true) (he : findIn K (.ref C) "__eq__" = some (some (.ref f))) (hf : isFn K (.ref f) = true)
    (h : wpAny (model prog w) A.in1 (call (.ref f) [.ref x, b]) (W.BoolBack fun r => Q (.bool !r)) E s) : wpAny (model prog w) A (call (.builtin "object.__ne__") [.ref x, b]) Q E s := by
  refine wpAny_call (codeAny_call_builtin PySem.F.slot_object_ne.plain PySem.F.entry_object_ne (check_slot (i := "object.__ne__") (owner := "object") (n := "__ne__") (by decide +kernel) (by decide +kernel) (I.type.andThen (looks_mroIn X hm)) (PySem.F.args_object_ne_2 _ _) ?_))
  unfold Builtin.«object.__ne__»
  refine wpAny_bind (m := slotArgs "__ne__" 1 _) (wpAny_pure ?_)
  refine wpAny_bind (m := cRoomFor _ _) (wpAny_cRoomFor hu ?_)
  refine wpAny_bind (m := callSpecialIfBound? (.ref x) (Str.ofString "__eq__") _) (ifBound_K X I he hf (wpAny_mono h (fun r s' hq => ?_) fun _ _ y => y))
  cases r <;> first | exact hq.elim | skip
  exact wpAny_bind (wpAny_truthy_bool (wpAny_pure hq))
theorem ne_K {Q : Value → Shared → Prop} (hu : A.units < cLine) (hu1 : A.in1.units < cLine) (F : Fr h₀ L s.heap m) (X₀ : K.In h₀) (I : InstAt s.heap x ox C od) (hb : Looks (model prog w) s.heap (typeOf b) tb) (hn : notFirst K C tb = true)
    (hs : findIn K (.ref C) "__ne__" = some (some (.builtin "object.__ne__"))) (hm : mroIn K C (.type "object") = some true) (he : findIn K (.ref C) "__eq__" = some (some (.ref f))) (hf : isFn K (.ref f) = true)
    (h : wpAny (model prog w) A.in1 (call (.ref f) [.ref x, b]) (W.BoolBack fun r => Q (.bool !r)) E s) : wpAny (model prog w) A (richCompare .NotEq (.ref x) b) Q E s := by
  have X := X₀.keeps F.keep
  have one : wpAny (model prog w) A (tryCompare (.ref x) "__ne__" b) (fun r s' => ∃ v, r = some (.bool v) ∧ Q (.bool v) s') E s := by
    unfold tryCompare
    refine wpAny_bind (ifNe X I hs (callNe hu1 X I hm he hf (wpAny_mono h (fun v s' hv => ?_) fun _ _ e => e)))
    cases v <;> first | exact hv.elim | skip
    exact wpAny_pure ⟨_, rfl, hv⟩
  unfold richCompare
  simp only [oneThing_ref]
  refine wpAny_holding (wpAny_bind (wpAny_cRoomFor hu ?_))
  refine wpAny_bind (I.type.here (wpAny_bind (hb.here ?_)))
  have fin : wpAny (model prog w) A (tryCompare (.ref x) "__ne__" b) (fun r s' => ∃ v, r = some (.bool v) ∧ Q (.bool v) s') E s := one
  split
  · rename_i q
    have e : subIn K tb (.ref C) = some false := by
      rcases Bool.or_eq_true_iff.mp hn with e | e
      · rw [beq_iff_eq.mp e] at q; simp at q
      · exact beq_iff_eq.mp e
    refine wpAny_bind ((looks_subIn X e).here ?_)
    simp only [Bool.false_eq_true, if_false]
    refine wpAny_bind (wpAny_mono fin (fun r s' z => ?_) fun _ _ e => e)
    obtain ⟨v, rfl, hq⟩ := z
    exact wpAny_pure hq
  · refine wpAny_bind (wpAny_pure ?_)
    simp only [Bool.false_eq_true, if_false]
    refine wpAny_bind (wpAny_mono fin (fun r s' z => ?_) fun _ _ e => e)
    obtain ⟨v, rfl, hq⟩ := z
    exact wpAny_pure hq
end
end GX
end PySem
-- GtOwn
namespace G
open PySem L2
/-! ### own comparisons -/
def notB (neg : Bool) : T → M T
  | .bl b => ret (.bl (if neg then !b else b))
  | _ => bad
def eqO (P : Pg) (call : CallM) (neg : Bool) (a b : T) : M T := fun s => match ownI P "__eq__" (see s a) with
  | some i => match kdOf P (see s b) with
    | some k => if firstOk P (insC (see s a)) k then noX (bnd (call i [a, b]) (notB neg)) s else .bad
    | none => .bad
  | none => eqM neg a b s
def cmpO (P : Pg) (call : CallM) (op : CmpOp) (a b : T) : M T := match op with
  | .Eq => eqO P call false a b
  | .NotEq => eqO P call true a b
  | op => cmpop op a b
section
variable {P : Pg} {fc : FC} {X : Cx} {W : WX} {call : CallM} {d : Nat} {pins : List (Addr × Obj)} {σ : L2.St} {H : Hp} {s : Shared}
/-- the call of an own special method that tells a truth -/
theorem own_bool {A' : Around} {i : Nat} {neg : Bool} {u v : Value} {x y : V} {a b : T} {w : Wd} {st : S} {Q : VK} (F : FT (ArgsAt P i) X.prog X.w X.K X.mg X.base d (fA X.K P i) (call i)) (I : Inv X pins σ H s) (e0 : Env0 X.prog X.w X.K X.mg X.base A' X.stack s H) (hr : Room d A') (hg : A'.guards = some [])
    (rx : RelV x u) (ry : RelV y v) (sr : SR X.K w st H) (ra : Rp X.K w a x) (rb : Rp X.K w b y) (fin : Fi X.K w (noX (bnd (call i [a, b]) (notB neg)) st) (PQ X.K Q) (fun _ _ _ => False)) :
    wpAny (model X.prog X.w) A' (PySem.call (.ref (fA X.K P i)) [u, v]) (fun r s' => ∃ k : Bool, r = .bool k ∧ ∃ H', Inv X pins σ H' s' ∧ Q (.bl (if neg then !k else k)) H') X.xe s := by
  have f1 : Fi X.K w (call i [a, b] st) (PQ X.K fun v' H' => ∃ k : Bool, v' = .bl k ∧ Q (.bl (if neg then !k else k)) H') (fun _ _ _ => False) := Fi.bind (Fi.noX (E1 := fun _ _ _ => False) fin) fun r s1 w1 H1 x1 r1 f => by
    cases r with
    | bl k =>
      intro v' rv
      have rv : v' = .bl k := rv
      exact ⟨k, rv, Fi.ret (P := PQ X.K Q) (E := fun _ _ _ => False) f r1 _ rfl⟩
    | _ => exact f.elim
  refine wpAny_call (codeAny_mono (F A' X.stack s H ⟨[u, v], []⟩ [u, v] [x, y] _ _ w st [a, b] (.inl rfl) hr hg e0 (.cons rx (.cons ry .nil)) sr (RpL.cons ra (RpL.cons rb RpL.nil)) f1) fun r s' hq => ?_)
  cases r with
  | error er => exact (cx_false hq).elim
  | ok fl =>
    cases fl with
    | ret z =>
      obtain ⟨v', H', I3, rv, k, ek, q3⟩ := I.after hq
      subst ek
      exact ⟨k, rv, H', I3, q3⟩
    | next => exact False.elim hq
    | brk => exact False.elim hq
    | cont => exact False.elim hq
theorem op_eqO (o : OkX P fc X W) (hc : CallOk P X call d) (hd : fc.dep = d + 1) (neg : Bool) : OpR X (compareOp (if neg then .NotEq else .Eq)) (liftOp X.K (eqO P call neg)) := by
  intro pins s σ H x y v u Q I rx ry ⟨w, st, a, b, r, ra, rb, fin⟩
  unfold eqO at fin
  cases e1 : ownI P "__eq__" (see st a) with
  | none =>
    rw [e1] at fin
    cases neg with
    | true => exact op_cmp o.u (op := .NotEq) pins s σ H x y v u Q I rx ry ⟨w, st, a, b, r, ra, rb, fin⟩
    | false => exact op_cmp o.u (op := .Eq) pins s σ H x y v u Q I rx ry ⟨w, st, a, b, r, ra, rb, fin⟩
  | some i =>
    rw [e1] at fin
    obtain ⟨C, ns, ts, c, es, hC, he, hm⟩ := ownI_ok e1
    cases e2 : kdOf P (see st b) with
    | none => rw [e2] at fin; exact fin.elim
    | some k =>
      rw [e2] at fin
      have fin : Fi X.K w (if firstOk P (insC (see st a)) k then noX (bnd (call i [a, b]) (notB neg)) st else .bad) (PQ X.K Q) (fun _ _ _ => False) := fin
      split at fin
      · rename_i hf
        rw [es] at hf
        obtain ⟨n1, n2, n3⟩ := o.K.own C c i hC he hm
        have M := o.K.meth C c "__eq__" i hC he hm
        obtain ⟨p, dx, fs, ev, ea, _⟩ := see_insI r ra es
        subst ev
        obtain rfl : v = .ref p := rx
        obtain ⟨mA, J, _⟩ := ins_get I.hok ea
        obtain ⟨od, J, _⟩ := J.look
        obtain ⟨m, hF⟩ := I.fr
        obtain ⟨T, kt, hT, _⟩ := tyT (w := w) I o.K.ca (r.see rb) e2 ry
        have hb := fun MM => kt.ty MM s.heap I.kIn hT
        have hr1 : Room (d + 1) X.A := by rw [← hd]; exact o.rm
        cases neg with
        | false =>
          show wpAny (model X.prog X.w) X.A (richCompare .Eq (.ref p) u) _ _ _
          refine PySem.W.cmp_K (op := .Eq) (by have := o.u; omega) hF I.ok.mod.kin J (hb _) (n3 k hf) M.at_ M.fn (wpAny_mono (own_bool (hc.at i) I I.env0 (hr1.mono (Nat.le_succ _)) o.g (show RelV (V.ref p) (Value.ref p) from rfl) ry r ra rb fin) (fun z s' hz => ?_) fun _ _ q => q)
          obtain ⟨kb, rfl, H', I', q⟩ := hz
          exact ⟨.bl kb, H', I', rfl, q⟩
        | true =>
          show wpAny (model X.prog X.w) X.A (richCompare .NotEq (.ref p) u) _ _ _
          refine PySem.GX.ne_K (by have := o.u; omega) (by have := o.u; show X.A.units + 1 < cLine; omega) hF I.ok.mod.kin J (hb _) (n3 k hf) n1 n2 M.at_ M.fn (wpAny_mono (own_bool (hc.at i) I I.env0.in1 hr1.in1 o.g (show RelV (V.ref p) (Value.ref p) from rfl) ry r ra rb fin) (fun z s' hz => ?_) fun _ _ q => q)
          obtain ⟨kb, rfl, H', I', q⟩ := hz
          exact ⟨.bl (!kb), H', I', rfl, q⟩
      · exact fin.elim
/-- own == and != -/
theorem op_ownC (k d : Nat) : OpOk P (callF P (cmpO P) k) (cmpO P (callF P (cmpO P) k)) d := fun X fc W o hc hd op => by
  cases op with
  | Eq => exact op_eqO o hc hd false
  | NotEq => exact op_eqO o hc hd true
  | Lt => exact op_cmp o.u
  | LtE => exact op_cmp o.u
  | Gt => exact op_cmp o.u
  | GtE => exact op_cmp o.u
  | Is => exact op_cmp o.u
  | IsNot => exact op_cmp o.u
  | In => exact op_cmp o.u
  | NotIn => exact op_cmp o.u
end
end G
-- GtTab
namespace G
open PySem L2
/-! ### the written part, by one look at the tables -/
abbrev gaC := He.ga
mutual
def litB (K : PySem.W.Frag) : T → Value → Bool
  | .non, .none => true
  | .bl b, .bool c => b == c
  | .int i, .int j _ => decide (i = j)
  | .str x, .str y _ => decide (x = y)
  | .ty n, .type m => decide (n = m)
  | .glo x, .ref a => decide (a = He.ga K x)
  | .tup ts, .ref a => match K.lookup a with
    | some ⟨.type c, _, .seq its _, _⟩ => decide (c = "tuple") && (decide (its.size ≤ sizeLine) && litBs K ts its.toList)
    | _ => false
  | .frz ts, .ref a => match K.lookup a with
    | some ⟨.type c, none, .seq its _, _⟩ => decide (c = "list") && (decide (its.size ≤ sizeLine) && litBs K ts its.toList)
    | _ => false
  | _, _ => false
def litBs (K : PySem.W.Frag) : List T → List Value → Bool
  | [], [] => true
  | t :: ts, v :: vs => litB K t v && litBs K ts vs
  | _, _ => false
end
mutual
theorem litB_ok {K : PySem.W.Frag} : ∀ {t : T} {u : Value}, litB K t u = true → ∃ v, RelV v u ∧ ∀ w, Rp K w t v
  | .non, u, h => by
    cases u with
    | none => exact ⟨.non, rfl, fun _ => rfl⟩
    | _ => cases h
  | .bl b, u, h => by
    cases u with
    | bool c =>
      have e : b = c := eq_of_beq h
      exact ⟨.bl b, by rw [e]; rfl, fun _ => rfl⟩
    | _ => cases h
  | .int i, u, h => by
    cases u with
    | int j t =>
      have e : i = j := of_decide_eq_true h
      exact ⟨.int i, ⟨t, by rw [e]⟩, fun _ => rfl⟩
    | _ => cases h
  | .str x, u, h => by
    cases u with
    | str y t =>
      have e : x = y := of_decide_eq_true h
      exact ⟨.str x, ⟨t, by rw [e]⟩, fun _ => rfl⟩
    | _ => cases h
  | .ty n, u, h => by
    cases u with
    | type m =>
      have e : n = m := of_decide_eq_true h
      exact ⟨.ty n, by rw [e]; rfl, fun _ => rfl⟩
    | _ => cases h
  | .glo x, u, h => by
    cases u with
    | ref a =>
      have e : a = He.ga K x := of_decide_eq_true h
      exact ⟨.ref a, rfl, fun _ => by rw [e]; rfl⟩
    | _ => cases h
  | .tup ts, u, h => by
    cases u with
    | ref a =>
      have h : (match K.lookup a with
        | some ⟨.type c, _, .seq its _, _⟩ => decide (c = "tuple") && (decide (its.size ≤ sizeLine) && litBs K ts its.toList)
        | _ => false) = true := h
      split at h
      · rename_i c od its n osl lk
        rw [Bool.and_eq_true, Bool.and_eq_true, decide_eq_true_eq, decide_eq_true_eq] at h
        obtain ⟨h1, h2, h3⟩ := h
        subst h1
        obtain ⟨vs, r, q⟩ := litBs_ok h3
        exact ⟨.ref a, rfl, fun w => ⟨a, vs, rfl, .inr ⟨_, its, n, lk, rfl, rfl, h2, r⟩, q w⟩⟩
      · cases h
    | _ => cases h
  | .frz ts, u, h => by
    cases u with
    | ref a =>
      have h : (match K.lookup a with
        | some ⟨.type c, none, .seq its _, _⟩ => decide (c = "list") && (decide (its.size ≤ sizeLine) && litBs K ts its.toList)
        | _ => false) = true := h
      split at h
      · rename_i c its n osl lk
        rw [Bool.and_eq_true, Bool.and_eq_true, decide_eq_true_eq, decide_eq_true_eq] at h
        obtain ⟨h1, h2, h3⟩ := h
        subst h1
        obtain ⟨vs, r, q⟩ := litBs_ok h3
        exact ⟨.ref a, rfl, fun w => ⟨a, vs, rfl, .inr ⟨_, its, n, lk, rfl, rfl, rfl, h2, r⟩, q w⟩⟩
      · cases h
    | _ => cases h
  | .lst _, u, h => by cases u <;> cases h
  | .dct _ _, u, h => by cases u <;> cases h
  | .ins _ _ _, u, h => by cases u <;> cases h
  | .exc _ _ _, u, h => by cases u <;> cases h
  | .box _, u, h => by cases u <;> cases h
  | .lam _ _ _ _ _, u, h => by cases u <;> cases h
theorem litBs_ok {K : PySem.W.Frag} : ∀ {ts : List T} {us : List Value}, litBs K ts us = true → ∃ vs, Vals vs us ∧ ∀ w, RpL K w ts vs
  | [], us, h => by
    cases us with
    | nil => exact ⟨[], .nil, fun _ => rfl⟩
    | cons _ _ => cases h
  | t :: ts, us, h => by
    cases us with
    | nil => cases h
    | cons u us =>
      have h : (litB K t u && litBs K ts us) = true := h
      rw [Bool.and_eq_true] at h
      obtain ⟨v, r1, q1⟩ := litB_ok h.1
      obtain ⟨vs, r2, q2⟩ := litBs_ok h.2
      exact ⟨v :: vs, .cons r1 r2, fun w => ⟨v, vs, rfl, q1 w, q2 w⟩⟩
end
/-! ### one class -/
def eqB {α : Type} [DecidableEq α] (a b : α) : Bool := decide (a = b)
def memB (K : PySem.W.Frag) (P : Pg) (C : Str) (own : Bool) : Str × MK → Bool
  | (m, .fn i) => !own || (eqB (PySem.W.findIn K (.ref (He.ga K C)) m) (some (some (.ref (fA K P i)))) && (PySem.W.isFn K (.ref (fA K P i)) && PySem.W.keepIn K (.ref (fA K P i))))
  | (m, .prop i) => !own || (match PySem.W.findIn K (.ref (He.ga K C)) m with
    | some (some (.ref p)) => eqB (PySem.W.specialIn K (.ref p) "__get__") (some (some (.builtin "property.__get__"))) && (eqB (PySem.W.takesIn K (.ref p)) (some true) && eqB (recF K p "property") (some (fA K P i)))
    | _ => false)
  | (m, .con t) => (!own || (match PySem.W.findIn K (.ref (He.ga K C)) m with
    | some (some u) => litB K t u && (eqB (PySem.W.specialIn K u "__get__") (some none) && !PySem.W.copiedNames.contains m)
    | _ => false)) && (match PySem.W.findCls K (.ref (He.ga K C)) (.type "type") m with
    | some (.val u) => litB K t u
    | _ => false)
  | (m, .cm i) => match PySem.W.findCls K (.ref (He.ga K C)) (.type "type") m with
    | some (.get (.builtin g) (.ref p) .none (.ref D)) => eqB g "classmethod.__get__" && (eqB D (He.ga K C) && (eqB (recF K p "classmethod") (some (fA K P i)) && PySem.W.fnIn K (fA K P i)))
    | _ => false
  | (_, .sm _) => false
def creadB (K : PySem.W.Frag) (C : Str) : Bool := PySem.W.readsIn K (He.ga K C) (.type "type") && eqB (PySem.W.specialIn K (.ref (He.ga K C)) "__getattribute__") (some (some (.builtin "type.__getattribute__")))
def noC : MK → Bool
  | .con _ => false
  | .cm _ => false
  | _ => true
def clAllB (K : PySem.W.Frag) (C : Addr) : Bool := eqB (PySem.W.findIn K (.ref C) "__class__") (some (some (.builtin "object.__class__"))) && (eqB (PySem.W.specialIn K (.builtin "object.__class__") "__get__") (some (some (.builtin "getset_descriptor.__get__"))) &&
  (eqB (PySem.W.takesIn K (.builtin "object.__class__")) (some true) && eqB (PySem.W.mroIn K C (.type "object")) (some true)))
def oexB (K : PySem.W.Frag) (C : Addr) : Bool := (match K.lookup C with
  | some ⟨.type "type", _, .cls cd, sl⟩ => (match cd.mro, sl.toList with
    | .ref C' :: bm, [_, _, _, _, some (.builtin n), _] => C' == C && n == "ValueError.__new__" && !cd.hasDel && cd.hasDict && PySem.HandSPX.refsVE bm
    | _, _ => false)
  | _ => false) && (eqB (PySem.W.findIn K (.ref C) "__setattr__") (some (some (.builtin "object.__setattr__"))) && (eqB (PySem.W.subIn K (.ref C) (.type "BaseException")) (some true) && (eqB (PySem.W.typeIn K (.ref C)) (some (.type "type")) && PySem.W.keepIn K (.ref C))))
def exB (K : PySem.W.Frag) (P : Pg) (C : Str) (c : ClI) (ns : List Str) (i : Nat) : Bool := oexB K (He.ga K C) && (eqB (PySem.W.findIn K (.ref (He.ga K C)) "__init__") (some (some (.ref (fA K P i)))) && (eqB (PySem.W.typeIn K (.ref (fA K P i))) (some (.type "function")) &&
  (match P.fns[i]? with
    | some f => eqB f.ps (("self" : Str) :: ns) && ((f.star.isNone && f.dfl.isEmpty) && (eqB f.N f.ps && (initB ns f.body && (f.ps.all (fun n => eqB (f.scope.names.lookup n) (some .local) && okName n) && ns.all fun n => c.flds.contains n))))
    | none => false)))
def clsB (K : PySem.W.Frag) (P : Pg) (C : Str) (c : ClI) : Bool :=
  c.mem.all (memB K P C c.err.isNone) && (c.flds.all (fun f => eqB (PySem.W.findIn K (.ref (He.ga K C)) f) (some none)) && ((c.mem.all (fun m => noC m.2) || creadB K C) && (clAllB K (He.ga K C) && (match c.err with
    | none => (He.Fa.cls C).ok K && (match c.init with
      | some i => PySem.W.makesIn K (He.ga K C) && (eqB (PySem.W.findIn K (.ref (He.ga K C)) "__init__") (some (some (.ref (fA K P i)))) && (PySem.W.isFn K (.ref (fA K P i)) && PySem.W.keepIn K (.ref (He.ga K C))))
      | none => true)
    | some ns => xfB K (He.ga K C) && (match c.init with
      | some i => exB K P C c ns i
      | none => true)))))
/-! ### all -/
def gloB (K : PySem.W.Frag) (P : Pg) : Str × GV → Bool
  | (x, .fn i) => (He.Fa.glo x).ok K && (PySem.W.keepIn K (.ref (He.ga K x)) && eqB (fA K P i) (He.ga K x))
  | (x, .cls c) => (He.Fa.glo x).ok K && clsB K P x c
  | (x, .cst t) => match PySem.W.nsIn K mainGlobals x with
    | some (some u) => litB K t u
    | _ => false
def clsL (P : Pg) : List (Str × ClI) := P.glob.filterMap fun p => match p.2 with
  | .cls c => some (p.1, c)
  | _ => none
def isB (K : PySem.W.Frag) (P : Pg) : Bool :=
  (clsL P).all (fun p => bKinds.all (fun a => eqB (PySem.W.kitOne K (.type a) (.ref (He.ga K p.1))) (some false)) && (bTypes.all (fun b => eqB (PySem.W.kitOne K (.ref (He.ga K p.1)) (.type b)) (some false)) &&
    (eqB (PySem.W.kitOne K (.ref (He.ga K p.1)) (.type "ValueError")) (some p.2.err.isSome) && (clsL P).all fun q => eqB (PySem.W.kitOne K (.ref (He.ga K p.1)) (.ref (He.ga K q.1))) (some (p.2.sup.contains q.1)) &&
      (!p.2.err.isSome || (!q.2.err.isSome || eqB (PySem.W.exmOne K (.ref (He.ga K p.1)) (.ref (He.ga K q.1))) (some (p.2.sup.contains q.1)))))))
abbrev FnW := Option (Str × Str × Arguments × FuncBody × Scope × Addr × List (Str × Addr) × Addr)
def fnWa (K : PySem.W.Frag) (a : Addr) : FnW := match K.lookup a with
  | some ⟨_, _, .func fd, _⟩ => some (fd.name, fd.qualname, fd.params, fd.body, fd.scope, fd.globals, fd.closure, fd.builtins)
  | _ => none
def fnVal (f : FnI) : FnW := some (f.name, f.qual, f.params, .stmts f.body, f.scope, mainGlobals, [], builtinsNs)
def fnB (K : PySem.W.Frag) (P : Pg) (f : FnI) : Bool := PySem.W.keepIn K (.ref (fAt K f.at_)) && (match K.lookup (fAt K f.at_) with
  | some ⟨_, _, .func fd, _⟩ => PySem.W.codeIn K fd.code f.qual && He.dflB K fd.defaults (f.dfl.map (He.Dv.v K))
  | _ => false)
def isFnM : Option MK → Bool
  | some (.fn _) => true
  | _ => false
def ownB (K : PySem.W.Frag) (P : Pg) : Bool := (clsL P).all fun p => !(p.2.err.isNone && isFnM (p.2.mem.lookup ("__eq__" : Str))) || (eqB (PySem.W.findIn K (.ref (He.ga K p.1)) "__ne__") (some (some (.builtin "object.__ne__"))) &&
  (eqB (PySem.W.mroIn K (He.ga K p.1) (.type "object")) (some true) && (bKinds.all (fun n => PySem.W.notFirst K (He.ga K p.1) (.type n)) && (clsL P).all fun q => !firstOk P p.1 (.c q.1) || PySem.W.notFirst K (He.ga K p.1) (.ref (He.ga K q.1)))))
def bopB (K : PySem.W.Frag) (P : Pg) : Bool := (clsL P).all fun p => opNames.all fun nm => !(p.2.err.isNone && isFnM (p.2.mem.lookup (PySem.dunder nm))) || (PySem.W.selfFirst K (He.ga K p.1) && ((match PySem.W.findIn K (.ref (He.ga K p.1)) (PySem.dunderR nm) with
  | some none => true
  | some (some (.ref _)) => true
  | _ => false) && (bKinds.all (fun n => (PySem.W.findIn K (.type n) (PySem.dunder nm)).isSome && ((PySem.W.findIn K (.type n) (PySem.dunderR nm)).isSome && eqB (PySem.W.subIn K (.type n) (.ref (He.ga K p.1))) (some false))) && eqB (PySem.W.subIn K (.ref (He.ga K p.1)) (.type "int")) (some false))))
def seqB (K : PySem.W.Frag) (P : Pg) : Bool := (clsL P).all fun p => !(p.2.err.isNone && isFnM (p.2.mem.lookup ("__getitem__" : Str))) || PySem.W.noSeq K (He.ga K p.1)
/-- an entry that looks like a code object is one, with a table -/
def codB (e : Addr × Obj) : Bool := match e.2.data with
  | .fields vs => match vs.toList with
    | _ :: .str n _ :: _ => (match tabOf e with
      | some (p, q) => decide (q = n ++ ".<locals>." ++ "<lambda>") && ((match e.2.cls with | .type t => t == "code" | _ => false) && ((match vs.getD 11 .none with | .ref p' => p' == p | _ => false) && ((match vs.getD 18 .none with | .str _ _ => true | _ => false) &&
        ((match vs.getD 7 .none with | .int _ _ => true | _ => false) && ((match vs.getD 9 .none with | .bool _ => true | _ => false) && ((match vs.getD 10 .none with | .int _ _ => true | _ => false) && !(e.1 == p)))))))
      | none => false)
    | _ => true
  | _ => true
def nodB : List Nat → Bool
  | [] => true
  | a :: r => !r.contains a && nodB r
def tabB (K : PySem.W.Frag) : Bool := nodB (K.map (·.1)) && (K.all codB && (nodB ((tabs K).map (·.1)) && (tabs K).all fun p => (K.lookup p.1).isNone))
def kB (P : Pg) (K : PySem.W.Frag) : Bool := P.glob.all (gloB K P) && (bNames.all (fun x => (P.glob.lookup x).isSome || (He.Fa.free x).ok K) && (isB K P && (P.fns.all (fnB K P) && (sysB K && ((ownB K P && (bopB K P && seqB K P)) && tabB K)))))
end G
-- GtTab2
namespace G
open PySem L2
theorem eqB_ok {α : Type} [DecidableEq α] {a b : α} (h : eqB a b = true) : a = b := of_decide_eq_true h
theorem ba {a b : Bool} (h : (a && b) = true) : a = true ∧ b = true := Bool.and_eq_true_iff.mp h
theorem recF_ok {K : PySem.W.Frag} {p g : Addr} {n : String} (h : recF K p n = some g) : ∃ rest, PySem.W.recIn K p n = some (.ref g :: rest) := by
  unfold recF at h
  split at h
  · rename_i g' rest e
    cases h
    exact ⟨rest, e⟩
  · cases h
theorem lk_in {α : Type} {m : Str} {v : α} : ∀ {l : List (Str × α)}, l.lookup m = some v → (m, v) ∈ l
  | [], h => by cases h
  | (n, w) :: r, h => by
    rw [List.lookup_cons] at h
    split at h
    · rename_i e
      cases h
      rw [eq_of_beq e]
      exact List.mem_cons_self
    · exact List.mem_cons_of_mem _ (lk_in h)
section
variable {K : PySem.W.Frag} {P : Pg} {mg : Str → Option Value} {h : Heap}
theorem cls_glob {C : Str} {c : ClI} (e : P.cls? C = some c) : P.glob.lookup C = some (.cls c) := by
  unfold Pg.cls? at e
  split at e
  · rename_i c' e'
    cases e
    exact e'
  · cases e
theorem cls_L {C : Str} {c : ClI} (e : P.cls? C = some c) : (C, c) ∈ clsL P := by
  unfold clsL
  exact List.mem_filterMap.mpr ⟨_, lk_in (cls_glob e), rfl⟩
theorem cread_ok {C : Str} (h : creadB K C = true) : ClX.CRead K (He.ga K C) (.type "type") := by
  obtain ⟨h1, h2⟩ := ba h
  exact ⟨h1, eqB_ok h2⟩
theorem oex_ok {C : Addr} (q : oexB K C = true) : OexC K C := by
  obtain ⟨q, h⟩ := ba q
  obtain ⟨h1, h⟩ := ba h
  obtain ⟨h2, h⟩ := ba h
  obtain ⟨h3, h4⟩ := ba h
  refine ⟨?_, eqB_ok h1, eqB_ok h2, eqB_ok h3, h4⟩
  split at q
  · rename_i dd cd sl ho
    split at q
    · rename_i C' bm k0 k1 k2 k3 n k5 hm hs
      simp only [Bool.and_eq_true, beq_iff_eq, Bool.not_eq_true'] at q
      obtain ⟨⟨⟨⟨rfl, rfl⟩, hdel⟩, hd⟩, ht⟩ := q
      obtain ⟨nm, bs, mro, ns, qn, hd', sn, sub, ab, col, del⟩ := cd
      dsimp only at hm hdel hd
      subst hm hdel hd
      have hsl : sl = #[k0, k1, k2, k3, some (.builtin "ValueError.__new__"), k5] := by
        obtain ⟨l⟩ := sl
        simp only at hs
        rw [hs]
      subst hsl
      exact ⟨nm, qn, ns, bs, bm, sn, sub, ab, col, dd, k0, k1, k2, k3, k5, ho, ht⟩
    · cases q
  · cases q
theorem isB_ok (h : isB K P = true) : isOk K P ∧ ∀ C c x cx, P.cls? C = some c → P.cls? x = some cx → c.err.isSome = true → cx.err.isSome = true → PySem.W.exmOne K (.ref (He.ga K C)) (.ref (He.ga K x)) = some (c.sup.contains x) := by
  have h1 : ∀ {C c}, P.cls? C = some c → _ := fun {C c} e => List.all_eq_true.mp h (C, c) (cls_L e)
  refine ⟨⟨fun a D d m e => ?_, fun C c b e m => ?_, fun C c e => ?_, fun C c D d e e2 => ?_⟩, fun C c D d e e2 i1 i2 => ?_⟩
  · obtain ⟨k, _⟩ := ba (h1 e)
    exact eqB_ok (List.all_eq_true.mp k a (List.elem_iff.mp m))
  · obtain ⟨_, k⟩ := ba (h1 e)
    obtain ⟨k, _⟩ := ba k
    exact eqB_ok (List.all_eq_true.mp k b (List.elem_iff.mp m))
  · obtain ⟨_, k⟩ := ba (h1 e)
    obtain ⟨_, k⟩ := ba k
    obtain ⟨k, _⟩ := ba k
    exact eqB_ok k
  · obtain ⟨_, k⟩ := ba (h1 e)
    obtain ⟨_, k⟩ := ba k
    obtain ⟨_, k⟩ := ba k
    obtain ⟨k, _⟩ := ba (List.all_eq_true.mp k (D, d) (cls_L e2))
    exact eqB_ok k
  · obtain ⟨_, k⟩ := ba (h1 e)
    obtain ⟨_, k⟩ := ba k
    obtain ⟨_, k⟩ := ba k
    obtain ⟨_, k⟩ := ba (List.all_eq_true.mp k (D, d) (cls_L e2))
    have k : (!c.err.isSome || (!d.err.isSome || eqB (PySem.W.exmOne K (.ref (He.ga K C)) (.ref (He.ga K D))) (some (c.sup.contains D)))) = true := k
    rw [i1, i2] at k
    exact eqB_ok k
theorem fnB_ok {f : FnI} (c : fnB K P f = true) (e : fnWa K (fAt K f.at_) = fnVal f) : ∃ fd, FunD K f.name f.qual f.params f.body f.scope (f.dfl.map (He.Dv.v K)) [] (fAt K f.at_) fd := by
  obtain ⟨kp, c2⟩ := ba c
  unfold fnWa at e
  cases q : K.lookup (fAt K f.at_) with
  | none =>
    rw [q] at c2
    cases c2
  | some o =>
    obtain ⟨oc, od, dt, osl⟩ := o
    rw [q] at c2 e
    cases dt with
    | func fd =>
      obtain ⟨n1, n2, n3, n4, n5, n6, n7, n8, n9, n10, n11, n12, n13, n14, n15⟩ := fd
      have e2 : (some (n1, n2, n3, n4, n5, n6, n7, n15) : FnW) = some (f.name, f.qual, f.params, .stmts f.body, f.scope, mainGlobals, [], builtinsNs) := e
      simp only [Option.some.injEq, Prod.mk.injEq] at e2
      obtain ⟨h1, h2, h3, h4, h5, h6, h7, h8⟩ := e2
      subst h1 h2 h3 h4 h5 h6 h7 h8
      have c3 : (PySem.W.codeIn K n13 f.qual && He.dflB K n8 (f.dfl.map (He.Dv.v K))) = true := c2
      obtain ⟨k1, k3⟩ := ba c3
      exact ⟨_, ⟨oc, od, n8, n9, n10, n11, n12, n13, n14, osl, rfl, q, k1, He.dflB_ok k3, .inl rfl⟩, kp⟩
    | _ => cases c2
theorem memB_fn {C m : Str} {i : Nat} (h : memB K P C true (m, .fn i) = true) : Meth K (He.ga K C) m (fA K P i) := by
  have h : (eqB (PySem.W.findIn K (.ref (He.ga K C)) m) (some (some (.ref (fA K P i)))) && (PySem.W.isFn K (.ref (fA K P i)) && PySem.W.keepIn K (.ref (fA K P i)))) = true := h
  obtain ⟨h1, h⟩ := ba h
  obtain ⟨h2, h3⟩ := ba h
  exact ⟨eqB_ok h1, h2, h3⟩
theorem memB_prop {C m : Str} {i : Nat} (h : memB K P C true (m, .prop i) = true) : ∃ p, PropOf K (He.ga K C) m p (fA K P i) := by
  dsimp only [memB] at h
  rw [Bool.not_true, Bool.false_or] at h
  split at h
  · rename_i p e
    obtain ⟨h1, h⟩ := ba h
    obtain ⟨h2, h3⟩ := ba h
    exact ⟨p, e, eqB_ok h1, eqB_ok h2, recF_ok (eqB_ok h3)⟩
  · cases h
theorem memB_con {C m : Str} {t : T} (h : memB K P C true (m, .con t) = true) : ∃ v u, Con K (He.ga K C) m v u ∧ ∀ w, Rp K w t v := by
  dsimp only [memB] at h
  obtain ⟨h, _⟩ := ba h
  rw [Bool.not_true, Bool.false_or] at h
  split at h
  · rename_i u e
    obtain ⟨h1, h⟩ := ba h
    obtain ⟨h2, h3⟩ := ba h
    obtain ⟨v, r, q⟩ := litB_ok h1
    exact ⟨v, u, ⟨e, r, eqB_ok h2, by simpa using h3⟩, q⟩
  · cases h
theorem memB_cval {C m : Str} {t : T} {own : Bool} (h : memB K P C own (m, .con t) = true) : ∃ v u, ClX.CVal K (He.ga K C) (.type "type") m v u ∧ ∀ w, Rp K w t v := by
  dsimp only [memB] at h
  obtain ⟨_, h⟩ := ba h
  split at h
  · rename_i u e
    obtain ⟨v, r, q⟩ := litB_ok h
    exact ⟨v, u, ⟨e, r⟩, q⟩
  · cases h
theorem memB_cm {C m : Str} {i : Nat} {own : Bool} (h : memB K P C own (m, .cm i) = true) : ∃ p, ClX.CMet K (He.ga K C) (.type "type") m p (fA K P i) := by
  dsimp only [memB] at h
  split at h
  · rename_i g p D e
    obtain ⟨h1, h⟩ := ba h
    obtain ⟨h2, h⟩ := ba h
    obtain ⟨h3, h4⟩ := ba h
    have q1 := eqB_ok h1
    have q2 := eqB_ok h2
    subst q1
    subst q2
    exact ⟨p, e, recF_ok (eqB_ok h3), h4⟩
  · cases h
theorem cr_of {C m : Str} {c : ClI} {x : MK} (h : (c.mem.all (fun m => noC m.2) || creadB K C) = true) (l : c.mem.lookup m = some x) (n : noC x = false) : creadB K C = true := by
  cases e : c.mem.all (fun m => noC m.2) with
  | false =>
    rw [e] at h
    exact h
  | true =>
    have z : noC x = true := List.all_eq_true.mp e (m, x) (lk_in l)
    rw [z] at n
    cases n
theorem cls_mem {C : Str} {c : ClI} (h : P.cls? C = some c) : (C, c) ∈ clsL P := by
  unfold clsL
  exact List.mem_filterMap.mpr ⟨(C, .cls c), lk_in (cls_glob h), rfl⟩
theorem ownB_ok (h : ownB K P = true) : eqOk K P := fun C c i hC he hm => by
  have z := List.all_eq_true.mp h (C, c) (cls_mem hC)
  have e1 : (c.err.isNone && isFnM (c.mem.lookup ("__eq__" : Str))) = true := by rw [he, hm]; rfl
  have z : (!(c.err.isNone && isFnM (c.mem.lookup ("__eq__" : Str))) || _) = true := z
  rw [e1] at z
  obtain ⟨z1, z⟩ := ba z
  obtain ⟨z2, z⟩ := ba z
  obtain ⟨z3, z4⟩ := ba z
  refine ⟨eqB_ok z1, eqB_ok z2, fun k hk => ?_⟩
  cases k with
  | b n => exact List.all_eq_true.mp z3 n (by simpa [firstOk] using hk)
  | c D =>
    have hk' : (D == C || (match P.cls? D with
      | some d => !d.sup.contains C
      | none => false)) = true := hk
    cases hD : P.cls? D with
    | some d =>
      have y := List.all_eq_true.mp z4 (D, d) (cls_mem hD)
      have y : (!firstOk P C (.c D) || PySem.W.notFirst K (He.ga K C) (.ref (He.ga K D))) = true := y
      rw [hk] at y
      exact y
    | none =>
      rw [hD] at hk'
      have e : D = C := by simpa using hk'
      rw [e, hC] at hD
      cases hD
theorem bopB_ok (h : bopB K P = true) : bopOk K P := fun C c i nm hn hC he hm => by
  have z := List.all_eq_true.mp (List.all_eq_true.mp h (C, c) (cls_mem hC)) nm hn
  have e1 : (c.err.isNone && isFnM (c.mem.lookup (PySem.dunder nm))) = true := by rw [he, hm]; rfl
  have z : (!(c.err.isNone && isFnM (c.mem.lookup (PySem.dunder nm))) || _) = true := z
  rw [e1] at z
  obtain ⟨z1, z⟩ := ba z
  obtain ⟨z2, z⟩ := ba z
  obtain ⟨z3, z4⟩ := ba z
  refine ⟨z1, ?_, fun n hn => ?_, eqB_ok z4⟩
  · dsimp only at z2
    split at z2
    · rename_i e; exact ⟨_, e, .inl rfl⟩
    · rename_i g e; exact ⟨_, e, .inr ⟨g, rfl⟩⟩
    · cases z2
  · have y := List.all_eq_true.mp z3 n (by simpa using hn)
    obtain ⟨y1, y⟩ := ba y
    obtain ⟨y2, y3⟩ := ba y
    exact ⟨Option.isSome_iff_exists.mp y1, Option.isSome_iff_exists.mp y2, eqB_ok y3⟩
theorem seqB_ok (h : seqB K P = true) : seqOk K P := fun C c i hC he hm => by
  have z := List.all_eq_true.mp h (C, c) (cls_mem hC)
  have e1 : (c.err.isNone && isFnM (c.mem.lookup ("__getitem__" : Str))) = true := by rw [he, hm]; rfl
  have z : (!(c.err.isNone && isFnM (c.mem.lookup ("__getitem__" : Str))) || _) = true := z
  rw [e1] at z
  exact z
theorem nodB_ok : ∀ {l : List Nat}, nodB l = true → l.Nodup
  | [], _ => List.nodup_nil
  | a :: r, h => by
    unfold nodB at h
    rw [Bool.and_eq_true, Bool.not_eq_true'] at h
    exact List.nodup_cons.mpr ⟨fun z => (by rw [List.contains_iff_mem.mpr z] at h; cases h.1), nodB_ok h.2⟩
theorem tabB_ok {K : PySem.W.Frag} (h : tabB K = true) : ((tabs K).map (·.1)).Nodup ∧ ∀ (cdv : Value) (q : Str), PySem.W.codeIn K cdv q = true → ∃ c o p, cdv = .ref c ∧ K.lookup c = some o ∧ tabOf (c, o) = some (p, q ++ ".<locals>." ++ "<lambda>") := by
  unfold tabB at h
  simp only [Bool.and_eq_true] at h
  obtain ⟨_, h2, h3, _⟩ := h
  refine ⟨nodB_ok h3, fun cdv q e => ?_⟩
  unfold PySem.W.codeIn at e
  split at e
  · rename_i c
    split at e
    · rename_i oc od vs os lk
      split at e
      · rename_i x n t r hv
        have hn : n = q := eq_of_beq e
        subst hn
        have hc := List.all_eq_true.mp h2 _ (mem_lkN lk)
        unfold codB at hc
        dsimp only at hc
        rw [hv] at hc
        dsimp only at hc
        cases ht : tabOf (c, ⟨oc, od, .fields vs, os⟩) with
        | none => rw [ht] at hc; cases hc
        | some pq =>
          obtain ⟨p, q'⟩ := pq
          rw [ht] at hc
          simp only [Bool.and_eq_true, decide_eq_true_eq] at hc
          exact ⟨c, _, p, rfl, lk, by rw [ht, hc.1]⟩
      · cases e
    · cases e
  · cases e
theorem kB_ok (X : K.In h) (G : h.Ns mainGlobals mg) (q : kB P K = true) (hf : (P.fns.map fun f => fnWa K (fAt K f.at_)) = P.fns.map fnVal)
    (hs : ∀ (i : Nat) (f : FnI), P.fns[i]? = some f → FnScope f.N f.allps f.scope ∧ BindF f) (hw : ∀ e, e ∈ P.kws → ∃ f, P.fns[e.i]? = some f ∧ KwF f e.n e.ks e.out) : KOk P K mg := by
  obtain ⟨hg, q⟩ := ba q
  obtain ⟨hn, q⟩ := ba q
  obtain ⟨hi, q⟩ := ba q
  obtain ⟨hF, q⟩ := ba q
  obtain ⟨hsy, q⟩ := ba q
  obtain ⟨hown', htab⟩ := ba q
  obtain ⟨hown, hbs⟩ := ba hown'
  obtain ⟨hbop, hseq⟩ := ba hbs
  have g1 : ∀ {x v}, P.glob.lookup x = some v → gloB K P (x, v) = true := fun {x v} e => List.all_eq_true.mp hg (x, v) (lk_in e)
  have g2 : ∀ {C c}, P.cls? C = some c → (He.Fa.glo C).ok K = true ∧ clsB K P C c = true := fun {C c} e => ba (g1 (cls_glob e))
  have g3 : ∀ {C c m x}, P.cls? C = some c → c.mem.lookup m = some x → memB K P C c.err.isNone (m, x) = true := fun {C c m x} e l => by
    obtain ⟨_, k⟩ := g2 e
    obtain ⟨k, _⟩ := ba k
    exact List.all_eq_true.mp k _ (lk_in l)
  have g4 : ∀ {C c}, P.cls? C = some c → (c.mem.all (fun m => noC m.2) || creadB K C) = true ∧ clAllB K (He.ga K C) = true ∧ (match c.err with
    | none => (He.Fa.cls C).ok K && (match c.init with
      | some i => PySem.W.makesIn K (He.ga K C) && (eqB (PySem.W.findIn K (.ref (He.ga K C)) "__init__") (some (some (.ref (fA K P i)))) && (PySem.W.isFn K (.ref (fA K P i)) && PySem.W.keepIn K (.ref (He.ga K C))))
      | none => true)
    | some ns => xfB K (He.ga K C) && (match c.init with
      | some i => exB K P C c ns i
      | none => true)) = true := fun {C c} e => by
    obtain ⟨_, k⟩ := g2 e
    obtain ⟨_, k⟩ := ba k
    obtain ⟨_, k⟩ := ba k
    obtain ⟨k1, k⟩ := ba k
    obtain ⟨k2, k⟩ := ba k
    exact ⟨k1, k2, k⟩
  refine ⟨fun x t e => ?_, fun x i e => ?_, fun x c e => ?_, fun x m e => ?_, (isB_ok hi).1, fun C c e => ?_, hsy, fun C c e n => ?_, fun C c e n => ?_, fun C c f e m => ?_, fun C c m i e n l => ?_, fun C c m i e n l => ?_, fun C c m t e n l => ?_,
    fun C c m t e l => ?_, fun C c m i e l => ?_, fun i f e => ?_, fun C c ns i e n l => ?_, (isB_ok hi).2, fun C c i e n l => ?_, ownB_ok hown, bopB_ok hbop, seqB_ok hseq, hw, (tabB_ok htab).1, (tabB_ok htab).2⟩
  · have k := g1 e
    dsimp only [gloB] at k
    split at k
    · rename_i u eu
      obtain ⟨v, r, z⟩ := litB_ok k
      exact ⟨v, u, PySem.W.mg_of X G eu, r, z⟩
    · cases k
  · obtain ⟨k1, k⟩ := ba (g1 e)
    obtain ⟨k2, k3⟩ := ba k
    exact ⟨He.glo_ok X G k1, k2, eqB_ok k3⟩
  · obtain ⟨k1, k⟩ := ba (g1 e)
    exact He.glo_ok X G k1
  · have k := List.all_eq_true.mp hn x m
    rw [e] at k
    exact He.free_ok X G k
  · obtain ⟨_, k2, k3⟩ := g4 e
    obtain ⟨a1, k2⟩ := ba k2
    obtain ⟨a2, k2⟩ := ba k2
    obtain ⟨a3, a4⟩ := ba k2
    refine ⟨fun n => ?_, fun fs n => ?_⟩
    · rw [n] at k3
      obtain ⟨k3, _⟩ := ba k3
      exact ⟨He.cls_ok k3, eqB_ok a1, eqB_ok a2, eqB_ok a3, eqB_ok a4⟩
    · rw [n] at k3
      obtain ⟨k3, _⟩ := ba k3
      have x := xfB_ok k3
      exact ⟨x.ga, x.gg, x.exC, x.hdC, eqB_ok a1, eqB_ok a2, eqB_ok a3, eqB_ok a4⟩
  · obtain ⟨_, _, k3⟩ := g4 e
    rw [n] at k3
    exact He.cls_ok (ba k3).1
  · obtain ⟨_, _, k3⟩ := g4 e
    cases z : c.err with
    | none => rw [z] at n; cases n
    | some ns =>
      rw [z] at k3
      exact xfB_ok (ba k3).1
  · obtain ⟨_, k⟩ := g2 e
    obtain ⟨_, k⟩ := ba k
    obtain ⟨k, _⟩ := ba k
    exact eqB_ok (List.all_eq_true.mp k f m)
  · have k := g3 e l
    rw [n] at k
    exact memB_fn k
  · have k := g3 e l
    rw [n] at k
    exact memB_prop k
  · have k := g3 e l
    rw [n] at k
    exact memB_con k
  · obtain ⟨v, u, a, b⟩ := memB_cval (g3 e l)
    exact ⟨_, v, u, cread_ok (cr_of (g4 e).1 l rfl), a, b⟩
  · obtain ⟨p, a⟩ := memB_cm (g3 e l)
    exact ⟨_, p, cread_ok (cr_of (g4 e).1 l rfl), a⟩
  · have c2 : (P.fns.map fun f => fnWa K (fAt K f.at_))[i]? = (P.fns.map fnVal)[i]? := by rw [hf]
    rw [List.getElem?_map, List.getElem?_map, e] at c2
    have a := fnB_ok (List.all_eq_true.mp hF f (List.mem_of_getElem? e)) (Option.some.inj c2)
    refine ⟨?_, hs i f e⟩
    unfold fA
    rw [e]
    exact a
  · obtain ⟨_, _, k3⟩ := g4 e
    rw [n] at k3
    obtain ⟨_, k⟩ := ba k3
    rw [l] at k
    obtain ⟨b1, k⟩ := ba k
    obtain ⟨b2, k⟩ := ba k
    obtain ⟨b3, k⟩ := ba k
    refine ⟨oex_ok b1, eqB_ok b2, eqB_ok b3, ?_⟩
    split at k
    · rename_i f ef
      obtain ⟨d1, k⟩ := ba k
      obtain ⟨d2, k⟩ := ba k
      obtain ⟨d3, k⟩ := ba k
      obtain ⟨d4, k⟩ := ba k
      obtain ⟨d5, d6⟩ := ba k
      refine ⟨f, ef, eqB_ok d1, ⟨Option.isNone_iff_eq_none.mp (ba d2).1, List.isEmpty_iff.mp (ba d2).2⟩, eqB_ok d3, d4, fun n hn => ?_, fun n hn => ?_⟩
      · obtain ⟨y1, y2⟩ := ba (List.all_eq_true.mp d5 n hn)
        exact ⟨eqB_ok y1, y2⟩
      · exact List.elem_iff.mp (List.all_eq_true.mp d6 n hn)
    · cases k
  · obtain ⟨_, _, k3⟩ := g4 e
    rw [n] at k3
    obtain ⟨_, k⟩ := ba k3
    rw [l] at k
    obtain ⟨b1, k⟩ := ba k
    obtain ⟨b2, k⟩ := ba k
    obtain ⟨b3, b4⟩ := ba k
    exact ⟨b1, eqB_ok b2, b3, b4⟩
end
end G
-- GtHead
namespace G
open PySem L2
open PySem.Spec PyProof.Rows
def AllF {α : Type} (Q : α → Prop) : List α → Prop
  | [] => True
  | f :: r => Q f ∧ AllF Q r
theorem allF {α : Type} {Q : α → Prop} : ∀ {l : List α}, AllF Q l → ∀ (i : Nat) (f : α), l[i]? = some f → Q f
  | [], _, i, f, e => by cases e
  | g :: r, h, 0, f, e => by cases e; exact h.1
  | g :: r, h, i + 1, f, e => allF (l := r) h.2 i f e
theorem allF_mk {α : Type} {Q : α → Prop} {f : α} {r : List α} (h : Q f) (t : AllF Q r) : AllF Q (f :: r) := ⟨h, t⟩
theorem allF_in {α : Type} {Q : α → Prop} : ∀ {l : List α}, AllF Q l → ∀ e, e ∈ l → Q e
  | [], _, e, h => by cases h
  | g :: r, h, e, m => by
    rcases List.mem_cons.mp m with z | z
    · rw [z]; exact h.1
    · exact allF_in (l := r) h.2 e z
def QW (P : Pg) (e : KwI) : Prop := ∃ f, P.fns[e.i]? = some f ∧ KwF f e.n e.ks e.out
def QF (f : FnI) : Prop := FnScope f.N f.allps f.scope ∧ BindF f
theorem qf {f : FnI} (a : FnScope f.N f.allps f.scope) (b : BindF f) : QF f := ⟨a, b⟩
/-! ### the Hook -/
abbrev AlP : Type := Bool × List FnW
/-- an empty table of code objects -/
abbrev eTab : Obj := { cls := .none, data := .fields #[] }
def isE : Option Obj → Bool
  | some ⟨.none, none, .fields ⟨[]⟩, ⟨[]⟩⟩ => true
  | _ => false
theorem isE_ok {o : Option Obj} (h : isE o = true) : o = some eTab := by
  unfold isE at h
  split at h
  · rfl
  · cases h
def obsK (P : Pg) (K : PySem.W.Frag) : AlP := (kB P K, P.fns.map fun f => fnWa K (fAt K f.at_))
def valK (P : Pg) : AlP := (true, P.fns.map fnVal)
def frP (n : Nat) (g : Addr → Option Obj) : PySem.W.Frag := He.frG g ((sysModules :: PySem.cStatics :: He.asD g n).eraseDups.filter fun a => !isE (g a))
def obsP (n : Nat) (P : Pg) (g : Addr → Option Obj) : AlP := let K := frP n g
  (kB P K && (tabs K).all (fun p => isE (g p.1)), P.fns.map fun f => fnWa K (fAt K f.at_))
def hookP (n : Nat) (P : Pg) : PySem.W.Hook where
  α := AlP
  obs := fun s => obsP n P s.heap.get?
  val := fun _ => valK P
  says := fun _ h => ∃ K : PySem.W.Frag, K.In h ∧ obsK P K = valK P ∧ ∀ p ∈ tabs K, h.get? p.1 = some eTab
  of := fun _ s e => by
    have e1 : (kB P (frP n s.heap.get?) && (tabs (frP n s.heap.get?)).all (fun p => isE (s.heap.get? p.1))) = true := congrArg (fun z : AlP => z.1) e
    have e2 : (P.fns.map fun f => fnWa (frP n s.heap.get?) (fAt (frP n s.heap.get?) f.at_)) = P.fns.map fnVal := congrArg (fun z : AlP => z.2) e
    rw [Bool.and_eq_true] at e1
    refine ⟨frP n s.heap.get?, He.frG_in, ?_, fun p hp => isE_ok (List.all_eq_true.mp e1.2 p hp)⟩
    unfold obsK valK
    rw [e1.1, e2]
  keeps := fun _ _ _ ⟨K, hK, c, ht⟩ k => ⟨K, PySem.W.Frag.In.keeps hK k, c, fun p hp => k _ _ (ht p hp)⟩
theorem obsP_eq {n : Nat} {P : Pg} {g : Addr → Option Obj} {s : Shared} (h : ∀ a, g a = s.heap.get? a) : obsP n P g = (hookP n P).obs s := by
  have e : g = s.heap.get? := funext h
  rw [e] <;> rfl
/-- a code object that is kept, with its table -/
theorem tab_code {K : PySem.W.Frag} {h : Heap} (hK : K.In h) (hB : tabB K = true) {c : Addr} {o : Obj} {p : Addr} {q : Str} (lk : K.lookup c = some o) (ht : tabOf (c, o) = some (p, q)) : PySem.W.CodeHd h c p := by
  unfold tabB at hB
  simp only [Bool.and_eq_true] at hB
  obtain ⟨h1, h2, h3, h4⟩ := hB
  have hm := mem_lkN lk
  have hc := List.all_eq_true.mp h2 _ hm
  obtain ⟨cl, od, da, os⟩ := o
  have ht0 := ht
  cases da with
  | fields vs =>
    cases cl with
    | type t =>
      have ht : (if t == "code" then (match (vs[1]? : Option Value), (vs[11]? : Option Value) with
        | some (Value.str n _), some (Value.ref p) => some (p, n ++ ".<locals>." ++ "<lambda>")
        | _, _ => none) else none : Option (Addr × Str)) = some (p, q) := ht
      split at ht
      · rename_i et
        split at ht
        · rename_i n tk p' e1 e11
          cases ht
          have hl : ∃ x r, vs.toList = x :: Value.str n tk :: r := by
            have e : vs.toList[1]? = some (Value.str n tk) := by rw [Array.getElem?_toList]; exact e1
            cases hv : vs.toList with
            | nil => rw [hv] at e; cases e
            | cons x l =>
              rw [hv] at e
              cases l with
              | nil => cases e
              | cons y r =>
                have e : y = Value.str n tk := by simpa using e
                exact ⟨x, r, by rw [e]⟩
          obtain ⟨x, r, hv⟩ := hl
          unfold codB at hc
          dsimp only at hc
          rw [hv] at hc
          dsimp only at hc
          rw [ht0] at hc
          simp only [Bool.and_eq_true] at hc
          obtain ⟨_, _, g11, g18, g7, g9, g10, gne⟩ := hc
          have gne : c ≠ p := by simpa using gne
          split at g18
          · rename_i f1 f2 e18
            split at g7
            · rename_i f3 f4 e7
              split at g9
              · rename_i f5 e9
                split at g10
                · rename_i f6 f7 e10
                  split at g11
                  · rename_i p2 ep
                    have hpp : p2 = p := by simpa using g11
                    subst hpp
                    have et : t = "code" := by simpa using et
                    subst et
                    exact ⟨_, vs, f1, f2, f3, f4, f5, f6, f7, hK _ _ lk, rfl, rfl, e11, ep, e18, e7, e9, e10, gne⟩
                  · cases g11
                · cases g10
              · cases g9
            · cases g7
          · cases g18
        · cases ht
      · cases ht
    | _ => cases ht
  | _ => cases cl <;> cases ht
theorem tab_of {K : PySem.W.Frag} (hB : tabB K = true) {p : Addr × Str} (hp : p ∈ tabs K) : ∃ c o, K.lookup c = some o ∧ tabOf (c, o) = some p := by
  unfold tabB at hB
  simp only [Bool.and_eq_true] at hB
  obtain ⟨⟨c, o⟩, hm, ht⟩ := List.mem_filterMap.mp hp
  have hn := nodB_ok hB.1
  refine ⟨c, o, ?_, ht⟩
  clear hB hp ht
  induction K with
  | nil => cases hm
  | cons a r ih =>
    obtain ⟨b, u⟩ := a
    rw [List.map_cons, List.nodup_cons] at hn
    rw [List.lookup_cons]
    rcases List.mem_cons.mp hm with z | z
    · cases z
      rw [beq_self_eq_true]
    · have ne : (c == b) = false := beq_eq_false_iff_ne.mpr fun z2 => hn.1 (List.mem_map.mpr ⟨_, z, z2⟩)
      rw [ne]
      exact ih z hn.2
theorem tab_no {K : PySem.W.Frag} (hB : tabB K = true) {p : Addr × Str} (hp : p ∈ tabs K) : K.lookup p.1 = none := by
  unfold tabB at hB
  simp only [Bool.and_eq_true] at hB
  simpa using List.all_eq_true.mp hB.2.2.2 p hp
/-! ### the call of a law -/
def w00 : Wd := ⟨fun _ => none, fun _ => 0, 0, fun _ => none⟩
def s00 : S := ⟨0, []⟩
theorem sr00 {K : PySem.W.Frag} {I H : Hp} (sub : Same I H) (tb : LamX.Tabs (tabs K) H) (nt : ∀ a ps, I a ≠ some (.tbl ps)) : SR K ⟨I, fun _ => 0, 0, fun _ => none⟩ s00 H :=
  ⟨sub, fun n o z => (by cases z), fun n m o u z => (by cases z), List.nodup_nil, rfl, fun _ _ z => (by cases z), fun _ _ z => (by cases z), fun n o z => (by cases z), tb, nt, fun _ _ z => (by cases z)⟩
theorem rp_ints {K : PySem.W.Frag} {w : Wd} : ∀ ns : List Int, RpL K w (ns.map T.int) (ns.map V.int)
  | [] => rfl
  | n :: r => ⟨_, _, rfl, rfl, rp_ints r⟩
/-- the law's def says True at every script -/
def LawT (P : Pg) (opc : CallM → CmpOp → T → T → M T) (k i n : Nat) : Prop := ∀ ns : List Int, ns.length ≤ n → ∃ s', callF P opc k i [.frz (ns.map T.int)] s00 = .ok (.bl true) s'
/-- a promise of a call at the head, of one argument -/
theorem ft_call {P : Pg} {i : Nat} {Pr : Program} {w : World} {K : PySem.W.Frag} {mg mb : Str → Option Value} {k : Nat} {fa a : Addr} {m : List T → M T} {s1 : Shared} {vs : List Value} {ns : List Int}
    (KX : K.In s1.heap) (hns : s1.heap.Ns mainGlobals mg) (hb : s1.heap.Ns builtinsNs mb) (hbb : ∀ x : Str, x ≠ "__name__" → mb x = bootBuiltins x) (hlim : s1.heap.NoLimit) (hg : s1.gens = #[])
    (hB : tabB K = true) (hT : ∀ p ∈ tabs K, s1.heap.get? p.1 = some eTab)
    (hbm : ∃ (bm : Addr) (ob : Obj), mg "__builtins__" = some (.ref bm) ∧ bm ≠ builtinsNs ∧ s1.heap.get? bm = some ob ∧ ob.cls = .type "module" ∧ ob.dict = some builtinsNs ∧ ob.data = .plain)
    (ha : s1.heap.get? a = some { cls := .type "list", data := .seq vs.toArray }) (hi : IntsAre vs ns) (hl : ns.length ≤ sizeLine) (hr : Room k callerA)
    (F : ∀ base : Heap, K.In base → base.Ns mainGlobals mg → LamB K mg base → FT (ArgsAt P i) Pr w K mg base k fa m) (hm : ∃ s', m [.frz (ns.map T.int)] s00 = .ok (.bl true) s') :
    codeAny (model Pr w) callerA (.call (.ref fa) ⟨[.ref a], []⟩) (fun r s' => r = .ok (.ret (.bool true)) ∧ OldK s1.heap s'.heap ∧ s'.os = s1.os ∧ AllBare s'.gens) s1 := by
  obtain ⟨sE, em⟩ := hm
  have rv := vals_ints hi
  have lenV := hi.length
  -- H: the tables and the script, or the tables alone; I: the script, or nothing
  have main : ∀ H I : Hp, Same I H → SqL K I a (ns.map V.int) → HOk Pr w H s1.heap → (∀ p ∈ tabs K, H p.1 = some (.tbl #[])) →
      (∀ b u, H b = some u → (b = a ∧ K.lookup a = none ∧ ∃ o xs, u = .frz o (.lst xs)) ∨ (u = .tbl #[] ∧ ∃ p ∈ tabs K, p.1 = b)) → (∀ b u, I b = some u → ∃ o xs, u = .frz o (.lst xs)) →
      codeAny (model Pr w) callerA (.call (.ref fa) ⟨[.ref a], []⟩) (fun r s' => r = .ok (.ret (.bool true)) ∧ OldK s1.heap s'.heap ∧ s'.os = s1.os ∧ AllBare s'.gens) s1 := by
    intro H I hIH hS hok hH hA hI
    have free : ∀ {b : Addr}, (∀ u, H b = some u → False) → H b = none := fun {b} z => by
      cases q : H b with
      | none => rfl
      | some u => exact (z u q).elim
    -- what is neither a list nor a table is not in H
    have other : ∀ {b : Addr} {o : Obj}, s1.heap.get? b = some o → (∀ xs n, o.data ≠ .seq xs n) → o.data ≠ .fields #[] → H b = none := fun {b o} e n1 n2 => free fun u q => by
      rcases hA b u q with ⟨eb, _⟩ | ⟨_, p, hp, eb⟩
      · subst eb
        rw [ha] at e
        cases e
        exact n1 _ _ rfl
      · subst eb
        rw [hT p hp] at e
        cases e
        exact n2 rfl
    have dictFree : ∀ {b : Addr} {m : Str → Option Value}, s1.heap.Ns b m → (hidT s1.heap H).Ns b m := fun {b m} ⟨o, es, ep, e, d, r⟩ =>
      ⟨o, es, ep, hidT_get e (other e (fun xs n z => by rw [d] at z; cases z) (fun z => by rw [d] at z; cases z)), d, r⟩
    have hK : K.In (hidT s1.heap H) := fun b o e => hidT_get (KX b o e) (free fun u q => by
      rcases hA b u q with ⟨eb, n, _⟩ | ⟨_, p, hp, eb⟩
      · subst eb
        rw [n] at e
        cases e
      · subst eb
        rw [tab_no hB hp] at e
        cases e)
    have hL : LamB K mg (hidT s1.heap H) := fun c o p q lk ht => by
      have hp : (p, q) ∈ tabs K := List.mem_filterMap.mpr ⟨(c, o), mem_lkN lk, ht⟩
      have hTp : s1.heap.get? p = some eTab := hT _ hp
      refine ⟨tab_code hK hB lk ht, ?_, fun z => ?_⟩
      · obtain ⟨bm, ob, b1, b2, b3, b4, b5, b6⟩ := hbm
        have n1 : bm ≠ mainGlobals := fun z => by
          obtain ⟨o', es, ep, e, d, _⟩ := hns
          rw [z, e] at b3
          cases b3
          rw [d] at b6
          cases b6
        have n2 : bm ≠ p := fun z => by
          rw [z, hTp] at b3
          cases b3
          cases b6
        exact ⟨bm, ob, b1, b2, n1, n2, hidT_get b3 (other b3 (fun xs n z => by rw [b6] at z; cases z) (fun z => by rw [b6] at z; cases z)), b4, b5, b6⟩
      · obtain ⟨o', es, ep, e, d, _⟩ := hns
        rw [z, hTp] at e
        cases e
        cases d
    obtain ⟨mc, l1, l2⟩ := hlim
    have e0 : Env0 Pr w K mg (hidT s1.heap H) callerA [] s1 H :=
      ⟨rfl, ⟨hK, dictFree hns, ⟨mb, dictFree hb, hbb⟩, ⟨mc, dictFree l1, l2⟩⟩, fun b o e => of_hidT e, Nat.le_of_eq (hidT_size _ _), trivial, fun b z => (List.not_mem_nil (show b ∈ ([] : List Addr) from z)).elim, hok, .of_eq hg⟩
    have fin : Fi K ⟨I, fun _ => 0, 0, fun _ => none⟩ (m [.frz (ns.map T.int)] s00) (PQ K fun v _ => v = .bl true) (fun _ _ _ => False) := by
      rw [em]
      exact fun w2 H2 _ _ v r => r
    refine codeAny_mono (F _ hK (dictFree hns) hL callerA [] s1 H ⟨[.ref a], []⟩ [.ref a] [.ref a] _ _ _ s00 [.frz (ns.map T.int)] (.inl rfl) hr rfl e0 (.cons rfl .nil) (sr00 hIH (fun p hp => LamX.TabS.nil (hH p hp)) fun b ps z => ?_) ⟨.ref a, [], rfl, ⟨a, _, rfl, hS, rp_ints ns⟩, rfl⟩ fin) fun r s' h => ?_
    · obtain ⟨_, _, z2⟩ := hI b _ z
      cases z2
    cases r with
    | error e =>
      obtain ⟨_, _, _, _, _, _, _, _, _, _, _, _, z⟩ := h
      exact z.elim
    | ok fl =>
      cases fl with
      | next => exact False.elim h
      | brk => exact False.elim h
      | cont => exact False.elim h
      | ret u =>
        obtain ⟨v, H', os, bare, un, hok', r', q⟩ := h
        have q : v = .bl true := q
        subst q
        have r' : u = Value.bool true := r'
        subst r'
        have grown : ∀ p ∈ tabs K, ∃ more : Array Value, s'.heap.get? p.1 = some { cls := .none, data := .fields more } := fun p hp => by
          obtain ⟨more, z⟩ := un.tbls p.1 #[] (hH p hp)
          exact ⟨_, hok' p.1 _ z⟩
        have stay : ∀ b o, s1.heap.get? b = some o → s'.heap.get? b = some o ∨ ∃ p ∈ tabs K, p.1 = b := fun b o e => by
          cases q : H b with
          | none => exact .inl (un.keep b o e q (fun z => (List.not_mem_nil (show b ∈ ([] : List Addr) from z)).elim) (by simp))
          | some u =>
            rcases hA b u q with ⟨_, _, ob, xs, eu⟩ | ⟨_, hp⟩
            · subst eu
              obtain ⟨e1, _⟩ := hok b _ q
              obtain ⟨e2, _⟩ := hok' b _ (un.frzs b ob _ q)
              rw [e] at e1
              cases e1
              exact .inl e2
            · exact .inr hp
        refine ⟨rfl, ⟨fun b o e => ?_, fun b o e => ?_⟩, os, bare⟩
        · rcases stay b o e with z | ⟨p, hp, eb⟩
          · exact .inl z
          · subst eb
            obtain ⟨more, hmore⟩ := grown p hp
            obtain ⟨c, oc, lk, ht⟩ := tab_of hB hp
            have hTp := hT p hp
            rw [hTp] at e
            cases e
            exact .inr (.inl ⟨((tab_code (q := p.2) KX hB lk ht).tab hTp).isCodeTable, rfl, #[], more, rfl, by rw [Array.empty_append]; exact hmore⟩)
        · rcases stay b o e with z | ⟨p, hp, eb⟩
          · exact ⟨o, z⟩
          · subst eb
            obtain ⟨more, hmore⟩ := grown p hp
            exact ⟨_, hmore⟩
  have tabAt : ∀ b, (decide (b ∈ (tabs K).map (·.1))) = true → ∃ p ∈ tabs K, p.1 = b := fun b z => List.mem_map.mp (of_decide_eq_true z)
  let H0 : Hp := fun b => if decide (b ∈ (tabs K).map (·.1)) = true then some (.tbl #[]) else none
  have hH0 : ∀ b u, H0 b = some u → u = .tbl #[] ∧ ∃ p ∈ tabs K, p.1 = b := fun b u z => by
    have z : (if decide (b ∈ (tabs K).map (·.1)) = true then some (HO.tbl #[]) else none) = some u := z
    split at z
    · rename_i hd
      cases z
      exact ⟨rfl, tabAt b hd⟩
    · cases z
  have hH1 : ∀ p ∈ tabs K, H0 p.1 = some (.tbl #[]) := fun p hp => if_pos (decide_eq_true (List.mem_map.mpr ⟨p, hp, rfl⟩))
  have okT : ∀ p ∈ tabs K, s1.heap.get? p.1 = some { cls := .none, data := .fields #[] } := fun p hp => hT p hp
  cases hk : K.lookup a with
  | some o =>
    have e := KX a o hk
    rw [ha] at e
    cases e
    refine main H0 (fun _ => none) (fun b u z => by cases z) (.inr ⟨_, vs.toArray, _, hk, rfl, rfl, rfl, by rw [List.size_toArray, lenV]; exact hl, by simpa using rv⟩) (fun b u z => ?_) hH1 (fun b u z => .inr (hH0 b u z)) (fun b u z => by cases z)
    obtain ⟨eu, p, hp, eb⟩ := hH0 b u z
    subst eu
    subst eb
    exact okT p hp
  | none =>
    let I0 : Hp := fun b => if b = a then some (HO.frz { cls := .type "list", data := .seq vs.toArray } (.lst (ns.map V.int))) else none
    have at_ : ∀ b u, I0 b = some u → b = a ∧ u = HO.frz { cls := .type "list", data := .seq vs.toArray } (.lst (ns.map V.int)) := fun b u z => by
      have z : (if b = a then some (HO.frz { cls := .type "list", data := .seq vs.toArray } (.lst (ns.map V.int))) else none) = some u := z
      split at z
      · rename_i eb
        cases z
        exact ⟨eb, rfl⟩
      · cases z
    have aT : ∀ p ∈ tabs K, p.1 ≠ a := fun p hp z => by
      have e := okT p hp
      rw [z, ha] at e
      cases e
    let H2 : Hp := fun b => if b = a then I0 a else H0 b
    have h2a : H2 a = I0 a := if_pos rfl
    have h2n : ∀ b, b ≠ a → H2 b = H0 b := fun b n => if_neg n
    refine main H2 I0 (fun b u z => ?_) (.inl (.inr ⟨{ cls := .type "list", data := .seq vs.toArray }, if_pos rfl⟩)) (fun b u z => ?_) (fun p hp => by rw [h2n _ (aT p hp)]; exact hH1 p hp) (fun b u z => ?_) (fun b u z => ?_)
    · obtain ⟨eb, eu⟩ := at_ b u z
      subst eb
      rw [h2a]
      exact z
    · by_cases eb : b = a
      · subst eb
        rw [h2a] at z
        obtain ⟨_, eu⟩ := at_ _ u z
        subst eu
        exact ⟨ha, by rw [List.length_map]; exact hl, vs, _, rv, ha⟩
      · rw [h2n b eb] at z
        obtain ⟨eu, p, hp, eb⟩ := hH0 b u z
        subst eu
        subst eb
        exact okT p hp
    · by_cases eb : b = a
      · subst eb
        rw [h2a] at z
        obtain ⟨_, eu⟩ := at_ _ u z
        exact .inl ⟨rfl, hk, _, _, eu⟩
      · rw [h2n b eb] at z
        exact .inr (hH0 b u z)
    · obtain ⟨eb, eu⟩ := at_ b u z
      exact ⟨_, _, eu⟩
theorem kB_tab {P : Pg} {K : PySem.W.Frag} (h : kB P K = true) : tabB K = true := by
  unfold kB at h
  simp only [Bool.and_eq_true] at h
  exact h.2.2.2.2.2.2
/-- a law's end -/
theorem walk_G {l : PySem.W.OpenLaw} {n N : Nat} {q : Program} {loose : List Str} {XP : (Str → Option Value) → Heap → Prop} {d : DefRec} {P : Pg} {opc : CallM → CmpOp → T → T → M T} {k i : Nat}
    (hn : l.most = some n) (hn2 : n ≤ sizeLine) (hdf : d.params.defaults = []) (hr : Room (4 * k + 1) callerA)
    (ho : ∀ {K : PySem.W.Frag} {mg : Str → Option Value}, KOk P K mg → ∀ k d, OpOk P (callF P opc k) (opc (callF P opc k)) d)
    (hs : ∀ (i : Nat) (f : FnI), P.fns[i]? = some f → QF f) (hw : ∀ e, e ∈ P.kws → QW P e)
    (hi : P.glob.lookup d.name = some (.fn i)) (hl : LawT P opc k i n) :
    PySem.W.WalkO q loose XP (hookP N P).says l.row.toRowW d [] (fun f vs => PySem.call f vs) := by
  refine Att.attach_call hn hdf fun w s0 s1 mg mb fa o pm cd doc a vs ns G Y hob hd hcd hmg hobj hints hlen hg => ?_
  obtain ⟨K, KX, c, hT⟩ := Y
  have c1 : kB P K = true := congrArg (fun z : AlP => z.1) c
  have c2 : (P.fns.map fun f => fnWa K (fAt K f.at_)) = P.fns.map fnVal := congrArg (fun z : AlP => z.2) c
  have ok : KOk P K mg := kB_ok KX G.T.g c1 c2 hs hw
  obtain ⟨g1, g2, g3⟩ := ok.fn _ _ hi
  have ef : fa = fA K P i := by
    rw [hmg] at g1
    rw [g3]
    cases g1
    rfl
  subst ef
  have hB : tabB K = true := kB_tab c1
  exact ft_call KX G.T.g G.T.b G.T.builtins G.T.nolimit hg hB hT G.T.bmain hobj hints (Nat.le_trans hlen hn2) hr (fun base hK hBs hL => fn_ok ok hL (ho ok) k i) (hl ns hlen)
end G
-- GtSh
namespace G
open PySem L2
/-! ### shallow code -/
def toI (x : T) : M (Option Int) := fun s => match see s x with
  | .int i => .ok (some i) s
  | _ => .bad
def compS (wipe : List Nat) (box : Bool) (it : En → M (List T)) (bind : S → T → En → Option En) (test : En → M Bool) (elt : En → M T) (env : En) : M T :=
  bnd (it env) fun ts => if ts.length ≤ sizeLine then
    bnd (compM (fun t s => match bind s t (wipeE env wipe) with
      | some env' => bnd (test env') (fun b => if b then bnd (elt env') fun y => ret (some y) else ret none) s
      | none => .bad) ts) fun ys => boxM box (.lst ys) else bad
def bindN (i : Nat) (_ : S) (t : T) (env : En) : Option En := some (env.set i (some t))
def bindFs (s : S) : List (S → T → En → Option En) → List T → En → Option En
  | [], [], env => some env
  | f :: fs, t :: ts, env => match f s t env with
    | some env' => bindFs s fs ts env'
    | none => none
  | _, _, _ => none
def bindNest (fs : List (S → T → En → Option En)) (s : S) (t : T) (env : En) : Option En := match see s t with
  | .tup ts => if ts.length = fs.length then bindFs s fs ts env else none
  | _ => none
theorem bindNest_t {fs : List (S → T → En → Option En)} {s : S} {ts : List T} {env : En} : bindNest fs s (.tup ts) env = if ts.length = fs.length then bindFs s fs ts env else none := rfl
theorem bindFs_n {s : S} {env : En} : bindFs s [] [] env = some env := rfl
theorem bindFs_c {s : S} {f : S → T → En → Option En} {fs : List (S → T → En → Option En)} {t : T} {ts : List T} {env : En} : bindFs s (f :: fs) (t :: ts) env = match f s t env with
    | some env' => bindFs s fs ts env'
    | none => none := rfl
def bindS (b : S → T → En → Option En) (v : T) (env : En) (s : S) : RS := match b s v env with
  | some env' => .nx env' s
  | none => .bad
def joinS : List (M T) → Str → M Str
  | [], acc => ret acc
  | m :: r, acc => bnd m fun x => fun s => match x with
    | .str y => if (acc ++ y).length ≤ sizeLine then joinS r (acc ++ y) s else .bad
    | _ => .bad
end G
-- GtWp
namespace G
open PySem L2
/-! ### what comes of shallow code -/
def okM0 {α : Type} (m : M α) (s : S) (Q : α → S → Prop) : Prop := match m s with
  | .ok v s' => Q v s'
  | _ => False
def OkR0 (r : RS) (N : En → S → Prop) (R : T → S → Prop) (B C : En → S → Prop) : Prop := match r with
  | .nx e s => N e s
  | .rt t s => R t s
  | .bk e s => B e s
  | .ct e s => C e s
  | _ => False
/-- as structures: no elaborator unfolds them -/
structure okM {α : Type} (m : M α) (s : S) (Q : α → S → Prop) : Prop where
  out : okM0 m s Q
structure OkR (r : RS) (N : En → S → Prop) (R : T → S → Prop) (B C : En → S → Prop) : Prop where
  out : OkR0 r N R B C
theorem okM_eq {α : Type} {m : M α} {s : S} {Q : α → S → Prop} : okM m s Q = okM0 m s Q := propext ⟨fun h => h.out, fun h => ⟨h⟩⟩
theorem OkR_eq {r : RS} {N : En → S → Prop} {R : T → S → Prop} {B C : En → S → Prop} : OkR r N R B C = OkR0 r N R B C := propext ⟨fun h => h.out, fun h => ⟨h⟩⟩
def ff {α β : Type} (_ : α) (_ : β) : Prop := False
section
variable {α β : Type} {m : M α} {k : α → M β} {s : S} {Q : β → S → Prop} {Q1 : α → S → Prop} {N B C : En → S → Prop} {R : T → S → Prop} {env : En} {a b : MS} {v : α}
theorem okM_bnd : okM (bnd m k) s Q = okM m s fun v s' => okM (k v) s' Q := by
  simp only [okM_eq]
  unfold okM0 bnd
  cases m s <;> rfl
theorem okM_ret : okM (ret v) s Q1 = Q1 v s := by
  rw [okM_eq]
  rfl
theorem okM_noX : okM (noX m) s Q1 = okM m s Q1 := by
  simp only [okM_eq]
  unfold okM0 noX
  cases m s <;> rfl
theorem okM_ite {c : Prop} [Decidable c] {m2 : M α} : okM (if c then m else m2) s Q1 = if c then okM m s Q1 else okM m2 s Q1 := by
  split <;> rfl
theorem okM_of {s' : S} (h : m s = .ok v s') : okM m s Q1 = Q1 v s' := by
  rw [okM_eq]
  unfold okM0
  rw [h]
theorem okM_imp (h : okM m s Q1) {Q2 : α → S → Prop} (f : ∀ v s', Q1 v s' → Q2 v s') : okM m s Q2 := by
  rw [okM_eq] at h ⊢
  unfold okM0 at h ⊢
  cases e : m s with
  | ok v s' => rw [e] at h; exact f v s' h
  | exc C ns vs s' => rw [e] at h; exact h
  | bad => rw [e] at h; exact h
theorem okM_out {c : RS} {Q : T → S → Prop} : (okM (fun _ => outR c) s Q) = OkR c (fun _ s' => Q .non s') Q ff ff := by
  rw [okM_eq, OkR_eq]
  unfold okM0 OkR0 outR
  cases c <;> rfl
theorem okM_outR {c : S → RS} {Q : T → S → Prop} : (okM (fun s => outR (c s)) s Q) = OkR (c s) (fun _ s' => Q .non s') Q ff ff := by
  have e : okM (fun s => outR (c s)) s Q = okM (fun _ => outR (c s)) s Q := by
    rw [okM_eq, okM_eq]
    rfl
  rw [e]
  exact okM_out
theorem OkR_seq : OkR (seqS a b env s) N R B C = OkR (a env s) (fun e s' => OkR (b e s') N R B C) R B C := by
  simp only [OkR_eq]
  unfold OkR0 seqS
  cases a env s <;> rfl
theorem OkR_run {m : M α} {k : α → S → RS} : OkR (runE m env s k) N R B C = okM m s fun v s' => OkR (k v s') N R B C := by
  simp only [okM_eq, OkR_eq]
  unfold okM0 runE OkR0
  cases m s <;> rfl
theorem OkR_nx : OkR (.nx env s) N R B C = N env s := by
  rw [OkR_eq]
  rfl
theorem OkR_rt {t : T} : OkR (.rt t s) N R B C = R t s := by
  rw [OkR_eq]
  rfl
theorem OkR_bk : OkR (.bk env s) N R B C = B env s := by
  rw [OkR_eq]
  rfl
theorem OkR_ct : OkR (.ct env s) N R B C = C env s := by
  rw [OkR_eq]
  rfl
theorem OkR_ite {c : Prop} [Decidable c] {r1 r2 : RS} : OkR (if c then r1 else r2) N R B C = if c then OkR r1 N R B C else OkR r2 N R B C := by
  split <;> rfl
theorem OkR_imp {r : RS} (h : OkR r N R B C) {N2 B2 C2 : En → S → Prop} {R2 : T → S → Prop} (f1 : ∀ e s, N e s → N2 e s) (f2 : ∀ t s, R t s → R2 t s) (f3 : ∀ e s, B e s → B2 e s) (f4 : ∀ e s, C e s → C2 e s) : OkR r N2 R2 B2 C2 := by
  rw [OkR_eq] at h ⊢
  unfold OkR0 at h ⊢
  cases r with
  | nx e s => exact f1 _ _ h
  | rt e s => exact f2 _ _ h
  | bk e s => exact f3 _ _ h
  | ct e s => exact f4 _ _ h
  | _ => exact h
theorem OkR_bind {bd : S → T → En → Option En} {v : T} : OkR (bindS bd v env s) N R B C = match bd s v env with
  | some e => N e s
  | none => False := by
  rw [OkR_eq]
  unfold bindS
  cases bd s v env <;> rfl
theorem OkR_for0 {bd : S → T → En → Option En} : OkR (forS bd a [] env s) N R B C = N env s := by
  rw [OkR_eq]
  rfl
theorem OkR_forC {bd : S → T → En → Option En} {t : T} {ts : List T} : OkR (forS bd a (t :: ts) env s) N R B C = match bd s t env with
    | some e => OkR (a e s) (fun e2 s2 => OkR (forS bd a ts e2 s2) N R B C) R N (fun e2 s2 => OkR (forS bd a ts e2 s2) N R B C)
    | none => False := by
  simp only [OkR_eq]
  conv => lhs; unfold forS
  cases bd s t env with
  | none => rfl
  | some e =>
    show OkR0 (match a e s with
      | .nx e2 s2 => forS bd a ts e2 s2
      | .ct e2 s2 => forS bd a ts e2 s2
      | .bk e2 s2 => .nx e2 s2
      | r => r) N R B C = OkR0 (a e s) _ _ _ _
    cases a e s <;> rfl
/-- a for by an invariant -/
theorem OkR_for {bd : S → T → En → Option En} (I : List T → En → S → Prop) : ∀ {ts : List T} {env : En} {s : S}, I ts env s → (∀ t ts env s, I (t :: ts) env s → ∃ e, bd s t env = some e ∧ OkR (a e s) (I ts) R (fun e s => N e s) (I ts)) → (∀ env s, I [] env s → N env s) →
    OkR (forS bd a ts env s) N R B C
  | [], env, s, h, _, f => by rw [OkR_for0]; exact f env s h
  | t :: ts, env, s, h, g, f => by
    rw [OkR_forC]
    obtain ⟨e, h1, h2⟩ := g t ts env s h
    rw [h1]
    exact OkR_imp h2 (fun e2 s2 z => OkR_for I z g f) (fun _ _ z => z) (fun _ _ z => z) (fun e2 s2 z => OkR_for I z g f)
end
/-! ### primitives on known values -/
section
variable {s : S} {Q : T → S → Prop} {i j : Int} {x y : T} {P : Pg}
theorem p_getV0 {t : Option T} {env : En} : getV (t :: env) 0 = (match t with
  | some t => ret t
  | none => bad) := by cases t <;> rfl
theorem p_getVs {t : Option T} {env : En} {i : Nat} : getV (t :: env) (i + 1) = getV env i := by
  unfold getV
  rw [List.getElem?_cons_succ]
theorem noX_ok {α : Type} {m : M α} {s s' : S} {v : α} (h : m s = .ok v s') : noX m s = .ok v s' := by unfold noX; rw [h]
theorem p_add : okM (binop .Add (.int i) (.int j)) s Q = Q (.int (i + j)) s := okM_of rfl
theorem p_addb {k : Bool} : okM (binop .Add (.int i) (.bl k)) s Q = Q (.int (i + PyProof.Rows.b2i k)) s := okM_of rfl
theorem p_sub : okM (binop .Sub (.int i) (.int j)) s Q = Q (.int (i - j)) s := okM_of rfl
theorem p_mul (h : mulOk i j = true) : okM (binop .Mult (.int i) (.int j)) s Q = Q (.int (i * j)) s := okM_of (by unfold binop; exact if_pos h)
theorem p_fdiv (h : divOk j = true) : okM (binop .FloorDiv (.int i) (.int j)) s Q = Q (.int (i / j)) s := okM_of (by unfold binop; exact if_pos h)
theorem p_mod (h : 0 < j) : okM (binop .Mod (.int i) (.int j)) s Q = Q (.int (i % j)) s := okM_of (by unfold binop; exact if_pos h)
theorem p_pow (h : powOk i j = true) : okM (binop .Pow (.int i) (.int j)) s Q = Q (.int (i ^ j.toNat)) s := okM_of (by unfold binop; exact if_pos h)
theorem p_lt : okM (cmpop .Lt (.int i) (.int j)) s Q = Q (.bl (decide (i < j))) s := okM_of rfl
theorem p_le : okM (cmpop .LtE (.int i) (.int j)) s Q = Q (.bl (decide (i ≤ j))) s := okM_of rfl
theorem p_gt : okM (cmpop .Gt (.int i) (.int j)) s Q = Q (.bl (decide (j < i))) s := okM_of rfl
theorem p_ge : okM (cmpop .GtE (.int i) (.int j)) s Q = Q (.bl (decide (j ≤ i))) s := okM_of rfl
theorem p_bool {Q : Bool → S → Prop} {b : Bool} : okM (asBool (.bl b)) s Q = Q b s := okM_of rfl
theorem p_toI {Q : Option Int → S → Prop} : okM (toI (.int i)) s Q = Q (some i) s := okM_of rfl
theorem p_int : okM (bcallB P false .int [.int i]) s Q = Q (.int i) s := okM_of rfl
theorem p_intb {k : Bool} : okM (bcallB P false .int [.bl k]) s Q = Q (.int (if k then 1 else 0)) s := okM_of rfl
theorem p_abs : okM (bcallB P false .abs [.int i]) s Q = Q (.int (if i < 0 then -i else i)) s := okM_of rfl
theorem p_len {call : CallM} {xs : List T} : okM (bcallO P call false .len [.lst xs]) s Q = Q (.int xs.length) s := okM_of rfl
theorem p_frz : okM (frzM false x) s Q = Q x s := okM_of rfl
theorem p_lst {xs : List T} (h : xs.length ≤ sizeLine) : okM (lstM false xs) s Q = Q (.lst xs) s := okM_of (by unfold lstM; exact if_pos h)
theorem p_tup {xs : List T} (h : xs.length ≤ sizeLine) : okM (tupM xs) s Q = Q (.tup xs) s := okM_of (by unfold tupM; exact if_pos h)
theorem p_ixL {call : CallM} {xs : List T} {t : T} (h : atI xs i = some t) : okM (ixO P call (.lst xs) (.int i)) s Q = Q t s := okM_of (by
  show noX (ixM (.lst xs) (.int i)) s = _
  refine noX_ok ?_
  show (match atI xs i with
    | some t => .ok t s
    | none => .bad : Res T) = _
  rw [h])
theorem p_ixB {call : CallM} {n : Nat} {xs : List T} {t : T} (g : s.get n = some (.lst xs)) (h : atI xs i = some t) : okM (ixO P call (.box n) (.int i)) s Q = Q t s := okM_of (by
  have e : see s (.box n) = .lst xs := by
    show seeB n (s.get n) = _
    rw [g]
    rfl
  unfold ixO
  rw [e]
  show noX (ixM (.box n) (.int i)) s = _
  refine noX_ok ?_
  unfold ixM
  rw [e]
  show (match atI xs i with
    | some t => .ok t s
    | none => .bad : Res T) = _
  rw [h])
theorem p_setB {n j : Nat} {xs : List T} {v : T} {Q : Unit → S → Prop} (g : s.get n = some (.lst xs)) (h : ixN xs.length i = some j) : okM (setItemM v (.box n) (.int i)) s Q = Q () (s.put n (.lst (xs.set j v))) := okM_of (by
  unfold setItemM
  dsimp only
  rw [g]
  show (match ixN xs.length i with
    | some j => .ok () (s.put n (.lst (xs.set j v)))
    | none => .bad : Res Unit) = _
  rw [h])
theorem toDs_ints : ∀ cs : List Int, toDs (cs.map T.int) = some (cs.map PyData.int)
  | [] => rfl
  | c :: cs => by
    rw [List.map_cons, List.map_cons]
    unfold toDs
    rw [toDs_ints cs]
    rfl
end
/-! ### the pen -/
def PenAt (n : Nat) (cs : List Int) (a r : Int) (s : S) : Prop := s.get n = some (.lst [.lst (cs.map T.int), .int a, .int r])
theorem get_putS {s : S} {n : Nat} {o u : BO} (h : s.get n = some o) : (s.put n u).get n = some u := by
  unfold S.get S.put
  rw [get_put (show s.cells.lookup n = some o from h), if_pos rfl]
theorem put_put {n : Nat} {o u : BO} : ∀ {l : List (Nat × BO)}, putC n u (putC n o l) = putC n u l
  | [] => rfl
  | (k, x) :: r => by
    by_cases hk : k = n
    · simp [putC, hk]
    · simp [putC, hk, put_put]
theorem putC_same {n : Nat} {o : BO} : ∀ {l : List (Nat × BO)}, l.lookup n = some o → putC n o l = l
  | [], h => by cases h
  | (k, x) :: r, h => by
    unfold putC
    by_cases hk : k = n
    · subst hk
      rw [List.lookup_cons, beq_self_eq_true] at h
      cases h
      rw [if_pos rfl]
    · have e : (n == k) = false := beq_eq_false_iff_ne.mpr (Ne.symm hk)
      rw [List.lookup_cons, e] at h
      rw [if_neg hk, putC_same h]
theorem put_same {s : S} {n : Nat} {o : BO} (h : s.get n = some o) : s.put n o = s := by
  unfold S.put
  rw [putC_same h]
theorem put_putS {s : S} {n : Nat} {o u : BO} : (s.put n o).put n u = s.put n u := by
  unfold S.put
  rw [put_put]
def drawG (P : Pg) (call : CallM) (c1 c2 m1 c3 c4 m2 c5 c6 c7 m3 c8 : Int) (p0 p1 : T) : M T := fun s => outR ((seqS (fun env s => runE (bnd (bnd (bnd (getV env 0) fun x4 => bnd (ret (.int (2) : T)) fun x5 => (ixO P call x4 x5)) fun x2 => bnd (ret (.int (0) : T)) fun x3 => noX (cmpop .Gt x2 x3)) asBool) env s fun t1 s1 => if t1 then (seqS (fun env s => runE (bnd (bnd (bnd (bnd (getV env 0) fun x13 => bnd (ret (.int (2) : T)) fun x14 => (ixO P call x13 x14)) fun x11 => bnd (ret []) fun a12 => ret (x11 :: a12)) fun a10 => noX (bcallB P false .int a10)) fun x8 => bnd (getV env 1) fun x9 => (binO P call .Mod x8 x9)) env s fun v6 s7 => .nx (env.set 5 (some v6)) s7) (seqS (fun env s => runE (bnd (bnd (bnd (bnd (getV env 0) fun x22 => bnd (ret (.int (2) : T)) fun x23 => (ixO P call x22 x23)) fun x20 => bnd (ret []) fun a21 => ret (x20 :: a21)) fun a19 => noX (bcallB P false .int a19)) fun x17 => bnd (getV env 1) fun x18 => (binO P call .FloorDiv x17 x18)) env s fun v15 s16 => runE (noX (getV env 0)) env s16 fun x24 s26 => runE (noX (ret (.int (2) : T))) env s26 fun x25 s27 => runE (noX (setItemM v15 x24 x25)) env s27 fun _ s28 => .nx env s28) (seqS (fun env s => runE (bnd (getV env 5) (frzM false)) env s fun v0 s1 => .rt v0 s1) (fun env s => .nx env s)))) env s1 else (fun env s => .nx env s) env s1) (seqS (fun env s => runE (bnd (getV env 0) fun x31 => bnd (ret (.int (1) : T)) fun x32 => (ixO P call x31 x32)) env s fun v29 s30 => .nx (env.set 2 (some v29)) s30) (seqS (fun env s => runE (bnd (getV env 2) fun x35 => bnd (ret (.int (1) : T)) fun x36 => (binO P call .Add x35 x36)) env s fun v33 s34 => runE (noX (getV env 0)) env s34 fun x37 s39 => runE (noX (ret (.int (1) : T))) env s39 fun x38 s40 => runE (noX (setItemM v33 x37 x38)) env s40 fun _ s41 => .nx env s41) (seqS (fun env s => runE (bnd (bnd (ret (.int c1 : T)) fun x46 => bnd (getV env 2) fun x47 => (binO P call .Mult x46 x47)) fun x44 => bnd (ret (.int c2 : T)) fun x45 => (binO P call .Add x44 x45)) env s fun v42 s43 => .nx (env.set 3 (some v42)) s43) (seqS (fun env s => runE (bnd (bnd (bnd (getV env 0) fun x51 => bnd (ret (.int (0) : T)) fun x52 => (ixO P call x51 x52)) fun x49 => bnd (bnd (ret []) fun l53 => lstM false l53) fun x50 => noX (cmpO P call .NotEq x49 x50)) asBool) env s fun t48 s1 => if t48 then (seqS (fun env s => runE (bnd (bnd (getV env 0) fun x58 => bnd (ret (.int (0) : T)) fun x59 => (ixO P call x58 x59)) fun x56 => bnd (bnd (bnd (bnd (getV env 2) fun x63 => bnd (ret []) fun a64 => ret (x63 :: a64)) fun a62 => noX (bcallB P false .int a62)) fun x60 => bnd (bnd (bnd (bnd (getV env 0) fun x68 => bnd (ret (.int (0) : T)) fun x69 => (ixO P call x68 x69)) fun x66 => bnd (ret []) fun a67 => ret (x66 :: a67)) fun a65 => noX (bcallO P call false .len a65)) fun x61 => (binO P call .Mod x60 x61)) fun x57 => (ixO P call x56 x57)) env s fun v54 s55 => .nx (env.set 3 (some v54)) s55) (fun env s => .nx env s)) env s1 else (fun env s => .nx env s) env s1) (seqS (fun env s => runE (bnd (bnd (bnd (getV env 2) fun x72 => bnd (bnd (bnd (bnd (getV env 0) fun x77 => bnd (ret (.int (0) : T)) fun x78 => (ixO P call x77 x78)) fun x75 => bnd (ret []) fun a76 => ret (x75 :: a76)) fun a74 => noX (bcallO P call false .len a74)) fun x73 => noX (cmpop .Lt x72 x73)) asBool) fun b71 => if b71 = isAnd .And then (bnd (bnd (bnd (bnd (getV env 3) fun x82 => bnd (ret []) fun a83 => ret (x82 :: a83)) fun a81 => noX (bcallB P false .abs a81)) fun x79 => bnd (bnd (ret (.int (10) : T)) fun x84 => bnd (ret (.int (18) : T)) fun x85 => (binO P call .Pow x84 x85)) fun x80 => noX (cmpop .GtE x79 x80)) asBool) else ret b71) env s fun t70 s1 => if t70 then (seqS (fun env s => runE (bnd (bnd (ret (.int (2) : T)) fun x90 => bnd (bnd (bnd (bnd (getV env 3) fun x95 => bnd (ret []) fun a96 => ret (x95 :: a96)) fun a94 => noX (bcallB P false .abs a94)) fun x92 => bnd (bnd (ret (.int (10) : T)) fun x97 => bnd (ret (.int (18) : T)) fun x98 => (binO P call .Pow x97 x98)) fun x93 => (binO P call .Sub x92 x93)) fun x91 => (binO P call .Mult x90 x91)) fun x88 => bnd (bnd (bnd (bnd (getV env 3) fun x102 => bnd (ret (.int (0) : T)) fun x103 => noX (cmpop .Lt x102 x103)) fun x100 => bnd (ret []) fun a101 => ret (x100 :: a101)) fun a99 => noX (bcallB P false .int a99)) fun x89 => (binO P call .Add x88 x89)) env s fun v86 s87 => .nx (env.set 6 (some v86)) s87) (seqS (fun env s => runE (bnd (bnd (bnd (getV env 6) fun x109 => bnd (ret []) fun a110 => ret (x109 :: a110)) fun a108 => noX (bcallB P false .int a108)) fun x106 => bnd (getV env 1) fun x107 => (binO P call .FloorDiv x106 x107)) env s fun v104 s105 => runE (noX (getV env 0)) env s105 fun x111 s113 => runE (noX (ret (.int (2) : T))) env s113 fun x112 s114 => runE (noX (setItemM v104 x111 x112)) env s114 fun _ s115 => .nx env s115) (seqS (fun env s => runE (bnd (bnd (bnd (bnd (getV env 6) fun x119 => bnd (ret []) fun a120 => ret (x119 :: a120)) fun a118 => noX (bcallB P false .int a118)) fun x116 => bnd (getV env 1) fun x117 => (binO P call .Mod x116 x117)) (frzM false)) env s fun v0 s1 => .rt v0 s1) (fun env s => .nx env s)))) env s1 else (fun env s => .nx env s) env s1) (seqS (fun env s => runE (bnd (bnd (bnd (bnd (bnd (bnd (bnd (bnd (bnd (getV env 3) fun x137 => bnd (ret []) fun a138 => ret (x137 :: a138)) fun a136 => noX (bcallB P false .int a136)) fun x134 => bnd (ret (.int m1 : T)) fun x135 => (binO P call .Mod x134 x135)) fun x132 => bnd (bnd (ret (.int c3 : T)) fun x139 => bnd (getV env 2) fun x140 => (binO P call .Mult x139 x140)) fun x133 => (binO P call .Add x132 x133)) fun x130 => bnd (ret (.int c4 : T)) fun x131 => (binO P call .Add x130 x131)) fun x128 => bnd (ret (.int (5) : T)) fun x129 => (binO P call .Pow x128 x129)) fun x126 => bnd (ret []) fun a127 => ret (x126 :: a127)) fun a125 => noX (bcallB P false .int a125)) fun x123 => bnd (ret (.int m2 : T)) fun x124 => (binO P call .Mod x123 x124)) env s fun v121 s122 => .nx (env.set 4 (some v121)) s122) (seqS (fun env s => runE (bnd (bnd (bnd (bnd (bnd (bnd (bnd (getV env 4) fun x154 => bnd (bnd (bnd (ret (.int (2) : T)) fun x158 => bnd (getV env 2) fun x159 => (binO P call .Mult x158 x159)) fun x156 => bnd (ret (.int c5 : T)) fun x157 => (binO P call .Add x156 x157)) fun x155 => (binO P call .Mult x154 x155)) fun x152 => bnd (bnd (bnd (ret (.int c6 : T)) fun x162 => bnd (getV env 2) fun x163 => (binO P call .Mult x162 x163)) fun x160 => bnd (getV env 2) fun x161 => (binO P call .Mult x160 x161)) fun x153 => (binO P call .Add x152 x153)) fun x150 => bnd (ret (.int c7 : T)) fun x151 => (binO P call .Add x150 x151)) fun x148 => bnd (ret (.int (3) : T)) fun x149 => (binO P call .Pow x148 x149)) fun x146 => bnd (ret []) fun a147 => ret (x146 :: a147)) fun a145 => noX (bcallB P false .int a145)) fun x143 => bnd (ret (.int m3 : T)) fun x144 => (binO P call .Mod x143 x144)) env s fun v141 s142 => .nx (env.set 4 (some v141)) s142) (seqS (fun env s => runE (bnd (bnd (bnd (bnd (bnd (getV env 4) fun x169 => bnd (ret (.int c8 : T)) fun x170 => (binO P call .FloorDiv x169 x170)) fun x167 => bnd (ret []) fun a168 => ret (x167 :: a168)) fun a166 => noX (bcallB P false .int a166)) fun x164 => bnd (getV env 1) fun x165 => (binO P call .Mod x164 x165)) (frzM false)) env s fun v0 s1 => .rt v0 s1) (fun env s => .nx env s)))))))))) [some p0, some p1, none, none, none, none, none] s)
/-- sizes of the constants -/
structure DrawC (c1 c2 m1 c3 c4 m2 c5 c6 c7 m3 c8 : Int) : Prop where
  m1 : 0 < m1 ∧ m1 < 2 ^ 32
  m2 : 0 < m2 ∧ m2 < 2 ^ 32
  m3 : 0 < m3 ∧ m3 < 2 ^ 32
  c8 : 0 < c8 ∧ c8 < 2 ^ 32
  c1 : 0 ≤ c1 ∧ c1 < 2 ^ 20
  c3 : 0 ≤ c3 ∧ c3 < 2 ^ 20
  c4 : 0 ≤ c4 ∧ c4 < 2 ^ 20
  c5 : 0 ≤ c5 ∧ c5 < 2 ^ 20
  c6 : 0 ≤ c6 ∧ c6 < 2 ^ 20
  c7 : 0 ≤ c7 ∧ c7 < 2 ^ 20
section
variable {α β : Type} {m : M α} {k : α → M β} {s : S} {Q : β → S → Prop} {Q1 : α → S → Prop} {N B C : En → S → Prop} {R : T → S → Prop} {env : En} {a b : MS} {v : α} {i j : Int}
theorem x_seq (h : OkR (a env s) (fun e s' => OkR (b e s') N R B C) R B C) : OkR (seqS a b env s) N R B C := OkR_seq.mpr h
theorem x_run {k : α → S → RS} (h : okM m s fun v s' => OkR (k v s') N R B C) : OkR (runE m env s k) N R B C := OkR_run.mpr h
theorem x_nx (h : N env s) : OkR (.nx env s) N R B C := OkR_nx.mpr h
theorem x_rt {t : T} (h : R t s) : OkR (.rt t s) N R B C := OkR_rt.mpr h
theorem x_t {r1 r2 : RS} {c : Prop} [Decidable c] (h : c) (q : OkR r1 N R B C) : OkR (if c then r1 else r2) N R B C := by rw [if_pos h]; exact q
theorem x_f {r1 r2 : RS} {c : Prop} [Decidable c] (h : ¬ c) (q : OkR r2 N R B C) : OkR (if c then r1 else r2) N R B C := by rw [if_neg h]; exact q
theorem m_t {m2 : M α} {c : Prop} [Decidable c] (h : c) (q : okM m s Q1) : okM (if c then m else m2) s Q1 := by rw [if_pos h]; exact q
theorem m_f {m2 : M α} {c : Prop} [Decidable c] (h : ¬ c) (q : okM m2 s Q1) : okM (if c then m else m2) s Q1 := by rw [if_neg h]; exact q
theorem m_bnd (h : okM m s fun v s' => okM (k v) s' Q) : okM (bnd m k) s Q := okM_bnd.mpr h
theorem m_ret (h : Q1 v s) : okM (ret v) s Q1 := okM_ret.mpr h
theorem m_noX (h : okM m s Q1) : okM (noX m) s Q1 := okM_noX.mpr h
theorem m_val {s' : S} (h : m s = .ok v s') (q : Q1 v s') : okM m s Q1 := (okM_of h).mpr q
theorem m_get {i : Nat} {t : T} {Q : T → S → Prop} (h : env[i]? = some (some t)) (q : Q t s) : okM (getV env i) s Q := m_val (by unfold getV; rw [h]; rfl) q
variable {Q : T → S → Prop} {P : Pg}
theorem m_mul (h : mulOk i j = true) (q : Q (.int (i * j)) s) : okM (binop .Mult (.int i) (.int j)) s Q := (p_mul h).mpr q
theorem m_fdiv (h : divOk j = true) (q : Q (.int (i / j)) s) : okM (binop .FloorDiv (.int i) (.int j)) s Q := (p_fdiv h).mpr q
theorem m_mod (h : 0 < j) (q : Q (.int (i % j)) s) : okM (binop .Mod (.int i) (.int j)) s Q := (p_mod h).mpr q
theorem m_pow (h : powOk i j = true) (q : Q (.int (i ^ j.toNat)) s) : okM (binop .Pow (.int i) (.int j)) s Q := (p_pow h).mpr q
theorem m_lst {xs : List T} (h : xs.length ≤ sizeLine) (q : Q (.lst xs) s) : okM (lstM false xs) s Q := (p_lst h).mpr q
theorem m_tup {xs : List T} (h : xs.length ≤ sizeLine) (q : Q (.tup xs) s) : okM (tupM xs) s Q := (p_tup h).mpr q
theorem m_ixL {call : CallM} {xs : List T} {t : T} (h : L2.atI xs i = some t) (q : Q t s) : okM (ixO P call (.lst xs) (.int i)) s Q := (p_ixL h).mpr q
theorem m_ixB {call : CallM} {n : Nat} {xs : List T} {t : T} (g : s.get n = some (.lst xs)) (h : L2.atI xs i = some t) (q : Q t s) : okM (ixO P call (.box n) (.int i)) s Q := (p_ixB g h).mpr q
theorem m_setB {n j : Nat} {xs : List T} {v : T} {Q : Unit → S → Prop} (g : s.get n = some (.lst xs)) (h : ixN xs.length i = some j) (q : Q () (s.put n (.lst (xs.set j v)))) : okM (setItemM v (.box n) (.int i)) s Q := (p_setB g h).mpr q
theorem m_ne_nil {call : CallM} {cs : List Int} (hc : cs.length ≤ 63) (q : Q (.bl (!cs.isEmpty)) s) : okM (cmpO P call .NotEq (.lst (cs.map T.int)) (.lst [])) s Q := by
  refine m_val ?_ q
  show eqM true (.lst (cs.map T.int)) (.lst []) s = _
  unfold eqM
  have e : toD (see s (.lst (cs.map T.int))) = some (.list (cs.map PyData.int)) := by
    show toD (.lst (cs.map T.int)) = _
    unfold toD
    rw [toDs_ints]
    rfl
  have e2 : toD (see s (.lst [])) = some (.list []) := rfl
  have d1 : ∀ cs : List Int, PyData.canLayAll0 (cs.map PyData.int) = true := fun cs => by
    induction cs with
    | nil => rfl
    | cons c r ih => rw [List.map_cons]; unfold PyData.canLayAll0; rw [ih]; rfl
  have d2 : ∀ cs : List Int, PyData.depthAll (cs.map PyData.int) ≤ 1 := fun cs => by
    induction cs with
    | nil => decide
    | cons c r ih => rw [List.map_cons]; unfold PyData.depthAll; simp [PyData.depth]; omega
  have sh : SeqAt.shaped (.list (cs.map PyData.int)) = true := by
    unfold SeqAt.shaped
    rw [Bool.and_eq_true, decide_eq_true_eq]
    refine ⟨by unfold PyData.canLay0; exact d1 cs, ?_⟩
    unfold PyData.depth
    have := d2 cs
    omega
  have sh2 : SeqAt.shaped (.list []) = true := by decide
  show (match toD (see s (.lst (cs.map T.int))), toD (see s (.lst [])) with
    | some d, some e => if SeqAt.shaped d && SeqAt.shaped e then .ok (.bl (!PyData.eqv d e)) s else .bad
    | _, _ => .bad : Res T) = _
  rw [e, e2]
  show (if SeqAt.shaped _ && SeqAt.shaped _ then _ else _) = _
  rw [sh, sh2]
  have ev : PyData.eqv (.list (cs.map PyData.int)) (.list []) = cs.isEmpty := by
    cases cs <;> rfl
  show Res.ok (T.bl (!PyData.eqv _ _)) s = _
  rw [ev]
theorem atI_nat {xs : List T} {i : Int} {t : T} (h0 : 0 ≤ i) (h : xs[i.toNat]? = some t) : L2.atI xs i = some t := by
  have hl : i.toNat < xs.length := by
    rcases Nat.lt_or_ge i.toNat xs.length with z | z
    · exact z
    · rw [List.getElem?_eq_none z] at h
      cases h
  unfold L2.atI ixN
  rw [if_pos h0, if_pos (by omega)]
  exact h
end
theorem p18 : powOk 10 18 = true := by decide +kernel
theorem small_pow {i : Int} (h : 0 ≤ i ∧ i < 2 ^ 64) {j : Int} (hj : 0 ≤ j ∧ j ≤ 1000000) : powOk i j = true := by
  unfold powOk
  rw [decide_eq_true hj.1, decide_eq_true hj.2, decide_eq_true (by omega)]
  rfl
theorem small_mul {i j : Int} (h : i.natAbs < 2 ^ 64) : mulOk i j = true := by
  unfold mulOk
  rw [decide_eq_true h]
  rfl
theorem div_small {j : Int} (h : 0 < j) (h2 : j.natAbs.log2 < 8000) : divOk j = true := by
  unfold divOk
  rw [decide_eq_true h, decide_eq_true h2]
  rfl
theorem draw_ok {P : Pg} {call : CallM} {c1 c2 m1 c3 c4 m2 c5 c6 c7 m3 c8 : Int} (D : DrawC c1 c2 m1 c3 c4 m2 c5 c6 c7 m3 c8) {n : Nat} {cs : List Int} {a r many : Int} {s : S} (hp : PenAt n cs a r s) (ha : 0 ≤ a ∧ a < 2 ^ 20) (hr : 0 ≤ r) (hm : 0 < many) (hm2 : many.natAbs.log2 < 8000) (hc : cs.length ≤ 63) :
    okM (drawG P call c1 c2 m1 c3 c4 m2 c5 c6 c7 m3 c8 (.box n) (.int many)) s fun v s' => ∃ d a' r', v = .int d ∧ 0 ≤ d ∧ d < many ∧ s' = s.put n (.lst [.lst (cs.map T.int), .int a', .int r']) ∧ a ≤ a' ∧ a' ≤ a + 1 ∧ 0 ≤ r' := by
  unfold PenAt at hp
  have hd := div_small hm hm2
  have cc := D
  obtain ⟨⟨k1, k2⟩, ⟨k3, k4⟩, ⟨k5, k6⟩, ⟨k7, k8⟩, ⟨k9, k10⟩, ⟨k11, k12⟩, ⟨k13, k14⟩, ⟨k15, k16⟩, ⟨k17, k18⟩, ⟨k19, k20⟩⟩ := cc
  unfold drawG
  rw [okM_outR]
  repeat (first | refine x_seq ?_ | refine x_run ?_ | refine m_bnd ?_ | refine m_noX ?_ | refine m_ret ?_ | refine m_get rfl ?_ | refine x_nx ?_ | refine x_rt ?_ | refine m_ixB hp rfl ?_ | refine m_mod hm ?_ | refine m_fdiv hd ?_ | refine m_setB hp rfl ?_ | refine m_val rfl ?_)
  by_cases hr0 : 0 < r
  · refine x_t (decide_eq_true hr0) ?_
    repeat (first | refine x_seq ?_ | refine x_run ?_ | refine m_bnd ?_ | refine m_noX ?_ | refine m_ret ?_ | refine m_get rfl ?_ | refine x_nx ?_ | refine x_rt ?_ | refine m_ixB hp rfl ?_ | refine m_mod hm ?_ | refine m_fdiv hd ?_ | refine m_setB hp rfl ?_ | refine m_val rfl ?_)
    exact ⟨r % many, a, r / many, rfl, Int.emod_nonneg _ (by omega), Int.emod_lt_of_pos _ hm, rfl, by omega, by omega, Int.ediv_nonneg hr (by omega)⟩
  · refine x_f (by rw [decide_eq_false hr0]; exact Bool.false_ne_true) ?_
    have e0 : r = 0 := by omega
    subst e0
    repeat (first | refine x_seq ?_ | refine x_run ?_ | refine m_bnd ?_ | refine m_noX ?_ | refine m_ret ?_ | refine m_get rfl ?_ | refine x_nx ?_ | refine x_rt ?_ | refine m_ixB hp rfl ?_ | refine m_mod hm ?_ | refine m_fdiv hd ?_ | refine m_setB hp rfl ?_ | refine m_val rfl ?_)
    have hp1 : (s.put n (.lst [.lst (cs.map T.int), .int (a + 1), .int 0])).get n = some (.lst [.lst (cs.map T.int), .int (a + 1), .int 0]) := get_putS hp
    change okM _ (s.put n (.lst [.lst (cs.map T.int), .int (a + 1), .int 0])) _
    have fin : ∀ r' : Int, (s.put n (.lst [.lst (cs.map T.int), .int (a + 1), .int 0])).put n (.lst [.lst (cs.map T.int), .int (a + 1), .int r']) = s.put n (.lst [.lst (cs.map T.int), .int (a + 1), .int r']) := fun r' => put_putS
    generalize s.put n (.lst [.lst (cs.map T.int), .int (a + 1), .int 0]) = s1 at hp1 fin
    refine m_mul (small_mul (by omega)) ?_
    repeat (first | refine m_bnd ?_ | refine m_noX ?_ | refine m_ret ?_ | refine x_nx ?_ | refine m_val rfl ?_)
    refine x_seq ?_
    refine OkR_imp (N := fun e s' => s' = s1 ∧ ∃ cell : Int, e = [some (.box n), some (.int many), some (.int a), some (.int cell), none, none, none]) ?_ ?_ (fun _ _ z => z) (fun _ _ z => z) (fun _ _ z => z)
    · repeat (first | refine x_seq ?_ | refine x_run ?_ | refine m_bnd ?_ | refine m_noX ?_ | refine m_ret ?_ | refine m_get rfl ?_ | refine x_nx ?_ | refine x_rt ?_ | refine m_ixB hp1 rfl ?_ | refine m_mod hm ?_ | refine m_fdiv hd ?_ | refine m_setB hp1 rfl ?_ | refine m_ne_nil hc ?_ | refine m_pow p18 ?_ | refine m_mul (small_mul (by decide)) ?_ | refine m_lst (Nat.zero_le _) ?_ | refine m_val rfl ?_)
      cases hcs : cs with
      | nil =>
        refine x_f Bool.false_ne_true (x_nx ?_)
        exact ⟨rfl, _, rfl⟩
      | cons c0 cr =>
        refine x_t rfl ?_
        rw [← hcs]
        have hpos : (0 : Int) < ((cs.map T.int).length : Nat) := by rw [hcs, List.length_map, List.length_cons]; omega
        repeat (first | refine x_seq ?_ | refine x_run ?_ | refine m_bnd ?_ | refine m_noX ?_ | refine m_ret ?_ | refine m_get rfl ?_ | refine x_nx ?_ | refine x_rt ?_ | refine m_ixB hp1 rfl ?_ | refine m_mod hm ?_ | refine m_fdiv hd ?_ | refine m_setB hp1 rfl ?_ | refine m_ne_nil hc ?_ | refine m_pow p18 ?_ | refine m_mul (small_mul (by decide)) ?_ | refine m_lst (Nat.zero_le _) ?_ | refine m_val rfl ?_)
        refine m_mod hpos ?_
        have hlt : (a % ((cs.map T.int).length : Nat)).toNat < cs.length := by
          have h1 := Int.emod_lt_of_pos a hpos
          have h2 := Int.emod_nonneg a (show ((cs.map T.int).length : Int) ≠ 0 by omega)
          rw [List.length_map] at h1 h2 ⊢
          omega
        refine (m_ixL (atI_nat (t := .int cs[(a % ((cs.map T.int).length : Nat)).toNat]) (Int.emod_nonneg a (show ((cs.map T.int).length : Int) ≠ 0 by omega)) (by rw [List.getElem?_map, List.getElem?_eq_getElem hlt]; rfl)) ?_)
        repeat (first | refine x_seq ?_ | refine x_run ?_ | refine m_bnd ?_ | refine m_noX ?_ | refine m_ret ?_ | refine m_get rfl ?_ | refine x_nx ?_ | refine x_rt ?_ | refine m_ixB hp1 rfl ?_ | refine m_mod hm ?_ | refine m_fdiv hd ?_ | refine m_setB hp1 rfl ?_ | refine m_ne_nil hc ?_ | refine m_pow p18 ?_ | refine m_mul (small_mul (by decide)) ?_ | refine m_lst (Nat.zero_le _) ?_ | refine m_val rfl ?_)
        exact ⟨rfl, _, rfl⟩
    · rintro e s' ⟨rfl, cell, rfl⟩
      repeat (first | refine x_seq ?_ | refine x_run ?_ | refine m_bnd ?_ | refine m_noX ?_ | refine m_ret ?_ | refine m_get rfl ?_ | refine x_nx ?_ | refine x_rt ?_ | refine m_ixB hp1 rfl ?_ | refine m_mod hm ?_ | refine m_fdiv hd ?_ | refine m_setB hp1 rfl ?_ | refine m_ne_nil hc ?_ | refine m_pow p18 ?_ | refine m_mul (small_mul (by decide)) ?_ | refine m_lst (Nat.zero_le _) ?_ | refine m_val rfl ?_)
      refine okM_imp (Q1 := fun v s2 => s2 = s' ∧ (v = true → (10 : Int) ^ 18 ≤ if cell < 0 then -cell else cell)) ?_ ?_
      · by_cases hlt : a < (cs.map T.int).length
        · refine m_t (by rw [decide_eq_true hlt]; rfl) ?_
          repeat (first | refine x_seq ?_ | refine x_run ?_ | refine m_bnd ?_ | refine m_noX ?_ | refine m_ret ?_ | refine m_get rfl ?_ | refine x_nx ?_ | refine x_rt ?_ | refine m_ixB hp1 rfl ?_ | refine m_mod hm ?_ | refine m_fdiv hd ?_ | refine m_setB hp1 rfl ?_ | refine m_ne_nil hc ?_ | refine m_pow p18 ?_ | refine m_mul (small_mul (by decide)) ?_ | refine m_lst (Nat.zero_le _) ?_ | refine m_val rfl ?_)
          exact ⟨rfl, fun z => of_decide_eq_true z⟩
        · refine m_f (by rw [decide_eq_false hlt]; exact Bool.false_ne_true) (m_ret ⟨rfl, fun z => absurd (of_decide_eq_true z) hlt⟩)
      · rintro v s2 ⟨rfl, hv⟩
        cases v with
        | true =>
          have hv := hv rfl
          refine x_t rfl ?_
          repeat (first | refine x_seq ?_ | refine x_run ?_ | refine m_bnd ?_ | refine m_noX ?_ | refine m_ret ?_ | refine m_get rfl ?_ | refine x_nx ?_ | refine x_rt ?_ | refine m_ixB hp1 rfl ?_ | refine m_mod hm ?_ | refine m_fdiv hd ?_ | refine m_setB hp1 rfl ?_ | refine m_ne_nil hc ?_ | refine m_pow p18 ?_ | refine m_mul (small_mul (by decide)) ?_ | refine m_lst (Nat.zero_le _) ?_ | refine m_val rfl ?_)
          have hg : (0 : Int) ≤ 2 * ((if cell < 0 then -cell else cell) - 10 ^ Int.toNat 18) + (if decide (cell < 0) = true then 1 else 0) := by
            have e : (10 : Int) ^ Int.toNat 18 = 10 ^ 18 := rfl
            rw [e]
            split <;> split at hv <;> omega
          exact ⟨_, a + 1, _, rfl, Int.emod_nonneg _ (by omega), Int.emod_lt_of_pos _ hm, fin _, by omega, by omega, Int.ediv_nonneg hg (by omega)⟩
        | false =>
          refine x_f Bool.false_ne_true (x_nx ?_)
          have b1 : 0 ≤ c3 * a ∧ c3 * a ≤ 2 ^ 20 * 2 ^ 20 := ⟨Int.mul_nonneg k11 ha.1, Int.mul_le_mul (by omega) (by omega) ha.1 (by omega)⟩
          have b2 := Int.emod_nonneg cell (show m1 ≠ 0 by omega)
          have b3 := Int.emod_lt_of_pos cell k1
          repeat (first | refine x_seq ?_ | refine x_run ?_ | refine m_bnd ?_ | refine m_noX ?_ | refine m_ret ?_ | refine m_get rfl ?_ | refine x_nx ?_ | refine x_rt ?_ | refine m_ixB hp1 rfl ?_ | refine m_mod hm ?_ | refine m_fdiv hd ?_ | refine m_setB hp1 rfl ?_ | refine m_ne_nil hc ?_ | refine m_pow p18 ?_ | refine m_mul (small_mul (by decide)) ?_ | refine m_lst (Nat.zero_le _) ?_ | refine m_val rfl ?_)
          refine m_mod k1 ?_
          repeat (first | refine x_seq ?_ | refine x_run ?_ | refine m_bnd ?_ | refine m_noX ?_ | refine m_ret ?_ | refine m_get rfl ?_ | refine x_nx ?_ | refine x_rt ?_ | refine m_ixB hp1 rfl ?_ | refine m_mod hm ?_ | refine m_fdiv hd ?_ | refine m_setB hp1 rfl ?_ | refine m_ne_nil hc ?_ | refine m_pow p18 ?_ | refine m_mul (small_mul (by decide)) ?_ | refine m_lst (Nat.zero_le _) ?_ | refine m_val rfl ?_)
          refine m_mul (small_mul (by omega)) ?_
          repeat (first | refine x_seq ?_ | refine x_run ?_ | refine m_bnd ?_ | refine m_noX ?_ | refine m_ret ?_ | refine m_get rfl ?_ | refine x_nx ?_ | refine x_rt ?_ | refine m_ixB hp1 rfl ?_ | refine m_mod hm ?_ | refine m_fdiv hd ?_ | refine m_setB hp1 rfl ?_ | refine m_ne_nil hc ?_ | refine m_pow p18 ?_ | refine m_mul (small_mul (by decide)) ?_ | refine m_lst (Nat.zero_le _) ?_ | refine m_val rfl ?_)
          refine m_pow (small_pow ⟨by omega, by omega⟩ ⟨by decide, by decide⟩) ?_
          repeat (first | refine x_seq ?_ | refine x_run ?_ | refine m_bnd ?_ | refine m_noX ?_ | refine m_ret ?_ | refine m_get rfl ?_ | refine x_nx ?_ | refine x_rt ?_ | refine m_ixB hp1 rfl ?_ | refine m_mod hm ?_ | refine m_fdiv hd ?_ | refine m_setB hp1 rfl ?_ | refine m_ne_nil hc ?_ | refine m_pow p18 ?_ | refine m_mul (small_mul (by decide)) ?_ | refine m_lst (Nat.zero_le _) ?_ | refine m_val rfl ?_)
          refine m_mod k3 ?_
          have b4 := Int.emod_nonneg ((cell % m1 + c3 * a + c4) ^ (5 : Int).toNat) (show m2 ≠ 0 by omega)
          have b5 := Int.emod_lt_of_pos ((cell % m1 + c3 * a + c4) ^ (5 : Int).toNat) k3
          generalize (cell % m1 + c3 * a + c4) ^ (5 : Int).toNat % m2 = mx at b4 b5
          have b6 : 0 ≤ mx * (2 * a + c5) ∧ mx * (2 * a + c5) ≤ 2 ^ 32 * 2 ^ 22 := ⟨Int.mul_nonneg b4 (by omega), Int.mul_le_mul (by omega) (by omega) (by omega) (by omega)⟩
          have b7 : 0 ≤ c6 * a ∧ c6 * a ≤ 2 ^ 20 * 2 ^ 20 := ⟨Int.mul_nonneg k17 ha.1, Int.mul_le_mul (by omega) (by omega) ha.1 (by omega)⟩
          have b8 : 0 ≤ c6 * a * a ∧ c6 * a * a ≤ 2 ^ 40 * 2 ^ 20 := ⟨Int.mul_nonneg b7.1 ha.1, Int.mul_le_mul (by omega) (by omega) ha.1 (by omega)⟩
          repeat (first | refine x_seq ?_ | refine x_run ?_ | refine m_bnd ?_ | refine m_noX ?_ | refine m_ret ?_ | refine m_get rfl ?_ | refine x_nx ?_ | refine x_rt ?_ | refine m_ixB hp1 rfl ?_ | refine m_mod hm ?_ | refine m_fdiv hd ?_ | refine m_setB hp1 rfl ?_ | refine m_ne_nil hc ?_ | refine m_pow p18 ?_ | refine m_mul (small_mul (by decide)) ?_ | refine m_lst (Nat.zero_le _) ?_ | refine m_val rfl ?_)
          refine m_mul (small_mul (by omega)) ?_
          repeat (first | refine x_seq ?_ | refine x_run ?_ | refine m_bnd ?_ | refine m_noX ?_ | refine m_ret ?_ | refine m_get rfl ?_ | refine x_nx ?_ | refine x_rt ?_ | refine m_ixB hp1 rfl ?_ | refine m_mod hm ?_ | refine m_fdiv hd ?_ | refine m_setB hp1 rfl ?_ | refine m_ne_nil hc ?_ | refine m_pow p18 ?_ | refine m_mul (small_mul (by decide)) ?_ | refine m_lst (Nat.zero_le _) ?_ | refine m_val rfl ?_)
          refine m_mul (small_mul (by omega)) ?_
          repeat (first | refine x_seq ?_ | refine x_run ?_ | refine m_bnd ?_ | refine m_noX ?_ | refine m_ret ?_ | refine m_get rfl ?_ | refine x_nx ?_ | refine x_rt ?_ | refine m_ixB hp1 rfl ?_ | refine m_mod hm ?_ | refine m_fdiv hd ?_ | refine m_setB hp1 rfl ?_ | refine m_ne_nil hc ?_ | refine m_pow p18 ?_ | refine m_mul (small_mul (by decide)) ?_ | refine m_lst (Nat.zero_le _) ?_ | refine m_val rfl ?_)
          refine m_mul (small_mul (by omega)) ?_
          repeat (first | refine x_seq ?_ | refine x_run ?_ | refine m_bnd ?_ | refine m_noX ?_ | refine m_ret ?_ | refine m_get rfl ?_ | refine x_nx ?_ | refine x_rt ?_ | refine m_ixB hp1 rfl ?_ | refine m_mod hm ?_ | refine m_fdiv hd ?_ | refine m_setB hp1 rfl ?_ | refine m_ne_nil hc ?_ | refine m_pow p18 ?_ | refine m_mul (small_mul (by decide)) ?_ | refine m_lst (Nat.zero_le _) ?_ | refine m_val rfl ?_)
          refine m_pow (small_pow ⟨by omega, by omega⟩ ⟨by decide, by decide⟩) ?_
          repeat (first | refine x_seq ?_ | refine x_run ?_ | refine m_bnd ?_ | refine m_noX ?_ | refine m_ret ?_ | refine m_get rfl ?_ | refine x_nx ?_ | refine x_rt ?_ | refine m_ixB hp1 rfl ?_ | refine m_mod hm ?_ | refine m_fdiv hd ?_ | refine m_setB hp1 rfl ?_ | refine m_ne_nil hc ?_ | refine m_pow p18 ?_ | refine m_mul (small_mul (by decide)) ?_ | refine m_lst (Nat.zero_le _) ?_ | refine m_val rfl ?_)
          refine m_mod k5 ?_
          repeat (first | refine x_seq ?_ | refine x_run ?_ | refine m_bnd ?_ | refine m_noX ?_ | refine m_ret ?_ | refine m_get rfl ?_ | refine x_nx ?_ | refine x_rt ?_ | refine m_ixB hp1 rfl ?_ | refine m_mod hm ?_ | refine m_fdiv hd ?_ | refine m_setB hp1 rfl ?_ | refine m_ne_nil hc ?_ | refine m_pow p18 ?_ | refine m_mul (small_mul (by decide)) ?_ | refine m_lst (Nat.zero_le _) ?_ | refine m_val rfl ?_)
          refine m_fdiv (div_small k7 ?_) ?_
          · exact Nat.lt_of_lt_of_le (Nat.log2_lt (by omega) |>.mpr (show c8.natAbs < 2 ^ 32 by omega)) (by decide)
          repeat (first | refine x_seq ?_ | refine x_run ?_ | refine m_bnd ?_ | refine m_noX ?_ | refine m_ret ?_ | refine m_get rfl ?_ | refine x_nx ?_ | refine x_rt ?_ | refine m_ixB hp1 rfl ?_ | refine m_mod hm ?_ | refine m_fdiv hd ?_ | refine m_setB hp1 rfl ?_ | refine m_ne_nil hc ?_ | refine m_pow p18 ?_ | refine m_mul (small_mul (by decide)) ?_ | refine m_lst (Nat.zero_le _) ?_ | refine m_val rfl ?_)
          exact ⟨_, a + 1, 0, rfl, Int.emod_nonneg _ (by omega), Int.emod_lt_of_pos _ hm, by rw [← fin 0]; exact (put_same hp1).symm, by omega, by omega, by omega⟩
end G
-- GtW
namespace G
open PySem L2
/-! ### what comes of shallow code: rewriting -/
/-- what stands ahead of it is not rewritten -/
structure Ph {α : Sort u} (a : α) : Type
def ph {α : Sort u} {a : α} : Ph a := {}
abbrev XP := Str → List Str → List T → S → Prop
def noE : XP := fun _ _ _ _ => False
def noS : En → S → Prop := fun _ _ => False
def Wm0 {α : Type} (m : M α) (s : S) (Q : α → S → Prop) (E : XP) : Prop := match m s with
  | .ok v s' => Q v s'
  | .exc C ns vs s' => E C ns vs s'
  | .bad => False
structure Wm {α : Type} (m : M α) (s : S) (Q : α → S → Prop) (E : XP) (p : Ph (Q, E)) : Prop where
  out : Wm0 m s Q E
abbrev SX := Str → List Str → List T → En → S → Prop
def Ws0 (r : RS) (N : En → S → Prop) (R : T → S → Prop) (B C : En → S → Prop) (X : SX) : Prop := match r with
  | .nx e s => N e s
  | .rt t s => R t s
  | .bk e s => B e s
  | .ct e s => C e s
  | .ex D ns vs e s => X D ns vs e s
  | .bad => False
structure Ws (r : RS) (N : En → S → Prop) (R : T → S → Prop) (B C : En → S → Prop) (X : SX) (p : Ph (N, R, B, C, X)) : Prop where
  out : Ws0 r N R B C X
theorem Wm_eq {α : Type} {m : M α} {s : S} {Q : α → S → Prop} {E : XP} {p : Ph (Q, E)} : Wm m s Q E p = Wm0 m s Q E := propext ⟨fun h => h.out, fun h => ⟨h⟩⟩
theorem Ws_eq {r : RS} {N B C : En → S → Prop} {R : T → S → Prop} {X : SX} {p : Ph (N, R, B, C, X)} : Ws r N R B C X p = Ws0 r N R B C X := propext ⟨fun h => h.out, fun h => ⟨h⟩⟩
section
variable {α β : Type} {m m2 : M α} {k : α → M β} {s : S} {E : XP} {N B C : En → S → Prop} {R : T → S → Prop} {X : SX} {env : En} {a b : MS} {v : α}
theorem w_bnd {Q : β → S → Prop} {p : Ph (Q, E)} : Wm (bnd m k) s Q E p = Wm m s (fun v s' => Wm (k v) s' Q E ph) E ph := by
  simp only [Wm_eq]
  unfold Wm0 bnd
  cases m s <;> rfl
variable {Q : α → S → Prop} {p : Ph (Q, E)}
theorem w_ret : Wm (ret v) s Q E p = Q v s := by
  rw [Wm_eq]
  rfl
theorem w_noX : Wm (noX m) s Q E p = Wm m s Q noE ph := by
  simp only [Wm_eq]
  unfold Wm0 noX noE
  cases m s <;> rfl
theorem w_bad : Wm (bad : M α) s Q E p = False := by
  rw [Wm_eq]
  rfl
theorem w_ite {c : Prop} [Decidable c] : Wm (if c then m else m2) s Q E p = if c then Wm m s Q E ph else Wm m2 s Q E ph := by
  split <;> rfl
theorem w_of {s' : S} (h : m s = .ok v s') : Wm m s Q E p = Q v s' := by
  rw [Wm_eq]
  unfold Wm0
  rw [h]
theorem w_ofX {C : Str} {ns : List Str} {vs : List T} {s' : S} (h : m s = .exc C ns vs s') : Wm m s Q E p = E C ns vs s' := by
  rw [Wm_eq]
  unfold Wm0
  rw [h]
theorem w_imp (h : Wm m s Q E p) {Q2 : α → S → Prop} {E2 : XP} {p2 : Ph (Q2, E2)} (f : ∀ v s', Q v s' → Q2 v s') (g : ∀ C ns vs s', E C ns vs s' → E2 C ns vs s') : Wm m s Q2 E2 p2 := by
  rw [Wm_eq] at h ⊢
  unfold Wm0 at h ⊢
  cases e : m s with
  | ok v s' => rw [e] at h; exact f v s' h
  | exc C ns vs s' => rw [e] at h; exact g C ns vs s' h
  | bad => rw [e] at h; exact h
theorem w_impQ {pe : Ph (Q, noE)} (h : Wm m s Q noE pe) {Q2 : α → S → Prop} {E2 : XP} {p2 : Ph (Q2, E2)} (f : ∀ v s', Q v s' → Q2 v s') : Wm m s Q2 E2 p2 := w_imp h f fun _ _ _ _ z => z.elim
theorem w_fun {f : S → Res α} : Wm f s Q E p = Wm0 (fun _ => f s) s Q E := by
  rw [Wm_eq]
  rfl
theorem w_resok {s0 s' : S} : Wm0 (fun _ => (Res.ok v s' : Res α)) s0 Q E = Q v s' := rfl
theorem w_resbad {s0 : S} : Wm0 (fun _ => (Res.bad : Res α)) s0 Q E = False := rfl
theorem w_resex {C : Str} {ns : List Str} {vs : List T} {s0 s' : S} : Wm0 (fun _ => (Res.exc C ns vs s' : Res α)) s0 Q E = E C ns vs s' := rfl
theorem w_out {c : S → RS} {Q : T → S → Prop} {p : Ph (Q, E)} : Wm (fun s => outR (c s)) s Q E p = Ws (c s) (fun _ s' => Q .non s') Q noS noS (fun C ns vs _ s' => E C ns vs s') ph := by
  rw [Wm_eq, Ws_eq]
  unfold Wm0 Ws0 outR noS
  dsimp only
  cases c s <;> rfl
variable {q : Ph (N, R, B, C, X)}
theorem s_seq : Ws (seqS a b env s) N R B C X q = Ws (a env s) (fun e s' => Ws (b e s') N R B C X ph) R B C X ph := by
  simp only [Ws_eq]
  unfold Ws0 seqS
  cases a env s <;> rfl
theorem s_run {k : α → S → RS} : Ws (runE m env s k) N R B C X q = Wm m s (fun v s' => Ws (k v s') N R B C X ph) (fun D ns vs s' => X D ns vs env s') ph := by
  simp only [Wm_eq, Ws_eq]
  unfold Wm0 runE Ws0
  cases m s <;> rfl
theorem s_nx : Ws (.nx env s) N R B C X q = N env s := by rw [Ws_eq]; rfl
theorem s_rt {t : T} : Ws (.rt t s) N R B C X q = R t s := by rw [Ws_eq]; rfl
theorem s_bk : Ws (.bk env s) N R B C X q = B env s := by rw [Ws_eq]; rfl
theorem s_ct : Ws (.ct env s) N R B C X q = C env s := by rw [Ws_eq]; rfl
theorem s_ex {D : Str} {ns : List Str} {vs : List T} : Ws (.ex D ns vs env s) N R B C X q = X D ns vs env s := by rw [Ws_eq]; rfl
theorem s_bad : Ws .bad N R B C X q = False := by rw [Ws_eq]; rfl
theorem s_ite {c : Prop} [Decidable c] {r1 r2 : RS} : Ws (if c then r1 else r2) N R B C X q = if c then Ws r1 N R B C X ph else Ws r2 N R B C X ph := by
  split <;> rfl
theorem s_imp {r : RS} (h : Ws r N R B C X q) {N2 B2 C2 : En → S → Prop} {R2 : T → S → Prop} {X2 : SX} {q2 : Ph (N2, R2, B2, C2, X2)} (f1 : ∀ e s, N e s → N2 e s) (f2 : ∀ t s, R t s → R2 t s) (f3 : ∀ e s, B e s → B2 e s) (f4 : ∀ e s, C e s → C2 e s) (f5 : ∀ D ns vs e s, X D ns vs e s → X2 D ns vs e s) : Ws r N2 R2 B2 C2 X2 q2 := by
  rw [Ws_eq] at h ⊢
  unfold Ws0 at h ⊢
  cases r with
  | nx e s => exact f1 _ _ h
  | rt e s => exact f2 _ _ h
  | bk e s => exact f3 _ _ h
  | ct e s => exact f4 _ _ h
  | ex D ns vs e s => exact f5 _ _ _ _ _ h
  | bad => exact h
theorem s_bind {bd : S → T → En → Option En} {t : T} : Ws (bindS bd t env s) N R B C X q = match bd s t env with
  | some e => N e s
  | none => False := by
  rw [Ws_eq]
  unfold bindS
  cases bd s t env <;> rfl
theorem s_for0 {bd : S → T → En → Option En} : Ws (forS bd a [] env s) N R B C X q = N env s := by
  rw [Ws_eq]
  rfl
theorem s_forC {bd : S → T → En → Option En} {t : T} {ts : List T} : Ws (forS bd a (t :: ts) env s) N R B C X q = match bd s t env with
    | some e => Ws (a e s) (fun e2 s2 => Ws (forS bd a ts e2 s2) N R B C X ph) R N (fun e2 s2 => Ws (forS bd a ts e2 s2) N R B C X ph) X ph
    | none => False := by
  simp only [Ws_eq]
  conv => lhs; unfold forS
  cases bd s t env with
  | none => rfl
  | some e =>
    show Ws0 (match a e s with
      | .nx e2 s2 => forS bd a ts e2 s2
      | .ct e2 s2 => forS bd a ts e2 s2
      | .bk e2 s2 => .nx e2 s2
      | r => r) N R B C X = Ws0 (a e s) _ _ _ _ _
    cases a e s <;> rfl
/-- a for by an invariant -/
theorem s_for {bd : S → T → En → Option En} (I : List T → En → S → Prop) : ∀ {ts : List T} {env : En} {s : S}, I ts env s → (∀ t ts env s, I (t :: ts) env s → ∃ e, bd s t env = some e ∧ Ws (a e s) (I ts) R (fun e s => N e s) (I ts) X ph) → (∀ env s, I [] env s → N env s) →
    Ws (forS bd a ts env s) N R B C X q
  | [], env, s, h, _, f => by rw [s_for0]; exact f env s h
  | t :: ts, env, s, h, g, f => by
    rw [s_forC]
    obtain ⟨e, h1, h2⟩ := g t ts env s h
    rw [h1]
    exact s_imp h2 (fun e2 s2 z => s_for I z g f) (fun _ _ z => z) (fun _ _ z => z) (fun e2 s2 z => s_for I z g f) (fun _ _ _ _ _ z => z)
/-- .. over the items of a typed list, counted: done and left -/
theorem s_forL {A : Type} {bd : S → T → En → Option En} {g : A → T} {xs : List A} (I : Nat → En → S → Prop) (h0 : I 0 env s)
    (h1 : ∀ j x env s, xs[j]? = some x → I j env s → ∃ e, bd s (g x) env = some e ∧ Ws (a e s) (I (j + 1)) R (fun e s => N e s) (I (j + 1)) X ph)
    (h2 : ∀ env s, I xs.length env s → N env s) : Ws (forS bd a (xs.map g) env s) N R B C X q := by
  refine s_for (I := fun ts e s => ∃ j, j ≤ xs.length ∧ ts = (xs.drop j).map g ∧ I j e s) ⟨0, Nat.zero_le _, rfl, h0⟩ ?_ ?_
  · rintro t ts env s ⟨j, hj, ht, hi⟩
    rcases Nat.lt_or_ge j xs.length with hl | hl
    · rw [List.drop_eq_getElem_cons hl, List.map_cons] at ht
      injection ht with e1 e2
      subst e1 e2
      obtain ⟨e, b1, b2⟩ := h1 j xs[j] env s (List.getElem?_eq_getElem hl) hi
      exact ⟨e, b1, s_imp b2 (fun _ _ z => ⟨j + 1, hl, rfl, z⟩) (fun _ _ z => z) (fun _ _ z => z) (fun _ _ z => ⟨j + 1, hl, rfl, z⟩) (fun _ _ _ _ _ z => z)⟩
    · rw [List.drop_eq_nil_of_le hl] at ht
      cases ht
  · rintro env s ⟨j, hj, ht, hi⟩
    have e : j = xs.length := by
      rcases Nat.lt_or_ge j xs.length with hl | hl
      · rw [List.drop_eq_getElem_cons hl] at ht
        cases ht
      · omega
    subst e
    exact h2 env s hi
/-- try -/
theorem s_try {P : Pg} {fc : FC} {x : Str} {i : Nat} {su : MS} : Ws (tryS P fc x i a su env s) N R B C X q = Ws (a env s) N R B C (fun D ns vs e s' => match catches P x D with
    | some true => Ws (su (e.set i (some (.exc D ns vs))) s') (fun e2 s2 => N (e2.set i none) s2) R noS noS (fun _ _ _ _ _ => False) ph
    | some false => X D ns vs e s'
    | none => False) ph := by
  simp only [Ws_eq]
  unfold tryS
  cases a env s with
  | ex D ns vs e s' =>
    show Ws0 (match catches P x D with
      | some true => unName i (su (e.set i (some (.exc D ns vs))) s')
      | some false => .ex D ns vs e s'
      | none => .bad) N R B C X = (match catches P x D with
      | some true => _
      | some false => _
      | none => _)
    cases catches P x D with
    | none => rfl
    | some b =>
      cases b with
      | false => rfl
      | true =>
        show Ws0 (unName i (su (e.set i (some (.exc D ns vs))) s')) N R B C X = Ws0 (su (e.set i (some (.exc D ns vs))) s') _ _ _ _ _
        cases su (e.set i (some (.exc D ns vs))) s' <;> rfl
  | _ => rfl
/-- while, by a measure -/
theorem s_while {c : En → M Bool} {body : MS} (I : Nat → En → S → Prop) : ∀ {n : Nat} {f : Nat} {env : En} {s : S}, n < f → I n env s →
    (∀ n env s, I n env s → Wm (c env) s (fun b s' => if b then Ws (body env s') (fun e2 s2 => ∃ n', n' < n ∧ I n' e2 s2) R N (fun e2 s2 => ∃ n', n' < n ∧ I n' e2 s2) X ph else N env s') (fun D ns vs s' => X D ns vs env s') ph) →
    Ws (whileS c body f env s) N R B C X q
  | _, 0, _, _, hn, _, _ => absurd hn (Nat.not_lt_zero _)
  | n, f + 1, env, s, hn, h, g => by
    unfold whileS
    rw [s_run]
    refine w_imp (g n env s h) (fun b s' hb => ?_) fun _ _ _ _ z => z
    cases b with
    | false =>
      rw [if_neg Bool.false_ne_true] at hb
      show Ws (RS.nx env s') N R B C X ph
      rw [s_nx]
      exact hb
    | true =>
      rw [if_pos rfl] at hb
      have hb := Ws_eq.mp hb
      show Ws (match body env s' with
        | .nx e2 s2 => whileS c body f e2 s2
        | .ct e2 s2 => whileS c body f e2 s2
        | .bk e2 s2 => .nx e2 s2
        | r => r) N R B C X ph
      cases e : body env s' with
      | nx e2 s2 =>
        rw [e] at hb
        obtain ⟨n', hl, hi⟩ := hb
        exact s_while I (by omega) hi g
      | ct e2 s2 =>
        rw [e] at hb
        obtain ⟨n', hl, hi⟩ := hb
        exact s_while I (by omega) hi g
      | bk e2 s2 =>
        rw [e] at hb
        show Ws (RS.nx e2 s2) N R B C X ph
        rw [s_nx]
        exact hb
      | rt t s2 =>
        rw [e] at hb
        show Ws (RS.rt t s2) N R B C X ph
        rw [s_rt]
        exact hb
      | ex D ns vs e2 s2 =>
        rw [e] at hb
        show Ws (RS.ex D ns vs e2 s2) N R B C X ph
        rw [s_ex]
        exact hb
      | bad =>
        rw [e] at hb
        exact hb.elim
end
/-! ### texts of the program -/
theorem map_inj {α β : Type} {f : α → β} (hf : ∀ x y, f x = f y → x = y) : ∀ {l r : List α}, l.map f = r.map f → l = r
  | [], [], _ => rfl
  | [], _ :: _, h => by cases h
  | _ :: _, [], h => by cases h
  | a :: l, b :: r, h => by
    rw [List.map_cons, List.map_cons] at h
    injection h with h1 h2
    rw [hf _ _ h1, map_inj hf h2]
theorem chr_inj (a b : Char) (h : a.toNat = b.toNat) : a = b := by
  have h : a.val.toNat = b.val.toNat := h
  exact Char.ext (UInt32.toNat_inj.mp h)
theorem str_inj {a b : String} (h : Str.ofString a = Str.ofString b) : a = b := by
  rw [Str.ofString_eq_toList, Str.ofString_eq_toList] at h
  injection h with h
  have h := congrArg Array.toList h
  simp only at h
  exact String.toList_inj.mp (map_inj chr_inj h)
theorem l_str {a b : String} : (Str.ofString a = Str.ofString b) = (a = b) := propext ⟨str_inj, fun h => by rw [h]⟩
theorem l_strb {a b : String} : (Str.ofString a == Str.ofString b) = decide (a = b) := by
  rw [Bool.eq_iff_iff, beq_iff_eq, l_str, decide_eq_true_eq]
theorem l_str_len {a : String} : (Str.ofString a).length = a.length := by
  rw [Str.ofString_eq_toList]
  unfold Str.length
  simp [String.length_toList]
/-! ### states -/
def S.up (s : S) (k : Nat) : S := ⟨s.next + k, s.cells⟩
theorem up_next {s : S} {k : Nat} : (s.up k).next = s.next + k := rfl
theorem put_next {s : S} {n : Nat} {o : BO} : (s.put n o).next = s.next := rfl
theorem new_next {s : S} {o : BO} : (s.new o).next = s.next + 1 := rfl
theorem del_next {s : S} {n : Nat} : (s.del n).next = s.next := rfl
theorem up_up {s : S} {k j : Nat} : (s.up k).up j = s.up (k + j) := by unfold S.up; simp [Nat.add_assoc]
theorem up_put {s : S} {k n : Nat} {o : BO} : (s.up k).put n o = (s.put n o).up k := rfl
theorem up_del {s : S} {k n : Nat} : (s.up k).del n = (s.del n).up k := rfl
theorem up_get {s : S} {k n : Nat} : (s.up k).get n = s.get n := rfl
theorem get_newS {s : S} {o : BO} : (s.new o).get s.next = some o := by
  show List.lookup s.next ((s.next, o) :: s.cells) = _
  rw [List.lookup_cons, beq_self_eq_true]
theorem get_newN {s : S} {o : BO} {n : Nat} (h : n < s.next) : (s.new o).get n = s.get n := by
  show List.lookup n ((s.next, o) :: s.cells) = _
  rw [List.lookup_cons, beq_eq_false_iff_ne.mpr (by omega)]
  rfl
theorem put_newS {s : S} {o u : BO} : (s.new o).put s.next u = s.new u := by
  unfold S.new S.put
  simp [putC]
theorem put_newN {s : S} {o u : BO} {n : Nat} (h : n < s.next) : (s.new o).put n u = ⟨s.next + 1, (s.next, o) :: putC n u s.cells⟩ := by
  unfold S.new S.put
  have e : ¬ s.next = n := by omega
  simp [putC, e]
theorem put_newN' {s : S} {o u : BO} {n : Nat} (h : n < s.next) : (s.new o).put n u = (s.put n u).new o := put_newN h
theorem del_newS {s : S} {o : BO} : (s.new o).del s.next = s.up 1 := by
  unfold S.new S.del
  simp [delC]
  rfl
theorem get_putN {s : S} {n m : Nat} {o : BO} (h : m ≠ n) : (s.put n o).get m = s.get m := by
  show (putC n o s.cells).lookup m = s.cells.lookup m
  generalize s.cells = l
  induction l with
  | nil => rfl
  | cons kx r ih =>
    obtain ⟨k, x⟩ := kx
    unfold putC
    by_cases hk : k = n
    · rw [if_pos hk, List.lookup_cons, List.lookup_cons, hk, beq_eq_false_iff_ne.mpr h]
    · rw [if_neg hk, List.lookup_cons, List.lookup_cons, ih]
end G
-- GtW2
namespace G
open PySem L2
/-! ### primitives, rewriting -/
section
variable {α β : Type} {s : S} {E : XP} {P : Pg} {call : CallM}
/-- there is one, and it does -/
structure OP {γ : Type} (o : Option γ) (Q : γ → Prop) (p : Ph Q) : Prop where
  out : match o with | some t => Q t | none => False
theorem op_some {γ : Type} {t : γ} {Q : γ → Prop} {p : Ph Q} : OP (some t) Q p = Q t := propext ⟨fun h => h.out, fun h => ⟨h⟩⟩
theorem op_none {γ : Type} {Q : γ → Prop} {p : Ph Q} : OP none Q p = False := propext ⟨fun h => h.out, fun h => h.elim⟩
theorem op_of {γ : Type} {o : Option γ} {t : γ} {Q : γ → Prop} {p : Ph Q} (h : o = some t) : OP o Q p = Q t := by subst h; exact op_some
/-- a box with a list, with an instance -/
structure OL (o : Option BO) (Q : List T → Prop) (p : Ph Q) : Prop where
  out : match o with | some (.lst xs) => Q xs | _ => False
structure OI (o : Option BO) (Q : Str → List Str → List T → Prop) (p : Ph Q) : Prop where
  out : match o with | some (.ins C ns vs) => Q C ns vs | _ => False
theorem ol_lst {xs : List T} {Q : List T → Prop} {p : Ph Q} : OL (some (.lst xs)) Q p = Q xs := propext ⟨fun h => h.out, fun h => ⟨h⟩⟩
theorem ol_none {Q : List T → Prop} {p : Ph Q} : OL none Q p = False := propext ⟨fun h => h.out, fun h => h.elim⟩
theorem ol_ins {C : Str} {ns : List Str} {vs : List T} {Q : List T → Prop} {p : Ph Q} : OL (some (.ins C ns vs)) Q p = False := propext ⟨fun h => h.out, fun h => h.elim⟩
theorem ol_dct {ns : List Key} {vs : List T} {Q : List T → Prop} {p : Ph Q} : OL (some (.dct ns vs)) Q p = False := propext ⟨fun h => h.out, fun h => h.elim⟩
theorem oi_ins {C : Str} {ns : List Str} {vs : List T} {Q : Str → List Str → List T → Prop} {p : Ph Q} : OI (some (.ins C ns vs)) Q p = Q C ns vs := propext ⟨fun h => h.out, fun h => ⟨h⟩⟩
theorem oi_none {Q : Str → List Str → List T → Prop} {p : Ph Q} : OI none Q p = False := propext ⟨fun h => h.out, fun h => h.elim⟩
theorem oi_lst {vs : List T} {Q : Str → List Str → List T → Prop} {p : Ph Q} : OI (some (.lst vs)) Q p = False := propext ⟨fun h => h.out, fun h => h.elim⟩
theorem oi_dct {ns : List Key} {vs : List T} {Q : Str → List Str → List T → Prop} {p : Ph Q} : OI (some (.dct ns vs)) Q p = False := propext ⟨fun h => h.out, fun h => h.elim⟩
theorem w_eqm {m m' : M α} {Q : α → S → Prop} {p p' : Ph (Q, E)} (h : m s = m' s) : Wm m s Q E p = Wm m' s Q E p' := by
  rw [Wm_eq, Wm_eq]
  unfold Wm0
  rw [h]
theorem w_congr {m : M α} {Q Q2 : α → S → Prop} {p : Ph (Q, E)} (h : ∀ v s, Q v s = Q2 v s) : Wm m s Q E p = Wm m s Q2 E ph := by
  have e : Q = Q2 := funext fun v => funext fun s => h v s
  subst e
  rfl
theorem w_bm {m' : M (List T)} {m : M T} {f : List T → M T} {Q : T → S → Prop} {p : Ph (Q, E)} (h : m s = bnd m' (fun ts => noX (f ts)) s) : Wm m s Q E p = Wm m' s (fun ts s' => Wm (f ts) s' Q noE ph) E ph := by
  rw [w_eqm (p' := ph) h, w_bnd]
  exact w_congr fun v s => w_noX
theorem w_ifm {m : M α} {c : Prop} [Decidable c] {Q : α → S → Prop} {p : Ph (Q, E)} : Wm (fun s => if c then m s else .bad) s Q E p = (c ∧ Wm m s Q E ph) := by
  by_cases h : c
  · rw [w_eqm (m' := m) (p' := ph) (by simp [h])]; simp [h]
  · rw [w_eqm (m' := bad) (p' := ph) (by simp [h]; rfl), w_bad]; simp [h]
theorem w_ol {m : M α} {n : Nat} {Q : α → S → Prop} {p : Ph (Q, E)} {F : List T → Prop} (h : ∀ xs, s.get n = some (.lst xs) → Wm m s Q E p = F xs) (h2 : (∀ xs, see s (.box n) ≠ .lst xs) → (∀ xs, s.get n ≠ some (.lst xs)) → m s = .bad) : Wm m s Q E p = OL (s.get n) F ph := by
  have b : (∀ xs, see s (.box n) ≠ .lst xs) → (∀ xs, s.get n ≠ some (.lst xs)) → Wm m s Q E p = False := fun q r => by rw [w_eqm (m' := bad) (p' := ph) (h2 q r)]; exact w_bad
  have sb : ∀ o, s.get n = o → see s (.box n) = seeB n o := fun o e => by rw [← e]; rfl
  cases e : s.get n with
  | none => rw [ol_none]; exact b (by rw [sb _ e]; intro xs z; cases z) (by rw [e]; intro xs z; cases z)
  | some o =>
    cases o with
    | lst xs => rw [ol_lst]; exact h xs e
    | dct ks vs => rw [ol_dct]; exact b (by rw [sb _ e]; intro xs z; cases z) (by rw [e]; intro xs z; cases z)
    | ins C ns vs => rw [ol_ins]; exact b (by rw [sb _ e]; intro xs z; cases z) (by rw [e]; intro xs z; cases z)
theorem w_oi {m : M α} {n : Nat} {Q : α → S → Prop} {p : Ph (Q, E)} {F : Str → List Str → List T → Prop} (h : ∀ C ns vs, s.get n = some (.ins C ns vs) → Wm m s Q E p = F C ns vs) (h2 : (∀ xs, s.get n = some (.lst xs) → m s = .bad)) (h3 : ∀ ks vs, s.get n = some (.dct ks vs) → m s = .bad) (h4 : s.get n = none → m s = .bad) : Wm m s Q E p = OI (s.get n) F ph := by
  have b : m s = .bad → Wm m s Q E p = False := fun q => by rw [w_eqm (m' := bad) (p' := ph) q]; exact w_bad
  cases e : s.get n with
  | none => rw [oi_none]; exact b (h4 e)
  | some o =>
    cases o with
    | lst xs => rw [oi_lst]; exact b (h2 _ e)
    | dct ks vs => rw [oi_dct]; exact b (h3 _ _ e)
    | ins C ns vs => rw [oi_ins]; exact h C ns vs e
section gen
variable {m : M α} {Q : α → S → Prop} {p : Ph (Q, E)} {v : α} {s' : S}
theorem w_if {c : Prop} [Decidable c] (h : m s = if c then .ok v s' else .bad) : Wm m s Q E p = (c ∧ Q v s') := by
  rw [Wm_eq]
  unfold Wm0
  rw [h]
  by_cases hc : c
  · rw [if_pos hc]; simp [hc]
  · rw [if_neg hc]; simp [hc]
theorem w_op {γ : Type} {o : Option γ} {f : γ → α} {g : γ → S} (h1 : ∀ t, o = some t → m s = .ok (f t) (g t)) (h2 : o = none → m s = .bad) : Wm m s Q E p = OP o (fun t => Q (f t) (g t)) ph := by
  rw [Wm_eq]
  unfold Wm0
  cases o with
  | none => rw [op_none, h2 rfl]
  | some t => rw [op_some, h1 t rfl]
theorem w_op2 {γ : Type} {o : Option γ} {c : γ → Prop} {f : γ → α} [∀ t, Decidable (c t)] (h1 : ∀ t, o = some t → m s = if c t then .ok (f t) s else .bad) (h2 : o = none → m s = .bad) : Wm m s Q E p = OP o (fun t => c t ∧ Q (f t) s) ph := by
  rw [Wm_eq]
  unfold Wm0
  cases o with
  | none => rw [op_none, h2 rfl]
  | some t =>
    rw [op_some, h1 t rfl]
    by_cases h : c t
    · rw [if_pos h]; simp [h]
    · rw [if_neg h]; simp [h]
end gen
/-! variables -/
section vT
variable {Q : T → S → Prop} {p : Ph (Q, E)} {i j : Int} {x y : Str} {xs ys : List T} {t : T} {ks : List Key} {b c : Bool} {n : Nat}
theorem w_get0 {l : En} : Wm (getV (some t :: l) 0) s Q E p = Q t s := w_of rfl
theorem w_getS {l : En} {a : Option T} {n : Nat} : Wm (getV (a :: l) (n + 1)) s Q E p = Wm (getV l n) s Q E ph := by
  have e : getV (a :: l) (n + 1) = getV l n := by
    unfold getV
    rw [List.getElem?_cons_succ]
  rw [e]
/-! operators -/
theorem w_binII {op : Operator} : Wm (binO P call op (.int i) (.int j)) s Q E p = Wm (binop op (.int i) (.int j)) s Q noE ph := (w_eqm (m' := noX (binop op (.int i) (.int j))) (p' := ph) rfl).trans w_noX
theorem w_binIB {op : Operator} : Wm (binO P call op (.int i) (.bl b)) s Q E p = Wm (binop op (.int i) (.bl b)) s Q noE ph := (w_eqm (m' := noX (binop op (.int i) (.bl b))) (p' := ph) rfl).trans w_noX
theorem w_binS {op : Operator} {t : T} : Wm (binO P call op (.str x) t) s Q E p = Wm (binop op (.str x) t) s Q noE ph := (w_eqm (m' := noX (binop op (.str x) t)) (p' := ph) rfl).trans w_noX
theorem w_binL {op : Operator} {t : T} : Wm (binO P call op (.lst xs) t) s Q E p = Wm (binop op (.lst xs) t) s Q noE ph := (w_eqm (m' := noX (binop op (.lst xs) t)) (p' := ph) rfl).trans w_noX
theorem w_binT {op : Operator} {t : T} : Wm (binO P call op (.tup xs) t) s Q E p = Wm (binop op (.tup xs) t) s Q noE ph := (w_eqm (m' := noX (binop op (.tup xs) t)) (p' := ph) rfl).trans w_noX
theorem w_negI : Wm (negO P call (.int i)) s Q E p = Q (.int (-i)) s := w_of rfl
theorem w_ixoL {t : T} : Wm (ixO P call (.lst xs) t) s Q E p = Wm (ixM (.lst xs) t) s Q noE ph := (w_eqm (m' := noX (ixM (.lst xs) t)) (p' := ph) rfl).trans w_noX
theorem w_ixoT {t : T} : Wm (ixO P call (.tup xs) t) s Q E p = Wm (ixM (.tup xs) t) s Q noE ph := (w_eqm (m' := noX (ixM (.tup xs) t)) (p' := ph) rfl).trans w_noX
theorem w_ixoS {t : T} : Wm (ixO P call (.str x) t) s Q E p = Wm (ixM (.str x) t) s Q noE ph := (w_eqm (m' := noX (ixM (.str x) t)) (p' := ph) rfl).trans w_noX
theorem w_asBl : Wm (asBl (.bl b)) s Q E p = Q (.bl b) s := w_of rfl
theorem w_boolO : Wm (bcallO P call false .bool [.int i]) s Q E p = Q (.bl (i != 0)) s := w_of rfl
theorem w_boolOb : Wm (bcallO P call false .bool [.bl b]) s Q E p = Q (.bl b) s := w_of rfl
theorem w_callLl {th : Option (T × M T)} {f c : Nat} {q : Str} {cap : List T} {vs : List V} : Wm (callL P call th (.lam f c q cap vs)) s Q E p = Wm (thC th (.lam f c q cap vs)) s Q E ph := w_eqm (by unfold callL; rfl)
theorem w_add : Wm (binop .Add (.int i) (.int j)) s Q E p = Q (.int (i + j)) s := w_of rfl
theorem w_addb : Wm (binop .Add (.int i) (.bl b)) s Q E p = Q (.int (i + PyProof.Rows.b2i b)) s := w_of rfl
theorem w_addS : Wm (binop .Add (.str x) (.str y)) s Q E p = (x.length + y.length ≤ sizeLine ∧ Q (.str (x ++ y)) s) := w_if rfl
theorem w_addL : Wm (binop .Add (.lst xs) (.lst ys)) s Q E p = (xs.length + ys.length ≤ sizeLine ∧ Q (.lst (xs ++ ys)) s) := w_if rfl
theorem w_addT : Wm (binop .Add (.tup xs) (.tup ys)) s Q E p = (xs.length + ys.length ≤ sizeLine ∧ Q (.tup (xs ++ ys)) s) := w_if rfl
theorem w_sub : Wm (binop .Sub (.int i) (.int j)) s Q E p = Q (.int (i - j)) s := w_of rfl
theorem w_mul : Wm (binop .Mult (.int i) (.int j)) s Q E p = (mulOk i j = true ∧ Q (.int (i * j)) s) := w_if rfl
theorem w_mulL : Wm (binop .Mult (.lst xs) (.int j)) s Q E p = ((-(2 ^ 63) ≤ j ∧ j < 2 ^ 63 ∧ xs.length * j.toNat ≤ sizeLine) ∧ Q (.lst (List.replicate j.toNat xs).flatten) s) := w_if rfl
theorem w_mulS : Wm (binop .Mult (.str x) (.int j)) s Q E p = ((-(2 ^ 63) ≤ j ∧ j < 2 ^ 63 ∧ x.length * j.toNat ≤ sizeLine) ∧ Q (.str (Txt.mul x j)) s) := w_if rfl
theorem w_fdiv : Wm (binop .FloorDiv (.int i) (.int j)) s Q E p = (divOk j = true ∧ Q (.int (i / j)) s) := w_if rfl
theorem w_mod : Wm (binop .Mod (.int i) (.int j)) s Q E p = (0 < j ∧ Q (.int (i % j)) s) := w_if rfl
theorem w_pow : Wm (binop .Pow (.int i) (.int j)) s Q E p = (powOk i j = true ∧ Q (.int (i ^ j.toNat)) s) := w_if rfl
theorem w_neg : Wm (negM (.int i)) s Q E p = Q (.int (-i)) s := w_of rfl
theorem w_lt : Wm (cmpop .Lt (.int i) (.int j)) s Q E p = Q (.bl (decide (i < j))) s := w_of rfl
theorem w_le : Wm (cmpop .LtE (.int i) (.int j)) s Q E p = Q (.bl (decide (i ≤ j))) s := w_of rfl
theorem w_gt : Wm (cmpop .Gt (.int i) (.int j)) s Q E p = Q (.bl (decide (j < i))) s := w_of rfl
theorem w_ge : Wm (cmpop .GtE (.int i) (.int j)) s Q E p = Q (.bl (decide (j ≤ i))) s := w_of rfl
theorem w_ltS : Wm (cmpop .Lt (.str x) (.str y)) s Q E p = Q (.bl (decide (x.cps.toList < y.cps.toList))) s := w_of rfl
theorem w_leS : Wm (cmpop .LtE (.str x) (.str y)) s Q E p = Q (.bl (!decide (y.cps.toList < x.cps.toList))) s := w_of rfl
theorem w_eqS : Wm (cmpO P call .Eq (.str x) (.str y)) s Q E p = Q (.bl (x == y)) s := w_of rfl
theorem w_neS : Wm (cmpO P call .NotEq (.str x) (.str y)) s Q E p = Q (.bl (!(x == y))) s := w_of rfl
theorem w_eqI : Wm (cmpO P call .Eq (.int i) (.int j)) s Q E p = Q (.bl (i == j)) s := w_of rfl
theorem w_neI : Wm (cmpO P call .NotEq (.int i) (.int j)) s Q E p = Q (.bl (!(i == j))) s := w_of rfl
theorem w_isN : Wm (cmpop .Is t .non) s Q E p = Q (.bl (isNonT t)) s := w_of rfl
theorem w_isnotN : Wm (cmpop .IsNot t .non) s Q E p = Q (.bl (!isNonT t)) s := w_of rfl
theorem w_inS : Wm (cmpop .In (.str x) (.str y)) s Q E p = Q (.bl (inStr x y)) s := w_of rfl
theorem w_ninS : Wm (cmpop .NotIn (.str x) (.str y)) s Q E p = Q (.bl (!inStr x y)) s := w_of rfl
theorem flat_str : ∀ l : List Str, (l.map T.str).all flatT = true
  | [] => rfl
  | x :: r => by rw [List.map_cons, List.all_cons, flat_str r]; rfl
theorem flat_int : ∀ l : List Int, (l.map T.int).all flatT = true
  | [] => rfl
  | x :: r => by rw [List.map_cons, List.all_cons, flat_int r]; rfl
theorem inF_str {w : Str} : ∀ l : List Str, inF (.str w) (l.map T.str) = l.contains w
  | [] => rfl
  | x :: r => by
    have ih := inF_str (w := w) r
    unfold inF at ih ⊢
    rw [List.map_cons, List.any_cons, ih, List.contains_cons]
    have e : eqF (.str x) (.str w) = (w == x) := by
      show (x == w) = (w == x)
      rw [Bool.eq_iff_iff, beq_iff_eq, beq_iff_eq]
      exact ⟨Eq.symm, Eq.symm⟩
    rw [e]
theorem inF_int {w : Int} : ∀ l : List Int, inF (.int w) (l.map T.int) = l.contains w
  | [] => rfl
  | x :: r => by
    have ih := inF_int (w := w) r
    unfold inF at ih ⊢
    rw [List.map_cons, List.any_cons, ih, List.contains_cons]
    have e : eqF (.int x) (.int w) = (w == x) := by
      show (x == w) = (w == x)
      rw [Bool.eq_iff_iff, beq_iff_eq, beq_iff_eq]
      exact ⟨Eq.symm, Eq.symm⟩
    rw [e]
theorem w_inTs : Wm (cmpop .In (.str x) (.tup ys)) s Q E p = (ys.all flatT = true ∧ Q (.bl (inF (.str x) ys)) s) := w_if rfl
theorem w_ninTs : Wm (cmpop .NotIn (.str x) (.tup ys)) s Q E p = (ys.all flatT = true ∧ Q (.bl (!inF (.str x) ys)) s) := w_if rfl
theorem w_inLs : Wm (cmpop .In (.str x) (.lst ys)) s Q E p = (ys.all flatT = true ∧ Q (.bl (inF (.str x) ys)) s) := w_if rfl
theorem w_ninLs : Wm (cmpop .NotIn (.str x) (.lst ys)) s Q E p = (ys.all flatT = true ∧ Q (.bl (!inF (.str x) ys)) s) := w_if rfl
theorem w_inTi : Wm (cmpop .In (.int i) (.tup ys)) s Q E p = (ys.all flatT = true ∧ Q (.bl (inF (.int i) ys)) s) := w_if rfl
theorem w_ninTi : Wm (cmpop .NotIn (.int i) (.tup ys)) s Q E p = (ys.all flatT = true ∧ Q (.bl (!inF (.int i) ys)) s) := w_if rfl
theorem w_inLi : Wm (cmpop .In (.int i) (.lst ys)) s Q E p = (ys.all flatT = true ∧ Q (.bl (inF (.int i) ys)) s) := w_if rfl
theorem w_ninLi : Wm (cmpop .NotIn (.int i) (.lst ys)) s Q E p = (ys.all flatT = true ∧ Q (.bl (!inF (.int i) ys)) s) := w_if rfl
theorem w_inTb : Wm (cmpop .In (.bl b) (.tup ys)) s Q E p = (ys.all flatT = true ∧ Q (.bl (inF (.bl b) ys)) s) := w_if rfl
theorem w_ninTb : Wm (cmpop .NotIn (.bl b) (.tup ys)) s Q E p = (ys.all flatT = true ∧ Q (.bl (!inF (.bl b) ys)) s) := w_if rfl
theorem w_inLb : Wm (cmpop .In (.bl b) (.lst ys)) s Q E p = (ys.all flatT = true ∧ Q (.bl (inF (.bl b) ys)) s) := w_if rfl
theorem w_ninLb : Wm (cmpop .NotIn (.bl b) (.lst ys)) s Q E p = (ys.all flatT = true ∧ Q (.bl (!inF (.bl b) ys)) s) := w_if rfl
theorem w_inTn : Wm (cmpop .In .non (.tup ys)) s Q E p = (ys.all flatT = true ∧ Q (.bl (inF .non ys)) s) := w_if rfl
theorem w_ninTn : Wm (cmpop .NotIn .non (.tup ys)) s Q E p = (ys.all flatT = true ∧ Q (.bl (!inF .non ys)) s) := w_if rfl
theorem w_inLn : Wm (cmpop .In .non (.lst ys)) s Q E p = (ys.all flatT = true ∧ Q (.bl (inF .non ys)) s) := w_if rfl
theorem w_ninLn : Wm (cmpop .NotIn .non (.lst ys)) s Q E p = (ys.all flatT = true ∧ Q (.bl (!inF .non ys)) s) := w_if rfl
/-! displays, items -/
theorem w_lst : Wm (lstM false xs) s Q E p = (xs.length ≤ sizeLine ∧ Q (.lst xs) s) := w_if rfl
theorem w_lstB : Wm (lstM true xs) s Q E p = (xs.length ≤ sizeLine ∧ Q (.box s.next) (s.new (.lst xs))) := w_if rfl
theorem w_tup : Wm (tupM xs) s Q E p = (xs.length ≤ sizeLine ∧ Q (.tup xs) s) := w_if rfl
theorem w_box : Wm (boxM false t) s Q E p = Q t s := w_of rfl
theorem w_boxB : Wm (boxM true (.lst xs)) s Q E p = Q (.box s.next) (s.new (.lst xs)) := w_of rfl
theorem w_ixL : Wm (ixM (.lst xs) (.int i)) s Q E p = OP (atI xs i) (fun t => Q t s) ph := w_op (f := fun t => t) (g := fun _ => s) (fun t h => by unfold ixM see; simp [h]) (fun h => by unfold ixM see; simp [h])
theorem w_ixT : Wm (ixM (.tup xs) (.int i)) s Q E p = OP (atI xs i) (fun t => Q t s) ph := w_op (f := fun t => t) (g := fun _ => s) (fun t h => by unfold ixM see; simp [h]) (fun h => by unfold ixM see; simp [h])
theorem w_ixS : Wm (ixM (.str x) (.int i)) s Q E p = OP (atI x.cps.toList i) (fun c => x.length ≤ sizeLine ∧ Q (.str (chrS c)) s) ph := w_op2 (c := fun _ => x.length ≤ sizeLine) (f := fun c => T.str (chrS c)) (fun t h => by unfold ixM see; simp [h]) (fun h => by unfold ixM see; simp [h])
theorem see_box {o : BO} (h : s.get n = some o) : see s (.box n) = seeB n (some o) := by
  show seeB n (s.get n) = _
  rw [h]
theorem w_ixB (h : s.get n = some (.lst xs)) : Wm (ixM (.box n) (.int i)) s Q E p = OP (atI xs i) (fun t => Q t s) ph := w_op (f := fun t => t) (g := fun _ => s) (fun t h2 => by unfold ixM; rw [see_box h]; simp [seeB, see, h2]) (fun h2 => by unfold ixM; rw [see_box h]; simp [seeB, see, h2])
theorem w_sl {l u : Option Int} : Wm (sliceB false (.lst xs) l u) s Q E p = Q (.lst (cutT xs l u)) s := w_of rfl
theorem w_slF {l u : Option Int} : Wm (sliceB false (.frz xs) l u) s Q E p = Q (.lst (cutT xs l u)) s := w_of rfl
theorem w_slT {l u : Option Int} : Wm (sliceB false (.tup xs) l u) s Q E p = Q (.tup (cutT xs l u)) s := w_of rfl
theorem w_slS {l u : Option Int} : Wm (sliceB false (.str x) l u) s Q E p = (x.length ≤ sizeLine ∧ Q (.str (cutS x l u)) s) := by
  rw [Wm_eq]
  unfold Wm0 sliceB bnd sliceM boxM
  dsimp only [see]
  by_cases h : x.length ≤ sizeLine
  · rw [if_pos h]; simp [h]
  · rw [if_neg h]; simp [h]
theorem w_rev : Wm (revM (.lst xs)) s Q E p = Q (.lst xs.reverse) s := w_of rfl
/-! built-in calls -/
theorem w_int : Wm (bcallB P false .int [.int i]) s Q E p = Q (.int i) s := w_of rfl
theorem w_intb : Wm (bcallB P false .int [.bl b]) s Q E p = Q (.int (if b then 1 else 0)) s := w_of rfl
theorem w_intS : Wm (bcallB P false .int [.str x]) s Q E p = OP (PySem.intText? x) (fun n => x.length ≤ 640 ∧ Q (.int n) s) ph := w_op2 (c := fun _ => x.length ≤ 640) (f := fun n => T.int n) (fun t h => by unfold bcallB bcall intM see; simp [h]) (fun h => by unfold bcallB bcall intM see; simp [h])
theorem w_strI : Wm (bcallO P call false .str [.int i]) s Q E p = (i.natAbs.log2 < 1920 ∧ Q (.str (toString i)) s) := w_if rfl
theorem w_strS : Wm (bcallO P call false .str [.str x]) s Q E p = Q (.str x) s := w_of rfl
theorem w_repr : Wm (bcallB P false .repr [t]) s Q E p = OP (toR (see s t)) (fun d => reprOk d = true ∧ Q (.str d.shown) s) ph := w_op2 (c := fun d => reprOk d = true) (f := fun d => T.str d.shown) (fun t h => by unfold bcallB bcall reprM; simp [h]) (fun h => by unfold bcallB bcall reprM; simp [h])
theorem w_listL : Wm (bcallB P false .list [.lst xs]) s Q E p = Q (.lst xs) s := w_of rfl
theorem w_listT : Wm (bcallB P false .list [.tup xs]) s Q E p = Q (.lst xs) s := w_of rfl
theorem w_listLB : Wm (bcallB P true .list [.lst xs]) s Q E p = Q (.box s.next) (s.new (.lst xs)) := w_of rfl
theorem w_listTB : Wm (bcallB P true .list [.tup xs]) s Q E p = Q (.box s.next) (s.new (.lst xs)) := w_of rfl
theorem w_tupL : Wm (bcallB P false .tuple [.lst xs]) s Q E p = Q (.tup xs) s := w_of rfl
theorem w_tupT : Wm (bcallB P false .tuple [.tup xs]) s Q E p = Q (.tup xs) s := w_of rfl
theorem w_abs : Wm (bcallB P false .abs [.int i]) s Q E p = Q (.int (if i < 0 then -i else i)) s := w_of rfl
theorem w_max2 : Wm (bcallB P false .max [.int i, .int j]) s Q E p = Q (.int (if j > i then j else i)) s := w_of rfl
theorem w_min2 : Wm (bcallB P false .min [.int i, .int j]) s Q E p = Q (.int (if j < i then j else i)) s := w_of rfl
theorem intsO_map : ∀ l : List Int, intsO (l.map T.int) = some l
  | [] => rfl
  | x :: r => by
    rw [List.map_cons]
    unfold intsO
    rw [intsO_map r]
    rfl
theorem boolsO_map : ∀ l : List Bool, boolsO (l.map T.bl) = some l
  | [] => rfl
  | x :: r => by
    rw [List.map_cons]
    unfold boolsO
    rw [boolsO_map r]
    rfl
theorem strsO_map : ∀ l : List Str, strsO (l.map T.str) = some l
  | [] => rfl
  | x :: r => by
    rw [List.map_cons]
    unfold strsO
    rw [strsO_map r]
    rfl
theorem w_sum {l : List Int} : Wm (bcallB P false .sum [.lst (l.map T.int)]) s Q E p = Q (.int l.sum) s := w_of (by
  show (match intsO (l.map T.int) with | some ns => Res.ok (T.int ns.sum) s | none => .bad) = _
  rw [intsO_map])
theorem w_sorted {l : List Int} : Wm (bcallB P false .sorted [.lst (l.map T.int)]) s Q E p = Q (.lst ((PySem.W.sortI l).map T.int)) s := w_of (by
  show (match intsO (l.map T.int) with | some ns => Res.ok (T.lst ((PySem.W.sortI ns).map T.int)) s | none => .bad) = _
  rw [intsO_map])
theorem w_maxL {l : List Int} : Wm (bcallB P false .max [.lst (l.map T.int)]) s Q E p = (l ≠ [] ∧ Q (.int (maxL l)) s) := by
  have e : bcallB P false .max [.lst (l.map T.int)] s = if l ≠ [] then .ok (.int (maxL l)) s else .bad := by
    show (match intsO (l.map T.int) with | some ns => (match (if ns = [] then none else some (T.int (maxL ns))) with | some t => Res.ok t s | none => .bad) | none => .bad) = _
    rw [intsO_map]
    by_cases h : l = []
    · simp [h]
    · simp [h]
  exact w_if e
theorem w_minL {l : List Int} : Wm (bcallB P false .min [.lst (l.map T.int)]) s Q E p = (l ≠ [] ∧ Q (.int (minL l)) s) := by
  have e : bcallB P false .min [.lst (l.map T.int)] s = if l ≠ [] then .ok (.int (minL l)) s else .bad := by
    show (match intsO (l.map T.int) with | some ns => (match (if ns = [] then none else some (T.int (minL ns))) with | some t => Res.ok t s | none => .bad) | none => .bad) = _
    rw [intsO_map]
    by_cases h : l = []
    · simp [h]
    · simp [h]
  exact w_if e
theorem w_all {l : List Bool} : Wm (bcallB P false .all [.lst (l.map T.bl)]) s Q E p = Q (.bl (l.all id)) s := w_of (by
  show (match boolsO (l.map T.bl) with | some ns => Res.ok (T.bl (ns.all id)) s | none => .bad) = _
  rw [boolsO_map])
theorem w_any {l : List Bool} : Wm (bcallB P false .any [.lst (l.map T.bl)]) s Q E p = Q (.bl (l.any id)) s := w_of (by
  show (match boolsO (l.map T.bl) with | some ns => Res.ok (T.bl (ns.any id)) s | none => .bad) = _
  rw [boolsO_map])
theorem w_boolI : Wm (bcallB P false .bool [.int i]) s Q E p = Q (.bl (i != 0)) s := w_of rfl
theorem w_boolB : Wm (bcallB P false .bool [.bl b]) s Q E p = Q (.bl b) s := w_of rfl
theorem w_isi {t2 : T} : Wm (bcallB P false .isi [t, t2]) s Q E p = OP ((kdOf P (see s t)).bind fun k => isTst P k t2) (fun b => Q (.bl b) s) ph := by
  refine w_op (f := fun b => T.bl b) (g := fun _ => s) ?_ ?_
  · intro b h
    cases e : kdOf P (see s t) with
    | none => rw [e] at h; cases h
    | some k =>
      rw [e] at h
      have h : isTst P k t2 = some b := h
      unfold bcallB bcall isInst boolR
      simp [e, h]
  · intro h
    cases e : kdOf P (see s t) with
    | none =>
      unfold bcallB bcall isInst
      simp [e]
    | some k =>
      rw [e] at h
      have h : isTst P k t2 = none := h
      unfold bcallB bcall isInst boolR
      simp [e, h]
theorem w_lenL : Wm (bcallO P call false .len [.lst xs]) s Q E p = Q (.int xs.length) s := w_of rfl
theorem w_lenT : Wm (bcallO P call false .len [.tup xs]) s Q E p = Q (.int xs.length) s := w_of rfl
theorem w_lenD {vs : List T} : Wm (bcallO P call false .len [.dct ks vs]) s Q E p = Q (.int ks.length) s := w_of rfl
theorem w_lenS : Wm (bcallO P call false .len [.str x]) s Q E p = (x.length ≤ sizeLine ∧ Q (.int x.length) s) := w_if rfl
theorem w_lenB (h : s.get n = some (.lst xs)) : Wm (bcallO P call false .len [.box n]) s Q E p = Q (.int xs.length) s := w_of (by
  have e : see s (.box n) = .lst xs := by
    show seeB n (s.get n) = _
    rw [h]
    rfl
  show (match ownI P "__len__" (see s (.box n)) with
    | some i => noX (bnd (call i [.box n]) asLen) s
    | none => lenM (.box n) s) = _
  unfold lenM
  rw [e]
  rfl)
/-! methods of built-in things -/
theorem w_split {fa : M (List T)} : Wm (methM "split" (.str x) fa) s Q E p = Wm fa s (fun ts s' => Wm (bmcall .split (.str x) ts) s' Q noE ph) E ph := w_bm rfl
theorem w_join {fa : M (List T)} : Wm (methM "join" (.str x) fa) s Q E p = Wm fa s (fun ts s' => Wm (bmcall .join (.str x) ts) s' Q noE ph) E ph := w_bm rfl
theorem w_sindex {fa : M (List T)} : Wm (methM "index" (.str x) fa) s Q E p = Wm fa s (fun ts s' => Wm (bmcall .sindex (.str x) ts) s' Q noE ph) E ph := w_bm rfl
theorem w_bmB {fa : M (List T)} {nm : Str} {m : BM} (h : s.get n = some (.lst xs)) (hm : bmFind (.lst xs) nm = some m) : Wm (methM nm (.box n) fa) s Q E p = Wm fa s (fun ts s' => Wm (bmcall m (.box n) ts) s' Q noE ph) E ph := by
  have e0 : see s (.box n) = .lst xs := by
    show seeB n (s.get n) = _
    rw [h]
    rfl
  have e : methM nm (.box n) fa s = bnd fa (fun ts => noX (bmcall m (.box n) ts)) s := by
    unfold methM bnd bmM
    rw [e0, hm]
  exact w_bm e
theorem w_append (h : s.get n = some (.lst xs)) {fa : M (List T)} : Wm (methM "append" (.box n) fa) s Q E p = Wm fa s (fun ts s' => Wm (bmcall .append (.box n) ts) s' Q noE ph) E ph := w_bmB h rfl
theorem w_pop (h : s.get n = some (.lst xs)) {fa : M (List T)} : Wm (methM "pop" (.box n) fa) s Q E p = Wm fa s (fun ts s' => Wm (bmcall .pop (.box n) ts) s' Q noE ph) E ph := w_bmB h rfl
theorem w_extend (h : s.get n = some (.lst xs)) {fa : M (List T)} : Wm (methM "extend" (.box n) fa) s Q E p = Wm fa s (fun ts s' => Wm (bmcall .extend (.box n) ts) s' Q noE ph) E ph := w_bmB h rfl
theorem w_insert (h : s.get n = some (.lst xs)) {fa : M (List T)} : Wm (methM "insert" (.box n) fa) s Q E p = Wm fa s (fun ts s' => Wm (bmcall .insert (.box n) ts) s' Q noE ph) E ph := w_bmB h rfl
theorem w_bsplit : Wm (bmcall .split (.str x) [.str y]) s Q E p = (((y.length == 0) = false ∧ x.length + 2 ≤ sizeLine) ∧ Q (.lst ((Txt.split x y).map T.str)) s) := w_if rfl
theorem w_bjoin {l : List Str} : Wm (bmcall .join (.str x) [.lst (l.map T.str)]) s Q E p = ((l.map fun y : Str => y.length).sum + l.length * x.length ≤ 16777216 ∧ Q (.str (Txt.join x l)) s) := w_if (by
  have e : strL s (.lst (l.map T.str)) = some l := by
    unfold strL items see
    exact strsO_map l
  show joinM (.str x) (.lst (l.map T.str)) s = _
  unfold joinM
  rw [e]
  rfl)
theorem w_bappend (h : s.get n = some (.lst xs)) : Wm (bmcall .append (.box n) [t]) s Q E p = (xs.length < sizeLine ∧ Q .non (s.put n (.lst (xs ++ [t])))) := w_if (by
  show (match s.get n with | some (.lst xs) => (if xs.length < sizeLine then Res.ok T.non (s.put n (.lst (xs ++ [t]))) else .bad) | _ => .bad) = _
  rw [h])
theorem w_bextend (h : s.get n = some (.lst xs)) : Wm (bmcall .extend (.box n) [.lst ys]) s Q E p = (xs.length + ys.length ≤ sizeLine ∧ Q .non (s.put n (.lst (xs ++ ys)))) := w_if (by
  show (match s.get n with | some (.lst xs) => (if xs.length + ys.length ≤ sizeLine then Res.ok T.non (s.put n (.lst (xs ++ ys))) else .bad) | _ => .bad) = _
  rw [h])
theorem w_bpop (h : s.get n = some (.lst xs)) : Wm (bmcall .pop (.box n) []) s Q E p = OP (xs[xs.length - 1]?) (fun y => Q y (s.put n (.lst xs.dropLast))) ph := w_op (f := fun t => t) (g := fun _ => s.put n (.lst xs.dropLast)) (fun t h2 => by unfold bmcall popM inBox; simp only [h, h2]) (fun h2 => by unfold bmcall popM inBox; simp only [h, h2])
theorem seqIx {i : Int} {n k : Nat} (h0 : 0 ≤ i) (h : i.toNat = k) (hk : k < n) : seqIndex? i n = some k := by
  have e : ixN n i = some k := by
    unfold ixN
    rw [if_pos h0, if_pos (by omega), h]
  exact (ixN_seq e).1
theorem w_bpopAt {k : Nat} (h : s.get n = some (.lst xs)) (h0 : 0 ≤ i) (h2 : i < xs.length) (h3 : xs.length ≤ sizeLine) : Wm (bmcall .pop (.box n) [.int i]) s Q E p = OP (xs[i.toNat]?) (fun y => Q y (s.put n (.lst (xs.eraseIdx i.toNat)))) ph := by
  have e : seqIndex? i xs.length = some i.toNat := seqIx h0 rfl (by omega)
  have ef : fits i = true := by
    unfold fits
    rw [sizeLine_eq] at h3
    simp only [Bool.and_eq_true, decide_eq_true_eq]
    omega
  exact w_op (f := fun t => t) (g := fun _ => s.put n (.lst (xs.eraseIdx i.toNat))) (fun t h2 => by unfold bmcall popAtM inBox; simp [see, h, e, h2, ef]) (fun h2 => by unfold bmcall popAtM inBox; simp [see, h, e, h2])
/-! the rest -/
theorem w_frz : Wm (frzM false t) s Q E p = Q t s := w_of rfl
theorem w_frzB (h : s.get n = some (.lst xs)) : Wm (frzM true (.box n)) s Q E p = Q (.lst xs) (s.del n) := w_of (by
  show (match s.get n with
    | some (.lst xs) => .ok (.lst xs) (s.del n)
    | some (.ins C ns vs) => .ok (.ins C ns vs) (s.del n)
    | _ => .bad : Res T) = _
  rw [h])
theorem w_augadd : Wm (augop .Add (.int i) (.int j)) s Q E p = Q (.int (i + j)) s := w_of rfl
theorem w_augsub : Wm (augop .Sub (.int i) (.int j)) s Q E p = Q (.int (i - j)) s := w_of rfl
theorem w_excM {C : Str} {ns : List Str} : Wm (excM C ns xs) s Q E p = (ns.length = xs.length ∧ Q (.exc C ns.reverse xs.reverse) s) := w_if rfl
theorem w_mk {C : Str} {cl : ClI} {i : Nat} (h1 : cl.err = none) (h2 : cl.init = some i) (h3 : cl.keep = false) : Wm (mkM call C cl xs) s Q E p = Wm (call i (.box s.next :: xs)) (s.new (.ins C [] [])) (fun v s' => v = .non ∧ match s'.get s.next with | some (.ins D ns vs) => Q (.ins D ns vs) (s'.del s.next) | _ => False) E ph := by
  simp only [Wm_eq]
  unfold Wm0 mkM
  rw [h1, h2]
  dsimp only
  cases call i (.box s.next :: xs) (s.new (.ins C [] [])) with
  | exc C ns vs s' => rfl
  | bad => rfl
  | ok v s' =>
    rw [h3]
    cases v <;> (try (simp; done))
    dsimp only
    cases e : s'.get s.next with
    | none => simp
    | some o => cases o <;> simp
theorem w_mkB {C : Str} {cl : ClI} {i : Nat} (h1 : cl.err = none) (h2 : cl.init = some i) (h3 : cl.keep = true) : Wm (mkM call C cl xs) s Q E p = Wm (call i (.box s.next :: xs)) (s.new (.ins C [] [])) (fun v s' => v = .non ∧ Q (.box s.next) s') E ph := by
  simp only [Wm_eq]
  unfold Wm0 mkM
  rw [h1, h2]
  dsimp only
  cases call i (.box s.next :: xs) (s.new (.ins C [] [])) with
  | exc C ns vs s' => rfl
  | bad => rfl
  | ok v s' =>
    rw [h3]
    cases v <;> simp
theorem w_mkK {C : Str} {cl : ClI} (h1 : cl.err = none) : Wm (mkK call C cl xs) s Q E p = Wm (mkM call C cl xs) s Q E ph := by
  unfold mkK
  rw [h1]
theorem w_comp {wipe : List Nat} {bx : Bool} {it : En → M (List T)} {bd : S → T → En → Option En} {tst : En → M Bool} {elt : En → M T} {env : En} : Wm (compS wipe bx it bd tst elt env) s Q E p = Wm (it env) s (fun ts s1 => ts.length ≤ sizeLine ∧ Wm (compM (fun t s => match bd s t (wipeE env wipe) with
      | some env' => bnd (tst env') (fun b => if b then bnd (elt env') fun y => ret (some y) else ret none) s
      | none => .bad) ts) s1 (fun ys s2 => Wm (boxM bx (.lst ys)) s2 Q E ph) E ph) E ph := by
  unfold compS
  rw [w_bnd]
  refine w_congr fun ts s1 => ?_
  by_cases h : ts.length ≤ sizeLine
  · rw [if_pos h, w_bnd]; simp only [h, true_and] <;> rfl
  · rw [if_neg h, w_bad]; simp [h]
end vT
section vB
variable {Q : Bool → S → Prop} {p : Ph (Q, E)} {i : Int} {x : Str} {xs : List T} {t : T} {ks : List Key} {b : Bool} {n : Nat}
theorem w_asBool : Wm (asBool (.bl b)) s Q E p = Q b s := w_of rfl
theorem w_truB : Wm (truth (.bl b)) s Q E p = Q b s := w_of rfl
theorem w_truN : Wm (truth .non) s Q E p = Q false s := w_of rfl
theorem w_truI : Wm (truth (.int i)) s Q E p = Q (i != 0) s := w_of rfl
theorem w_truS : Wm (truth (.str x)) s Q E p = (x.length ≤ sizeLine ∧ Q ((x.length : Int) != 0) s) := w_if rfl
theorem w_truL : Wm (truth (.lst xs)) s Q E p = Q (!xs.isEmpty) s := w_of rfl
theorem w_truT : Wm (truth (.tup xs)) s Q E p = Q (!xs.isEmpty) s := w_of rfl
theorem w_truD {vs : List T} : Wm (truth (.dct ks vs)) s Q E p = Q (!ks.isEmpty) s := w_of rfl
end vB
section vL
variable {Q : List T → S → Prop} {p : Ph (Q, E)} {i j : Int} {x : Str} {xs ys : List T} {t : T}
theorem w_rng1 : Wm (rangeM [.int i]) s Q E p = (rgOk 0 i = true ∧ Q (rngT 0 i) s) := by
  have e : rangeM [.int i] s = if rgOk 0 i = true then .ok (rngT 0 i) s else .bad := by
    show (bnd (fun s => if rgOk 0 i then (Res.ok (0, i) s : Res (Int × Int)) else .bad) fun r => ret (rngT r.1 r.2)) s = _
    unfold bnd
    dsimp only
    by_cases h : rgOk 0 i = true
    · rw [if_pos h, if_pos h]; rfl
    · rw [if_neg h, if_neg h]
  exact w_if e
theorem w_rng2 : Wm (rangeM [.int i, .int j]) s Q E p = (rgOk i j = true ∧ Q (rngT i j) s) := by
  have e : rangeM [.int i, .int j] s = if rgOk i j = true then .ok (rngT i j) s else .bad := by
    show (bnd (fun s => if rgOk i j then (Res.ok (i, j) s : Res (Int × Int)) else .bad) fun r => ret (rngT r.1 r.2)) s = _
    unfold bnd
    dsimp only
    by_cases h : rgOk i j = true
    · rw [if_pos h, if_pos h]; rfl
    · rw [if_neg h, if_neg h]
  exact w_if e
theorem w_fixL : Wm (fixM (.lst xs)) s Q E p = Q xs s := w_of rfl
theorem w_fixT : Wm (fixM (.tup xs)) s Q E p = Q xs s := w_of rfl
theorem w_fixS : Wm (fixM (.str x)) s Q E p = Q (x.cps.toList.map fun c => .str (chrS c)) s := w_of rfl
theorem w_fixEL : Wm (fixE (.lst xs)) s Q E p = Q xs s := w_of rfl
theorem w_fixET : Wm (fixE (.tup xs)) s Q E p = Q xs s := w_of rfl
theorem w_fix2L : Wm (fix2 (.lst xs) (.lst ys)) s Q E p = Q (zipT xs ys) s := w_of rfl
theorem w_fix2T : Wm (fix2 (.tup xs) (.tup ys)) s Q E p = Q (zipT xs ys) s := w_of rfl
theorem w_itemsL : Wm (itemsM (.lst xs)) s Q E p = Q xs s := w_of rfl
theorem w_itemsT : Wm (itemsM (.tup xs)) s Q E p = Q xs s := w_of rfl
end vL
theorem w_toI {i : Int} {Q : Option Int → S → Prop} {p : Ph (Q, E)} : Wm (toI (.int i)) s Q E p = Q (some i) s := w_of rfl
section vU
variable {Q : Str → S → Prop} {p : Ph (Q, E)} {i : Int} {x : Str} {xs ys : List T} {t : T}
theorem w_fmtS : Wm (fmtM (.str x)) s Q E p = (x.length ≤ sizeLine ∧ Q x s) := w_if rfl
theorem w_fmtI : Wm (fmtM (.int i)) s Q E p = (i.natAbs.log2 < 1920 ∧ Q (toString i) s) := w_if rfl
theorem w_join0 : Wm (joinS [] x) s Q E p = Q x s := w_of rfl
end vU
theorem w_joinC {m : M T} {r : List (M T)} {x : Str} {Q : Str → S → Prop} {p : Ph (Q, E)} : Wm (joinS (m :: r) x) s Q E p = Wm m s (fun v s' => match v with | .str y => (x ++ y).length ≤ sizeLine ∧ Wm (joinS r (x ++ y)) s' Q E ph | _ => False) E ph := by
  have e : joinS (m :: r) x = bnd m fun v => fun s => match v with
    | .str y => if (x ++ y).length ≤ sizeLine then joinS r (x ++ y) s else .bad
    | _ => .bad := rfl
  rw [e, w_bnd]
  refine w_congr fun v s' => ?_
  cases v <;> try (rw [Wm_eq]; rfl)
  rename_i y
  exact (w_eqm (p' := ph) rfl).trans (w_ifm (m := joinS r (x ++ y)))
/-! attributes -/
section at_
variable {Q : T → S → Prop} {p : Ph (Q, E)} {C f : Str} {ns : List Str} {vs : List T} {cl : ClI} {i n : Nat} {t v : T}
theorem w_aProp (h1 : P.cls? C = some cl) (h2 : cl.err = none) (h3 : cl.mem.lookup f = some (.prop i)) : Wm (attrM P call f (.ins C ns vs)) s Q E p = Wm (call i [.ins C ns vs]) s Q noE ph := by
  have e : attrM P call f (.ins C ns vs) s = noX (call i [.ins C ns vs]) s := by
    unfold attrM
    simp only [see, h1, h2, h3]
    rfl
  rw [Wm_eq]
  unfold Wm0
  rw [e]
  have := @w_noX _ (call i [.ins C ns vs]) s E Q p
  rw [Wm_eq] at this
  unfold Wm0 at this
  rw [this]
theorem w_aFld (h1 : P.cls? C = some cl) (h2 : cl.err = none) (h3 : cl.mem.lookup f = none) (h4 : cl.flds.contains f = true) : Wm (attrM P call f (.ins C ns vs)) s Q E p = OP (lkF ns vs f) (fun t => Q t s) ph := by
  exact w_op (f := fun t => t) (g := fun _ => s) (fun t h9 => by unfold attrM; simp [see, h1, h2, h3, List.contains_iff_mem.mp h4, h9]) (fun h9 => by unfold attrM; simp [see, h1, h2, h3, List.contains_iff_mem.mp h4, h9])
theorem w_aCon (h1 : P.cls? C = some cl) (h2 : cl.err = none) (h3 : cl.mem.lookup f = some (.con t)) : Wm (attrM P call f (.ins C ns vs)) s Q E p = ((lkF ns vs f).isNone = true ∧ Q t s) := by
  have e : attrM P call f (.ins C ns vs) s = if (lkF ns vs f).isNone = true then .ok t s else .bad := by
    unfold attrM
    simp only [see, h1, h2, h3]
    rfl
  exact w_if e
theorem w_aErr (h1 : P.cls? C = some cl) (h2 : cl.err.isSome = true) (h4 : cl.flds.contains f = true) : Wm (attrM P call f (.exc C ns vs)) s Q E p = OP (lkF ns vs f) (fun t => Q t s) ph := by
  exact w_op (f := fun t => t) (g := fun _ => s) (fun t h9 => by unfold attrM; simp [see, h1, h2, List.contains_iff_mem.mp h4, h9]) (fun h9 => by unfold attrM; simp [see, h1, h2, List.contains_iff_mem.mp h4, h9])
theorem w_aGlo (h1 : P.cls? C = some cl) (h3 : cl.mem.lookup f = some (.con t)) : Wm (attrM P call f (.glo C)) s Q E p = Q t s := w_of (by
    unfold attrM
    simp only [see, h1, h3])
theorem w_aBox (h : s.get n = some (.ins C ns vs)) (h1 : P.cls? C = some cl) (h2 : cl.err = none) (h3 : cl.mem.lookup f = none) (h4 : cl.flds.contains f = true) : Wm (attrM P call f (.box n)) s Q E p = OP (lkF ns vs f) (fun t => Q t s) ph := by
  have e0 : see s (.box n) = .ins C ns vs := see_box h
  exact w_op (f := fun t => t) (g := fun _ => s) (fun t h9 => by unfold attrM; simp [e0, h1, h2, h3, List.contains_iff_mem.mp h4, h9]) (fun h9 => by unfold attrM; simp [e0, h1, h2, h3, List.contains_iff_mem.mp h4, h9])
theorem w_aBoxP (h : s.get n = some (.ins C ns vs)) (h1 : P.cls? C = some cl) (h2 : cl.err = none) (h3 : cl.mem.lookup f = some (.prop i)) : Wm (attrM P call f (.box n)) s Q E p = Wm (call i [.box n]) s Q noE ph := by
  have e : attrM P call f (.box n) s = noX (call i [.box n]) s := by
    unfold attrM
    have e0 : see s (.box n) = .ins C ns vs := by
      show seeB n (s.get n) = _
      rw [h]
      rfl
    simp only [e0, h1, h2, h3]
    rfl
  rw [Wm_eq]
  unfold Wm0
  rw [e]
  have := @w_noX _ (call i [.box n]) s E Q p
  rw [Wm_eq] at this
  unfold Wm0 at this
  rw [this]
end at_
section mt_
variable {Q : Nat × List T → S → Prop} {p : Ph (Q, E)} {C f : Str} {ns : List Str} {vs : List T} {cl : ClI} {i n : Nat}
theorem w_meth (h1 : P.cls? C = some cl) (h2 : cl.err = none) (h3 : cl.mem.lookup f = some (.fn i)) : Wm (methI P f (.ins C ns vs)) s Q E p = (ns.contains f = false ∧ Q (i, [.ins C ns vs]) s) := by
  have e : methI P f (.ins C ns vs) s = if ns.contains f = false then .ok (i, [.ins C ns vs]) s else .bad := by
    unfold methI
    simp only [see, h1, h2, h3]
    cases ns.contains f <;> rfl
  exact w_if e
theorem w_methC (h1 : P.cls? C = some cl) (h3 : cl.mem.lookup f = some (.cm i)) : Wm (methI P f (.glo C)) s Q E p = Q (i, [.glo C]) s := w_of (by
    unfold methI
    simp only [see, h1, h3])
theorem w_methB (h : s.get n = some (.ins C ns vs)) (h1 : P.cls? C = some cl) (h2 : cl.err = none) (h3 : cl.mem.lookup f = some (.fn i)) : Wm (methI P f (.box n)) s Q E p = (ns.contains f = false ∧ Q (i, [.box n]) s) := by
  have e : methI P f (.box n) s = if ns.contains f = false then .ok (i, [.box n]) s else .bad := by
    unfold methI
    have e0 : see s (.box n) = .ins C ns vs := by
      show seeB n (s.get n) = _
      rw [h]
      rfl
    simp only [e0, h1, h2, h3]
    cases ns.contains f <;> rfl
  exact w_if e
end mt_
section st_
variable {Q : Unit → S → Prop} {p : Ph (Q, E)} {C f : Str} {ns : List Str} {vs xs : List T} {cl : ClI} {i : Int} {n : Nat} {v : T}
theorem w_setA (h : s.get n = some (.ins C ns vs)) (h1 : P.cls? C = some cl) (h2 : cl.err = none) (h4 : cl.flds.contains f = true) (h5 : ns.length < 1000) : Wm (setAttrM P f v (.box n)) s Q E p = Q () (s.put n (.ins C (putNs f ns) (putVs f v ns vs))) := w_of (by
  unfold setAttrM
  dsimp only
  rw [h]
  dsimp only
  rw [h1]
  dsimp only
  rw [h2, h4, decide_eq_true h5]
  rfl)
theorem w_setI (h : s.get n = some (.lst xs)) : Wm (setItemM v (.box n) (.int i)) s Q E p = OP (ixN xs.length i) (fun j => Q () (s.put n (.lst (xs.set j v)))) ph := by
  exact w_op (f := fun _ => ()) (g := fun j => s.put n (.lst (xs.set j v))) (fun t h9 => by unfold setItemM; simp [see, h, h9]) (fun h9 => by unfold setItemM; simp [see, h, h9])
end st_
end
/-! ### facts of lists -/
theorem at_nat {α : Type} {xs : List α} {n : Nat} : atI xs (n : Int) = xs[n]? := by
  unfold atI ixN
  rw [if_pos (by omega)]
  by_cases h : (n : Int) < xs.length
  · rw [if_pos h]; rfl
  · rw [if_neg h, List.getElem?_eq_none (by omega)]; rfl
theorem at_lit {α : Type} {xs : List α} {n : Nat} : atI xs (no_index (OfNat.ofNat n : Int)) = xs[n]? := at_nat
theorem at_one {α : Type} {xs : List α} : atI xs 1 = xs[1]? := at_nat
theorem at_zero {α : Type} {xs : List α} : atI xs 0 = xs[0]? := at_nat
theorem at_to {α : Type} {xs : List α} {i : Int} (h : 0 ≤ i) : atI xs i = xs[i.toNat]? := by
  have e := at_nat (xs := xs) (n := i.toNat)
  rwa [Int.toNat_of_nonneg h] at e
theorem at_last {α : Type} {xs : List α} : atI xs (-1) = xs[xs.length - 1]? := by
  unfold atI ixN
  rw [if_neg (by omega)]
  cases h : xs.length with
  | zero => simp; cases xs <;> simp at h ⊢
  | succ n =>
    rw [if_pos (by omega)]
    have e : (-1 + ((n + 1 : Nat) : Int)).toNat = n + 1 - 1 := by omega
    show xs[(-1 + ((n + 1 : Nat) : Int)).toNat]? = xs[n + 1 - 1]?
    rw [e]
theorem cut_nf {xs : List T} {a : Nat} : cutT xs (some (a : Int)) none = xs.drop a := by
  unfold cutT
  rw [HT.sIx_nat, HT.sIx_none]
  rcases Nat.lt_or_ge a xs.length with h | h
  · rw [Nat.min_eq_left (Nat.le_of_lt h), List.take_of_length_le (by rw [List.length_drop]; exact Nat.le_refl _)]
  · rw [Nat.min_eq_right h, List.drop_eq_nil_of_le h, List.drop_eq_nil_of_le (Nat.le_refl _), List.take_nil]
theorem cut_nt {xs : List T} {a : Nat} : cutT xs none (some (a : Int)) = xs.take a := by
  unfold cutT
  rw [HT.sIx_nat, HT.sIx_none, List.drop_zero, Nat.sub_zero]
  rcases Nat.lt_or_ge a xs.length with h | h
  · rw [Nat.min_eq_left (Nat.le_of_lt h)]
  · rw [Nat.min_eq_right h, List.take_of_length_le (Nat.le_refl _), List.take_of_length_le h]
theorem cut_from1 {xs : List T} : cutT xs (some 1) none = xs.drop 1 := cut_nf (a := 1)
theorem cut_nn {xs : List T} {a b : Nat} : cutT xs (some (a : Int)) (some (b : Int)) = (xs.drop a).take (b - a) := by
  unfold cutT
  rw [HT.sIx_nat, HT.sIx_nat]
  rcases Nat.lt_or_ge a xs.length with h | h
  · rw [Nat.min_eq_left (Nat.le_of_lt h)]
    rcases Nat.lt_or_ge b xs.length with h2 | h2
    · rw [Nat.min_eq_left (Nat.le_of_lt h2)]
    · rw [Nat.min_eq_right h2, List.take_of_length_le (by rw [List.length_drop]; omega), List.take_of_length_le (by rw [List.length_drop]; omega)]
  · rw [Nat.min_eq_right h, List.drop_eq_nil_of_le h, List.drop_eq_nil_of_le (Nat.le_refl _), List.take_nil, List.take_nil]
theorem rng_nat {j n : Nat} : rngT (j : Nat) (n : Nat) = (List.range' j (n - j)).map fun i => T.int (i : Nat) := by
  unfold rngT
  have e : (((n : Nat) : Int) - (j : Nat)).toNat = n - j := by omega
  rw [e, List.range'_eq_map_range, List.map_map]
  apply List.map_congr_left
  intro x _
  simp
theorem rng_0 {n : Nat} : rngT 0 (n : Nat) = (List.range n).map fun i => T.int (i : Nat) := by
  have e := rng_nat (j := 0) (n := n)
  rw [Nat.sub_zero, ← List.range_eq_range'] at e
  exact e
theorem rg_nat {j n : Nat} (h : j < 2 ^ 60) (h2 : n < 2 ^ 60) : rgOk (j : Nat) (n : Nat) = true := by
  unfold rgOk
  simp only [Bool.and_eq_true, decide_eq_true_eq]
  omega
theorem lkF_c {n : Str} {ns : List Str} {v : T} {vs : List T} {f : Str} : lkF (n :: ns) (v :: vs) f = if n = f then some v else lkF ns vs f := rfl
theorem lkF_n {vs : List T} {f : Str} : lkF [] vs f = none := by cases vs <;> rfl
theorem putNs_n {f : Str} : putNs f [] = [f] := rfl
theorem putNs_c {f n : Str} {ns : List Str} : putNs f (n :: ns) = if n = f then n :: ns else n :: putNs f ns := rfl
theorem putVs_n {f : Str} {t : T} {vs : List T} : putVs f t [] vs = [t] := by cases vs <;> rfl
theorem putVs_c {f n : Str} {ns : List Str} {t v : T} {vs : List T} : putVs f t (n :: ns) (v :: vs) = if n = f then t :: vs else v :: putVs f t ns vs := rfl
theorem get_map0 {α β : Type} {f : α → β} {a : α} {l : List α} : (List.map f (a :: l))[0]? = some (f a) := rfl
theorem drop_map1 {α β : Type} {f : α → β} {a : α} {l : List α} : List.drop 1 (List.map f (a :: l)) = List.map f l := rfl
theorem bq_t {b : Bool} : (b == true) = b := by cases b <;> rfl
theorem bq_f {b : Bool} : (b == false) = !b := by cases b <;> rfl
/-! ### lambdas -/
theorem w_lam {run : Nat → Nat → List V → M T} {s : S} {Q : T → S → Prop} {E : XP} {p : Ph (Q, E)} {r : Res T} (h : ∀ a c vs, run a c vs s = r) : Wm (lamM run) s Q E p = Wm (fun _ => r) s Q E ph := by
  refine w_eqm ?_
  unfold lamM
  have hx : ∃ r, ∀ a c vs, run a c vs s = r := ⟨r, h⟩
  rw [dif_pos hx]
  exact (hx.choose_spec 0 0 []).symm.trans (h 0 0 [])
theorem w_lamOk {run : Nat → Nat → List V → M T} {s s' : S} {v : T} {Q : T → S → Prop} {E : XP} {p : Ph (Q, E)} (h : ∀ a c vs, Wm (run a c vs) s (fun v' s2 => v' = v ∧ s2 = s') noE ph) : Wm (lamM run) s Q E p = Q v s' := by
  rw [w_lam (r := .ok v s') fun a c vs => ?_]
  · exact w_of rfl
  · have := h a c vs
    rw [Wm_eq] at this
    unfold Wm0 at this
    cases e : run a c vs s with
    | ok v2 s2 =>
      rw [e] at this
      rw [this.1, this.2]
    | exc C ns vs s2 => rw [e] at this; exact this.elim
    | bad => rw [e] at this; exact this.elim
theorem w_thC {x : T} {m : M T} {s : S} {Q : T → S → Prop} {E : XP} {p : Ph (Q, E)} : Wm (thC (some (x, m)) x) s Q E p = Wm m s Q E ph := by
  refine w_eqm ?_
  exact congrFun (@if_pos (x = x) (Classical.propDecidable _) rfl _ m bad) s
end G
-- GtW3
namespace G
open PySem L2
/-! ### boxes, classes, rewriting -/
theorem s_frzL {j n : Nat} {f : MS} {env : En} {s : S} {xs : List T} {N B C : En → S → Prop} {R : T → S → Prop} {X : SX} {q : Ph (N, R, B, C, X)} (h1 : env[j]? = some (some (.box n))) (h2 : s.get n = some (.lst xs)) :
    Ws (frzJ j f env s) N R B C X q = Ws (f (env.set j (some (.lst xs))) (s.del n)) N R B C X ph := by
  have e : frzJ j f env s = f (env.set j (some (.lst xs))) (s.del n) := by unfold frzJ; simp only [h1, h2]
  rw [e]
theorem s_frzI {j n : Nat} {f : MS} {env : En} {s : S} {D : Str} {ns : List Str} {vs : List T} {N B C : En → S → Prop} {R : T → S → Prop} {X : SX} {q : Ph (N, R, B, C, X)} (h1 : env[j]? = some (some (.box n))) (h2 : s.get n = some (.ins D ns vs)) :
    Ws (frzJ j f env s) N R B C X q = Ws (f (env.set j (some (.ins D ns vs))) (s.del n)) N R B C X ph := by
  have e : frzJ j f env s = f (env.set j (some (.ins D ns vs))) (s.del n) := by unfold frzJ; simp only [h1, h2]
  rw [e]
/-- a box, with a list, a dict or an instance -/
structure OB (o : Option BO) (L : List T → Prop) (D : List Key → List T → Prop) (I : Str → List Str → List T → Prop) (p : Ph (L, D, I)) : Prop where
  out : match o with | some (.lst xs) => L xs | some (.dct ks vs) => D ks vs | some (.ins C ns vs) => I C ns vs | none => False
section
variable {L : List T → Prop} {D : List Key → List T → Prop} {I : Str → List Str → List T → Prop} {p : Ph (L, D, I)}
theorem ob_lst {xs : List T} : OB (some (.lst xs)) L D I p = L xs := propext ⟨fun h => h.out, fun h => ⟨h⟩⟩
theorem ob_none : OB none L D I p = False := propext ⟨fun h => h.out, fun h => h.elim⟩
theorem ob_ins {C : Str} {ns : List Str} {vs : List T} : OB (some (.ins C ns vs)) L D I p = I C ns vs := propext ⟨fun h => h.out, fun h => ⟨h⟩⟩
theorem ob_dct {ns : List Key} {vs : List T} : OB (some (.dct ns vs)) L D I p = D ns vs := propext ⟨fun h => h.out, fun h => ⟨h⟩⟩
end
section
variable {α β : Type} {s : S} {E : XP} {P : Pg} {call : CallM}
section vT
variable {Q : T → S → Prop} {p : Ph (Q, E)} {i j : Int} {x y : Str} {xs ys : List T} {t : T} {n : Nat}
theorem v_ix : Wm (ixM (.box n) (.int i)) s Q E p = OL (s.get n) (fun xs => OP (atI xs i) (fun t => Q t s) ph) ph := by
  refine w_ol (fun xs h => w_ixB h) fun h1 h2 => ?_
  unfold ixM
  rw [show see s (.int i) = .int i from rfl]
  show (match see s (.box n) with
    | .lst xs => _
    | .tup xs => _
    | .str z => _
    | _ => _) = _
  cases e : s.get n with
  | none => rw [show see s (.box n) = .box n from by show seeB n (s.get n) = _; rw [e]; rfl]
  | some o =>
    cases o with
    | lst xs => exact absurd e (h2 xs)
    | dct ks vs => rw [see_box e]; rfl
    | ins C ns vs => rw [see_box e]; rfl
def ixC (P : Pg) (call : CallM) (C : Str) (ns : List Str) (vs : List T) (x y : T) : M T := match ownI P "__getitem__" (.ins C ns vs) with
  | some i => if (P.fns[i]?).isSome then call i [x, y] else bad
  | none => bad
theorem v_ixI {C : Str} {ns : List Str} {vs : List T} {y : T} : Wm (ixO P call (.ins C ns vs) y) s Q E p = Wm (ixC P call C ns vs (.ins C ns vs) y) s Q E ph := w_eqm (by
  unfold ixO ixC
  rw [show see s (.ins C ns vs) = .ins C ns vs from rfl]
  cases ownI P "__getitem__" (.ins C ns vs) with
  | none =>
    show noX (ixM (.ins C ns vs) y) s = .bad
    unfold noX ixM
    rw [show see s (.ins C ns vs) = .ins C ns vs from rfl]
    cases see s y <;> rfl
  | some i =>
    show (if (P.fns[i]?).isSome = true then call i [.ins C ns vs, y] s else .bad) = (if (P.fns[i]?).isSome = true then call i [.ins C ns vs, y] else bad) s
    cases (P.fns[i]?).isSome <;> rfl)
theorem v_ixo : Wm (ixO P call (.box n) (.int i)) s Q E p = OB (s.get n) (fun xs => OP (atI xs i) (fun t => Q t s) ph) (fun _ _ => False) (fun C ns vs => Wm (ixC P call C ns vs (.box n) (.int i)) s Q E ph) ph := by
  have plain : (∀ C ns vs, s.get n ≠ some (.ins C ns vs)) → Wm (ixO P call (.box n) (.int i)) s Q E p = OL (s.get n) (fun xs => OP (atI xs i) (fun t => Q t s) ph) ph := fun h => by
    have e1 : ixO P call (.box n) (.int i) s = noX (ixM (.box n) (.int i)) s := by
      unfold ixO
      have e2 : ownI P "__getitem__" (see s (.box n)) = none := by
        cases e : s.get n with
        | none => rw [show see s (.box n) = .box n from by show seeB n (s.get n) = _; rw [e]; rfl]; rfl
        | some o =>
          rw [see_box e]
          cases o with
          | ins C ns vs => exact absurd e (h C ns vs)
          | _ => rfl
      rw [e2]
    rw [w_eqm (m' := noX (ixM (.box n) (.int i))) (p' := ph) e1, w_noX, v_ix]
  cases e : s.get n with
  | none => rw [plain (by rw [e]; exact fun _ _ _ z => by cases z), e, ob_none, ol_none]
  | some o =>
    cases o with
    | lst xs => rw [plain (by rw [e]; exact fun _ _ _ z => by cases z), e, ob_lst, ol_lst]
    | dct ks vs => rw [plain (by rw [e]; exact fun _ _ _ z => by cases z), e, ob_dct, ol_dct]
    | ins C ns vs =>
      rw [ob_ins]
      refine w_eqm ?_
      unfold ixO ixC
      rw [show see s (.box n) = .ins C ns vs from see_box e]
      cases ownI P "__getitem__" (.ins C ns vs) with
      | none =>
        show noX (ixM (.box n) (.int i)) s = .bad
        unfold noX ixM
        rw [show see s (.box n) = .ins C ns vs from see_box e]
        rfl
      | some j =>
        show (if (P.fns[j]?).isSome = true then call j [.box n, .int i] s else .bad) = (if (P.fns[j]?).isSome = true then call j [.box n, .int i] else bad) s
        cases (P.fns[j]?).isSome <;> rfl
def lenC (P : Pg) (call : CallM) (C : Str) (ns : List Str) (vs : List T) (x : T) : M T := match ownI P "__len__" (.ins C ns vs) with
  | some i => noX (bnd (call i [x]) asLen)
  | none => bad
theorem v_len : Wm (bcallO P call false .len [.box n]) s Q E p = OB (s.get n) (fun xs => Q (.int xs.length) s) (fun ks _ => Q (.int ks.length) s) (fun C ns vs => Wm (lenC P call C ns vs (.box n)) s Q E ph) ph := by
  have e0 : bcallO P call false .len [.box n] s = (match ownI P "__len__" (see s (.box n)) with
    | some i => noX (bnd (call i [.box n]) asLen) s
    | none => lenM (.box n) s) := rfl
  cases e : s.get n with
  | none =>
    rw [ob_none, w_eqm (m' := bad) (p' := ph) (by
      rw [e0]
      unfold lenM
      rw [show see s (.box n) = .box n from by show seeB n (s.get n) = _; rw [e]; rfl]
      rfl), w_bad]
  | some o =>
    cases o with
    | lst xs => rw [ob_lst]; exact w_lenB e
    | dct ks vs =>
      rw [ob_dct]
      exact w_of (by rw [e0]; unfold lenM; rw [see_box e]; rfl)
    | ins C ns vs =>
      rw [ob_ins]
      refine w_eqm ?_
      rw [e0]
      unfold lenC lenM
      rw [see_box e]
      show (match ownI P "__len__" (.ins C ns vs) with
        | some i => noX (bnd (call i [.box n]) asLen) s
        | none => .bad) = _
      cases ownI P "__len__" (.ins C ns vs) <;> rfl
theorem v_bm {fa : M (List T)} {nm : Str} {m : BM} (hm : ∀ xs, bmFind (.lst xs) nm = some m) (h0 : ∀ t, (∀ xs, t ≠ .lst xs) → (∀ x, t ≠ .str x) → bmFind t nm = none) : Wm (methM nm (.box n) fa) s Q E p = OL (s.get n) (fun _ => Wm fa s (fun ts s' => Wm (bmcall m (.box n) ts) s' Q noE ph) E ph) ph := by
  refine w_ol (fun xs h => w_bmB h (hm xs)) fun g1 g2 => ?_
  have e : bmFind (see s (.box n)) nm = none := h0 _ g1 fun x => by
    show seeB n (s.get n) ≠ _
    cases s.get n with
    | none => intro z; cases z
    | some o => cases o <;> (intro z; cases z)
  unfold methM bnd bmM
  rw [e]
theorem bm0 {nm : Str} : ∀ t, (∀ xs, t ≠ .lst xs) → (∀ x, t ≠ .str x) → bmFind t nm = none := fun t h1 h2 => by
  cases t <;> first | rfl | exact absurd rfl (h1 _) | exact absurd rfl (h2 _)
theorem v_append {fa : M (List T)} : Wm (methM "append" (.box n) fa) s Q E p = OL (s.get n) (fun _ => Wm fa s (fun ts s' => Wm (bmcall .append (.box n) ts) s' Q noE ph) E ph) ph := v_bm (fun _ => rfl) bm0
theorem v_pop {fa : M (List T)} : Wm (methM "pop" (.box n) fa) s Q E p = OL (s.get n) (fun _ => Wm fa s (fun ts s' => Wm (bmcall .pop (.box n) ts) s' Q noE ph) E ph) ph := v_bm (fun _ => rfl) bm0
theorem v_extend {fa : M (List T)} : Wm (methM "extend" (.box n) fa) s Q E p = OL (s.get n) (fun _ => Wm fa s (fun ts s' => Wm (bmcall .extend (.box n) ts) s' Q noE ph) E ph) ph := v_bm (fun _ => rfl) bm0
theorem v_insert {fa : M (List T)} : Wm (methM "insert" (.box n) fa) s Q E p = OL (s.get n) (fun _ => Wm fa s (fun ts s' => Wm (bmcall .insert (.box n) ts) s' Q noE ph) E ph) ph := v_bm (fun _ => rfl) bm0
theorem v_inBox {f : Nat → List T → Res T} (h : ∀ xs, s.get n ≠ some (.lst xs)) : inBox s (.box n) f = .bad := by
  unfold inBox
  dsimp only
  split
  · rename_i xs e; exact absurd e (h xs)
  · rfl
theorem v_bappend : Wm (bmcall .append (.box n) [t]) s Q E p = OL (s.get n) (fun xs => xs.length < sizeLine ∧ Q .non (s.put n (.lst (xs ++ [t])))) ph := w_ol (fun xs h => w_bappend h) fun _ h => by
  show appendM (.box n) t s = .bad
  unfold appendM
  exact v_inBox h
theorem v_bextend : Wm (bmcall .extend (.box n) [.lst ys]) s Q E p = OL (s.get n) (fun xs => xs.length + ys.length ≤ sizeLine ∧ Q .non (s.put n (.lst (xs ++ ys)))) ph := w_ol (fun xs h => w_bextend h) fun _ h => by
  show extendM (.box n) (.lst ys) s = .bad
  unfold extendM
  exact v_inBox h
theorem v_bpop : Wm (bmcall .pop (.box n) []) s Q E p = OL (s.get n) (fun xs => OP (xs[xs.length - 1]?) (fun y => Q y (s.put n (.lst xs.dropLast))) ph) ph := w_ol (fun xs h => w_bpop h) fun _ h => by
  show popM (.box n) s = .bad
  unfold popM
  exact v_inBox h
theorem v_frz : Wm (frzM true (.box n)) s Q E p = OB (s.get n) (fun xs => Q (.lst xs) (s.del n)) (fun _ _ => False) (fun C ns vs => Q (.ins C ns vs) (s.del n)) ph := by
  have e0 : frzM true (.box n) s = (match s.get n with
      | some (.lst xs) => .ok (.lst xs) (s.del n)
      | some (.ins C ns vs) => .ok (.ins C ns vs) (s.del n)
      | _ => .bad : Res T) := rfl
  cases e : s.get n with
  | none => rw [ob_none, w_eqm (m' := bad) (p' := ph) (by rw [e0, e]; rfl), w_bad]
  | some o =>
    cases o with
    | lst xs => rw [ob_lst]; exact w_of (by rw [e0, e])
    | dct ks vs => rw [ob_dct, w_eqm (m' := bad) (p' := ph) (by rw [e0, e]; rfl), w_bad]
    | ins C ns vs => rw [ob_ins]; exact w_of (by rw [e0, e])
theorem v_bpopAt {i : Int} : Wm (bmcall .pop (.box n) [.int i]) s Q E p = OL (s.get n) (fun xs => OP (seqIndex? i xs.length) (fun k => OP (xs[k]?) (fun y => fits i = true ∧ Q y (s.put n (.lst (xs.eraseIdx k)))) ph) ph) ph := by
  refine w_ol (fun xs h => ?_) fun _ h => ?_
  · have e0 : bmcall .pop (.box n) [.int i] s = (match seqIndex? i xs.length with
      | some k => match xs[k]? with
        | some y => if fits i then .ok y (s.put n (.lst (xs.eraseIdx k))) else .bad
        | none => .bad
      | none => .bad : Res T) := by
      show popAtM (.box n) (.int i) s = _
      unfold popAtM inBox
      simp only [see, h] <;> rfl
    cases e1 : seqIndex? i xs.length with
    | none => rw [op_none, w_eqm (m' := bad) (p' := ph) (by rw [e0, e1]; rfl), w_bad]
    | some k =>
      rw [op_some]
      cases e2 : xs[k]? with
      | none => rw [op_none, w_eqm (m' := bad) (p' := ph) (by rw [e0, e1]; dsimp only; rw [e2]; rfl), w_bad]
      | some y =>
        rw [op_some]
        exact w_if (by rw [e0, e1]; dsimp only; rw [e2])
  · show popAtM (.box n) (.int i) s = .bad
    unfold popAtM
    exact v_inBox h
theorem seqIx_nat {j n : Nat} : seqIndex? (j : Int) n = if j < n then some j else none := by
  by_cases h : j < n
  · rw [if_pos h]
    exact seqIx (by omega) (by omega) h
  · rw [if_neg h]
    unfold seqIndex?
    simp
    omega
theorem fits_nat {j : Nat} (h : j < 2 ^ 60) : fits (j : Int) = true := by
  unfold fits
  simp only [Bool.and_eq_true, decide_eq_true_eq]
  omega
/-! classes -/
def attrC (P : Pg) (call : CallM) (f C : Str) (ns : List Str) (vs : List T) (x : T) : M T := fun s => match P.cls? C with
  | some c => if c.err.isSome then .bad else match c.mem.lookup f with
    | some (.prop i) => noX (call i [x]) s
    | some (.con t) => if (lkF ns vs f).isNone then .ok t s else .bad
    | some _ => .bad
    | none => match lkF ns vs f with
      | some t => if c.flds.contains f then .ok t s else .bad
      | none => .bad
  | none => .bad
def methC (P : Pg) (m C : Str) (ns : List Str) (x : T) : M (Nat × List T) := fun s => match P.cls? C with
  | some c => if c.err.isSome || ns.contains m then .bad else match c.mem.lookup m with
    | some (.fn i) => .ok (i, [x]) s
    | _ => .bad
  | none => .bad
def setOk (P : Pg) (f C : Str) (ns : List Str) : Prop := match P.cls? C with
  | some c => (c.err.isNone && c.flds.contains f && decide (ns.length < 1000)) = true
  | none => False
variable {C f : Str} {ns : List Str} {vs : List T} {cl : ClI} {i : Nat}
theorem v_attr : Wm (attrM P call f (.ins C ns vs)) s Q E p = Wm (attrC P call f C ns vs (.ins C ns vs)) s Q E ph := w_eqm rfl
theorem v_attrB : Wm (attrM P call f (.box n)) s Q E p = OI (s.get n) (fun C ns vs => Wm (attrC P call f C ns vs (.box n)) s Q E ph) ph := by
  refine w_oi (fun C ns vs h => w_eqm ?_) (fun xs h => ?_) (fun ks vs h => ?_) fun h => ?_
  · unfold attrM
    rw [see_box h]
    rfl
  · unfold attrM
    rw [see_box h]
    rfl
  · unfold attrM
    rw [see_box h]
    rfl
  · unfold attrM
    rw [show see s (.box n) = .box n from by show seeB n (s.get n) = _; rw [h]; rfl]
theorem v_prop (h1 : P.cls? C = some cl) (h2 : cl.err = none) (h3 : cl.mem.lookup f = some (.prop i)) {x : T} : Wm (attrC P call f C ns vs x) s Q E p = Wm (call i [x]) s Q noE ph := by
  rw [w_eqm (m' := noX (call i [x])) (p' := ph) (by unfold attrC; simp [h1, h2, h3]), w_noX]
theorem v_fld (h1 : P.cls? C = some cl) (h2 : cl.err = none) (h3 : cl.mem.lookup f = none) (h4 : cl.flds.contains f = true) {x : T} : Wm (attrC P call f C ns vs x) s Q E p = OP (lkF ns vs f) (fun t => Q t s) ph :=
  w_op (f := fun t => t) (g := fun _ => s) (fun t h9 => by unfold attrC; simp [h1, h2, h3, List.contains_iff_mem.mp h4, h9]) (fun h9 => by unfold attrC; simp [h1, h2, h3, List.contains_iff_mem.mp h4, h9])
theorem v_con (h1 : P.cls? C = some cl) (h2 : cl.err = none) (h3 : cl.mem.lookup f = some (.con t)) {x : T} : Wm (attrC P call f C ns vs x) s Q E p = ((lkF ns vs f).isNone = true ∧ Q t s) := w_if (by unfold attrC; simp [h1, h2, h3])
theorem v_mk {C : Str} {cl : ClI} {i : Nat} (h1 : cl.err = none) (h2 : cl.init = some i) (h3 : cl.keep = false) : Wm (mkM call C cl xs) s Q E p = Wm (call i (.box s.next :: xs)) (s.new (.ins C [] [])) (fun v s' => v = .non ∧ OI (s'.get s.next) (fun D ns vs => Q (.ins D ns vs) (s'.del s.next)) ph) E ph := by
  rw [w_mk h1 h2 h3]
  refine w_congr fun v s' => ?_
  cases e : s'.get s.next with
  | none => rw [oi_none]
  | some o => cases o <;> first | rw [oi_ins] | rw [oi_lst] | rw [oi_dct]
/-! own special methods -/
theorem v_lenO (h : ownI P "__len__" (.ins C ns vs) = some i) : Wm (bcallO P call false .len [.ins C ns vs]) s Q E p = Wm (call i [.ins C ns vs]) s (fun v s' => Wm (asLen v) s' Q noE ph) noE ph := by
  rw [w_eqm (m' := noX (bnd (call i [.ins C ns vs]) asLen)) (p' := ph) (by
    show (match ownI P "__len__" (.ins C ns vs) with
      | some i => noX (bnd (call i [.ins C ns vs]) asLen) s
      | none => _) = _
    rw [h]), w_noX, w_bnd]
theorem v_strO (h : ownI P "__str__" (.ins C ns vs) = some i) : Wm (bcallO P call false .str [.ins C ns vs]) s Q E p = Wm (call i [.ins C ns vs]) s (fun v s' => Wm (asStr v) s' Q noE ph) noE ph := by
  rw [w_eqm (m' := noX (bnd (call i [.ins C ns vs]) asStr)) (p' := ph) (by
    show (match ownI P "__str__" (.ins C ns vs) with
      | some i => noX (bnd (call i [.ins C ns vs]) asStr) s
      | none => _) = _
    rw [h]), w_noX, w_bnd]
theorem v_boolO (h : ownI P "__bool__" (.ins C ns vs) = some i) : Wm (bcallO P call false .bool [.ins C ns vs]) s Q E p = Wm (call i [.ins C ns vs]) s (fun v s' => Wm (asBl v) s' Q noE ph) noE ph := by
  rw [w_eqm (m' := noX (bnd (call i [.ins C ns vs]) asBl)) (p' := ph) (by
    show (match ownI P "__bool__" (.ins C ns vs) with
      | some i => noX (bnd (call i [.ins C ns vs]) asBl) s
      | none => _) = _
    rw [h]), w_noX, w_bnd]
theorem v_asStr : Wm (asStr (.str x)) s Q E p = Q (.str x) s := w_of rfl
theorem v_asLen {k : Int} : Wm (asLen (.int k)) s Q E p = ((0 ≤ k ∧ k < 2 ^ 63) ∧ Q (.int k) s) := w_if rfl
theorem v_eqO {neg : Bool} {b : T} (h : ownI P "__eq__" (.ins C ns vs) = some i) : Wm (eqO P call neg (.ins C ns vs) b) s Q E p = OP (kdOf P (see s b)) (fun k => firstOk P C k = true ∧ Wm (call i [.ins C ns vs, b]) s (fun v s' => Wm (notB neg v) s' Q noE ph) noE ph) ph := by
  have e0 : eqO P call neg (.ins C ns vs) b s = (match ownI P "__eq__" (.ins C ns vs) with
    | some i => match kdOf P (see s b) with
      | some k => if firstOk P C k then noX (bnd (call i [.ins C ns vs, b]) (notB neg)) s else .bad
      | none => .bad
    | none => eqM neg (.ins C ns vs) b s) := rfl
  rw [h] at e0
  dsimp only at e0
  cases e : kdOf P (see s b) with
  | none =>
    rw [op_none, w_eqm (m' := bad) (p' := ph) (by rw [e0, e]; rfl), w_bad]
  | some k =>
    rw [op_some]
    by_cases hf : firstOk P C k = true
    · rw [w_eqm (m' := noX (bnd (call i [.ins C ns vs, b]) (notB neg))) (p' := ph) (by rw [e0, e]; simp [hf]), w_noX, w_bnd]
      simp [hf]
    · rw [w_eqm (m' := bad) (p' := ph) (by rw [e0, e]; simp [hf]; rfl), w_bad]
      simp [hf]
theorem v_eqE {a b : T} : Wm (cmpO P call .Eq a b) s Q E p = Wm (eqO P call false a b) s Q E ph := w_eqm rfl
theorem v_neE {a b : T} : Wm (cmpO P call .NotEq a b) s Q E p = Wm (eqO P call true a b) s Q E ph := w_eqm rfl
theorem v_notB {neg b : Bool} : Wm (notB neg (.bl b)) s Q E p = Q (.bl (if neg then !b else b)) s := w_of rfl
theorem v_eqN {neg : Bool} {a b : T} (h : ∀ C ns vs, a ≠ .ins C ns vs) (hb : ∀ n, a ≠ .box n) : Wm (eqO P call neg a b) s Q E p = Wm (eqM neg a b) s Q E ph := w_eqm (by
  unfold eqO
  have e : ownI P "__eq__" (see s a) = none := by
    cases a <;> first | rfl | exact absurd rfl (h _ _ _) | exact absurd rfl (hb _)
  rw [e])
theorem v_eqS {neg : Bool} : Wm (eqO P call neg (.str x) (.str y)) s Q E p = Q (.bl (if neg then !(x == y) else (x == y))) s := by cases neg <;> exact w_of rfl
theorem v_eqI {neg : Bool} {i j : Int} : Wm (eqO P call neg (.int i) (.int j)) s Q E p = Q (.bl (if neg then !(i == j) else (i == j))) s := by cases neg <;> exact w_of rfl
/-- equal or not, by data -/
theorem v_eqD {neg : Bool} {a b : T} {d e : PyData} (ha : toD a = some d) (hb : toD b = some e) (sa : SeqAt.shaped d = true) (sb : SeqAt.shaped e = true) : Wm (eqO P call neg a b) s Q E p = Q (.bl (if neg then !PyData.eqv d e else PyData.eqv d e)) s := by
  have n1 : ∀ C ns vs, a ≠ .ins C ns vs := fun C ns vs z => by subst z; cases ha
  have n2 : ∀ n, a ≠ .box n := fun n z => by subst z; cases ha
  have n3 : ∀ n, b ≠ .box n := fun n z => by subst z; cases hb
  have ea : see s a = a := by cases a <;> first | rfl | exact absurd rfl (n2 _)
  have eb : see s b = b := by cases b <;> first | rfl | exact absurd rfl (n3 _)
  rw [v_eqN n1 n2]
  refine w_of ?_
  unfold eqM
  rw [ea, eb]
  split
  · rename_i x y
    cases ha
    cases hb
    have e : PyData.eqv (.str x) (.str y) = (x == y) := rfl
    rw [e]
  · rw [ha, hb]
    dsimp only
    rw [sa, sb]
    rfl
end vT
section mt_
variable {Q : Nat × List T → S → Prop} {p : Ph (Q, E)} {C f : Str} {ns : List Str} {vs : List T} {cl : ClI} {i n : Nat} {x : T}
theorem v_methI : Wm (methI P f (.ins C ns vs)) s Q E p = Wm (methC P f C ns (.ins C ns vs)) s Q E ph := w_eqm rfl
theorem v_methB : Wm (methI P f (.box n)) s Q E p = OI (s.get n) (fun C ns vs => Wm (methC P f C ns (.box n)) s Q E ph) ph := by
  refine w_oi (fun C ns vs h => w_eqm ?_) (fun xs h => ?_) (fun ks vs h => ?_) fun h => ?_
  · unfold methI
    rw [see_box h]
    rfl
  · unfold methI
    rw [see_box h]
    rfl
  · unfold methI
    rw [see_box h]
    rfl
  · unfold methI
    rw [show see s (.box n) = .box n from by show seeB n (s.get n) = _; rw [h]; rfl]
theorem v_meth (h1 : P.cls? C = some cl) (h2 : cl.err = none) (h3 : cl.mem.lookup f = some (.fn i)) : Wm (methC P f C ns x) s Q E p = (ns.contains f = false ∧ Q (i, [x]) s) := by
  have e : methC P f C ns x s = if ns.contains f = false then .ok (i, [x]) s else .bad := by
    unfold methC
    simp only [h1, h2, h3]
    cases ns.contains f <;> rfl
  exact w_if e
end mt_
section st_
variable {Q : Unit → S → Prop} {p : Ph (Q, E)} {C f : Str} {ns : List Str} {vs xs : List T} {cl : ClI} {i : Int} {n : Nat} {v : T}
theorem v_setA : Wm (setAttrM P f v (.box n)) s Q E p = OI (s.get n) (fun C ns vs => setOk P f C ns ∧ Q () (s.put n (.ins C (putNs f ns) (putVs f v ns vs)))) ph := by
  refine w_oi (fun C ns vs h => ?_) (fun xs h => ?_) (fun ks vs h => ?_) fun h => ?_
  · cases e : P.cls? C with
    | none =>
      rw [w_eqm (m' := bad) (p' := ph) (by unfold setAttrM; simp only [h, e]; rfl), w_bad]
      unfold setOk
      rw [e]
      simp
    | some c =>
      unfold setOk
      rw [e]
      exact w_if (by unfold setAttrM; simp only [h, e])
  · unfold setAttrM; simp only [h]
  · unfold setAttrM; simp only [h]
  · unfold setAttrM; simp only [h]
theorem v_setOk (h1 : P.cls? C = some cl) (h2 : cl.err = none) (h4 : cl.flds.contains f = true) : setOk P f C ns = (ns.length < 1000) := by
  unfold setOk
  rw [h1]
  dsimp only
  rw [h2, h4]
  simp
theorem v_setI : Wm (setItemM v (.box n) (.int i)) s Q E p = OL (s.get n) (fun xs => OP (ixN xs.length i) (fun j => Q () (s.put n (.lst (xs.set j v)))) ph) ph := by
  refine w_ol (fun xs h => w_setI h) fun _ h => ?_
  unfold setItemM
  dsimp only
  split
  · rename_i xs e; exact absurd e (h xs)
  · rfl
end st_
end
theorem ew_non {s : S}  : see s (.non) = .non := rfl
theorem ew_bl {s : S} {b : Bool} : see s (.bl b) = .bl b := rfl
theorem ew_int {s : S} {i : Int} : see s (.int i) = .int i := rfl
theorem ew_str {s : S} {x : Str} : see s (.str x) = .str x := rfl
theorem ew_lst {s : S} {xs : List T} : see s (.lst xs) = .lst xs := rfl
theorem ew_tup {s : S} {xs : List T} : see s (.tup xs) = .tup xs := rfl
theorem ew_frz {s : S} {xs : List T} : see s (.frz xs) = .frz xs := rfl
theorem ew_dct {s : S} {ks : List Key} {xs : List T} : see s (.dct ks xs) = .dct ks xs := rfl
theorem ew_ins {s : S} {C : Str} {ns : List Str} {xs : List T} : see s (.ins C ns xs) = .ins C ns xs := rfl
theorem ew_exc {s : S} {C : Str} {ns : List Str} {xs : List T} : see s (.exc C ns xs) = .exc C ns xs := rfl
theorem ew_glo {s : S} {x : Str} : see s (.glo x) = .glo x := rfl
theorem ew_lam {s : S} {n m : Nat} {q : Str} {cap : List T} {vs : List V} : see s (.lam n m q cap vs) = .lam n m q cap vs := rfl
theorem ew_ty {s : S} {n : String} : see s (.ty n) = .ty n := rfl
theorem ek_non {P : Pg}  : kdOf P (.non) = some (.b "NoneType") := rfl
theorem ek_bl {P : Pg} {b : Bool} : kdOf P (.bl b) = some (.b "bool") := rfl
theorem ek_int {P : Pg} {i : Int} : kdOf P (.int i) = some (.b "int") := rfl
theorem ek_str {P : Pg} {x : Str} : kdOf P (.str x) = some (.b "str") := rfl
theorem ek_lst {P : Pg} {xs : List T} : kdOf P (.lst xs) = some (.b "list") := rfl
theorem ek_tup {P : Pg} {xs : List T} : kdOf P (.tup xs) = some (.b "tuple") := rfl
theorem ek_dct {P : Pg} {ks : List Key} {xs : List T} : kdOf P (.dct ks xs) = some (.b "dict") := rfl
theorem ti_ty {P : Pg} {k : Kd} {n : String} : isTst P k (.ty n) = isOne P k (.ty n) := rfl
theorem ti_glo {P : Pg} {k : Kd} {n : Str} : isTst P k (.glo n) = isOne P k (.glo n) := rfl
theorem ti_tup {P : Pg} {k : Kd} {l : List T} : isTst P k (.tup l) = isAny P k l := rfl
theorem ia_nil {P : Pg} {k : Kd} : isAny P k [] = some false := rfl
theorem ia_cons {P : Pg} {k : Kd} {c : T} {l : List T} : isAny P k (c :: l) = match isOne P k c with
    | some true => some true
    | some false => isAny P k l
    | none => none := rfl
theorem en_non : isNonT .non = true := rfl
theorem en_bl {b : Bool} : isNonT (.bl b) = false := rfl
theorem en_int {i : Int} : isNonT (.int i) = false := rfl
theorem en_str {x : Str} : isNonT (.str x) = false := rfl
theorem en_lst {xs : List T} : isNonT (.lst xs) = false := rfl
theorem en_tup {xs : List T} : isNonT (.tup xs) = false := rfl
theorem en_frz {xs : List T} : isNonT (.frz xs) = false := rfl
theorem en_dct {ks : List Key} {xs : List T} : isNonT (.dct ks xs) = false := rfl
theorem en_ins {C : Str} {ns : List Str} {xs : List T} : isNonT (.ins C ns xs) = false := rfl
theorem en_exc {C : Str} {ns : List Str} {xs : List T} : isNonT (.exc C ns xs) = false := rfl
theorem en_glo {x : Str} : isNonT (.glo x) = false := rfl
theorem en_lam {n m : Nat} {q : Str} {cap : List T} {vs : List V} : isNonT (.lam n m q cap vs) = false := rfl
theorem en_ty {n : String} : isNonT (.ty n) = false := rfl
theorem en_box {n : Nat} : isNonT (.box n) = false := rfl
end G
-- GtW4
namespace G
open PySem L2
theorem w_okM {α : Type} {m : M α} {s : S} {Q : α → S → Prop} {E : XP} {p : Ph (Q, E)} (h : okM m s Q) : Wm m s Q E p := by
  rw [Wm_eq]
  rw [okM_eq] at h
  unfold Wm0
  unfold okM0 at h
  cases e : m s with
  | ok v s' => rw [e] at h; exact h
  | exc C ns vs s' => rw [e] at h; exact h.elim
  | bad => rw [e] at h; exact h.elim
/-! ### states that differ by a pen -/
structure Fr (n : Nat) (s s' : S) : Prop where
  le : s.next ≤ s'.next
  at_ : ∀ m, m < s.next → m ≠ n → s'.get m = s.get m
theorem Fr.refl {n : Nat} {s : S} : Fr n s s := ⟨Nat.le_refl _, fun _ _ _ => rfl⟩
theorem Fr.trans {n : Nat} {s s1 s2 : S} (a : Fr n s s1) (b : Fr n s1 s2) : Fr n s s2 := ⟨Nat.le_trans a.le b.le, fun m h h2 => (b.at_ m (Nat.lt_of_lt_of_le h a.le) h2).trans (a.at_ m h h2)⟩
theorem Fr.up {n k : Nat} {s : S} : Fr n s (s.up k) := ⟨Nat.le_add_right _ _, fun _ _ _ => rfl⟩
theorem Fr.put {n : Nat} {s : S} {o : BO} : Fr n s (s.put n o) := ⟨Nat.le_refl _, fun m _ h => get_putN h⟩
theorem Fr.new {n : Nat} {s : S} {o : BO} : Fr n s (s.new o) := ⟨Nat.le_succ _, fun m h _ => get_newN h⟩
structure Pen (n : Nat) (K : Int) (s : S) : Prop where
  ex : ∃ (cs : List Int) (a r : Int), s.get n = some (.lst [.lst (cs.map T.int), .int a, .int r]) ∧ cs.length ≤ 63 ∧ 0 ≤ a ∧ a ≤ K ∧ 0 ≤ r
  lt : n < s.next
theorem Pen.up {n k : Nat} {K : Int} {s : S} (h : Pen n K s) : Pen n K (s.up k) := ⟨h.ex, Nat.lt_of_lt_of_le h.lt (Nat.le_add_right _ _)⟩
theorem Pen.new {n : Nat} {K : Int} {s : S} {o : BO} (h : Pen n K s) : Pen n K (s.new o) := ⟨by rw [get_newN h.lt]; exact h.ex, Nat.lt_succ_of_lt h.lt⟩
theorem Pen.le {n : Nat} {K L : Int} {s : S} (h : Pen n K s) (hl : K ≤ L) : Pen n L s := ⟨let ⟨cs, a, r, h1, h2, h3, h4, h5⟩ := h.ex; ⟨cs, a, r, h1, h2, h3, by omega, h5⟩, h.lt⟩
theorem Pen.putN {n m : Nat} {K : Int} {s : S} {o : BO} (h : Pen n K s) (hn : n ≠ m) : Pen n K (s.put m o) := ⟨by rw [get_putN hn]; exact h.ex, h.lt⟩
theorem get_delN {n m : Nat} (h : m ≠ n) : ∀ {l : List (Nat × BO)}, (delC n l).lookup m = l.lookup m
  | [] => rfl
  | (k, x) :: r => by
    unfold delC
    by_cases hk : k = n
    · rw [if_pos hk, List.lookup_cons, hk, beq_eq_false_iff_ne.mpr h]
    · rw [if_neg hk, List.lookup_cons, List.lookup_cons, get_delN h]
theorem get_delS {n m : Nat} {s : S} (h : m ≠ n) : (s.del n).get m = s.get m := get_delN h
theorem Pen.delN {n m : Nat} {K : Int} {s : S} (h : Pen n K s) (hn : n ≠ m) : Pen n K (s.del m) := ⟨by rw [get_delS hn]; exact h.ex, h.lt⟩
/-- boxes made since then may change -/
theorem Fr.putN {n m : Nat} {s s' : S} {o : BO} (f : Fr n s s') (h : s.next ≤ m) : Fr n s (s'.put m o) := ⟨f.le, fun k h1 h2 => by rw [get_putN (by omega)]; exact f.at_ k h1 h2⟩
theorem Fr.delN {n m : Nat} {s s' : S} (f : Fr n s s') (h : s.next ≤ m) : Fr n s (s'.del m) := ⟨f.le, fun k h1 h2 => by rw [get_delS (by omega)]; exact f.at_ k h1 h2⟩
theorem Fr.ofNew {n : Nat} {s s' : S} {o : BO} (f : Fr n (s.new o) s') : Fr n s s' := ⟨Nat.le_trans (Nat.le_succ _) f.le, fun m h h2 => by rw [f.at_ m (Nat.lt_succ_of_lt h) h2, get_newN h]⟩
theorem Fr.ofUp {n k : Nat} {s s' : S} (f : Fr n (s.up k) s') : Fr n s s' := Fr.up.trans f
/-- a draw -/
theorem draw_w {P : Pg} {call : CallM} {c1 c2 m1 c3 c4 m2 c5 c6 c7 m3 c8 : Int} (D : DrawC c1 c2 m1 c3 c4 m2 c5 c6 c7 m3 c8) {n : Nat} {K many : Int} {s : S} {Q : T → S → Prop} {E : XP} {p : Ph (Q, E)} (hp : Pen n K s) (hK : K < 2 ^ 20) (hm : 0 < many) (hm2 : many < 2 ^ 4000)
    (q : ∀ d s', 0 ≤ d → d < many → Pen n (K + 1) s' → Fr n s s' → Q (.int d) s') : Wm (drawG P call c1 c2 m1 c3 c4 m2 c5 c6 c7 m3 c8 (.box n) (.int many)) s Q E p := by
  obtain ⟨cs, a, r, h1, h2, h3, h4, h5⟩ := hp.ex
  have hl : many.natAbs.log2 < 8000 := Nat.lt_of_lt_of_le ((Nat.log2_lt (by omega)).mpr (show many.natAbs < 2 ^ 4000 by
    have e : (many.natAbs : Int) = many := Int.natAbs_of_nonneg (by omega)
    have h : ((many.natAbs : Nat) : Int) < ((2 ^ 4000 : Nat) : Int) := by rw [e]; exact_mod_cast hm2
    exact Int.ofNat_lt.mp h)) (by decide)
  refine w_okM (okM_imp (draw_ok D (n := n) (cs := cs) (a := a) (r := r) h1 ⟨h3, by omega⟩ h5 hm hl h2) ?_)
  rintro v s' ⟨d, a', r', rfl, d0, d1, rfl, b1, b2, b3⟩
  exact q d _ d0 d1 ⟨⟨cs, a', r', get_putS h1, h2, by omega, by omega, b3⟩, hp.lt⟩ Fr.put
/-! ### comprehensions -/
section
variable {s : S} {Q : T → S → Prop} {E : XP} {p : Ph (Q, E)} {wipe : List Nat} {it : En → M (List T)} {bd : S → T → En → Option En} {tst : En → M Bool} {elt : En → M T} {env : En}
theorem w_compM {turn : T → M (Option T)} (I : List T → List T → S → Prop) (h : ∀ d t r s, I d (t :: r) s → Wm (turn t) s (fun o s' => match o with | some y => I (d ++ [y]) r s' | none => I d r s') noE ph) : ∀ {ts d : List T} {s : S} {Q : List T → S → Prop} {E : XP} {p : Ph (Q, E)}, I d ts s → (∀ ys s', I (d ++ ys) [] s' → Q ys s') → Wm (compM turn ts) s Q E p
  | [], d, s, Q, E, p, hi, q => by
    show Wm (ret []) s Q E p
    rw [w_ret]
    exact q [] s (by rw [List.append_nil]; exact hi)
  | t :: r, d, s, Q, E, p, hi, q => by
    show Wm (bnd (noX (turn t)) _) s Q E p
    rw [w_bnd, w_noX]
    refine w_impQ (h d t r s hi) fun o s' ho => ?_
    cases o with
    | none => exact w_compM I h ho q
    | some y =>
      show Wm (bnd (compM turn r) fun ys => ret (y :: ys)) s' Q E ph
      rw [w_bnd]
      refine w_compM I h (d := d ++ [y]) ho fun ys s2 h2 => ?_
      rw [w_ret]
      exact q _ _ (by rw [List.append_assoc] at h2; exact h2)
/-- a comprehension by an invariant -/
theorem w_lc (I : List T → List T → S → Prop) (h1 : Wm (it env) s (fun ts s1 => ts.length ≤ sizeLine ∧ I [] ts s1) noE ph)
    (h2 : ∀ d t r s, I d (t :: r) s → ∃ e, bd s t (wipeE env wipe) = some e ∧ Wm (tst e) s (fun b s1 => if b then Wm (elt e) s1 (fun y s2 => I (d ++ [y]) r s2) noE ph else I d r s1) noE ph)
    (h3 : ∀ ys s', I ys [] s' → Q (.lst ys) s') : Wm (compS wipe false it bd tst elt env) s Q E p := by
  rw [w_comp]
  refine w_impQ h1 fun ts s1 ⟨hl, hi⟩ => ⟨hl, w_compM I (fun d t r s hh => ?_) (d := []) hi fun ys s' hh => ?_⟩
  · obtain ⟨e, b1, b2⟩ := h2 d t r s hh
    have := b2
    rw [w_eqm (m' := bnd (tst e) fun b => if b then bnd (elt e) fun y => ret (some y) else ret none) (p' := ph) (by simp [b1]), w_bnd]
    refine w_impQ b2 fun b s1 hb => ?_
    cases b with
    | true =>
      rw [if_pos rfl, w_bnd]
      rw [if_pos rfl] at hb
      refine w_impQ hb fun y s2 hy => ?_
      rw [w_ret]
      exact hy
    | false =>
      rw [if_neg Bool.false_ne_true, w_ret]
      rw [if_neg Bool.false_ne_true] at hb
      exact hb
  · rw [w_box]
    exact h3 ys s' hh
/-- .. that keeps the state -/
theorem w_lcP {A : Type} {l : List A} {g h : A → T} {c : A → Bool} (h1 : Wm (it env) s (fun ts s1 => ts = l.map g ∧ s1 = s) noE ph) (hl : l.length ≤ sizeLine)
    (h2 : ∀ a, a ∈ l → ∃ e, bd s (g a) (wipeE env wipe) = some e ∧ Wm (tst e) s (fun b s1 => b = c a ∧ (c a = true → Wm (elt e) s1 (fun y s2 => y = h a ∧ s2 = s) noE ph) ∧ (c a = false → s1 = s)) noE ph)
    (h3 : Q (.lst ((l.filter c).map h)) s) : Wm (compS wipe false it bd tst elt env) s Q E p := by
  refine w_lc (I := fun d r s' => s' = s ∧ ∃ x y, l = x ++ y ∧ d = (x.filter c).map h ∧ r = y.map g) (w_impQ h1 ?_) ?_ ?_
  · rintro ts s1 ⟨rfl, rfl⟩
    exact ⟨by rw [List.length_map]; exact hl, rfl, [], l, rfl, rfl, rfl⟩
  · rintro d t r s' ⟨rfl, x, y, rfl, rfl, hr⟩
    cases y with
    | nil => cases hr
    | cons a y =>
      rw [List.map_cons] at hr
      injection hr with e1 e2
      subst e1 e2
      obtain ⟨e, b1, b2⟩ := h2 a (by simp)
      refine ⟨e, b1, w_impQ b2 fun b s1 ⟨hb, t1, t2⟩ => ?_⟩
      subst hb
      cases hc : c a with
      | true =>
        rw [if_pos rfl]
        refine w_impQ (t1 hc) ?_
        rintro y' s2 ⟨rfl, rfl⟩
        exact ⟨rfl, x ++ [a], y, by simp, by simp [List.filter_append, hc], rfl⟩
      | false =>
        rw [if_neg Bool.false_ne_true]
        have := t2 hc
        subst this
        exact ⟨rfl, x ++ [a], y, by simp, by simp [List.filter_append, hc], rfl⟩
  · rintro ys s' ⟨rfl, x, y, rfl, rfl, hr⟩
    have : y = [] := by cases y with | nil => rfl | cons _ _ => cases hr
    subst this
    rw [List.append_nil] at h3
    exact h3
/-- .. without a test -/
theorem w_lcM {A : Type} {l : List A} {g h : A → T} (h1 : Wm (it env) s (fun ts s1 => ts = l.map g ∧ s1 = s) noE ph) (hl : l.length ≤ sizeLine)
    (h2 : ∀ a, a ∈ l → ∃ e, bd s (g a) (wipeE env wipe) = some e ∧ Wm (elt e) s (fun y s2 => y = h a ∧ s2 = s) noE ph)
    (h3 : Q (.lst (l.map h)) s) : Wm (compS wipe false it bd (fun env => ret true) elt env) s Q E p := by
  refine w_lcP (c := fun _ => true) (h := h) h1 hl (fun a ha => ?_) (by rw [List.filter_eq_self.mpr (fun _ _ => rfl)]; exact h3)
  obtain ⟨e, b1, b2⟩ := h2 a ha
  refine ⟨e, b1, ?_⟩
  rw [w_ret]
  exact ⟨rfl, fun _ => b2, fun z => by cases z⟩
end
end G
namespace G
open PySem L2
theorem w_det {α : Type} {m : M α} {s b : S} {a : α} {p : Ph ((fun v s' => v = a ∧ s' = b), noE)} (h : Wm m s (fun v s' => v = a ∧ s' = b) noE p) : m s = .ok a b := by
  rw [Wm_eq] at h
  unfold Wm0 at h
  cases e : m s with
  | ok v s' =>
    rw [e] at h
    obtain ⟨rfl, rfl⟩ := h
    rfl
  | exc C ns vs s' => rw [e] at h; exact h.elim
  | bad => rw [e] at h; exact h.elim
theorem w_detX {α : Type} {m : M α} {s b : S} {C : Str} {ns : List Str} {vs : List T} {p : Ph ((fun _ _ => False), (fun C' ns' vs' s' => C' = C ∧ ns' = ns ∧ vs' = vs ∧ s' = b))} (h : Wm m s (fun _ _ => False) (fun C' ns' vs' s' => C' = C ∧ ns' = ns ∧ vs' = vs ∧ s' = b) p) : m s = .exc C ns vs b := by
  rw [Wm_eq] at h
  unfold Wm0 at h
  cases e : m s with
  | ok v s' => rw [e] at h; exact h.elim
  | exc C' ns' vs' s' =>
    rw [e] at h
    obtain ⟨rfl, rfl, rfl, rfl⟩ := h
    rfl
  | bad => rw [e] at h; exact h.elim
theorem enumGet : ∀ {xs : List T} {i j : Nat}, (enumT i xs)[j]? = (xs[j]?).map fun t => T.tup [.int ((i + j : Nat) : Int), t]
  | [], i, j => by unfold enumT; simp
  | x :: r, i, 0 => by unfold enumT; simp
  | x :: r, i, j + 1 => by
    unfold enumT
    rw [List.getElem?_cons_succ, List.getElem?_cons_succ, enumGet, show i + 1 + j = i + (j + 1) by omega]
theorem enumLen : ∀ {xs : List T} {i : Nat}, (enumT i xs).length = xs.length
  | [], _ => rfl
  | x :: r, i => by unfold enumT; rw [List.length_cons, List.length_cons, enumLen]
/-- for at, x in enumerate(xs), counted -/
theorem s_forE {A : Type} {a : MS} {N B C : En → S → Prop} {R : T → S → Prop} {X : SX} {env : En} {s : S} {q : Ph (N, R, B, C, X)} {bd : S → T → En → Option En} {g : A → T} {xs : List A} (I : Nat → En → S → Prop) (h0 : I 0 env s)
    (h1 : ∀ j x env s, xs[j]? = some x → I j env s → ∃ e, bd s (.tup [.int (j : Nat), g x]) env = some e ∧ Ws (a e s) (I (j + 1)) R (fun e s => N e s) (I (j + 1)) X ph)
    (h2 : ∀ env s, I xs.length env s → N env s) : Ws (forS bd a (enumT 0 (xs.map g)) env s) N R B C X q := by
  have e : enumT 0 (xs.map g) = (xs.zipIdx).map fun p => T.tup [.int (p.2 : Nat), g p.1] := by
    apply List.ext_getElem?
    intro j
    rw [enumGet, List.getElem?_map, List.getElem?_map, List.getElem?_zipIdx]
    cases xs[j]? <;> simp
  rw [e]
  refine s_forL (xs := xs.zipIdx) (g := fun p => T.tup [.int (p.2 : Nat), g p.1]) (I := I) h0 (fun j x env s hx hi => ?_) (fun env s hi => h2 env s (by rw [List.length_zipIdx] at hi; exact hi))
  rw [List.getElem?_zipIdx] at hx
  cases hj : xs[j]? with
  | none => rw [hj] at hx; cases hx
  | some y =>
    rw [hj] at hx
    cases hx
    have := h1 j y env s hj hi
    simpa using this
end G
namespace G
open PySem L2
/-- for i in range(a, b) -/
theorem s_forR {a : MS} {N B C : En → S → Prop} {R : T → S → Prop} {X : SX} {env : En} {s : S} {q : Ph (N, R, B, C, X)} {bd : S → T → En → Option En} {lo hi : Int} (I : Int → En → S → Prop) (h0 : I lo env s)
    (h1 : ∀ i env s, lo ≤ i → i < hi → I i env s → ∃ e, bd s (.int i) env = some e ∧ Ws (a e s) (I (i + 1)) R (fun e s => N e s) (I (i + 1)) X ph)
    (h2 : ∀ i env s, lo ≤ i → hi ≤ i → (i = hi ∨ i = lo) → I i env s → N env s) : Ws (forS bd a (rngT lo hi) env s) N R B C X q := by
  unfold rngT
  refine s_forL (xs := List.range (hi - lo).toNat) (g := fun i => T.int (lo + (i : Nat))) (I := fun j => I (lo + (j : Nat))) (by simpa using h0) (fun j x env s hx hi' => ?_) (fun env s h => ?_)
  · obtain ⟨hj, hx⟩ := List.getElem?_eq_some_iff.mp hx
    rw [List.length_range] at hj
    rw [List.getElem_range] at hx
    subst hx
    have := h1 (lo + (j : Nat)) env s (by omega) (by omega) hi'
    rw [show lo + ((j + 1 : Nat) : Int) = lo + (j : Nat) + 1 by omega]
    exact this
  · rw [List.length_range] at h
    exact h2 _ env s (by omega) (by omega) (by omega) h
end G
namespace G
open PySem L2
section
variable {s : S} {Q : T → S → Prop} {E : XP} {p : Ph (Q, E)} {wipe : List Nat} {it : En → M (List T)} {bd : S → T → En → Option En} {tst : En → M Bool} {elt : En → M T} {env : En}
theorem w_lcPE {A : Type} (l : List A) (g h : A → T) (c : A → Bool) (h1 : Wm (it env) s (fun ts s1 => ts = l.map g ∧ s1 = s) noE ph) (hl : l.length ≤ sizeLine)
    (h2 : ∀ a, a ∈ l → ∃ e, bd s (g a) (wipeE env wipe) = some e ∧ Wm (tst e) s (fun b s1 => b = c a ∧ (c a = true → Wm (elt e) s1 (fun y s2 => y = h a ∧ s2 = s) noE ph) ∧ (c a = false → s1 = s)) noE ph) :
    Wm (compS wipe false it bd tst elt env) s Q E p = Q (.lst ((l.filter c).map h)) s :=
  w_of (w_det (p := ph) (w_lcP (h := h) (c := c) h1 hl h2 ⟨rfl, rfl⟩))
theorem w_lcE {A : Type} (l : List A) (g h : A → T) (h1 : Wm (it env) s (fun ts s1 => ts = l.map g ∧ s1 = s) noE ph) (hl : l.length ≤ sizeLine)
    (h2 : ∀ a, a ∈ l → ∃ e, bd s (g a) (wipeE env wipe) = some e ∧ Wm (elt e) s (fun y s2 => y = h a ∧ s2 = s) noE ph) :
    Wm (compS wipe false it bd (fun env => ret true) elt env) s Q E p = Q (.lst (l.map h)) s :=
  w_of (w_det (p := ph) (w_lcM (h := h) h1 hl h2 ⟨rfl, rfl⟩))
end
end G
namespace G
open PySem L2
/-- what is walked is made with effects, the items are pure -/
theorem w_lcI {s : S} {Q : T → S → Prop} {E : XP} {p : Ph (Q, E)} {wipe : List Nat} {it : En → M (List T)} {bd : S → T → En → Option En} {elt : En → M T} {env : En} {A : Type} (g h : A → T)
    (h1 : Wm (it env) s (fun ts s1 => ∃ l : List A, ts = l.map g ∧ l.length ≤ sizeLine ∧ (∀ a, a ∈ l → ∃ e, bd s1 (g a) (wipeE env wipe) = some e ∧ Wm (elt e) s1 (fun y s2 => y = h a ∧ s2 = s1) noE ph) ∧ Q (.lst (l.map h)) s1) noE ph) :
    Wm (compS wipe false it bd (fun env => ret true) elt env) s Q E p := by
  rw [w_comp]
  refine w_impQ h1 ?_
  rintro ts s1 ⟨l, rfl, hl, h2, h3⟩
  refine ⟨by rw [List.length_map]; exact hl, ?_⟩
  have := w_lcE (s := s1) (Q := Q) (E := noE) (p := ph) (wipe := wipe) (it := fun _ => ret (l.map g)) (bd := bd) (elt := elt) (env := env) l g h (by rw [w_ret]; exact ⟨rfl, rfl⟩) hl h2
  rw [w_comp, w_ret] at this
  exact w_imp ((iff_of_eq this).mpr h3).2 (fun _ _ z => w_imp z (fun _ _ y => y) fun _ _ _ _ y => y.elim) fun _ _ _ _ y => y.elim
end G
-- GtW5
namespace G
open PySem L2
/-! ### comprehensions over lists that are written out -/
section
variable {s : S} {E : XP} {turn : T → M (Option T)} {t : T} {r : List T}
theorem w_cmp0 {Q : List T → S → Prop} {p : Ph (Q, E)} : Wm (compM turn []) s Q E p = Q [] s := w_of rfl
theorem w_cmpC {Q : List T → S → Prop} {p : Ph (Q, E)} : Wm (compM turn (t :: r)) s Q E p = Wm (turn t) s (fun o s' => match o with
    | some y => Wm (compM turn r) s' (fun ys s2 => Q (y :: ys) s2) E ph
    | none => Wm (compM turn r) s' Q E ph) noE ph := by
  have e : compM turn (t :: r) = bnd (noX (turn t)) fun o => match o with
    | some y => bnd (compM turn r) fun ys => ret (y :: ys)
    | none => compM turn r := rfl
  rw [e, w_bnd, w_noX]
  simp only [Wm_eq]
  unfold Wm0
  cases turn t s with
  | ok o s' =>
    cases o with
    | none => rfl
    | some y =>
      dsimp only
      unfold bnd
      cases compM turn r s' <;> rfl
  | _ => rfl
theorem w_turn {Q : Option T → S → Prop} {p : Ph (Q, E)} {bd : S → T → En → Option En} {tst : En → M Bool} {elt : En → M T} {e : En} : Wm (fun s => match bd s t e with
      | some env' => bnd (tst env') (fun b => if b then bnd (elt env') fun y => ret (some y) else ret none) s
      | none => .bad) s Q E p = match bd s t e with
    | some env' => Wm (tst env') s (fun b s1 => if b then Wm (elt env') s1 (fun y s2 => Q (some y) s2) E ph else Q none s1) E ph
    | none => False := by
  cases h : bd s t e with
  | none =>
    rw [Wm_eq]
    unfold Wm0
    simp only [h]
  | some env' =>
    have e1 : (fun s => match bd s t e with
      | some env' => bnd (tst env') (fun b => if b then bnd (elt env') fun y => ret (some y) else ret none) s
      | none => .bad : M (Option T)) s = bnd (tst env') (fun b => if b then bnd (elt env') fun y => ret (some y) else ret none) s := by simp only [h]
    rw [w_eqm (p' := ph) e1, w_bnd]
    refine w_congr fun b s1 => ?_
    cases b with
    | true => simp only [if_true]; rw [w_bnd]; exact w_congr fun y s2 => w_ret
    | false => simp only [Bool.false_eq_true, if_false]; rw [w_ret]
end
end G
namespace G
open PySem L2
/-! ### lambdas, rewriting -/
def hear (m : M T) (f : T → M T) (g : Str → List Str → List T → M T) : M T := fun s => match m s with
  | .ok v s' => f v s'
  | .exc C ns vs s' => g C ns vs s'
  | .bad => .bad
section
variable {s : S} {Q : T → S → Prop} {E : XP} {p : Ph (Q, E)}
theorem w_hear {m : M T} {f : T → M T} {g : Str → List Str → List T → M T} : Wm (hear m f g) s Q E p = Wm m s (fun v s' => Wm (f v) s' Q E ph) (fun C ns vs s' => Wm (g C ns vs) s' Q E ph) ph := by
  simp only [Wm_eq]
  unfold Wm0 hear
  cases m s <;> rfl
theorem w_cg {α : Type} {m : M α} {Q Q2 : α → S → Prop} {E E2 : XP} {p : Ph (Q, E)} {p2 : Ph (Q2, E2)} {s : S} (h1 : ∀ v s, Q v s = Q2 v s) (h2 : ∀ C ns vs s, E C ns vs s = E2 C ns vs s) : Wm m s Q E p = Wm m s Q2 E2 p2 := by
  rw [Wm_eq, Wm_eq]
  unfold Wm0
  cases m s with
  | ok v s' => exact h1 v s'
  | exc C ns vs s' => exact h2 C ns vs s'
  | bad => rfl
theorem wm_ph {α : Type} {m : M α} {Q : α → S → Prop} {E : XP} {p p' : Ph (Q, E)} {s : S} (h : Wm m s Q E p) : Wm m s Q E p' := ⟨h.out⟩
theorem ws_ph {r : RS} {N B C : En → S → Prop} {R : T → S → Prop} {X : SX} {q q' : Ph (N, R, B, C, X)} (h : Ws r N R B C X q) : Ws r N R B C X q' := ⟨h.out⟩
/-- told to the discharger -/
structure NxE (n m : Nat) : Prop where
  h : n = m
structure NxL (n m : Nat) : Prop where
  h : n < m
theorem get_E {s : S} {o : BO} {n : Nat} (h : NxE n s.next) : (s.new o).get n = some o := by obtain ⟨rfl⟩ := h; exact get_newS
theorem put_E {s : S} {o u : BO} {n : Nat} (h : NxE n s.next) : (s.new o).put n u = s.new u := by obtain ⟨rfl⟩ := h; exact put_newS
theorem del_E {s : S} {o : BO} {n : Nat} (h : NxE n s.next) : (s.new o).del n = s.up 1 := by obtain ⟨rfl⟩ := h; exact del_newS
theorem get_L {s : S} {o : BO} {n : Nat} (h : NxL n s.next) : (s.new o).get n = s.get n := get_newN h.h
theorem put_L {s : S} {o u : BO} {n : Nat} (h : NxL n s.next) : (s.new o).put n u = (s.put n u).new o := put_newN' h.h
theorem w_ext {m1 m2 : M T} {s : S} (h : ∀ (Q : T → S → Prop) (E : XP) (p : Ph (Q, E)), Wm m1 s Q E p = Wm m2 s Q E ph) : m1 s = m2 s := by
  cases e : m2 s with
  | ok v s' =>
    exact w_det (p := ph) ((h (fun v1 s1 => v1 = v ∧ s1 = s') noE ph).mpr (by rw [w_of e]; exact ⟨rfl, rfl⟩))
  | exc C ns vs s' =>
    exact w_detX (p := ph) ((h (fun _ _ => False) (fun C' ns' vs' s1 => C' = C ∧ ns' = ns ∧ vs' = vs ∧ s1 = s') ph).mpr (by rw [w_ofX e]; exact ⟨rfl, rfl, rfl, rfl⟩))
  | bad =>
    have z := h (fun _ _ => True) (fun _ _ _ _ => True) ph
    have z2 : Wm m2 s (fun _ _ => True) (fun _ _ _ _ => True) ph = False := by rw [Wm_eq]; unfold Wm0; rw [e]
    rw [z2, Wm_eq] at z
    unfold Wm0 at z
    cases e1 : m1 s with
    | bad => rfl
    | ok v s' => rw [e1] at z; simp at z
    | exc C ns vs s' => rw [e1] at z; simp at z
theorem w_lamE {run : Nat → Nat → List V → M T} {m2 : M T} (h : ∀ a c vs (Q : T → S → Prop) (E : XP) (p : Ph (Q, E)), Wm (run a c vs) s Q E p = Wm m2 s Q E ph) : Wm (lamM run) s Q E p = Wm m2 s Q E ph :=
  (w_lam (r := m2 s) fun a c vs => w_ext (h a c vs)).trans (w_eqm rfl)
/-- an error is let out -/
def excS (C : Str) (ns : List Str) (vs : List T) : M T := fun s => .exc C ns vs s
theorem w_excS {C : Str} {ns : List Str} {vs : List T} : Wm (excS C ns vs) s Q E p = E C ns vs s := w_ofX rfl
/-- the error that is caught, or none -/
def catM (P : Pg) (x C : Str) (ns : List Str) (vs : List T) (f : T → M T) : M T := match catches P x C with
  | some true => f (.exc C ns vs)
  | some false => excS C ns vs
  | none => bad
theorem w_catT {P : Pg} {x C : Str} {ns : List Str} {vs : List T} {f : T → M T} (h : catches P x C = some true) : Wm (catM P x C ns vs f) s Q E p = Wm (f (.exc C ns vs)) s Q E ph := by unfold catM; rw [h]
theorem w_cat {P : Pg} {x C : Str} {ns : List Str} {vs : List T} {f : T → M T} : Wm (catM P x C ns vs f) s Q E p = match catches P x C with
  | some true => Wm (f (.exc C ns vs)) s Q E ph
  | some false => E C ns vs s
  | none => False := by
  unfold catM
  cases catches P x C with
  | none => exact w_bad
  | some b => cases b <;> first | rfl | exact w_excS
end
end G
-- GtR
namespace G
open PySem L2
/-! ### how long repr(..) is -/
def okS (x : Str) : Bool := x.cps.toList.all fun c => decide (c < 16 ^ 8)
mutual
def okT : T → Bool
  | .non => true
  | .bl _ => true
  | .int i => decide (i.natAbs.log2 < 1920)
  | .str x => okS x
  | .lst ts => okL ts
  | .tup ts => okL ts
  | _ => false
def okL : List T → Bool
  | [] => true
  | t :: r => okT t && okL r
end
mutual
def szT : T → Nat
  | .non => 4
  | .bl _ => 5
  | .int i => i.natAbs.log2 + 2
  | .str x => 10 * x.length + 2
  | .lst ts => szL ts + 3
  | .tup ts => szL ts + 3
  | _ => 0
def szL : List T → Nat
  | [] => 0
  | t :: r => szT t + 2 + szL r
end
mutual
def dpT : T → Nat
  | .lst ts => dpL ts + 1
  | .tup ts => dpL ts + 1
  | _ => 0
def dpL : List T → Nat
  | [] => 0
  | t :: r => max (dpT t) (dpL r)
end
theorem len_of (a : String) : (Str.ofString a).length = a.length := l_str_len
mutual
theorem rp_all : ∀ t : T, okT t = true → ∃ d, toR t = some d ∧ d.showable = true ∧ d.shown.length ≤ szT t ∧ d.depth = dpT t
  | .non, _ => ⟨.none, rfl, rfl, by decide +kernel, rfl⟩
  | .bl b, _ => ⟨.bool b, rfl, rfl, by cases b <;> decide +kernel, rfl⟩
  | .int i, h => by
    have h : i.natAbs.log2 < 1920 := of_decide_eq_true h
    refine ⟨.int i, rfl, by simp [PyData.showable, h], ?_, rfl⟩
    have z := int_text_length_le (a := i) (k := i.natAbs.log2 + 1) (by omega) (by omega)
    simp only [PyData.shown]
    rw [len_of]
    exact z
  | .str x, h => by
    refine ⟨.str x, rfl, rfl, ?_, rfl⟩
    have z := StrLaws.reprText_len x fun c hc => of_decide_eq_true (List.all_eq_true.mp h c hc)
    simp only [PyData.shown]
    exact z
  | .lst ts, h => by
    obtain ⟨ds, h1, h2, h3, h4⟩ := rp_allL ts h
    refine ⟨.list ds, by unfold toR; rw [h1]; rfl, by simpa [PyData.showable] using h2, ?_, by simp only [PyData.depth, h4, dpT]⟩
    simp only [PyData.shown]
    have z := listText_len_le (PyData.shownAll ds)
    show _ ≤ szL ts + 3
    omega
  | .tup ts, h => by
    obtain ⟨ds, h1, h2, h3, h4⟩ := rp_allL ts h
    refine ⟨.tuple ds, by unfold toR; rw [h1]; rfl, by simpa [PyData.showable] using h2, ?_, by simp only [PyData.depth, h4, dpT]⟩
    simp only [PyData.shown]
    have z := tupleText_len_le (PyData.shownAll ds)
    show _ ≤ szL ts + 3
    omega
  | .frz _, h => by cases h
  | .dct _ _, h => by cases h
  | .ins _ _ _, h => by cases h
  | .exc _ _ _, h => by cases h
  | .box _, h => by cases h
  | .glo _, h => by cases h
  | .lam _ _ _ _ _, h => by cases h
  | .ty _, h => by cases h
theorem rp_allL : ∀ ts : List T, okL ts = true → ∃ ds, toRs ts = some ds ∧ PyData.showableAll ds = true ∧ ((PyData.shownAll ds).map (·.length)).sum + 2 * (PyData.shownAll ds).length ≤ szL ts ∧ PyData.depthAll ds = dpL ts
  | [], _ => ⟨[], rfl, rfl, Nat.le_refl _, rfl⟩
  | t :: r, h => by
    have h : (okT t && okL r) = true := h
    rw [Bool.and_eq_true] at h
    obtain ⟨d, a1, a2, a3, a4⟩ := rp_all t h.1
    obtain ⟨ds, b1, b2, b3, b4⟩ := rp_allL r h.2
    refine ⟨d :: ds, by unfold toRs; rw [a1, b1], by simp [PyData.showableAll, a2, b2], ?_, by simp only [PyData.depthAll, a4, b4, dpL]⟩
    simp only [PyData.shownAll, List.map_cons, List.sum_cons, List.length_cons, szL]
    omega
end
/-- the text that repr tells -/
def shT (t : T) : Str := match toR t with
  | some d => d.shown
  | none => Str.empty
def rpOk (t : T) : Bool := okT t && (decide (szT t ≤ 16000000) && decide (dpT t ≤ 60))
theorem w_rep {P : Pg} {s : S} {t : T} {Q : T → S → Prop} {E : XP} {p : Ph (Q, E)} (h : rpOk (see s t) = true) : Wm (bcallB P false .repr [t]) s Q E p = Q (.str (shT (see s t))) s := by
  unfold rpOk at h
  simp only [Bool.and_eq_true, decide_eq_true_eq] at h
  obtain ⟨d, h1, h2, h3, h4⟩ := rp_all _ h.1
  rw [w_repr, h1, op_some]
  have e : reprOk d = true := by
    unfold reprOk
    simp only [Bool.and_eq_true, decide_eq_true_eq]
    rw [sizeLine_eq]
    exact ⟨h2, by omega, by omega⟩
  have e2 : shT (see s t) = d.shown := by unfold shT; rw [h1]
  rw [e, e2]
  simp
theorem rp_int {i : Int} (h : i.natAbs < 2 ^ 1900) : rpOk (.int i) = true := by
  have hl : i.natAbs.log2 < 1920 := by
    by_cases hz : i.natAbs = 0
    · rw [hz]; decide
    · exact Nat.lt_trans ((Nat.log2_lt hz).mpr h) (by decide)
  unfold rpOk okT szT dpT
  simp only [Bool.and_eq_true, decide_eq_true_eq]
  omega
theorem lg_small {i : Int} {k : Nat} (h : i.natAbs < 2 ^ k) (hk : 0 < k) : i.natAbs.log2 < k := by
  by_cases hz : i.natAbs = 0
  · rw [hz]; exact Nat.lt_of_le_of_lt (Nat.le_of_eq (by decide)) hk
  · exact (Nat.log2_lt hz).mpr h
theorem okL_map {A : Type} {f : A → T} : ∀ {l : List A}, (∀ a ∈ l, okT (f a) = true) → okL (l.map f) = true
  | [], _ => rfl
  | a :: l, h => by
    show (okT (f a) && okL (l.map f)) = true
    rw [h a List.mem_cons_self, okL_map fun b hb => h b (List.mem_cons_of_mem _ hb)]
    rfl
theorem szL_map {A : Type} {f : A → T} {c : Nat} : ∀ {l : List A}, (∀ a ∈ l, szT (f a) ≤ c) → szL (l.map f) ≤ (c + 2) * l.length
  | [], _ => Nat.zero_le _
  | a :: l, h => by
    show szT (f a) + 2 + szL (l.map f) ≤ _
    have h1 := h a List.mem_cons_self
    have h2 := szL_map (c := c) (l := l) fun b hb => h b (List.mem_cons_of_mem _ hb)
    rw [List.length_cons, Nat.mul_succ]
    omega
theorem dpL_map {A : Type} {f : A → T} {c : Nat} : ∀ {l : List A}, (∀ a ∈ l, dpT (f a) ≤ c) → dpL (l.map f) ≤ c
  | [], _ => Nat.zero_le _
  | a :: l, h => by
    show max (dpT (f a)) (dpL (l.map f)) ≤ _
    have h1 := h a List.mem_cons_self
    have h2 := dpL_map (c := c) (l := l) fun b hb => h b (List.mem_cons_of_mem _ hb)
    omega
section
variable {P : Pg} {s : S} {Q : T → S → Prop} {E : XP} {p : Ph (Q, E)}
theorem w_repI {i : Int} (h : rpOk (.int i) = true) : Wm (bcallB P false .repr [.int i]) s Q E p = Q (.str (shT (.int i))) s := w_rep h
theorem w_repS {x : Str} (h : rpOk (.str x) = true) : Wm (bcallB P false .repr [.str x]) s Q E p = Q (.str (shT (.str x))) s := w_rep h
theorem w_repL {x : List T} (h : rpOk (.lst x) = true) : Wm (bcallB P false .repr [.lst x]) s Q E p = Q (.str (shT (.lst x))) s := w_rep h
theorem w_repT {x : List T} (h : rpOk (.tup x) = true) : Wm (bcallB P false .repr [.tup x]) s Q E p = Q (.str (shT (.tup x))) s := w_rep h
theorem w_repN : Wm (bcallB P false .repr [.non]) s Q E p = Q (.str (shT .non)) s := w_rep rfl
theorem w_repB {b : Bool} : Wm (bcallB P false .repr [.bl b]) s Q E p = Q (.str (shT (.bl b))) s := w_rep rfl
end
theorem up_zero {s : S} : s.up 0 = s := rfl
end G
-- Rt1
/-! fractions in lowest terms, plain -/
namespace Rt
open PySem L2 G
def sg (y : Int) : Int := if y < 0 then -1 else 1
def gd (x y : Int) : Int := (Int.gcd x y : Nat)
def num (x y : Int) : Int := sg y * x / gd x y
def den (x y : Int) : Int := sg y * y / gd x y
theorem sg_mul (y : Int) : sg y * y = y.natAbs := by unfold sg; split <;> omega
theorem sg_sq (y : Int) : sg y * sg y = 1 := by unfold sg; split <;> rfl
theorem gd_pos {x y : Int} (h : y ≠ 0) : 0 < gd x y := by
  unfold gd
  have := Int.gcd_pos_of_ne_zero_right x h
  omega
theorem num_g {x y : Int} : num x y * gd x y = sg y * x := by
  unfold num
  exact Int.ediv_mul_cancel (Int.dvd_mul_of_dvd_right (Int.gcd_dvd_left x y))
theorem den_g {x y : Int} : den x y * gd x y = sg y * y := by
  unfold den
  exact Int.ediv_mul_cancel (Int.dvd_mul_of_dvd_right (Int.gcd_dvd_right x y))
theorem den_pos {x y : Int} (h : y ≠ 0) : 1 ≤ den x y := by
  have h1 := den_g (x := x) (y := y)
  have h2 := gd_pos (x := x) h
  rw [sg_mul] at h1
  have h3 : 0 < den x y * gd x y := by omega
  rcases Int.lt_or_le 0 (den x y) with z | z
  · omega
  · have := Int.mul_le_mul_of_nonneg_right z (Int.le_of_lt h2)
    rw [Int.zero_mul] at this
    omega
theorem num_den {x y : Int} (h : y ≠ 0) : num x y * y = x * den x y := by
  have h1 := num_g (x := x) (y := y)
  have h2 := den_g (x := x) (y := y)
  have h3 := gd_pos (x := x) h
  refine Int.eq_of_mul_eq_mul_right (show gd x y ≠ 0 by omega) ?_
  grind
theorem sg_abs (y : Int) : (sg y).natAbs = 1 := by unfold sg; split <;> rfl
theorem gcd_sg (x y : Int) : Int.gcd (sg y * x) (sg y * y) = Int.gcd x y := by
  unfold Int.gcd
  rw [Int.natAbs_mul, Int.natAbs_mul, sg_abs, Nat.one_mul, Nat.one_mul]
theorem cop {x y : Int} (h : y ≠ 0) : Int.gcd (num x y) (den x y) = 1 := by
  have h3 := gd_pos (x := x) h
  have e := gcd_sg x y
  rw [← num_g, ← den_g, Int.gcd_mul_right] at e
  have e2 : (gd x y).natAbs = Int.gcd x y := by unfold gd; rfl
  rw [e2] at e
  have h4 : 0 < Int.gcd x y := by unfold gd at h3; omega
  exact Nat.eq_of_mul_eq_mul_right h4 (by rw [e, Nat.one_mul])
theorem num_le {x y : Int} (h : y ≠ 0) : (num x y).natAbs ≤ x.natAbs := by
  have h1 := congrArg Int.natAbs (num_g (x := x) (y := y))
  have h3 := gd_pos (x := x) h
  rw [Int.natAbs_mul, Int.natAbs_mul, sg_abs, Nat.one_mul] at h1
  rw [← h1]
  exact Nat.le_mul_of_pos_right _ (by omega)
theorem den_le {x y : Int} (h : y ≠ 0) : (den x y).natAbs ≤ y.natAbs := by
  have h1 := congrArg Int.natAbs (den_g (x := x) (y := y))
  have h3 := gd_pos (x := x) h
  rw [Int.natAbs_mul, Int.natAbs_mul, sg_abs, Nat.one_mul] at h1
  rw [← h1]
  exact Nat.le_mul_of_pos_right _ (by omega)
theorem dvd_cop {q p r : Int} (h : Int.gcd p q = 1) (d : q ∣ p * r) : q ∣ r := by
  rw [← Int.natAbs_dvd_natAbs] at d ⊢
  rw [Int.natAbs_mul] at d
  exact Nat.Coprime.dvd_of_dvd_mul_left (show Nat.gcd q.natAbs p.natAbs = 1 by rw [Nat.gcd_comm]; exact h) d
theorem uniq {p q p' q' : Int} (hq : 1 ≤ q) (hq' : 1 ≤ q') (h : Int.gcd p q = 1) (h' : Int.gcd p' q' = 1) (e : p * q' = p' * q) : p = p' ∧ q = q' := by
  have d1 : q ∣ q' := by
    have : q ∣ p * q' := ⟨p', by rw [e, Int.mul_comm]⟩
    exact dvd_cop h this
  have d2 : q' ∣ q := by
    have : q' ∣ p' * q := ⟨p, by rw [← e, Int.mul_comm]⟩
    exact dvd_cop h' this
  have e1 : q = q' := Int.le_antisymm (Int.le_of_dvd (by omega) d1) (Int.le_of_dvd (by omega) d2)
  subst e1
  exact ⟨Int.eq_of_mul_eq_mul_right (by omega) e, rfl⟩
theorem same {x y x' y' : Int} (hy : y ≠ 0) (hy' : y' ≠ 0) (h : x * y' = x' * y) : num x y = num x' y' ∧ den x y = den x' y' := by
  refine uniq (den_pos hy) (den_pos hy') (cop hy) (cop hy') ?_
  have h1 := num_den (x := x) hy
  have h2 := num_den (x := x') hy'
  refine Int.eq_of_mul_eq_mul_right (show y * y' ≠ 0 from Int.mul_ne_zero hy hy') ?_
  grind
theorem same_iff {x y x' y' : Int} (hy : y ≠ 0) (hy' : y' ≠ 0) : (num x y = num x' y' ∧ den x y = den x' y') ↔ x * y' = x' * y := by
  refine ⟨fun ⟨h3, h4⟩ => ?_, same hy hy'⟩
  have h1 := num_den (x := x) hy
  have h2 := num_den (x := x') hy'
  have h5 := den_pos (x := x) hy
  rw [← h3, ← h4] at h2
  refine Int.eq_of_mul_eq_mul_right (show den x y ≠ 0 by omega) ?_
  grind
/-- the loop's measure -/
def mu (a b : Nat) : Nat := if b = 0 then 0 else Nat.log2 (a * b) + 1 + (if a < b then 1 else 0)
theorem log_half {m n : Nat} (hm : m ≠ 0) (h : 2 * m ≤ n) : Nat.log2 m < Nat.log2 n := by
  rw [Nat.log2_lt hm]
  have := @Nat.lt_log2_self n
  rw [Nat.pow_succ] at this
  omega
theorem mu_lt {a b : Nat} (hb : 0 < b) : mu b (a % b) < mu a b := by
  unfold mu
  rw [if_neg (show ¬ b = 0 by omega)]
  by_cases h0 : a % b = 0
  · rw [if_pos h0]; omega
  · rw [if_neg h0]
    have hr := Nat.mod_lt a hb
    rw [if_neg (show ¬ b < a % b by omega)]
    by_cases h : a < b
    · rw [if_pos h, Nat.mod_eq_of_lt h, Nat.mul_comm b a]; omega
    · rw [if_neg h]
      have h2 : 2 * (b * (a % b)) ≤ a * b := by
        have e := Nat.div_add_mod a b
        have hq : 1 ≤ a / b := (Nat.one_le_div_iff hb).mpr (by omega)
        have h3 : b * 1 ≤ b * (a / b) := Nat.mul_le_mul_left b hq
        have h4 : 2 * (a % b) ≤ a := by omega
        calc 2 * (b * (a % b)) = 2 * (a % b) * b := by rw [Nat.mul_comm b, Nat.mul_assoc]
          _ ≤ a * b := Nat.mul_le_mul_right b h4
      have := log_half (m := b * (a % b)) (n := a * b) (Nat.mul_ne_zero (by omega) h0) h2
      omega
theorem mu_big {a b : Nat} (ha : a < 2 ^ 4000) (hb : b < 2 ^ 4000) : mu a b < 2 ^ 200 := by
  unfold mu
  split
  · decide
  · by_cases h0 : a * b = 0
    · rw [h0]
      split <;> (show Nat.log2 0 + 1 + _ < _; rw [show Nat.log2 0 = 0 by decide]; decide)
    · have h : a * b < 2 ^ 8000 := by
        have : a * b < 2 ^ 4000 * 2 ^ 4000 := Nat.mul_lt_mul'' ha hb
        rwa [← Nat.pow_add] at this
      have h2 : Nat.log2 (a * b) < 8000 := (Nat.log2_lt h0).mpr h
      have h3 : (8002 : Nat) < 2 ^ 200 := by decide
      split <;> omega
theorem mulOk_small {i j : Int} (hi : i.natAbs < 2 ^ 4000) (hj : j.natAbs < 2 ^ 4000) : mulOk i j = true := by
  have h1 : i.natAbs.log2 < 4000 := by
    by_cases h : i.natAbs = 0
    · rw [h]; decide
    · exact (Nat.log2_lt h).mpr hi
  have h2 : j.natAbs.log2 < 4000 := by
    by_cases h : j.natAbs = 0
    · rw [h]; decide
    · exact (Nat.log2_lt h).mpr hj
  unfold mulOk
  rw [decide_eq_true (show i.natAbs.log2 + j.natAbs.log2 < 900000 by omega)]
  simp
theorem mulOk_sg {y j : Int} : mulOk (sg y) j = true := by
  unfold mulOk
  rw [sg_abs]
  rfl
theorem divOk_small {j : Int} (h0 : 0 < j) (hj : j.natAbs < 2 ^ 4000) : divOk j = true := by
  have h2 : j.natAbs.log2 < 4000 := (Nat.log2_lt (by omega)).mpr hj
  unfold divOk
  rw [decide_eq_true h0, decide_eq_true (show j.natAbs.log2 < 8000 by omega)]
  rfl
theorem abs_nat (i : Int) : (if i < 0 then -i else i) = ((i.natAbs : Nat) : Int) := by split <;> omega
theorem gd_le {x y : Int} (h : y ≠ 0) : (gd x y).natAbs ≤ y.natAbs := by
  unfold gd
  have := Nat.le_of_dvd (by omega) (Int.gcd_dvd_natAbs_right x y)
  exact this
theorem below_iff {x y x' y' : Int} (hy : y ≠ 0) (hy' : y' ≠ 0) : num x y * den x' y' < num x' y' * den x y ↔ sg (y * y') * (x * y' - x' * y) < 0 := by
  have h1 := num_g (x := x) (y := y)
  have h2 := den_g (x := x) (y := y)
  have h3 := num_g (x := x') (y := y')
  have h4 := den_g (x := x') (y := y')
  have p1 := gd_pos (x := x) hy
  have p2 := gd_pos (x := x') hy'
  have hs : sg (y * y') = sg y * sg y' := by
    unfold sg
    by_cases a : y < 0 <;> by_cases b : y' < 0
    · rw [if_pos a, if_pos b, if_neg (by have := Int.mul_pos_of_neg_of_neg a b; omega)]; rfl
    · rw [if_pos a, if_neg b, if_pos (Int.mul_neg_of_neg_of_pos a (by omega))]; rfl
    · rw [if_neg a, if_pos b, if_pos (Int.mul_neg_of_pos_of_neg (by omega) b)]; rfl
    · rw [if_neg a, if_neg b, if_neg (by have := Int.mul_pos (show 0 < y by omega) (show 0 < y' by omega); omega)]; rfl
  have e : (num x y * den x' y' - num x' y' * den x y) * (gd x y * gd x' y') = sg (y * y') * (x * y' - x' * y) := by
    rw [hs]; grind
  have pp : 0 < gd x y * gd x' y' := Int.mul_pos p1 p2
  rw [← e]
  constructor
  · intro h
    exact Int.mul_neg_of_neg_of_pos (by omega) pp
  · intro h
    by_cases z : num x y * den x' y' - num x' y' * den x y < 0
    · omega
    · have := Int.mul_nonneg (show 0 ≤ num x y * den x' y' - num x' y' * den x y by omega) (Int.le_of_lt pp)
      omega
theorem atmost_iff {x y x' y' : Int} (hy : y ≠ 0) (hy' : y' ≠ 0) : num x y * den x' y' ≤ num x' y' * den x y ↔ sg (y * y') * (x * y' - x' * y) ≤ 0 := by
  have h := below_iff (x := x') (x' := x) hy' hy
  have e : sg (y' * y) * (x' * y - x * y') = -(sg (y * y') * (x * y' - x' * y)) := by rw [Int.mul_comm y' y]; grind
  rw [e] at h
  omega
theorem num_zero {x y : Int} (hy : y ≠ 0) : num x y = 0 ↔ x = 0 := by
  have h1 := num_den (x := x) hy
  have h2 := den_pos (x := x) hy
  constructor
  · intro h
    rw [h, Int.zero_mul] at h1
    rcases Int.mul_eq_zero.mp h1.symm with z | z
    · exact z
    · omega
  · intro h
    subst h
    rw [Int.zero_mul] at h1
    rcases Int.mul_eq_zero.mp h1 with z | z
    · exact z
    · exact absurd z hy
end Rt
-- GtP_k43
namespace Gk43
open PySem L2 G
abbrev PR : Program := PySem.Challenge.pw_ghosttakes_k43_fractions_reckoned
def top (i : Nat) : Stmt := PR.main.body.getD i (.Pass ⟨0, 0, 0, 0⟩)
def sub (i j : Nat) : Stmt := match top i with
  | .ClassDef _ _ _ b .. => b.getD j (.Pass ⟨0, 0, 0, 0⟩)
  | _ => .Pass ⟨0, 0, 0, 0⟩
def f0 : FnI := ⟨("BadRatio", some "__init__"), "__init__", "BadRatio.__init__", defArgs (sub 3 0), defBody (sub 3 0), defScope (sub 3 0), [("self" : Str), ("value" : Str)], [("self" : Str), ("value" : Str)], none, []⟩ -- BadRatio.__init__
def f1 : FnI := ⟨("BadText", some "__init__"), "__init__", "BadText.__init__", defArgs (sub 4 0), defBody (sub 4 0), defScope (sub 4 0), [("self" : Str), ("line" : Str), ("word" : Str)], [("self" : Str), ("line" : Str), ("word" : Str)], none, []⟩ -- BadText.__init__
def f2 : FnI := ⟨("is_integer", none), "is_integer", "is_integer", defArgs (top 8), defBody (top 8), defScope (top 8), [("value" : Str)], [("value" : Str)], none, []⟩ -- is_integer
def f3 : FnI := ⟨("common_divisor", none), "common_divisor", "common_divisor", defArgs (top 9), defBody (top 9), defScope (top 9), [("one" : Str), ("other" : Str)], [("one" : Str), ("other" : Str)], none, []⟩ -- common_divisor
def f4 : FnI := ⟨("number_of", none), "number_of", "number_of", defArgs (top 10), defBody (top 10), defScope (top 10), [("word" : Str), ("sign" : Str)], [("word" : Str)], none, []⟩ -- number_of
def f5 : FnI := ⟨("Ratio", some "__init__"), "__init__", "Ratio.__init__", defArgs (sub 11 0), defBody (sub 11 0), defScope (sub 11 0), [("self" : Str), ("top" : Str), ("bottom" : Str), ("value" : Str), ("divisor" : Str), ("sign" : Str)], [("self" : Str), ("top" : Str), ("bottom" : Str)], none, [.int (1)]⟩ -- Ratio.__init__
def f6 : FnI := ⟨("Ratio", some "read"), "read", "Ratio.read", defArgs (sub 11 1), defBody (sub 11 1), defScope (sub 11 1), [("cls" : Str), ("text" : Str), ("minus" : Str), ("parts" : Str), ("numbers" : Str), ("found" : Str), ("top" : Str), ("bottom" : Str), ("part" : Str)], [("cls" : Str), ("text" : Str)], none, []⟩ -- Ratio.read
def f7 : FnI := ⟨("Ratio", some "__add__"), "__add__", "Ratio.__add__", defArgs (sub 11 2), defBody (sub 11 2), defScope (sub 11 2), [("self" : Str), ("other" : Str)], [("self" : Str), ("other" : Str)], none, []⟩ -- Ratio.__add__
def f8 : FnI := ⟨("Ratio", some "__radd__"), "__radd__", "Ratio.__radd__", defArgs (sub 11 3), defBody (sub 11 3), defScope (sub 11 3), [("self" : Str), ("other" : Str)], [("self" : Str), ("other" : Str)], none, []⟩ -- Ratio.__radd__
def f9 : FnI := ⟨("Ratio", some "__sub__"), "__sub__", "Ratio.__sub__", defArgs (sub 11 4), defBody (sub 11 4), defScope (sub 11 4), [("self" : Str), ("other" : Str)], [("self" : Str), ("other" : Str)], none, []⟩ -- Ratio.__sub__
def f10 : FnI := ⟨("Ratio", some "__rsub__"), "__rsub__", "Ratio.__rsub__", defArgs (sub 11 5), defBody (sub 11 5), defScope (sub 11 5), [("self" : Str), ("other" : Str)], [("self" : Str), ("other" : Str)], none, []⟩ -- Ratio.__rsub__
def f11 : FnI := ⟨("Ratio", some "__mul__"), "__mul__", "Ratio.__mul__", defArgs (sub 11 6), defBody (sub 11 6), defScope (sub 11 6), [("self" : Str), ("other" : Str)], [("self" : Str), ("other" : Str)], none, []⟩ -- Ratio.__mul__
def f12 : FnI := ⟨("Ratio", some "__rmul__"), "__rmul__", "Ratio.__rmul__", defArgs (sub 11 7), defBody (sub 11 7), defScope (sub 11 7), [("self" : Str), ("other" : Str)], [("self" : Str), ("other" : Str)], none, []⟩ -- Ratio.__rmul__
def f13 : FnI := ⟨("Ratio", some "__neg__"), "__neg__", "Ratio.__neg__", defArgs (sub 11 8), defBody (sub 11 8), defScope (sub 11 8), [("self" : Str)], [("self" : Str)], none, []⟩ -- Ratio.__neg__
def f14 : FnI := ⟨("Ratio", some "over"), "over", "Ratio.over", defArgs (sub 11 9), defBody (sub 11 9), defScope (sub 11 9), [("self" : Str), ("other" : Str), ("divisor" : Str)], [("self" : Str), ("other" : Str)], none, []⟩ -- Ratio.over
def f15 : FnI := ⟨("Ratio", some "below"), "below", "Ratio.below", defArgs (sub 11 10), defBody (sub 11 10), defScope (sub 11 10), [("self" : Str), ("other" : Str)], [("self" : Str), ("other" : Str)], none, []⟩ -- Ratio.below
def f16 : FnI := ⟨("Ratio", some "at_most"), "at_most", "Ratio.at_most", defArgs (sub 11 11), defBody (sub 11 11), defScope (sub 11 11), [("self" : Str), ("other" : Str)], [("self" : Str), ("other" : Str)], none, []⟩ -- Ratio.at_most
def f17 : FnI := ⟨("Ratio", some "__eq__"), "__eq__", "Ratio.__eq__", defArgs (sub 11 12), defBody (sub 11 12), defScope (sub 11 12), [("self" : Str), ("other" : Str)], [("self" : Str), ("other" : Str)], none, []⟩ -- Ratio.__eq__
def f18 : FnI := ⟨("Ratio", some "__bool__"), "__bool__", "Ratio.__bool__", defArgs (sub 11 13), defBody (sub 11 13), defScope (sub 11 13), [("self" : Str)], [("self" : Str)], none, []⟩ -- Ratio.__bool__
def f19 : FnI := ⟨("Ratio", some "__str__"), "__str__", "Ratio.__str__", defArgs (sub 11 14), defBody (sub 11 14), defScope (sub 11 14), [("self" : Str)], [("self" : Str)], none, []⟩ -- Ratio.__str__
def f20 : FnI := ⟨("as_ratio", none), "as_ratio", "as_ratio", defArgs (top 12), defBody (top 12), defScope (top 12), [("value" : Str)], [("value" : Str)], none, []⟩ -- as_ratio
def f21 : FnI := ⟨("_law_pen", none), "_law_pen", "_law_pen", defArgs (top 14), defBody (top 14), defScope (top 14), [("_law_script" : Str)], [("_law_script" : Str)], none, []⟩ -- _law_pen
def f22 : FnI := ⟨("_law_draw", none), "_law_draw", "_law_draw", defArgs (top 15), defBody (top 15), defScope (top 15), [("_law_pen_here" : Str), ("_law_many" : Str), ("_law_at" : Str), ("_law_cell" : Str), ("_law_mixed" : Str), ("_law_digit" : Str), ("_law_great" : Str)], [("_law_pen_here" : Str), ("_law_many" : Str)], none, []⟩ -- _law_draw
def f23 : FnI := ⟨("_law_pick", none), "_law_pick", "_law_pick", defArgs (top 16), defBody (top 16), defScope (top 16), [("_law_pen_here" : Str), ("_law_some" : Str)], [("_law_pen_here" : Str), ("_law_some" : Str)], none, []⟩ -- _law_pick
def f24 : FnI := ⟨("_law_heard", none), "_law_heard", "_law_heard", defArgs (top 17), defBody (top 17), defScope (top 17), [("_law_ask" : Str), ("_law_caught" : Str), ("error" : Str)], [("_law_ask" : Str)], none, []⟩ -- _law_heard
def f25 : FnI := ⟨("_law_integer", none), "_law_integer", "_law_integer", defArgs (top 18), defBody (top 18), defScope (top 18), [("_law_pen_here" : Str), ("_law_some" : Str), ("_law_found" : Str)], [("_law_pen_here" : Str)], none, []⟩ -- _law_integer
def f26 : FnI := ⟨("_law_is", none), "_law_is", "_law_is", defArgs (top 19), defBody (top 19), defScope (top 19), [("_law_ratio" : Str), ("_law_up" : Str), ("_law_down" : Str), ("_law_one" : Str), ("_law_other" : Str)], [("_law_ratio" : Str), ("_law_up" : Str), ("_law_down" : Str)], none, []⟩ -- _law_is
def f27 : FnI := ⟨("_law_pair_right", none), "_law_pair_right", "_law_pair_right", defArgs (top 20), defBody (top 20), defScope (top 20), [("_law_one" : Str), ("_law_two" : Str), ("_law_sign" : Str), ("_law_told" : Str), ("_law_less" : Str), ("_law_a" : Str), ("_law_b" : Str), ("_law_c" : Str), ("_law_d" : Str), ("_law_left" : Str), ("_law_right" : Str)], [("_law_one" : Str), ("_law_two" : Str)], none, []⟩ -- _law_pair_right
def f28 : FnI := ⟨("_law_mixed_right", none), "_law_mixed_right", "_law_mixed_right", defArgs (top 21), defBody (top 21), defScope (top 21), [("_law_one" : Str), ("_law_number" : Str), ("_law_left" : Str), ("_law_sums" : Str), ("_law_same" : Str), ("_law_sign" : Str), ("_law_less" : Str), ("_law_a" : Str), ("_law_b" : Str), ("_law_found" : Str)], [("_law_one" : Str), ("_law_number" : Str)], none, []⟩ -- _law_mixed_right
def f29 : FnI := ⟨("_law_wrong_right", none), "_law_wrong_right", "_law_wrong_right", defArgs (top 22), defBody (top 22), defScope (top 22), [("_law_pen_here" : Str), ("_law_odd" : Str), ("_law_also" : Str), ("_law_heard_here" : Str), ("_law_caught" : Str)], [("_law_pen_here" : Str)], none, []⟩ -- _law_wrong_right
def f30 : FnI := ⟨("law", none), "law", "law", defArgs (top 23), defBody (top 23), defScope (top 23), [("_law_script" : Str), ("_law_pen_here" : Str), ("_law_turn" : Str), ("_law_caught" : Str), ("_law_a" : Str), ("_law_b" : Str), ("_law_c" : Str), ("_law_d" : Str), ("_law_odd" : Str)], [("_law_script" : Str)], none, []⟩ -- law
def fns : List FnI := f0 :: f1 :: f2 :: f3 :: f4 :: f5 :: f6 :: f7 :: f8 :: f9 :: f10 :: f11 :: f12 :: f13 :: f14 :: f15 :: f16 :: f17 :: f18 :: f19 :: f20 :: f21 :: f22 :: f23 :: f24 :: f25 :: f26 :: f27 :: f28 :: f29 :: f30 :: []
def cGhostError : ClI := ⟨"GhostError", some [], false, [], [], [("GhostError" : Str)], none⟩
def cBadInput : ClI := ⟨"BadInput", some [], false, [], [], [("BadInput" : Str), ("GhostError" : Str)], none⟩
def cBadRatio : ClI := ⟨"BadRatio", some [("value" : Str)], false, [], [("value" : Str)], [("BadRatio" : Str), ("BadInput" : Str), ("GhostError" : Str)], some 0⟩
def cBadText : ClI := ⟨"BadText", some [("line" : Str), ("word" : Str)], false, [], [("line" : Str), ("word" : Str)], [("BadText" : Str), ("BadInput" : Str), ("GhostError" : Str)], some 1⟩
def cRatio : ClI := ⟨"Ratio", none, false, [("read", .cm 6), ("__add__", .fn 7), ("__radd__", .fn 8), ("__sub__", .fn 9), ("__rsub__", .fn 10), ("__mul__", .fn 11), ("__rmul__", .fn 12), ("__neg__", .fn 13), ("over", .fn 14), ("below", .fn 15), ("at_most", .fn 16), ("__eq__", .fn 17), ("__bool__", .fn 18), ("__str__", .fn 19)], [("top" : Str), ("bottom" : Str)], [("Ratio" : Str)], some 5⟩
def glob : List (Str × GV) := ("GhostError", .cls cGhostError) :: ("BadInput", .cls cBadInput) :: ("BadRatio", .cls cBadRatio) :: ("BadText", .cls cBadText) :: ("FIGURES", .cst (.str "0123456789")) :: ("MOST_FIGURES", .cst (.int (30))) :: ("is_integer", .fn 2) :: ("common_divisor", .fn 3) :: ("number_of", .fn 4) :: ("Ratio", .cls cRatio) :: ("as_ratio", .fn 20) :: ("_law_pen", .fn 21) :: ("_law_draw", .fn 22) :: ("_law_pick", .fn 23) :: ("_law_heard", .fn 24) :: ("_law_integer", .fn 25) :: ("_law_is", .fn 26) :: ("_law_pair_right", .fn 27) :: ("_law_mixed_right", .fn 28) :: ("_law_wrong_right", .fn 29) :: ("law", .fn 30) :: []
def kws : List KwI := (⟨5, 1, [("bottom" : Str), ("top" : Str)], [0, 2, 1]⟩ : KwI) :: []
def P : Pg := ⟨fns, glob, [(111, 11), (183, 22)], [], kws, [(188, "_law_heard_here")]⟩
theorem s0 : FnScope f0.N f0.allps f0.scope := ⟨rfl, rfl, rfl, by decide +kernel, rfl, by decide +kernel, by decide +kernel⟩
theorem b0 : BindF f0 := ⟨fun _ _ _ _ _ _ _ us hl => match us, hl with | [_, _], _ => rfl, fun n _ _ nd => absurd rfl nd⟩
theorem s1 : FnScope f1.N f1.allps f1.scope := ⟨rfl, rfl, rfl, by decide +kernel, rfl, by decide +kernel, by decide +kernel⟩
theorem b1 : BindF f1 := ⟨fun _ _ _ _ _ _ _ us hl => match us, hl with | [_, _, _], _ => rfl, fun n _ _ nd => absurd rfl nd⟩
theorem s2 : FnScope f2.N f2.allps f2.scope := ⟨rfl, rfl, rfl, by decide +kernel, rfl, by decide +kernel, by decide +kernel⟩
theorem b2 : BindF f2 := ⟨fun _ _ _ _ _ _ _ us hl => match us, hl with | [_], _ => rfl, fun n _ _ nd => absurd rfl nd⟩
theorem s3 : FnScope f3.N f3.allps f3.scope := ⟨rfl, rfl, rfl, by decide +kernel, rfl, by decide +kernel, by decide +kernel⟩
theorem b3 : BindF f3 := ⟨fun _ _ _ _ _ _ _ us hl => match us, hl with | [_, _], _ => rfl, fun n _ _ nd => absurd rfl nd⟩
theorem s4 : FnScope f4.N f4.allps f4.scope := ⟨rfl, rfl, rfl, by decide +kernel, rfl, by decide +kernel, by decide +kernel⟩
theorem b4 : BindF f4 := ⟨fun _ _ _ _ _ _ _ us hl => match us, hl with | [_], _ => rfl, fun n _ _ nd => absurd rfl nd⟩
theorem s5 : FnScope f5.N f5.allps f5.scope := ⟨rfl, rfl, rfl, by decide +kernel, rfl, by decide +kernel, by decide +kernel⟩
theorem b5 : BindF f5 := ⟨fun e => (by cases e), fun n h1 h2 _ T kV doc pm an cdv ct us its hu hi => by
  have h1 : n ≤ 3 := h1
  have h2 : 3 ≤ n + 1 := h2
  rcases (show n = 2 ∨ n = 3 from by omega) with e | e
  · subst e
    exact match us, hu, its, hi with | [_, _], _, [_], _ => ⟨_, rfl, rfl⟩
  · subst e
    exact match us, hu, its, hi with | [_, _, _], _, [_], _ => ⟨_, rfl, rfl⟩⟩
theorem s6 : FnScope f6.N f6.allps f6.scope := ⟨rfl, rfl, rfl, by decide +kernel, rfl, by decide +kernel, by decide +kernel⟩
theorem b6 : BindF f6 := ⟨fun _ _ _ _ _ _ _ us hl => match us, hl with | [_, _], _ => rfl, fun n _ _ nd => absurd rfl nd⟩
theorem s7 : FnScope f7.N f7.allps f7.scope := ⟨rfl, rfl, rfl, by decide +kernel, rfl, by decide +kernel, by decide +kernel⟩
theorem b7 : BindF f7 := ⟨fun _ _ _ _ _ _ _ us hl => match us, hl with | [_, _], _ => rfl, fun n _ _ nd => absurd rfl nd⟩
theorem s8 : FnScope f8.N f8.allps f8.scope := ⟨rfl, rfl, rfl, by decide +kernel, rfl, by decide +kernel, by decide +kernel⟩
theorem b8 : BindF f8 := ⟨fun _ _ _ _ _ _ _ us hl => match us, hl with | [_, _], _ => rfl, fun n _ _ nd => absurd rfl nd⟩
theorem s9 : FnScope f9.N f9.allps f9.scope := ⟨rfl, rfl, rfl, by decide +kernel, rfl, by decide +kernel, by decide +kernel⟩
theorem b9 : BindF f9 := ⟨fun _ _ _ _ _ _ _ us hl => match us, hl with | [_, _], _ => rfl, fun n _ _ nd => absurd rfl nd⟩
theorem s10 : FnScope f10.N f10.allps f10.scope := ⟨rfl, rfl, rfl, by decide +kernel, rfl, by decide +kernel, by decide +kernel⟩
theorem b10 : BindF f10 := ⟨fun _ _ _ _ _ _ _ us hl => match us, hl with | [_, _], _ => rfl, fun n _ _ nd => absurd rfl nd⟩
theorem s11 : FnScope f11.N f11.allps f11.scope := ⟨rfl, rfl, rfl, by decide +kernel, rfl, by decide +kernel, by decide +kernel⟩
theorem b11 : BindF f11 := ⟨fun _ _ _ _ _ _ _ us hl => match us, hl with | [_, _], _ => rfl, fun n _ _ nd => absurd rfl nd⟩
theorem s12 : FnScope f12.N f12.allps f12.scope := ⟨rfl, rfl, rfl, by decide +kernel, rfl, by decide +kernel, by decide +kernel⟩
theorem b12 : BindF f12 := ⟨fun _ _ _ _ _ _ _ us hl => match us, hl with | [_, _], _ => rfl, fun n _ _ nd => absurd rfl nd⟩
theorem s13 : FnScope f13.N f13.allps f13.scope := ⟨rfl, rfl, rfl, by decide +kernel, rfl, by decide +kernel, by decide +kernel⟩
theorem b13 : BindF f13 := ⟨fun _ _ _ _ _ _ _ us hl => match us, hl with | [_], _ => rfl, fun n _ _ nd => absurd rfl nd⟩
theorem s14 : FnScope f14.N f14.allps f14.scope := ⟨rfl, rfl, rfl, by decide +kernel, rfl, by decide +kernel, by decide +kernel⟩
theorem b14 : BindF f14 := ⟨fun _ _ _ _ _ _ _ us hl => match us, hl with | [_, _], _ => rfl, fun n _ _ nd => absurd rfl nd⟩
theorem s15 : FnScope f15.N f15.allps f15.scope := ⟨rfl, rfl, rfl, by decide +kernel, rfl, by decide +kernel, by decide +kernel⟩
theorem b15 : BindF f15 := ⟨fun _ _ _ _ _ _ _ us hl => match us, hl with | [_, _], _ => rfl, fun n _ _ nd => absurd rfl nd⟩
theorem s16 : FnScope f16.N f16.allps f16.scope := ⟨rfl, rfl, rfl, by decide +kernel, rfl, by decide +kernel, by decide +kernel⟩
theorem b16 : BindF f16 := ⟨fun _ _ _ _ _ _ _ us hl => match us, hl with | [_, _], _ => rfl, fun n _ _ nd => absurd rfl nd⟩
theorem s17 : FnScope f17.N f17.allps f17.scope := ⟨rfl, rfl, rfl, by decide +kernel, rfl, by decide +kernel, by decide +kernel⟩
theorem b17 : BindF f17 := ⟨fun _ _ _ _ _ _ _ us hl => match us, hl with | [_, _], _ => rfl, fun n _ _ nd => absurd rfl nd⟩
theorem s18 : FnScope f18.N f18.allps f18.scope := ⟨rfl, rfl, rfl, by decide +kernel, rfl, by decide +kernel, by decide +kernel⟩
theorem b18 : BindF f18 := ⟨fun _ _ _ _ _ _ _ us hl => match us, hl with | [_], _ => rfl, fun n _ _ nd => absurd rfl nd⟩
theorem s19 : FnScope f19.N f19.allps f19.scope := ⟨rfl, rfl, rfl, by decide +kernel, rfl, by decide +kernel, by decide +kernel⟩
theorem b19 : BindF f19 := ⟨fun _ _ _ _ _ _ _ us hl => match us, hl with | [_], _ => rfl, fun n _ _ nd => absurd rfl nd⟩
theorem s20 : FnScope f20.N f20.allps f20.scope := ⟨rfl, rfl, rfl, by decide +kernel, rfl, by decide +kernel, by decide +kernel⟩
theorem b20 : BindF f20 := ⟨fun _ _ _ _ _ _ _ us hl => match us, hl with | [_], _ => rfl, fun n _ _ nd => absurd rfl nd⟩
theorem s21 : FnScope f21.N f21.allps f21.scope := ⟨rfl, rfl, rfl, by decide +kernel, rfl, by decide +kernel, by decide +kernel⟩
theorem b21 : BindF f21 := ⟨fun _ _ _ _ _ _ _ us hl => match us, hl with | [_], _ => rfl, fun n _ _ nd => absurd rfl nd⟩
theorem s22 : FnScope f22.N f22.allps f22.scope := ⟨rfl, rfl, rfl, by decide +kernel, rfl, by decide +kernel, by decide +kernel⟩
theorem b22 : BindF f22 := ⟨fun _ _ _ _ _ _ _ us hl => match us, hl with | [_, _], _ => rfl, fun n _ _ nd => absurd rfl nd⟩
theorem s23 : FnScope f23.N f23.allps f23.scope := ⟨rfl, rfl, rfl, by decide +kernel, rfl, by decide +kernel, by decide +kernel⟩
theorem b23 : BindF f23 := ⟨fun _ _ _ _ _ _ _ us hl => match us, hl with | [_, _], _ => rfl, fun n _ _ nd => absurd rfl nd⟩
theorem s24 : FnScope f24.N f24.allps f24.scope := ⟨rfl, rfl, rfl, by decide +kernel, rfl, by decide +kernel, by decide +kernel⟩
theorem b24 : BindF f24 := ⟨fun _ _ _ _ _ _ _ us hl => match us, hl with | [_], _ => rfl, fun n _ _ nd => absurd rfl nd⟩
theorem s25 : FnScope f25.N f25.allps f25.scope := ⟨rfl, rfl, rfl, by decide +kernel, rfl, by decide +kernel, by decide +kernel⟩
theorem b25 : BindF f25 := ⟨fun _ _ _ _ _ _ _ us hl => match us, hl with | [_], _ => rfl, fun n _ _ nd => absurd rfl nd⟩
theorem s26 : FnScope f26.N f26.allps f26.scope := ⟨rfl, rfl, rfl, by decide +kernel, rfl, by decide +kernel, by decide +kernel⟩
theorem b26 : BindF f26 := ⟨fun _ _ _ _ _ _ _ us hl => match us, hl with | [_, _, _], _ => rfl, fun n _ _ nd => absurd rfl nd⟩
theorem s27 : FnScope f27.N f27.allps f27.scope := ⟨rfl, rfl, rfl, by decide +kernel, rfl, by decide +kernel, by decide +kernel⟩
theorem b27 : BindF f27 := ⟨fun _ _ _ _ _ _ _ us hl => match us, hl with | [_, _], _ => rfl, fun n _ _ nd => absurd rfl nd⟩
theorem s28 : FnScope f28.N f28.allps f28.scope := ⟨rfl, rfl, rfl, by decide +kernel, rfl, by decide +kernel, by decide +kernel⟩
theorem b28 : BindF f28 := ⟨fun _ _ _ _ _ _ _ us hl => match us, hl with | [_, _], _ => rfl, fun n _ _ nd => absurd rfl nd⟩
theorem s29 : FnScope f29.N f29.allps f29.scope := ⟨rfl, rfl, rfl, by decide +kernel, rfl, by decide +kernel, by decide +kernel⟩
theorem b29 : BindF f29 := ⟨fun _ _ _ _ _ _ _ us hl => match us, hl with | [_], _ => rfl, fun n _ _ nd => absurd rfl nd⟩
theorem s30 : FnScope f30.N f30.allps f30.scope := ⟨rfl, rfl, rfl, by decide +kernel, rfl, by decide +kernel, by decide +kernel⟩
theorem b30 : BindF f30 := ⟨fun _ _ _ _ _ _ _ us hl => match us, hl with | [_], _ => rfl, fun n _ _ nd => absurd rfl nd⟩
theorem scopes : ∀ (i : Nat) (f : FnI), P.fns[i]? = some f → QF f := allF (l := fns) (allF_mk (qf s0 b0) <| allF_mk (qf s1 b1) <| allF_mk (qf s2 b2) <| allF_mk (qf s3 b3) <| allF_mk (qf s4 b4) <| allF_mk (qf s5 b5) <| allF_mk (qf s6 b6) <| allF_mk (qf s7 b7) <| allF_mk (qf s8 b8) <| allF_mk (qf s9 b9) <| allF_mk (qf s10 b10) <| allF_mk (qf s11 b11) <| allF_mk (qf s12 b12) <| allF_mk (qf s13 b13) <| allF_mk (qf s14 b14) <| allF_mk (qf s15 b15) <| allF_mk (qf s16 b16) <| allF_mk (qf s17 b17) <| allF_mk (qf s18 b18) <| allF_mk (qf s19 b19) <| allF_mk (qf s20 b20) <| allF_mk (qf s21 b21) <| allF_mk (qf s22 b22) <| allF_mk (qf s23 b23) <| allF_mk (qf s24 b24) <| allF_mk (qf s25 b25) <| allF_mk (qf s26 b26) <| allF_mk (qf s27 b27) <| allF_mk (qf s28 b28) <| allF_mk (qf s29 b29) <| allF_mk (qf s30 b30) <| trivial)
theorem kw0 : KwF f5 1 [("bottom" : Str), ("top" : Str)] [0, 2, 1] := ⟨rfl, by decide, rfl, by decide, fun e => (by cases e), fun _ _ _ _ _ _ _ _ us ws its h1 h2 h3 => match us, ws, its, h1, h2, h3 with | [_], [_, _], [_], _, _, _ => ⟨_, rfl, rfl⟩⟩
theorem kwOk : ∀ e, e ∈ P.kws → QW P e := allF_in (l := P.kws) (allF_mk ⟨f5, rfl, kw0⟩ <| trivial)
def loose : List Str := [("GhostError" : Str), ("BadInput" : Str), ("BadRatio" : Str), ("BadText" : Str), ("FIGURES" : Str), ("MOST_FIGURES" : Str), ("is_integer" : Str), ("common_divisor" : Str), ("number_of" : Str), ("Ratio" : Str), ("as_ratio" : Str), ("_law_pen" : Str), ("_law_draw" : Str), ("_law_pick" : Str), ("_law_heard" : Str), ("_law_integer" : Str), ("_law_is" : Str), ("_law_pair_right" : Str), ("_law_mixed_right" : Str), ("_law_wrong_right" : Str)]
abbrev R : PySem.W.OpenRow := PySem.W.OpenLaw.row PySem.Challenge.rw_ghosttakes_k43_fractions_reckoned
def ob (s : PySem.W.SharedT) : AlP := obsP 6 P (HandSHeadRun.getT s)
theorem ob_eq (s : PySem.W.SharedT) : ob s = (hookP 6 P).obs s.abs := obsP_eq (HandSHeadRun.getT_eq s)
abbrev steps : Nat := 60000
theorem run (w : World) : HandSHeadRun.RunEq R (PySem.W.view R.prog [23]) (hookP 6 P) ob steps loose w := by
  intro os
  kernel_rfl
end Gk43
-- GtH_k43
namespace Gk43
open PySem L2 G
/-- BadRatio.__init__ -/
noncomputable def h0 (call : CallM) (p0 p1 : T) : M T := fun s => outR ((seqS (fun env s => runE (getV env 1) env s fun v1 s2 => runE (noX (getV env 0)) env s2 fun x3 s4 => runE (noX (setAttrM P ("value" : Str) v1 x3)) env s4 fun _ s5 => .nx env s5) (fun env s => .nx env s)) [some p0, some p1] s)
theorem h0_ok (k : Nat) (p0 p1 : T) (s : S) : callG P (cmpO P) (k + 1) none 0 [p0, p1] s = h0 (callF P (cmpO P) k) p0 p1 s := by kernel_rfl
/-- BadText.__init__ -/
noncomputable def h1 (call : CallM) (p0 p1 p2 : T) : M T := fun s => outR ((seqS (fun env s => runE (getV env 1) env s fun v1 s2 => runE (noX (getV env 0)) env s2 fun x3 s4 => runE (noX (setAttrM P ("line" : Str) v1 x3)) env s4 fun _ s5 => .nx env s5) (seqS (fun env s => runE (getV env 2) env s fun v6 s7 => runE (noX (getV env 0)) env s7 fun x8 s9 => runE (noX (setAttrM P ("word" : Str) v6 x8)) env s9 fun _ s10 => .nx env s10) (fun env s => .nx env s))) [some p0, some p1, some p2] s)
theorem h1_ok (k : Nat) (p0 p1 p2 : T) (s : S) : callG P (cmpO P) (k + 1) none 1 [p0, p1, p2] s = h1 (callF P (cmpO P) k) p0 p1 p2 s := by kernel_rfl
/-- is_integer -/
noncomputable def h2 (call : CallM) (p0 : T) : M T := fun s => outR ((seqS (fun env s => runE (bnd (bnd (bnd (bnd (getV env 0) fun x4 => bnd (bnd (ret (.ty "int")) fun x6 => bnd (ret []) fun a7 => ret (x6 :: a7)) fun a5 => ret (x4 :: a5)) fun a3 => noX (bcallB P false .isi a3)) fun x1 => bnd (noX (truth x1)) fun b2 => if b2 = true then (bnd (bnd (bnd (getV env 0) fun x11 => bnd (bnd (ret (.ty "bool")) fun x13 => bnd (ret []) fun a14 => ret (x13 :: a14)) fun a12 => ret (x11 :: a12)) fun a10 => noX (bcallB P false .isi a10)) fun x8 => bnd (noX (truth x8)) fun b9 => ret (.bl (!b9))) else ret x1) (frzM false)) env s fun v0 s1 => .rt v0 s1) (fun env s => .nx env s)) [some p0] s)
theorem h2_ok (k : Nat) (p0 : T) (s : S) : callG P (cmpO P) (k + 1) none 2 [p0] s = h2 (callF P (cmpO P) k) p0 s := by kernel_rfl
noncomputable def h3_b0_c (call : CallM) : En → M Bool := fun env => (bnd (bnd (getV env 1) fun x1 => bnd (ret (.int (0) : T)) fun x2 => noX (cmpop .Gt x1 x2)) asBool)
noncomputable def h3_b0 (call : CallM) : MS := (seqS (fun env s => runE (bnd (bnd (getV env 1) fun x5 => bnd (bnd (bnd (getV env 0) fun x9 => bnd (getV env 1) fun x10 => binO P call .Mod x9 x10) fun x7 => bnd (ret []) fun a8 => ret (x7 :: a8)) fun a6 => ret (x5 :: a6)) tupM) env s fun v3 s4 => bindS (bindTup [0, 1]) v3 env s4) (fun env s => .nx env s))
/-- common_divisor -/
noncomputable def h3 (call : CallM) (p0 p1 : T) : M T := fun s => outR ((seqS (whileS (h3_b0_c call) (h3_b0 call) (2 ^ 200)) (seqS (fun env s => runE (bnd (getV env 0) (frzM false)) env s fun v0 s1 => .rt v0 s1) (fun env s => .nx env s))) [some p0, some p1] s)
theorem h3_ok (k : Nat) (p0 p1 : T) (s : S) : callG P (cmpO P) (k + 1) none 3 [p0, p1] s = h3 (callF P (cmpO P) k) p0 p1 s := by kernel_rfl
/-- number_of -/
noncomputable def h4 (call : CallM) (p0 : T) : M T := fun s => outR ((seqS (fun env s => runE (bnd (bnd (bnd (bnd (ret (.int (1) : T)) fun x4 => bnd (bnd (bnd (getV env 0) fun x10 => bnd (ret []) fun a11 => ret (x10 :: a11)) fun a9 => noX (bcallO P call false .len a9)) fun x5 => bnd (noX (cmpop .LtE x4 x5)) fun r6 => bnd (asBool r6) fun k7 => if k7 then (bnd (ret (.int (30) : T)) fun x8 => noX (cmpop .LtE x5 x8)) else ret (.bl false)) asBool) fun b3 => ret (!b3)) fun b2 => if b2 = false then (bnd (bnd (compS [1] false (fun env => (bnd (getV env 0) fixM)) (bindN 1) (fun env => (bnd (bnd (getV env 1) fun x14 => bnd (ret (.str "0123456789" : T)) fun x15 => noX (cmpop .NotIn x14 x15)) asBool)) (fun env => (getV env 1)) env) fun x12 => bnd (bnd (ret []) fun l16 => lstM false l16) fun x13 => noX (cmpO P call .NotEq x12 x13)) asBool) else ret b2) env s fun t1 s1 => if t1 then (seqS (fun env s => runE (bnd (ret (.non : T)) (frzM false)) env s fun v0 s1 => .rt v0 s1) (fun env s => .nx env s)) env s1 else (fun env s => .nx env s) env s1) (seqS (fun env s => runE (bnd (bnd (bnd (bnd (bnd (bnd (bnd (getV env 0) fun x22 => bnd (ret []) fun a23 => ret (x22 :: a23)) fun a21 => noX (bcallO P call false .len a21)) fun x19 => bnd (ret (.int (1) : T)) fun x20 => noX (cmpop .Gt x19 x20)) asBool) fun b18 => if b18 = true then (bnd (bnd (bnd (getV env 0) fun x26 => bnd (ret (.int (0) : T)) fun x27 => ixO P call x26 x27) fun x24 => bnd (ret (.str "0" : T)) fun x25 => noX (cmpO P call .Eq x24 x25)) asBool) else ret b18) fun t17 => if t17 then (ret (.non : T)) else (bnd (bnd (getV env 0) fun x29 => bnd (ret []) fun a30 => ret (x29 :: a30)) fun a28 => noX (bcallB P false .int a28))) (frzM false)) env s fun v0 s1 => .rt v0 s1) (fun env s => .nx env s))) [some p0, none] s)
theorem h4_ok (k : Nat) (p0 : T) (s : S) : callG P (cmpO P) (k + 1) none 4 [p0] s = h4 (callF P (cmpO P) k) p0 s := by kernel_rfl
noncomputable def h5_b0 (call : CallM) : MS := (seqS (fun env s => runE (bnd (bnd (bnd (bnd (getV env 3) fun x5 => bnd (ret []) fun a6 => ret (x5 :: a6)) fun a4 => call 2 a4) fun x3 => noX (truth x3)) fun b2 => ret (!b2)) env s fun t1 s1 => if t1 then (seqS (fun env s => runE (bnd (getV env 3) fun x7 => bnd (ret []) fun a8 => ret (x7 :: a8)) env s fun ts s1 => if [("value" : Str)].length = ts.length then .ex ("BadRatio" : Str) [("value" : Str)].reverse ts.reverse env s1 else .bad) (fun env s => .nx env s)) env s1 else (fun env s => .nx env s) env s1) (fun env s => .nx env s))
/-- Ratio.__init__ -/
noncomputable def h5 (call : CallM) (p0 p1 p2 : T) : M T := fun s => outR ((seqS (fun env s => runE (bnd (bnd (bnd (getV env 1) fun x10 => bnd (bnd (getV env 2) fun x12 => bnd (ret []) fun a13 => ret (x12 :: a13)) fun a11 => ret (x10 :: a11)) fun l9 => tupM l9) fixM) env s fun ts s1 => forS (bindN 3) (h5_b0 call) ts env s1) (seqS (fun env s => runE (bnd (bnd (getV env 2) fun x15 => bnd (ret (.int (0) : T)) fun x16 => noX (cmpO P call .Eq x15 x16)) asBool) env s fun t14 s1 => if t14 then (seqS (fun env s => runE (bnd (ret (.int (0) : T)) fun x17 => bnd (ret []) fun a18 => ret (x17 :: a18)) env s fun ts s1 => if [("value" : Str)].length = ts.length then .ex ("BadRatio" : Str) [("value" : Str)].reverse ts.reverse env s1 else .bad) (fun env s => .nx env s)) env s1 else (fun env s => .nx env s) env s1) (seqS (fun env s => runE (bnd (bnd (bnd (bnd (getV env 2) fun x25 => bnd (ret []) fun a26 => ret (x25 :: a26)) fun a24 => noX (bcallB P false .abs a24)) fun x22 => bnd (bnd (bnd (bnd (getV env 1) fun x30 => bnd (ret []) fun a31 => ret (x30 :: a31)) fun a29 => noX (bcallB P false .abs a29)) fun x27 => bnd (ret []) fun a28 => ret (x27 :: a28)) fun a23 => ret (x22 :: a23)) fun a21 => call 3 a21) env s fun v19 s20 => .nx (env.set 4 (some v19)) s20) (seqS (fun env s => runE (bnd (bnd (bnd (getV env 2) fun x35 => bnd (ret (.int (0) : T)) fun x36 => noX (cmpop .Lt x35 x36)) asBool) fun t34 => if t34 then (bnd (ret (.int (1) : T)) fun x37 => negO P call x37) else (ret (.int (1) : T))) env s fun v32 s33 => .nx (env.set 5 (some v32)) s33) (seqS (fun env s => runE (bnd (bnd (getV env 5) fun x42 => bnd (getV env 1) fun x43 => binO P call .Mult x42 x43) fun x40 => bnd (getV env 4) fun x41 => binO P call .FloorDiv x40 x41) env s fun v38 s39 => runE (noX (getV env 0)) env s39 fun x44 s45 => runE (noX (setAttrM P ("top" : Str) v38 x44)) env s45 fun _ s46 => .nx env s46) (seqS (fun env s => runE (bnd (bnd (getV env 5) fun x51 => bnd (getV env 2) fun x52 => binO P call .Mult x51 x52) fun x49 => bnd (getV env 4) fun x50 => binO P call .FloorDiv x49 x50) env s fun v47 s48 => runE (noX (getV env 0)) env s48 fun x53 s54 => runE (noX (setAttrM P ("bottom" : Str) v47 x53)) env s54 fun _ s55 => .nx env s55) (fun env s => .nx env s))))))) [some p0, some p1, some p2, none, none, none] s)
theorem h5_ok (k : Nat) (p0 p1 p2 : T) (s : S) : callG P (cmpO P) (k + 1) none 5 [p0, p1, p2] s = h5 (callF P (cmpO P) k) p0 p1 p2 s := by kernel_rfl
/-- Ratio.read -/
noncomputable def h6 (call : CallM) (p0 p1 : T) : M T := fun s => outR ((seqS (fun env s => runE (bnd (bnd (bnd (bnd (getV env 1) fun x5 => bnd (bnd (ret (.ty "str")) fun x7 => bnd (ret []) fun a8 => ret (x7 :: a8)) fun a6 => ret (x5 :: a6)) fun a4 => noX (bcallB P false .isi a4)) fun x3 => noX (truth x3)) fun b2 => ret (!b2)) env s fun t1 s1 => if t1 then (seqS (fun env s => runE (bnd (ret (.int (0) : T)) fun x9 => bnd (bnd (ret (.int (0) : T)) fun x11 => bnd (ret []) fun a12 => ret (x11 :: a12)) fun a10 => ret (x9 :: a10)) env s fun ts s1 => if [("line" : Str), ("word" : Str)].length = ts.length then .ex ("BadText" : Str) [("line" : Str), ("word" : Str)].reverse ts.reverse env s1 else .bad) (fun env s => .nx env s)) env s1 else (fun env s => .nx env s) env s1) (seqS (fun env s => runE (bnd (bnd (getV env 1) fun x17 => bnd (ret none) fun l18 => bnd (bnd (ret (.int (1) : T)) fun x20 => toI x20) fun u19 => noX (sliceB false x17 l18 u19)) fun x15 => bnd (ret (.str "-" : T)) fun x16 => noX (cmpO P call .Eq x15 x16)) env s fun v13 s14 => .nx (env.set 2 (some v13)) s14) (seqS (fun env s => runE (bnd (bnd (getV env 1) fun x24 => bnd (bnd (bnd (bnd (getV env 2) fun x29 => bnd (ret []) fun a30 => ret (x29 :: a30)) fun a28 => noX (bcallB P false .int a28)) fun x27 => toI x27) fun l25 => bnd (ret none) fun u26 => noX (sliceB false x24 l25 u26)) fun x23 => methM ("split" : Str) x23 (bnd (ret (.str "/" : T)) fun x31 => bnd (ret []) fun a32 => ret (x31 :: a32))) env s fun v21 s22 => .nx (env.set 3 (some v21)) s22) (seqS (fun env s => runE (compS [8] false (fun env => (bnd (getV env 3) fixM)) (bindN 8) (fun env => ret true) (fun env => (bnd (bnd (getV env 8) fun x36 => bnd (ret []) fun a37 => ret (x36 :: a37)) fun a35 => call 4 a35)) env) env s fun v33 s34 => .nx (env.set 4 (some v33)) s34) (seqS (fun env s => runE (bnd (bnd (bnd (bnd (bnd (getV env 3) fun x43 => bnd (ret []) fun a44 => ret (x43 :: a44)) fun a42 => noX (bcallO P call false .len a42)) fun x40 => bnd (ret (.int (2) : T)) fun x41 => noX (cmpop .Gt x40 x41)) asBool) fun b39 => if b39 = false then (bnd (bnd (ret (.non : T)) fun x45 => bnd (getV env 4) fun x46 => noX (cmpop .In x45 x46)) asBool) else ret b39) env s fun t38 s1 => if t38 then (seqS (fun env s => runE (bnd (ret (.int (0) : T)) fun x47 => bnd (bnd (ret (.int (0) : T)) fun x49 => bnd (ret []) fun a50 => ret (x49 :: a50)) fun a48 => ret (x47 :: a48)) env s fun ts s1 => if [("line" : Str), ("word" : Str)].length = ts.length then .ex ("BadText" : Str) [("line" : Str), ("word" : Str)].reverse ts.reverse env s1 else .bad) (fun env s => .nx env s)) env s1 else (fun env s => .nx env s) env s1) (seqS (fun env s => runE (bnd (bnd (bnd (getV env 4) fun x55 => bnd (ret (.int (0) : T)) fun x56 => ixO P call x55 x56) fun x53 => bnd (bnd (bnd (bnd (bnd (bnd (bnd (getV env 4) fun x63 => bnd (ret []) fun a64 => ret (x63 :: a64)) fun a62 => noX (bcallO P call false .len a62)) fun x60 => bnd (ret (.int (2) : T)) fun x61 => noX (cmpO P call .Eq x60 x61)) asBool) fun t59 => if t59 then (bnd (getV env 4) fun x65 => bnd (ret (.int (1) : T)) fun x66 => ixO P call x65 x66) else (ret (.int (1) : T))) fun x57 => bnd (ret []) fun a58 => ret (x57 :: a58)) fun a54 => ret (x53 :: a54)) tupM) env s fun v51 s52 => bindS (bindTup [6, 7]) v51 env s52) (seqS (fun env s => runE (bnd (bnd (getV env 7) fun x68 => bnd (ret (.int (0) : T)) fun x69 => noX (cmpO P call .Eq x68 x69)) asBool) env s fun t67 s1 => if t67 then (seqS (fun env s => runE (bnd (ret (.int (0) : T)) fun x70 => bnd (bnd (ret (.int (0) : T)) fun x72 => bnd (ret []) fun a73 => ret (x72 :: a73)) fun a71 => ret (x70 :: a71)) env s fun ts s1 => if [("line" : Str), ("word" : Str)].length = ts.length then .ex ("BadText" : Str) [("line" : Str), ("word" : Str)].reverse ts.reverse env s1 else .bad) (fun env s => .nx env s)) env s1 else (fun env s => .nx env s) env s1) (seqS (fun env s => runE (bnd (getV env 0) fun x76 => if vOk P false x76 then bnd (bnd (bnd (bnd (getV env 2) fun x81 => noX (truth x81)) fun t80 => if t80 then (bnd (getV env 6) fun x82 => negO P call x82) else (getV env 6)) fun x78 => bnd (bnd (getV env 7) fun x83 => bnd (ret []) fun a84 => ret (x83 :: a84)) fun a79 => ret (x78 :: a79)) fun a77 => callV P call x76 a77 else bad) env s fun v74 s75 => .nx (env.set 5 (some v74)) s75) (seqS (fun env s => runE (bnd (bnd (bnd (bnd (getV env 5) fun x89 => bnd (ret []) fun a90 => ret (x89 :: a90)) fun a88 => noX (bcallO P call false .str a88)) fun x86 => bnd (getV env 1) fun x87 => noX (cmpO P call .NotEq x86 x87)) asBool) env s fun t85 s1 => if t85 then (seqS (fun env s => runE (bnd (ret (.int (0) : T)) fun x91 => bnd (bnd (ret (.int (0) : T)) fun x93 => bnd (ret []) fun a94 => ret (x93 :: a94)) fun a92 => ret (x91 :: a92)) env s fun ts s1 => if [("line" : Str), ("word" : Str)].length = ts.length then .ex ("BadText" : Str) [("line" : Str), ("word" : Str)].reverse ts.reverse env s1 else .bad) (fun env s => .nx env s)) env s1 else (fun env s => .nx env s) env s1) (seqS (fun env s => runE (bnd (getV env 5) (frzM false)) env s fun v0 s1 => .rt v0 s1) (fun env s => .nx env s))))))))))) [some p0, some p1, none, none, none, none, none, none, none] s)
theorem h6_ok (k : Nat) (p0 p1 : T) (s : S) : callG P (cmpO P) (k + 1) none 6 [p0, p1] s = h6 (callF P (cmpO P) k) p0 p1 s := by kernel_rfl
/-- Ratio.__add__ -/
noncomputable def h7 (call : CallM) (p0 p1 : T) : M T := fun s => outR ((seqS (fun env s => runE (bnd (bnd (getV env 1) fun x4 => bnd (ret []) fun a5 => ret (x4 :: a5)) fun a3 => call 20 a3) env s fun v1 s2 => .nx (env.set 1 (some v1)) s2) (seqS (fun env s => runE (bnd (bnd (bnd (bnd (bnd (bnd (getV env 0) fun x13 => attrM P call ("top" : Str) x13) fun x11 => bnd (bnd (getV env 1) fun x14 => attrM P call ("bottom" : Str) x14) fun x12 => binO P call .Mult x11 x12) fun x9 => bnd (bnd (bnd (getV env 1) fun x17 => attrM P call ("top" : Str) x17) fun x15 => bnd (bnd (getV env 0) fun x18 => attrM P call ("bottom" : Str) x18) fun x16 => binO P call .Mult x15 x16) fun x10 => binO P call .Add x9 x10) fun x7 => bnd (bnd (bnd (bnd (getV env 0) fun x23 => attrM P call ("bottom" : Str) x23) fun x21 => bnd (bnd (getV env 1) fun x24 => attrM P call ("bottom" : Str) x24) fun x22 => binO P call .Mult x21 x22) fun x19 => bnd (ret []) fun a20 => ret (x19 :: a20)) fun a8 => ret (x7 :: a8)) fun a6 => mkM call ("Ratio" : Str) cRatio a6) (frzM false)) env s fun v0 s1 => .rt v0 s1) (fun env s => .nx env s))) [some p0, some p1] s)
theorem h7_ok (k : Nat) (p0 p1 : T) (s : S) : callG P (cmpO P) (k + 1) none 7 [p0, p1] s = h7 (callF P (cmpO P) k) p0 p1 s := by kernel_rfl
/-- Ratio.__radd__ -/
noncomputable def h8 (call : CallM) (p0 p1 : T) : M T := fun s => outR ((seqS (fun env s => runE (bnd (bnd (getV env 0) fun x1 => bnd (getV env 1) fun x2 => binO P call .Add x1 x2) (frzM false)) env s fun v0 s1 => .rt v0 s1) (fun env s => .nx env s)) [some p0, some p1] s)
theorem h8_ok (k : Nat) (p0 p1 : T) (s : S) : callG P (cmpO P) (k + 1) none 8 [p0, p1] s = h8 (callF P (cmpO P) k) p0 p1 s := by kernel_rfl
/-- Ratio.__sub__ -/
noncomputable def h9 (call : CallM) (p0 p1 : T) : M T := fun s => outR ((seqS (fun env s => runE (bnd (bnd (getV env 0) fun x1 => bnd (bnd (bnd (bnd (getV env 1) fun x5 => bnd (ret []) fun a6 => ret (x5 :: a6)) fun a4 => call 20 a4) fun x3 => negO P call x3) fun x2 => binO P call .Add x1 x2) (frzM false)) env s fun v0 s1 => .rt v0 s1) (fun env s => .nx env s)) [some p0, some p1] s)
theorem h9_ok (k : Nat) (p0 p1 : T) (s : S) : callG P (cmpO P) (k + 1) none 9 [p0, p1] s = h9 (callF P (cmpO P) k) p0 p1 s := by kernel_rfl
/-- Ratio.__rsub__ -/
noncomputable def h10 (call : CallM) (p0 p1 : T) : M T := fun s => outR ((seqS (fun env s => runE (bnd (bnd (bnd (bnd (getV env 1) fun x4 => bnd (ret []) fun a5 => ret (x4 :: a5)) fun a3 => call 20 a3) fun x1 => bnd (bnd (getV env 0) fun x6 => negO P call x6) fun x2 => binO P call .Add x1 x2) (frzM false)) env s fun v0 s1 => .rt v0 s1) (fun env s => .nx env s)) [some p0, some p1] s)
theorem h10_ok (k : Nat) (p0 p1 : T) (s : S) : callG P (cmpO P) (k + 1) none 10 [p0, p1] s = h10 (callF P (cmpO P) k) p0 p1 s := by kernel_rfl
/-- Ratio.__mul__ -/
noncomputable def h11 (call : CallM) (p0 p1 : T) : M T := fun s => outR ((seqS (fun env s => runE (bnd (bnd (getV env 1) fun x4 => bnd (ret []) fun a5 => ret (x4 :: a5)) fun a3 => call 20 a3) env s fun v1 s2 => .nx (env.set 1 (some v1)) s2) (seqS (fun env s => runE (bnd (bnd (bnd (bnd (bnd (getV env 0) fun x11 => attrM P call ("top" : Str) x11) fun x9 => bnd (bnd (getV env 1) fun x12 => attrM P call ("top" : Str) x12) fun x10 => binO P call .Mult x9 x10) fun x7 => bnd (bnd (bnd (bnd (getV env 0) fun x17 => attrM P call ("bottom" : Str) x17) fun x15 => bnd (bnd (getV env 1) fun x18 => attrM P call ("bottom" : Str) x18) fun x16 => binO P call .Mult x15 x16) fun x13 => bnd (ret []) fun a14 => ret (x13 :: a14)) fun a8 => ret (x7 :: a8)) fun a6 => mkM call ("Ratio" : Str) cRatio a6) (frzM false)) env s fun v0 s1 => .rt v0 s1) (fun env s => .nx env s))) [some p0, some p1] s)
theorem h11_ok (k : Nat) (p0 p1 : T) (s : S) : callG P (cmpO P) (k + 1) none 11 [p0, p1] s = h11 (callF P (cmpO P) k) p0 p1 s := by kernel_rfl
/-- Ratio.__rmul__ -/
noncomputable def h12 (call : CallM) (p0 p1 : T) : M T := fun s => outR ((seqS (fun env s => runE (bnd (bnd (getV env 0) fun x1 => bnd (getV env 1) fun x2 => binO P call .Mult x1 x2) (frzM false)) env s fun v0 s1 => .rt v0 s1) (fun env s => .nx env s)) [some p0, some p1] s)
theorem h12_ok (k : Nat) (p0 p1 : T) (s : S) : callG P (cmpO P) (k + 1) none 12 [p0, p1] s = h12 (callF P (cmpO P) k) p0 p1 s := by kernel_rfl
/-- Ratio.__neg__ -/
noncomputable def h13 (call : CallM) (p0 : T) : M T := fun s => outR ((seqS (fun env s => runE (bnd (bnd (bnd (bnd (bnd (getV env 0) fun x5 => attrM P call ("top" : Str) x5) fun x4 => negO P call x4) fun x2 => bnd (bnd (bnd (getV env 0) fun x8 => attrM P call ("bottom" : Str) x8) fun x6 => bnd (ret []) fun a7 => ret (x6 :: a7)) fun a3 => ret (x2 :: a3)) fun a1 => mkM call ("Ratio" : Str) cRatio a1) (frzM false)) env s fun v0 s1 => .rt v0 s1) (fun env s => .nx env s)) [some p0] s)
theorem h13_ok (k : Nat) (p0 : T) (s : S) : callG P (cmpO P) (k + 1) none 13 [p0] s = h13 (callF P (cmpO P) k) p0 s := by kernel_rfl
/-- Ratio.over -/
noncomputable def h14 (call : CallM) (p0 p1 : T) : M T := fun s => outR ((seqS (fun env s => runE (bnd (bnd (getV env 1) fun x4 => bnd (ret []) fun a5 => ret (x4 :: a5)) fun a3 => call 20 a3) env s fun v1 s2 => .nx (env.set 2 (some v1)) s2) (seqS (fun env s => runE (bnd (bnd (bnd (getV env 2) fun x9 => attrM P call ("top" : Str) x9) fun x7 => bnd (ret (.int (0) : T)) fun x8 => noX (cmpO P call .Eq x7 x8)) asBool) env s fun t6 s1 => if t6 then (seqS (fun env s => runE (bnd (getV env 1) fun x10 => bnd (ret []) fun a11 => ret (x10 :: a11)) env s fun ts s1 => if [("value" : Str)].length = ts.length then .ex ("BadRatio" : Str) [("value" : Str)].reverse ts.reverse env s1 else .bad) (fun env s => .nx env s)) env s1 else (fun env s => .nx env s) env s1) (seqS (fun env s => runE (bnd (bnd (bnd (bnd (bnd (getV env 0) fun x17 => attrM P call ("top" : Str) x17) fun x15 => bnd (bnd (getV env 2) fun x18 => attrM P call ("bottom" : Str) x18) fun x16 => binO P call .Mult x15 x16) fun x13 => bnd (bnd (bnd (bnd (getV env 0) fun x23 => attrM P call ("bottom" : Str) x23) fun x21 => bnd (bnd (getV env 2) fun x24 => attrM P call ("top" : Str) x24) fun x22 => binO P call .Mult x21 x22) fun x19 => bnd (ret []) fun a20 => ret (x19 :: a20)) fun a14 => ret (x13 :: a14)) fun a12 => mkM call ("Ratio" : Str) cRatio a12) (frzM false)) env s fun v0 s1 => .rt v0 s1) (fun env s => .nx env s)))) [some p0, some p1, none] s)
theorem h14_ok (k : Nat) (p0 p1 : T) (s : S) : callG P (cmpO P) (k + 1) none 14 [p0, p1] s = h14 (callF P (cmpO P) k) p0 p1 s := by kernel_rfl
/-- Ratio.below -/
noncomputable def h15 (call : CallM) (p0 p1 : T) : M T := fun s => outR ((seqS (fun env s => runE (bnd (bnd (getV env 1) fun x4 => bnd (ret []) fun a5 => ret (x4 :: a5)) fun a3 => call 20 a3) env s fun v1 s2 => .nx (env.set 1 (some v1)) s2) (seqS (fun env s => runE (bnd (bnd (bnd (bnd (getV env 0) fun x10 => attrM P call ("top" : Str) x10) fun x8 => bnd (bnd (getV env 1) fun x11 => attrM P call ("bottom" : Str) x11) fun x9 => binO P call .Mult x8 x9) fun x6 => bnd (bnd (bnd (getV env 1) fun x14 => attrM P call ("top" : Str) x14) fun x12 => bnd (bnd (getV env 0) fun x15 => attrM P call ("bottom" : Str) x15) fun x13 => binO P call .Mult x12 x13) fun x7 => noX (cmpop .Lt x6 x7)) (frzM false)) env s fun v0 s1 => .rt v0 s1) (fun env s => .nx env s))) [some p0, some p1] s)
theorem h15_ok (k : Nat) (p0 p1 : T) (s : S) : callG P (cmpO P) (k + 1) none 15 [p0, p1] s = h15 (callF P (cmpO P) k) p0 p1 s := by kernel_rfl
/-- Ratio.at_most -/
noncomputable def h16 (call : CallM) (p0 p1 : T) : M T := fun s => outR ((seqS (fun env s => runE (bnd (bnd (getV env 1) fun x4 => bnd (ret []) fun a5 => ret (x4 :: a5)) fun a3 => call 20 a3) env s fun v1 s2 => .nx (env.set 1 (some v1)) s2) (seqS (fun env s => runE (bnd (bnd (bnd (bnd (getV env 0) fun x10 => attrM P call ("top" : Str) x10) fun x8 => bnd (bnd (getV env 1) fun x11 => attrM P call ("bottom" : Str) x11) fun x9 => binO P call .Mult x8 x9) fun x6 => bnd (bnd (bnd (getV env 1) fun x14 => attrM P call ("top" : Str) x14) fun x12 => bnd (bnd (getV env 0) fun x15 => attrM P call ("bottom" : Str) x15) fun x13 => binO P call .Mult x12 x13) fun x7 => noX (cmpop .LtE x6 x7)) (frzM false)) env s fun v0 s1 => .rt v0 s1) (fun env s => .nx env s))) [some p0, some p1] s)
theorem h16_ok (k : Nat) (p0 p1 : T) (s : S) : callG P (cmpO P) (k + 1) none 16 [p0, p1] s = h16 (callF P (cmpO P) k) p0 p1 s := by kernel_rfl
/-- Ratio.__eq__ -/
noncomputable def h17 (call : CallM) (p0 p1 : T) : M T := fun s => outR ((seqS (fun env s => runE (bnd (bnd (bnd (bnd (getV env 1) fun x5 => bnd (bnd (ret (.glo ("Ratio" : Str))) fun x7 => bnd (ret []) fun a8 => ret (x7 :: a8)) fun a6 => ret (x5 :: a6)) fun a4 => noX (bcallB P false .isi a4)) fun x3 => noX (truth x3)) fun b2 => ret (!b2)) env s fun t1 s1 => if t1 then (seqS (fun env s => runE (bnd (bnd (bnd (bnd (getV env 1) fun x12 => bnd (ret []) fun a13 => ret (x12 :: a13)) fun a11 => call 2 a11) fun x9 => bnd (noX (truth x9)) fun b10 => if b10 = true then (bnd (bnd (bnd (getV env 0) fun x18 => attrM P call ("bottom" : Str) x18) fun x16 => bnd (ret (.int (1) : T)) fun x17 => noX (cmpO P call .Eq x16 x17)) fun x14 => bnd (noX (truth x14)) fun b15 => if b15 = true then (bnd (bnd (getV env 0) fun x21 => attrM P call ("top" : Str) x21) fun x19 => bnd (getV env 1) fun x20 => noX (cmpO P call .Eq x19 x20)) else ret x14) else ret x9) (frzM false)) env s fun v0 s1 => .rt v0 s1) (fun env s => .nx env s)) env s1 else (fun env s => .nx env s) env s1) (seqS (fun env s => runE (bnd (bnd (bnd (bnd (getV env 0) fun x26 => attrM P call ("top" : Str) x26) fun x24 => bnd (bnd (getV env 1) fun x27 => attrM P call ("top" : Str) x27) fun x25 => noX (cmpO P call .Eq x24 x25)) fun x22 => bnd (noX (truth x22)) fun b23 => if b23 = true then (bnd (bnd (getV env 0) fun x30 => attrM P call ("bottom" : Str) x30) fun x28 => bnd (bnd (getV env 1) fun x31 => attrM P call ("bottom" : Str) x31) fun x29 => noX (cmpO P call .Eq x28 x29)) else ret x22) (frzM false)) env s fun v0 s1 => .rt v0 s1) (fun env s => .nx env s))) [some p0, some p1] s)
theorem h17_ok (k : Nat) (p0 p1 : T) (s : S) : callG P (cmpO P) (k + 1) none 17 [p0, p1] s = h17 (callF P (cmpO P) k) p0 p1 s := by kernel_rfl
/-- Ratio.__bool__ -/
noncomputable def h18 (call : CallM) (p0 : T) : M T := fun s => outR ((seqS (fun env s => runE (bnd (bnd (bnd (bnd (getV env 0) fun x4 => attrM P call ("top" : Str) x4) fun x2 => bnd (ret []) fun a3 => ret (x2 :: a3)) fun a1 => noX (bcallO P call false .bool a1)) (frzM false)) env s fun v0 s1 => .rt v0 s1) (fun env s => .nx env s)) [some p0] s)
theorem h18_ok (k : Nat) (p0 : T) (s : S) : callG P (cmpO P) (k + 1) none 18 [p0] s = h18 (callF P (cmpO P) k) p0 s := by kernel_rfl
/-- Ratio.__str__ -/
noncomputable def h19 (call : CallM) (p0 : T) : M T := fun s => outR ((seqS (fun env s => runE (bnd (bnd (bnd (getV env 0) fun x4 => attrM P call ("bottom" : Str) x4) fun x2 => bnd (ret (.int (1) : T)) fun x3 => noX (cmpO P call .Eq x2 x3)) asBool) env s fun t1 s1 => if t1 then (seqS (fun env s => runE (bnd (bnd (bnd (bnd (getV env 0) fun x8 => attrM P call ("top" : Str) x8) fun x6 => bnd (ret []) fun a7 => ret (x6 :: a7)) fun a5 => noX (bcallO P call false .str a5)) (frzM false)) env s fun v0 s1 => .rt v0 s1) (fun env s => .nx env s)) env s1 else (fun env s => .nx env s) env s1) (seqS (fun env s => runE (bnd (bnd (joinS [(bnd (bnd (getV env 0) fun x11 => attrM P call ("top" : Str) x11) fun x9 => bnd (fmtM x9) fun x10 => ret (.str x10)), (ret (.str "/" : T)), (bnd (bnd (getV env 0) fun x14 => attrM P call ("bottom" : Str) x14) fun x12 => bnd (fmtM x12) fun x13 => ret (.str x13))] Str.empty) fun x15 => ret (.str x15)) (frzM false)) env s fun v0 s1 => .rt v0 s1) (fun env s => .nx env s))) [some p0] s)
theorem h19_ok (k : Nat) (p0 : T) (s : S) : callG P (cmpO P) (k + 1) none 19 [p0] s = h19 (callF P (cmpO P) k) p0 s := by kernel_rfl
/-- as_ratio -/
noncomputable def h20 (call : CallM) (p0 : T) : M T := fun s => outR ((seqS (fun env s => runE (bnd (bnd (bnd (bnd (bnd (getV env 0) fun x4 => bnd (bnd (ret (.glo ("Ratio" : Str))) fun x6 => bnd (ret []) fun a7 => ret (x6 :: a7)) fun a5 => ret (x4 :: a5)) fun a3 => noX (bcallB P false .isi a3)) fun x2 => noX (truth x2)) fun t1 => if t1 then (getV env 0) else (bnd (bnd (getV env 0) fun x9 => bnd (ret []) fun a10 => ret (x9 :: a10)) fun a8 => mkM call ("Ratio" : Str) cRatio a8)) (frzM false)) env s fun v0 s1 => .rt v0 s1) (fun env s => .nx env s)) [some p0] s)
theorem h20_ok (k : Nat) (p0 : T) (s : S) : callG P (cmpO P) (k + 1) none 20 [p0] s = h20 (callF P (cmpO P) k) p0 s := by kernel_rfl
/-- _law_pen -/
noncomputable def h21 (call : CallM) (p0 : T) : M T := fun s => outR ((seqS (fun env s => runE (bnd (bnd (bnd (bnd (bnd (bnd (getV env 0) fun x7 => bnd (ret none) fun l8 => bnd (bnd (ret (.int (63) : T)) fun x10 => toI x10) fun u9 => noX (sliceB false x7 l8 u9)) fun x5 => bnd (ret []) fun a6 => ret (x5 :: a6)) fun a4 => noX (bcallB P false .list a4)) fun x2 => bnd (bnd (ret (.int (0) : T)) fun x11 => bnd (bnd (ret (.int (0) : T)) fun x13 => bnd (ret []) fun a14 => ret (x13 :: a14)) fun a12 => ret (x11 :: a12)) fun a3 => ret (x2 :: a3)) fun l1 => lstM true l1) (frzM false)) env s fun v0 s1 => .rt v0 s1) (fun env s => .nx env s)) [some p0] s)
theorem h21_ok (k : Nat) (p0 : T) (s : S) : callG P (cmpO P) (k + 1) none 21 [p0] s = h21 (callF P (cmpO P) k) p0 s := by kernel_rfl
/-- _law_draw -/
noncomputable def h22 (call : CallM) (p0 p1 : T) : M T := fun s => outR ((seqS (fun env s => runE (bnd (bnd (bnd (getV env 0) fun x4 => bnd (ret (.int (2) : T)) fun x5 => ixO P call x4 x5) fun x2 => bnd (ret (.int (0) : T)) fun x3 => noX (cmpop .Gt x2 x3)) asBool) env s fun t1 s1 => if t1 then (seqS (fun env s => runE (bnd (bnd (bnd (bnd (getV env 0) fun x13 => bnd (ret (.int (2) : T)) fun x14 => ixO P call x13 x14) fun x11 => bnd (ret []) fun a12 => ret (x11 :: a12)) fun a10 => noX (bcallB P false .int a10)) fun x8 => bnd (getV env 1) fun x9 => binO P call .Mod x8 x9) env s fun v6 s7 => .nx (env.set 5 (some v6)) s7) (seqS (fun env s => runE (bnd (bnd (bnd (bnd (getV env 0) fun x22 => bnd (ret (.int (2) : T)) fun x23 => ixO P call x22 x23) fun x20 => bnd (ret []) fun a21 => ret (x20 :: a21)) fun a19 => noX (bcallB P false .int a19)) fun x17 => bnd (getV env 1) fun x18 => binO P call .FloorDiv x17 x18) env s fun v15 s16 => runE (noX (getV env 0)) env s16 fun x24 s26 => runE (noX (ret (.int (2) : T))) env s26 fun x25 s27 => runE (noX (setItemM v15 x24 x25)) env s27 fun _ s28 => .nx env s28) (seqS (fun env s => runE (bnd (getV env 5) (frzM false)) env s fun v0 s1 => .rt v0 s1) (fun env s => .nx env s)))) env s1 else (fun env s => .nx env s) env s1) (seqS (fun env s => runE (bnd (getV env 0) fun x31 => bnd (ret (.int (1) : T)) fun x32 => ixO P call x31 x32) env s fun v29 s30 => .nx (env.set 2 (some v29)) s30) (seqS (fun env s => runE (bnd (getV env 2) fun x35 => bnd (ret (.int (1) : T)) fun x36 => binO P call .Add x35 x36) env s fun v33 s34 => runE (noX (getV env 0)) env s34 fun x37 s39 => runE (noX (ret (.int (1) : T))) env s39 fun x38 s40 => runE (noX (setItemM v33 x37 x38)) env s40 fun _ s41 => .nx env s41) (seqS (fun env s => runE (bnd (bnd (ret (.int (91009) : T)) fun x46 => bnd (getV env 2) fun x47 => binO P call .Mult x46 x47) fun x44 => bnd (ret (.int (2003) : T)) fun x45 => binO P call .Add x44 x45) env s fun v42 s43 => .nx (env.set 3 (some v42)) s43) (seqS (fun env s => runE (bnd (bnd (bnd (getV env 0) fun x51 => bnd (ret (.int (0) : T)) fun x52 => ixO P call x51 x52) fun x49 => bnd (bnd (ret []) fun l53 => lstM false l53) fun x50 => noX (cmpO P call .NotEq x49 x50)) asBool) env s fun t48 s1 => if t48 then (seqS (fun env s => runE (bnd (bnd (getV env 0) fun x58 => bnd (ret (.int (0) : T)) fun x59 => ixO P call x58 x59) fun x56 => bnd (bnd (bnd (bnd (getV env 2) fun x63 => bnd (ret []) fun a64 => ret (x63 :: a64)) fun a62 => noX (bcallB P false .int a62)) fun x60 => bnd (bnd (bnd (bnd (getV env 0) fun x68 => bnd (ret (.int (0) : T)) fun x69 => ixO P call x68 x69) fun x66 => bnd (ret []) fun a67 => ret (x66 :: a67)) fun a65 => noX (bcallO P call false .len a65)) fun x61 => binO P call .Mod x60 x61) fun x57 => ixO P call x56 x57) env s fun v54 s55 => .nx (env.set 3 (some v54)) s55) (fun env s => .nx env s)) env s1 else (fun env s => .nx env s) env s1) (seqS (fun env s => runE (bnd (bnd (bnd (getV env 2) fun x72 => bnd (bnd (bnd (bnd (getV env 0) fun x77 => bnd (ret (.int (0) : T)) fun x78 => ixO P call x77 x78) fun x75 => bnd (ret []) fun a76 => ret (x75 :: a76)) fun a74 => noX (bcallO P call false .len a74)) fun x73 => noX (cmpop .Lt x72 x73)) asBool) fun b71 => if b71 = true then (bnd (bnd (bnd (bnd (getV env 3) fun x82 => bnd (ret []) fun a83 => ret (x82 :: a83)) fun a81 => noX (bcallB P false .abs a81)) fun x79 => bnd (bnd (ret (.int (10) : T)) fun x84 => bnd (ret (.int (18) : T)) fun x85 => binO P call .Pow x84 x85) fun x80 => noX (cmpop .GtE x79 x80)) asBool) else ret b71) env s fun t70 s1 => if t70 then (seqS (fun env s => runE (bnd (bnd (ret (.int (2) : T)) fun x90 => bnd (bnd (bnd (bnd (getV env 3) fun x95 => bnd (ret []) fun a96 => ret (x95 :: a96)) fun a94 => noX (bcallB P false .abs a94)) fun x92 => bnd (bnd (ret (.int (10) : T)) fun x97 => bnd (ret (.int (18) : T)) fun x98 => binO P call .Pow x97 x98) fun x93 => binO P call .Sub x92 x93) fun x91 => binO P call .Mult x90 x91) fun x88 => bnd (bnd (bnd (bnd (getV env 3) fun x102 => bnd (ret (.int (0) : T)) fun x103 => noX (cmpop .Lt x102 x103)) fun x100 => bnd (ret []) fun a101 => ret (x100 :: a101)) fun a99 => noX (bcallB P false .int a99)) fun x89 => binO P call .Add x88 x89) env s fun v86 s87 => .nx (env.set 6 (some v86)) s87) (seqS (fun env s => runE (bnd (bnd (bnd (getV env 6) fun x109 => bnd (ret []) fun a110 => ret (x109 :: a110)) fun a108 => noX (bcallB P false .int a108)) fun x106 => bnd (getV env 1) fun x107 => binO P call .FloorDiv x106 x107) env s fun v104 s105 => runE (noX (getV env 0)) env s105 fun x111 s113 => runE (noX (ret (.int (2) : T))) env s113 fun x112 s114 => runE (noX (setItemM v104 x111 x112)) env s114 fun _ s115 => .nx env s115) (seqS (fun env s => runE (bnd (bnd (bnd (bnd (getV env 6) fun x119 => bnd (ret []) fun a120 => ret (x119 :: a120)) fun a118 => noX (bcallB P false .int a118)) fun x116 => bnd (getV env 1) fun x117 => binO P call .Mod x116 x117) (frzM false)) env s fun v0 s1 => .rt v0 s1) (fun env s => .nx env s)))) env s1 else (fun env s => .nx env s) env s1) (seqS (fun env s => runE (bnd (bnd (bnd (bnd (bnd (bnd (bnd (bnd (bnd (getV env 3) fun x137 => bnd (ret []) fun a138 => ret (x137 :: a138)) fun a136 => noX (bcallB P false .int a136)) fun x134 => bnd (ret (.int (2147483549) : T)) fun x135 => binO P call .Mod x134 x135) fun x132 => bnd (bnd (ret (.int (70001) : T)) fun x139 => bnd (getV env 2) fun x140 => binO P call .Mult x139 x140) fun x133 => binO P call .Add x132 x133) fun x130 => bnd (ret (.int (101) : T)) fun x131 => binO P call .Add x130 x131) fun x128 => bnd (ret (.int (5) : T)) fun x129 => binO P call .Pow x128 x129) fun x126 => bnd (ret []) fun a127 => ret (x126 :: a127)) fun a125 => noX (bcallB P false .int a125)) fun x123 => bnd (ret (.int (2147483629) : T)) fun x124 => binO P call .Mod x123 x124) env s fun v121 s122 => .nx (env.set 4 (some v121)) s122) (seqS (fun env s => runE (bnd (bnd (bnd (bnd (bnd (bnd (bnd (getV env 4) fun x154 => bnd (bnd (bnd (ret (.int (2) : T)) fun x158 => bnd (getV env 2) fun x159 => binO P call .Mult x158 x159) fun x156 => bnd (ret (.int (61) : T)) fun x157 => binO P call .Add x156 x157) fun x155 => binO P call .Mult x154 x155) fun x152 => bnd (bnd (bnd (ret (.int (50021) : T)) fun x162 => bnd (getV env 2) fun x163 => binO P call .Mult x162 x163) fun x160 => bnd (getV env 2) fun x161 => binO P call .Mult x160 x161) fun x153 => binO P call .Add x152 x153) fun x150 => bnd (ret (.int (13) : T)) fun x151 => binO P call .Add x150 x151) fun x148 => bnd (ret (.int (3) : T)) fun x149 => binO P call .Pow x148 x149) fun x146 => bnd (ret []) fun a147 => ret (x146 :: a147)) fun a145 => noX (bcallB P false .int a145)) fun x143 => bnd (ret (.int (2147483587) : T)) fun x144 => binO P call .Mod x143 x144) env s fun v141 s142 => .nx (env.set 4 (some v141)) s142) (seqS (fun env s => runE (bnd (bnd (bnd (bnd (bnd (getV env 4) fun x169 => bnd (ret (.int (32) : T)) fun x170 => binO P call .FloorDiv x169 x170) fun x167 => bnd (ret []) fun a168 => ret (x167 :: a168)) fun a166 => noX (bcallB P false .int a166)) fun x164 => bnd (getV env 1) fun x165 => binO P call .Mod x164 x165) (frzM false)) env s fun v0 s1 => .rt v0 s1) (fun env s => .nx env s)))))))))) [some p0, some p1, none, none, none, none, none] s)
theorem h22_ok (k : Nat) (p0 p1 : T) (s : S) : callG P (cmpO P) (k + 1) none 22 [p0, p1] s = h22 (callF P (cmpO P) k) p0 p1 s := by kernel_rfl
/-- _law_pick -/
noncomputable def h23 (call : CallM) (p0 p1 : T) : M T := fun s => outR ((seqS (fun env s => runE (bnd (bnd (getV env 1) fun x1 => bnd (bnd (bnd (getV env 0) fun x4 => bnd (bnd (bnd (bnd (getV env 1) fun x9 => bnd (ret []) fun a10 => ret (x9 :: a10)) fun a8 => noX (bcallO P call false .len a8)) fun x6 => bnd (ret []) fun a7 => ret (x6 :: a7)) fun a5 => ret (x4 :: a5)) fun a3 => call 22 a3) fun x2 => ixO P call x1 x2) (frzM false)) env s fun v0 s1 => .rt v0 s1) (fun env s => .nx env s)) [some p0, some p1] s)
theorem h23_ok (k : Nat) (p0 p1 : T) (s : S) : callG P (cmpO P) (k + 1) none 23 [p0, p1] s = h23 (callF P (cmpO P) k) p0 p1 s := by kernel_rfl
/-- _law_heard -/
noncomputable def h24 (call : CallM) (th : Option (T × M T)) (p0 : T) : M T := fun s => outR ((seqS (fun env s => runE (ret (.non : T)) env s fun v1 s2 => .nx (env.set 1 (some v1)) s2) (seqS (tryS P ⟨[], f0.scope, f0.scope, 0, none, noL⟩ ("GhostError" : Str) 2 (seqS (fun env s => runE (bnd (getV env 0) fun x3 => callL P call th x3) env s fun _ s1 => .nx env s1) (fun env s => .nx env s)) (fun env s => runE (getV env 2) env s fun t0 s1 => .nx (env.set 1 (some t0)) s1)) (seqS (fun env s => runE (bnd (getV env 1) (frzM false)) env s fun v0 s1 => .rt v0 s1) (fun env s => .nx env s)))) [some p0, none, none] s)
theorem h24_ok (k : Nat) (th : Option (T × M T)) (p0 : T) (s : S) : callG P (cmpO P) (k + 1) th 24 [p0] s = h24 (callF P (cmpO P) k) th p0 s := by kernel_rfl
/-- _law_integer -/
noncomputable def h25 (call : CallM) (p0 : T) : M T := fun s => outR ((seqS (fun env s => runE (bnd (bnd (bnd (bnd (getV env 0) fun x7 => bnd (bnd (ret (.int (10) : T)) fun x9 => bnd (ret []) fun a10 => ret (x9 :: a10)) fun a8 => ret (x7 :: a8)) fun a6 => call 22 a6) fun x4 => bnd (bnd (bnd (bnd (getV env 0) fun x14 => bnd (bnd (bnd (ret (.int (10) : T)) fun x18 => bnd (ret (.int (30) : T)) fun x19 => binO P call .Pow x18 x19) fun x16 => bnd (ret []) fun a17 => ret (x16 :: a17)) fun a15 => ret (x14 :: a15)) fun a13 => call 22 a13) fun x11 => bnd (bnd (bnd (bnd (getV env 0) fun x23 => bnd (bnd (ret (.int (100) : T)) fun x25 => bnd (ret []) fun a26 => ret (x25 :: a26)) fun a24 => ret (x23 :: a24)) fun a22 => call 22 a22) fun x20 => bnd (ret []) fun a21 => ret (x20 :: a21)) fun a12 => ret (x11 :: a12)) fun a5 => ret (x4 :: a5)) fun l3 => lstM false l3) env s fun v1 s2 => .nx (env.set 1 (some v1)) s2) (seqS (fun env s => runE (bnd (bnd (getV env 0) fun x30 => bnd (bnd (bnd (getV env 1) fun x34 => bnd (bnd (bnd (ret (.int (0) : T)) fun x37 => bnd (bnd (ret (.int (1) : T)) fun x39 => bnd (bnd (ret (.int (6) : T)) fun x41 => bnd (bnd (ret (.int (12) : T)) fun x43 => bnd (bnd (bnd (bnd (ret (.int (10) : T)) fun x49 => bnd (ret (.int (30) : T)) fun x50 => binO P call .Pow x49 x50) fun x47 => bnd (ret (.int (1) : T)) fun x48 => binO P call .Sub x47 x48) fun x45 => bnd (ret []) fun a46 => ret (x45 :: a46)) fun a44 => ret (x43 :: a44)) fun a42 => ret (x41 :: a42)) fun a40 => ret (x39 :: a40)) fun a38 => ret (x37 :: a38)) fun l36 => lstM false l36) fun x35 => binO P call .Add x34 x35) fun x32 => bnd (ret []) fun a33 => ret (x32 :: a33)) fun a31 => ret (x30 :: a31)) fun a29 => call 23 a29) env s fun v27 s28 => .nx (env.set 2 (some v27)) s28) (seqS (fun env s => runE (bnd (bnd (bnd (bnd (bnd (bnd (getV env 0) fun x55 => bnd (bnd (ret (.int (2) : T)) fun x57 => bnd (ret []) fun a58 => ret (x57 :: a58)) fun a56 => ret (x55 :: a56)) fun a54 => call 22 a54) fun x52 => bnd (ret (.int (0) : T)) fun x53 => noX (cmpO P call .Eq x52 x53)) asBool) fun t51 => if t51 then (bnd (ret (.int (0) : T)) fun x59 => bnd (getV env 2) fun x60 => binO P call .Sub x59 x60) else (getV env 2)) (frzM false)) env s fun v0 s1 => .rt v0 s1) (fun env s => .nx env s)))) [some p0, none, none] s)
theorem h25_ok (k : Nat) (p0 : T) (s : S) : callG P (cmpO P) (k + 1) none 25 [p0] s = h25 (callF P (cmpO P) k) p0 s := by kernel_rfl
noncomputable def h26_b0_c (call : CallM) : En → M Bool := fun env => (bnd (bnd (getV env 4) fun x33 => bnd (ret (.int (0) : T)) fun x34 => noX (cmpop .Gt x33 x34)) asBool)
noncomputable def h26_b0 (call : CallM) : MS := (seqS (fun env s => runE (bnd (bnd (getV env 4) fun x37 => bnd (bnd (bnd (bnd (bnd (getV env 3) fun x44 => bnd (ret []) fun a45 => ret (x44 :: a45)) fun a43 => noX (bcallB P false .int a43)) fun x41 => bnd (getV env 4) fun x42 => binO P call .Mod x41 x42) fun x39 => bnd (ret []) fun a40 => ret (x39 :: a40)) fun a38 => ret (x37 :: a38)) tupM) env s fun v35 s36 => bindS (bindTup [3, 4]) v35 env s36) (fun env s => .nx env s))
/-- _law_is -/
noncomputable def h26 (call : CallM) (p0 p1 p2 : T) : M T := fun s => outR ((seqS (fun env s => runE (bnd (bnd (bnd (bnd (bnd (getV env 0) fun x6 => bnd (bnd (ret (.glo ("Ratio" : Str))) fun x8 => bnd (ret []) fun a9 => ret (x8 :: a9)) fun a7 => ret (x6 :: a7)) fun a5 => noX (bcallB P false .isi a5)) fun x4 => noX (truth x4)) fun b3 => ret (!b3)) fun b2 => if b2 = false then (bnd (bnd (bnd (bnd (getV env 0) fun x13 => attrM P call ("bottom" : Str) x13) fun x11 => bnd (ret (.int (1) : T)) fun x12 => noX (cmpop .Lt x11 x12)) asBool) fun b10 => if b10 = false then (bnd (bnd (bnd (bnd (getV env 0) fun x18 => attrM P call ("top" : Str) x18) fun x16 => bnd (getV env 2) fun x17 => binO P call .Mult x16 x17) fun x14 => bnd (bnd (getV env 1) fun x19 => bnd (bnd (getV env 0) fun x21 => attrM P call ("bottom" : Str) x21) fun x20 => binO P call .Mult x19 x20) fun x15 => noX (cmpO P call .NotEq x14 x15)) asBool) else ret b10) else ret b2) env s fun t1 s1 => if t1 then (seqS (fun env s => runE (bnd (ret (.bl false : T)) (frzM false)) env s fun v0 s1 => .rt v0 s1) (fun env s => .nx env s)) env s1 else (fun env s => .nx env s) env s1) (seqS (fun env s => runE (bnd (bnd (bnd (bnd (bnd (getV env 0) fun x29 => attrM P call ("top" : Str) x29) fun x27 => bnd (ret []) fun a28 => ret (x27 :: a28)) fun a26 => noX (bcallB P false .abs a26)) fun x24 => bnd (bnd (bnd (getV env 0) fun x32 => attrM P call ("bottom" : Str) x32) fun x30 => bnd (ret []) fun a31 => ret (x30 :: a31)) fun a25 => ret (x24 :: a25)) tupM) env s fun v22 s23 => bindS (bindTup [3, 4]) v22 env s23) (seqS (whileS (h26_b0_c call) (h26_b0 call) (2 ^ 200)) (seqS (fun env s => runE (bnd (bnd (getV env 3) fun x46 => bnd (ret (.int (1) : T)) fun x47 => noX (cmpO P call .Eq x46 x47)) (frzM false)) env s fun v0 s1 => .rt v0 s1) (fun env s => .nx env s))))) [some p0, some p1, some p2, none, none] s)
theorem h26_ok (k : Nat) (p0 p1 p2 : T) (s : S) : callG P (cmpO P) (k + 1) none 26 [p0, p1, p2] s = h26 (callF P (cmpO P) k) p0 p1 p2 s := by kernel_rfl
/-- _law_pair_right -/
noncomputable def h27 (call : CallM) (p0 p1 : T) : M T := fun s => outR ((seqS (fun env s => runE (bnd (bnd (bnd (getV env 0) fun x5 => bnd (ret (.int (0) : T)) fun x6 => ixO P call x5 x6) fun x3 => bnd (bnd (bnd (getV env 0) fun x9 => bnd (ret (.int (1) : T)) fun x10 => ixO P call x9 x10) fun x7 => bnd (bnd (bnd (getV env 1) fun x13 => bnd (ret (.int (0) : T)) fun x14 => ixO P call x13 x14) fun x11 => bnd (bnd (bnd (getV env 1) fun x17 => bnd (ret (.int (1) : T)) fun x18 => ixO P call x17 x18) fun x15 => bnd (ret []) fun a16 => ret (x15 :: a16)) fun a12 => ret (x11 :: a12)) fun a8 => ret (x7 :: a8)) fun a4 => ret (x3 :: a4)) tupM) env s fun v1 s2 => bindS (bindTup [5, 6, 7, 8]) v1 env s2) (seqS (fun env s => runE (bnd (bnd (bnd (bnd (getV env 5) fun x24 => bnd (bnd (getV env 6) fun x26 => bnd (ret []) fun a27 => ret (x26 :: a27)) fun a25 => ret (x24 :: a25)) fun a23 => mkM call ("Ratio" : Str) cRatio a23) fun x21 => bnd (bnd (bnd (bnd (getV env 7) fun x31 => bnd (bnd (getV env 8) fun x33 => bnd (ret []) fun a34 => ret (x33 :: a34)) fun a32 => ret (x31 :: a32)) fun a30 => mkM call ("Ratio" : Str) cRatio a30) fun x28 => bnd (ret []) fun a29 => ret (x28 :: a29)) fun a22 => ret (x21 :: a22)) tupM) env s fun v19 s20 => bindS (bindTup [9, 10]) v19 env s20) (seqS (fun env s => runE (bnd (bnd (bnd (bnd (bnd (bnd (getV env 9) fun x42 => bnd (getV env 10) fun x43 => binO P call .Add x42 x43) fun x40 => bnd (bnd (bnd (bnd (getV env 5) fun x48 => bnd (getV env 8) fun x49 => binO P call .Mult x48 x49) fun x46 => bnd (bnd (getV env 7) fun x50 => bnd (getV env 6) fun x51 => binO P call .Mult x50 x51) fun x47 => binO P call .Add x46 x47) fun x44 => bnd (bnd (bnd (getV env 6) fun x54 => bnd (getV env 8) fun x55 => binO P call .Mult x54 x55) fun x52 => bnd (ret []) fun a53 => ret (x52 :: a53)) fun a45 => ret (x44 :: a45)) fun a41 => ret (x40 :: a41)) fun a39 => call 26 a39) fun x38 => noX (truth x38)) fun b37 => ret (!b37)) fun b36 => if b36 = false then (bnd (bnd (bnd (bnd (bnd (getV env 9) fun x61 => bnd (getV env 10) fun x62 => binO P call .Sub x61 x62) fun x59 => bnd (bnd (bnd (bnd (getV env 5) fun x67 => bnd (getV env 8) fun x68 => binO P call .Mult x67 x68) fun x65 => bnd (bnd (getV env 7) fun x69 => bnd (getV env 6) fun x70 => binO P call .Mult x69 x70) fun x66 => binO P call .Sub x65 x66) fun x63 => bnd (bnd (bnd (getV env 6) fun x73 => bnd (getV env 8) fun x74 => binO P call .Mult x73 x74) fun x71 => bnd (ret []) fun a72 => ret (x71 :: a72)) fun a64 => ret (x63 :: a64)) fun a60 => ret (x59 :: a60)) fun a58 => call 26 a58) fun x57 => noX (truth x57)) fun b56 => ret (!b56)) else ret b36) env s fun t35 s1 => if t35 then (seqS (fun env s => runE (bnd (ret (.bl false : T)) (frzM false)) env s fun v0 s1 => .rt v0 s1) (fun env s => .nx env s)) env s1 else (fun env s => .nx env s) env s1) (seqS (fun env s => runE (bnd (bnd (bnd (bnd (bnd (bnd (getV env 9) fun x82 => bnd (getV env 10) fun x83 => binO P call .Mult x82 x83) fun x80 => bnd (bnd (bnd (getV env 5) fun x86 => bnd (getV env 7) fun x87 => binO P call .Mult x86 x87) fun x84 => bnd (bnd (bnd (getV env 6) fun x90 => bnd (getV env 8) fun x91 => binO P call .Mult x90 x91) fun x88 => bnd (ret []) fun a89 => ret (x88 :: a89)) fun a85 => ret (x84 :: a85)) fun a81 => ret (x80 :: a81)) fun a79 => call 26 a79) fun x78 => noX (truth x78)) fun b77 => ret (!b77)) fun b76 => if b76 = false then (bnd (bnd (bnd (bnd (bnd (getV env 9) fun x97 => negO P call x97) fun x95 => bnd (bnd (bnd (ret (.int (0) : T)) fun x100 => bnd (getV env 5) fun x101 => binO P call .Sub x100 x101) fun x98 => bnd (bnd (getV env 6) fun x102 => bnd (ret []) fun a103 => ret (x102 :: a103)) fun a99 => ret (x98 :: a99)) fun a96 => ret (x95 :: a96)) fun a94 => call 26 a94) fun x93 => noX (truth x93)) fun b92 => ret (!b92)) else ret b76) env s fun t75 s1 => if t75 then (seqS (fun env s => runE (bnd (ret (.bl false : T)) (frzM false)) env s fun v0 s1 => .rt v0 s1) (fun env s => .nx env s)) env s1 else (fun env s => .nx env s) env s1) (seqS (fun env s => runE (bnd (bnd (bnd (getV env 7) fun x106 => bnd (ret (.int (0) : T)) fun x107 => noX (cmpO P call .NotEq x106 x107)) asBool) fun b105 => if b105 = true then (bnd (bnd (bnd (bnd (bnd (getV env 9) fun x113 => bnd (methI P ("over" : Str) x113) fun r114 => bnd (bnd (getV env 10) fun x116 => bnd (ret []) fun a117 => ret (x116 :: a117)) fun a115 => call r114.1 (r114.2 ++ a115)) fun x111 => bnd (bnd (bnd (getV env 5) fun x120 => bnd (getV env 8) fun x121 => binO P call .Mult x120 x121) fun x118 => bnd (bnd (bnd (getV env 6) fun x124 => bnd (getV env 7) fun x125 => binO P call .Mult x124 x125) fun x122 => bnd (ret []) fun a123 => ret (x122 :: a123)) fun a119 => ret (x118 :: a119)) fun a112 => ret (x111 :: a112)) fun a110 => call 26 a110) fun x109 => noX (truth x109)) fun b108 => ret (!b108)) else ret b105) env s fun t104 s1 => if t104 then (seqS (fun env s => runE (bnd (ret (.bl false : T)) (frzM false)) env s fun v0 s1 => .rt v0 s1) (fun env s => .nx env s)) env s1 else (fun env s => .nx env s) env s1) (seqS (fun env s => runE (bnd (bnd (bnd (bnd (getV env 6) fun x131 => bnd (getV env 8) fun x132 => binO P call .Mult x131 x132) fun x129 => bnd (ret (.int (0) : T)) fun x130 => noX (cmpop .Gt x129 x130)) asBool) fun t128 => if t128 then (ret (.int (1) : T)) else (bnd (ret (.int (1) : T)) fun x133 => negO P call x133)) env s fun v126 s127 => .nx (env.set 2 (some v126)) s127) (seqS (fun env s => runE (bnd (bnd (bnd (getV env 9) fun x139 => bnd (getV env 10) fun x140 => noX (cmpO P call .Eq x139 x140)) fun x137 => bnd (bnd (bnd (getV env 9) fun x143 => bnd (getV env 10) fun x144 => noX (cmpO P call .NotEq x143 x144)) fun x141 => bnd (bnd (bnd (getV env 9) fun x147 => bnd (methI P ("below" : Str) x147) fun r148 => bnd (bnd (getV env 10) fun x150 => bnd (ret []) fun a151 => ret (x150 :: a151)) fun a149 => call r148.1 (r148.2 ++ a149)) fun x145 => bnd (bnd (bnd (getV env 9) fun x154 => bnd (methI P ("at_most" : Str) x154) fun r155 => bnd (bnd (getV env 10) fun x157 => bnd (ret []) fun a158 => ret (x157 :: a158)) fun a156 => call r155.1 (r155.2 ++ a156)) fun x152 => bnd (bnd (bnd (bnd (getV env 9) fun x162 => bnd (ret []) fun a163 => ret (x162 :: a163)) fun a161 => noX (bcallO P call false .bool a161)) fun x159 => bnd (ret []) fun a160 => ret (x159 :: a160)) fun a153 => ret (x152 :: a153)) fun a146 => ret (x145 :: a146)) fun a142 => ret (x141 :: a142)) fun a138 => ret (x137 :: a138)) fun l136 => lstM false l136) env s fun v134 s135 => .nx (env.set 3 (some v134)) s135) (seqS (fun env s => runE (bnd (getV env 2) fun x166 => bnd (bnd (bnd (getV env 5) fun x170 => bnd (getV env 8) fun x171 => binO P call .Mult x170 x171) fun x168 => bnd (bnd (getV env 7) fun x172 => bnd (getV env 6) fun x173 => binO P call .Mult x172 x173) fun x169 => binO P call .Sub x168 x169) fun x167 => binO P call .Mult x166 x167) env s fun v164 s165 => .nx (env.set 4 (some v164)) s165) (seqS (fun env s => runE (bnd (bnd (bnd (bnd (getV env 3) fun x177 => bnd (ret []) fun a178 => ret (x177 :: a178)) fun a176 => noX (bcallB P false .repr a176)) fun x174 => bnd (bnd (bnd (bnd (bnd (bnd (getV env 4) fun x185 => bnd (ret (.int (0) : T)) fun x186 => noX (cmpO P call .Eq x185 x186)) fun x183 => bnd (bnd (bnd (getV env 4) fun x189 => bnd (ret (.int (0) : T)) fun x190 => noX (cmpO P call .NotEq x189 x190)) fun x187 => bnd (bnd (bnd (getV env 4) fun x193 => bnd (ret (.int (0) : T)) fun x194 => noX (cmpop .Lt x193 x194)) fun x191 => bnd (bnd (bnd (getV env 4) fun x197 => bnd (ret (.int (0) : T)) fun x198 => noX (cmpop .LtE x197 x198)) fun x195 => bnd (bnd (bnd (getV env 5) fun x201 => bnd (ret (.int (0) : T)) fun x202 => noX (cmpO P call .NotEq x201 x202)) fun x199 => bnd (ret []) fun a200 => ret (x199 :: a200)) fun a196 => ret (x195 :: a196)) fun a192 => ret (x191 :: a192)) fun a188 => ret (x187 :: a188)) fun a184 => ret (x183 :: a184)) fun l182 => lstM false l182) fun x180 => bnd (ret []) fun a181 => ret (x180 :: a181)) fun a179 => noX (bcallB P false .repr a179)) fun x175 => noX (cmpO P call .Eq x174 x175)) (frzM false)) env s fun v0 s1 => .rt v0 s1) (fun env s => .nx env s)))))))))) [some p0, some p1, none, none, none, none, none, none, none, none, none] s)
theorem h27_ok (k : Nat) (p0 p1 : T) (s : S) : callG P (cmpO P) (k + 1) none 27 [p0, p1] s = h27 (callF P (cmpO P) k) p0 p1 s := by kernel_rfl
/-- _law_mixed_right -/
noncomputable def h28 (call : CallM) (p0 p1 : T) : M T := fun s => outR ((seqS (fun env s => runE (getV env 0) env s fun v1 s2 => bindS (bindTup [7, 8]) v1 env s2) (seqS (fun env s => runE (bnd (bnd (getV env 7) fun x6 => bnd (bnd (getV env 8) fun x8 => bnd (ret []) fun a9 => ret (x8 :: a9)) fun a7 => ret (x6 :: a7)) fun a5 => mkM call ("Ratio" : Str) cRatio a5) env s fun v3 s4 => .nx (env.set 2 (some v3)) s4) (seqS (fun env s => runE (bnd (bnd (bnd (getV env 2) fun x15 => bnd (getV env 1) fun x16 => binO P call .Add x15 x16) fun x13 => bnd (bnd (bnd (getV env 1) fun x19 => bnd (getV env 2) fun x20 => binO P call .Add x19 x20) fun x17 => bnd (ret []) fun a18 => ret (x17 :: a18)) fun a14 => ret (x13 :: a14)) fun l12 => lstM false l12) env s fun v10 s11 => .nx (env.set 3 (some v10)) s11) (seqS (fun env s => runE (bnd (bnd (compS [9] false (fun env => (bnd (getV env 3) fixM)) (bindN 9) (fun env => (bnd (bnd (bnd (bnd (getV env 9) fun x27 => bnd (bnd (bnd (getV env 7) fun x31 => bnd (bnd (getV env 1) fun x33 => bnd (getV env 8) fun x34 => binO P call .Mult x33 x34) fun x32 => binO P call .Add x31 x32) fun x29 => bnd (bnd (getV env 8) fun x35 => bnd (ret []) fun a36 => ret (x35 :: a36)) fun a30 => ret (x29 :: a30)) fun a28 => ret (x27 :: a28)) fun a26 => call 26 a26) fun x25 => noX (truth x25)) fun b24 => ret (!b24))) (fun env => (getV env 9)) env) fun x22 => bnd (bnd (ret []) fun l37 => lstM false l37) fun x23 => noX (cmpO P call .NotEq x22 x23)) asBool) env s fun t21 s1 => if t21 then (seqS (fun env s => runE (bnd (ret (.bl false : T)) (frzM false)) env s fun v0 s1 => .rt v0 s1) (fun env s => .nx env s)) env s1 else (fun env s => .nx env s) env s1) (seqS (fun env s => runE (bnd (bnd (bnd (bnd (bnd (bnd (getV env 2) fun x45 => bnd (getV env 1) fun x46 => binO P call .Sub x45 x46) fun x43 => bnd (bnd (bnd (getV env 7) fun x49 => bnd (bnd (getV env 1) fun x51 => bnd (getV env 8) fun x52 => binO P call .Mult x51 x52) fun x50 => binO P call .Sub x49 x50) fun x47 => bnd (bnd (getV env 8) fun x53 => bnd (ret []) fun a54 => ret (x53 :: a54)) fun a48 => ret (x47 :: a48)) fun a44 => ret (x43 :: a44)) fun a42 => call 26 a42) fun x41 => noX (truth x41)) fun b40 => ret (!b40)) fun b39 => if b39 = false then (bnd (bnd (bnd (bnd (bnd (getV env 1) fun x60 => bnd (getV env 2) fun x61 => binO P call .Sub x60 x61) fun x58 => bnd (bnd (bnd (bnd (getV env 1) fun x66 => bnd (getV env 8) fun x67 => binO P call .Mult x66 x67) fun x64 => bnd (getV env 7) fun x65 => binO P call .Sub x64 x65) fun x62 => bnd (bnd (getV env 8) fun x68 => bnd (ret []) fun a69 => ret (x68 :: a69)) fun a63 => ret (x62 :: a63)) fun a59 => ret (x58 :: a59)) fun a57 => call 26 a57) fun x56 => noX (truth x56)) fun b55 => ret (!b55)) else ret b39) env s fun t38 s1 => if t38 then (seqS (fun env s => runE (bnd (ret (.bl false : T)) (frzM false)) env s fun v0 s1 => .rt v0 s1) (fun env s => .nx env s)) env s1 else (fun env s => .nx env s) env s1) (seqS (fun env s => runE (bnd (bnd (bnd (bnd (bnd (bnd (getV env 2) fun x77 => bnd (getV env 1) fun x78 => binO P call .Mult x77 x78) fun x75 => bnd (bnd (bnd (getV env 7) fun x81 => bnd (getV env 1) fun x82 => binO P call .Mult x81 x82) fun x79 => bnd (bnd (getV env 8) fun x83 => bnd (ret []) fun a84 => ret (x83 :: a84)) fun a80 => ret (x79 :: a80)) fun a76 => ret (x75 :: a76)) fun a74 => call 26 a74) fun x73 => noX (truth x73)) fun b72 => ret (!b72)) fun b71 => if b71 = false then (bnd (bnd (bnd (bnd (bnd (getV env 1) fun x90 => bnd (getV env 2) fun x91 => binO P call .Mult x90 x91) fun x88 => bnd (bnd (bnd (getV env 7) fun x94 => bnd (getV env 1) fun x95 => binO P call .Mult x94 x95) fun x92 => bnd (bnd (getV env 8) fun x96 => bnd (ret []) fun a97 => ret (x96 :: a97)) fun a93 => ret (x92 :: a93)) fun a89 => ret (x88 :: a89)) fun a87 => call 26 a87) fun x86 => noX (truth x86)) fun b85 => ret (!b85)) else ret b71) env s fun t70 s1 => if t70 then (seqS (fun env s => runE (bnd (ret (.bl false : T)) (frzM false)) env s fun v0 s1 => .rt v0 s1) (fun env s => .nx env s)) env s1 else (fun env s => .nx env s) env s1) (seqS (fun env s => runE (bnd (bnd (bnd (getV env 1) fun x100 => bnd (ret (.int (0) : T)) fun x101 => noX (cmpO P call .NotEq x100 x101)) asBool) fun b99 => if b99 = true then (bnd (bnd (bnd (bnd (bnd (getV env 2) fun x107 => bnd (methI P ("over" : Str) x107) fun r108 => bnd (bnd (getV env 1) fun x110 => bnd (ret []) fun a111 => ret (x110 :: a111)) fun a109 => call r108.1 (r108.2 ++ a109)) fun x105 => bnd (bnd (getV env 7) fun x112 => bnd (bnd (bnd (getV env 8) fun x116 => bnd (getV env 1) fun x117 => binO P call .Mult x116 x117) fun x114 => bnd (ret []) fun a115 => ret (x114 :: a115)) fun a113 => ret (x112 :: a113)) fun a106 => ret (x105 :: a106)) fun a104 => call 26 a104) fun x103 => noX (truth x103)) fun b102 => ret (!b102)) else ret b99) env s fun t98 s1 => if t98 then (seqS (fun env s => runE (bnd (ret (.bl false : T)) (frzM false)) env s fun v0 s1 => .rt v0 s1) (fun env s => .nx env s)) env s1 else (fun env s => .nx env s) env s1) (seqS (fun env s => runE (bnd (getV env 7) fun x120 => bnd (bnd (getV env 1) fun x122 => bnd (getV env 8) fun x123 => binO P call .Mult x122 x123) fun x121 => noX (cmpO P call .Eq x120 x121)) env s fun v118 s119 => .nx (env.set 4 (some v118)) s119) (seqS (fun env s => runE (bnd (bnd (bnd (bnd (bnd (bnd (getV env 2) fun x131 => bnd (getV env 1) fun x132 => noX (cmpO P call .Eq x131 x132)) fun x129 => bnd (bnd (bnd (getV env 2) fun x135 => bnd (getV env 1) fun x136 => noX (cmpO P call .NotEq x135 x136)) fun x133 => bnd (ret []) fun a134 => ret (x133 :: a134)) fun a130 => ret (x129 :: a130)) fun l128 => lstM false l128) fun x126 => bnd (bnd (bnd (getV env 4) fun x138 => bnd (bnd (bnd (getV env 4) fun x142 => bnd (noX (truth x142)) fun b143 => ret (.bl (!b143))) fun x140 => bnd (ret []) fun a141 => ret (x140 :: a141)) fun a139 => ret (x138 :: a139)) fun l137 => lstM false l137) fun x127 => noX (cmpO P call .NotEq x126 x127)) asBool) fun b125 => if b125 = false then (bnd (bnd (getV env 2) fun x144 => bnd (bnd (bnd (getV env 2) fun x147 => bnd (ret []) fun a148 => ret (x147 :: a148)) fun a146 => noX (bcallO P call false .str a146)) fun x145 => noX (cmpO P call .Eq x144 x145)) asBool) else ret b125) env s fun t124 s1 => if t124 then (seqS (fun env s => runE (bnd (ret (.bl false : T)) (frzM false)) env s fun v0 s1 => .rt v0 s1) (fun env s => .nx env s)) env s1 else (fun env s => .nx env s) env s1) (seqS (fun env s => runE (bnd (bnd (bnd (getV env 8) fun x152 => bnd (ret (.int (0) : T)) fun x153 => noX (cmpop .Gt x152 x153)) asBool) fun t151 => if t151 then (ret (.int (1) : T)) else (bnd (ret (.int (1) : T)) fun x154 => negO P call x154)) env s fun v149 s150 => .nx (env.set 5 (some v149)) s150) (seqS (fun env s => runE (bnd (getV env 5) fun x157 => bnd (bnd (getV env 7) fun x159 => bnd (bnd (getV env 1) fun x161 => bnd (getV env 8) fun x162 => binO P call .Mult x161 x162) fun x160 => binO P call .Sub x159 x160) fun x158 => binO P call .Mult x157 x158) env s fun v155 s156 => .nx (env.set 6 (some v155)) s156) (seqS (fun env s => runE (bnd (bnd (bnd (bnd (bnd (bnd (bnd (getV env 2) fun x171 => bnd (methI P ("below" : Str) x171) fun r172 => bnd (bnd (getV env 1) fun x174 => bnd (ret []) fun a175 => ret (x174 :: a175)) fun a173 => call r172.1 (r172.2 ++ a173)) fun x169 => bnd (bnd (bnd (getV env 2) fun x178 => bnd (methI P ("at_most" : Str) x178) fun r179 => bnd (bnd (getV env 1) fun x181 => bnd (ret []) fun a182 => ret (x181 :: a182)) fun a180 => call r179.1 (r179.2 ++ a180)) fun x176 => bnd (ret []) fun a177 => ret (x176 :: a177)) fun a170 => ret (x169 :: a170)) fun l168 => lstM false l168) fun x166 => bnd (ret []) fun a167 => ret (x166 :: a167)) fun a165 => noX (bcallB P false .repr a165)) fun x163 => bnd (bnd (bnd (bnd (bnd (bnd (getV env 6) fun x189 => bnd (ret (.int (0) : T)) fun x190 => noX (cmpop .Lt x189 x190)) fun x187 => bnd (bnd (bnd (getV env 6) fun x193 => bnd (ret (.int (0) : T)) fun x194 => noX (cmpop .LtE x193 x194)) fun x191 => bnd (ret []) fun a192 => ret (x191 :: a192)) fun a188 => ret (x187 :: a188)) fun l186 => lstM false l186) fun x184 => bnd (ret []) fun a185 => ret (x184 :: a185)) fun a183 => noX (bcallB P false .repr a183)) fun x164 => noX (cmpO P call .Eq x163 x164)) (frzM false)) env s fun v0 s1 => .rt v0 s1) (fun env s => .nx env s))))))))))))) [some p0, some p1, none, none, none, none, none, none, none, none] s)
theorem h28_ok (k : Nat) (p0 p1 : T) (s : S) : callG P (cmpO P) (k + 1) none 28 [p0, p1] s = h28 (callF P (cmpO P) k) p0 p1 s := by kernel_rfl
/-- _law_wrong_right -/
noncomputable def h29 (call : CallM) (cg : Option (T × M T) → CallM) (call0 : CallM) (p0 : T) : M T := fun s => outR ((seqS (fun env s => runE (bnd (bnd (getV env 0) fun x4 => bnd (bnd (bnd (bnd (ret (.non : T)) fun x9 => bnd (bnd (ret (.bl true : T)) fun x11 => bnd (bnd (ret (.bl false : T)) fun x13 => bnd (bnd (ret (.str "1" : T)) fun x15 => bnd (bnd (bnd (bnd (ret (.int (1) : T)) fun x20 => bnd (ret []) fun a21 => ret (x20 :: a21)) fun l19 => tupM l19) fun x17 => bnd (bnd (bnd (ret []) fun l24 => lstM false l24) fun x22 => bnd (bnd (ret (.dct [] [])) fun x25 => bnd (bnd (ret (.str "" : T)) fun x27 => bnd (ret []) fun a28 => ret (x27 :: a28)) fun a26 => ret (x25 :: a26)) fun a23 => ret (x22 :: a23)) fun a18 => ret (x17 :: a18)) fun a16 => ret (x15 :: a16)) fun a14 => ret (x13 :: a14)) fun a12 => ret (x11 :: a12)) fun a10 => ret (x9 :: a10)) fun l8 => lstM false l8) fun x6 => bnd (ret []) fun a7 => ret (x6 :: a7)) fun a5 => ret (x4 :: a5)) fun a3 => call 23 a3) env s fun v1 s2 => .nx (env.set 1 (some v1)) s2) (seqS (fun env s => runE (bnd (bnd (getV env 0) fun x32 => bnd (bnd (bnd (bnd (ret (.non : T)) fun x37 => bnd (bnd (ret (.bl true : T)) fun x39 => bnd (bnd (ret (.str "2" : T)) fun x41 => bnd (bnd (bnd (bnd (ret (.int (2) : T)) fun x46 => bnd (ret []) fun a47 => ret (x46 :: a47)) fun l45 => lstM false l45) fun x43 => bnd (ret []) fun a44 => ret (x43 :: a44)) fun a42 => ret (x41 :: a42)) fun a40 => ret (x39 :: a40)) fun a38 => ret (x37 :: a38)) fun l36 => lstM false l36) fun x34 => bnd (ret []) fun a35 => ret (x34 :: a35)) fun a33 => ret (x32 :: a33)) fun a31 => call 23 a31) env s fun v29 s30 => .nx (env.set 2 (some v29)) s30) (seqS (fun env s => runE (bnd (bnd (lamM fun a c vs => cg (some ((.lam a c (f29.qual ++ ".<locals>." ++ "<lambda>") (env.filterMap id) vs), (fun (call : CallM) => (bnd (bnd (getV env 1) fun x54 => bnd (bnd (getV env 2) fun x56 => bnd (ret []) fun a57 => ret (x56 :: a57)) fun a55 => ret (x54 :: a55)) fun a53 => mkM call ("Ratio" : Str) cRatio a53)) call0)) 24 [(.lam a c (f29.qual ++ ".<locals>." ++ "<lambda>") (env.filterMap id) vs)]) fun x51 => bnd (ret []) fun a52 => ret (x51 :: a52)) fun l50 => lstM true l50) env s fun v48 s49 => .nx (env.set 3 (some v48)) s49) (seqS (fun env s => runE (bnd (getV env 3) fun x58 => methM ("append" : Str) x58 (bnd (lamM fun a c vs => cg (some ((.lam a c (f29.qual ++ ".<locals>." ++ "<lambda>") (env.filterMap id) vs), (fun (call : CallM) => (bnd (bnd (getV env 1) fun x62 => bnd (bnd (ret (.int (0) : T)) fun x64 => bnd (ret []) fun a65 => ret (x64 :: a65)) fun a63 => ret (x62 :: a63)) fun a61 => mkM call ("Ratio" : Str) cRatio a61)) call0)) 24 [(.lam a c (f29.qual ++ ".<locals>." ++ "<lambda>") (env.filterMap id) vs)]) fun x59 => bnd (ret []) fun a60 => ret (x59 :: a60))) env s fun _ s1 => .nx env s1) (seqS (fun env s => runE (bnd (getV env 3) fun x66 => methM ("append" : Str) x66 (bnd (lamM fun a c vs => cg (some ((.lam a c (f29.qual ++ ".<locals>." ++ "<lambda>") (env.filterMap id) vs), (fun (call : CallM) => (bnd (bnd (ret (.int (3) : T)) fun x70 => bnd (bnd (getV env 1) fun x72 => bnd (ret []) fun a73 => ret (x72 :: a73)) fun a71 => ret (x70 :: a71)) fun a69 => mkM call ("Ratio" : Str) cRatio a69)) call0)) 24 [(.lam a c (f29.qual ++ ".<locals>." ++ "<lambda>") (env.filterMap id) vs)]) fun x67 => bnd (ret []) fun a68 => ret (x67 :: a68))) env s fun _ s1 => .nx env s1) (seqS (fun env s => runE (bnd (getV env 3) fun x74 => methM ("append" : Str) x74 (bnd (lamM fun a c vs => cg (some ((.lam a c (f29.qual ++ ".<locals>." ++ "<lambda>") (env.filterMap id) vs), (fun (call : CallM) => (bnd (bnd (ret (.int (3) : T)) fun x78 => bnd (bnd (ret (.int (0) : T)) fun x80 => bnd (ret []) fun a81 => ret (x80 :: a81)) fun a79 => ret (x78 :: a79)) fun a77 => mkM call ("Ratio" : Str) cRatio a77)) call0)) 24 [(.lam a c (f29.qual ++ ".<locals>." ++ "<lambda>") (env.filterMap id) vs)]) fun x75 => bnd (ret []) fun a76 => ret (x75 :: a76))) env s fun _ s1 => .nx env s1) (seqS (fun env s => runE (bnd (getV env 3) fun x82 => methM ("append" : Str) x82 (bnd (lamM fun a c vs => cg (some ((.lam a c (f29.qual ++ ".<locals>." ++ "<lambda>") (env.filterMap id) vs), (fun (call : CallM) => (bnd (bnd (bnd (ret (.int (3) : T)) fun x89 => bnd (ret []) fun a90 => ret (x89 :: a90)) fun a88 => mkM call ("Ratio" : Str) cRatio a88) fun x85 => bnd (methI P ("over" : Str) x85) fun r86 => bnd (bnd (ret (.int (0) : T)) fun x91 => bnd (ret []) fun a92 => ret (x91 :: a92)) fun a87 => call r86.1 (r86.2 ++ a87))) call0)) 24 [(.lam a c (f29.qual ++ ".<locals>." ++ "<lambda>") (env.filterMap id) vs)]) fun x83 => bnd (ret []) fun a84 => ret (x83 :: a84))) env s fun _ s1 => .nx env s1) (seqS (frzJ 3 (fun env s => runE (bnd (bnd (compS [4] false (fun env => (bnd (getV env 3) fixM)) (bindN 4) (fun env => (bnd (bnd (bnd (bnd (getV env 4) fun x99 => bnd (bnd (ret (.glo ("BadRatio" : Str))) fun x101 => bnd (ret []) fun a102 => ret (x101 :: a102)) fun a100 => ret (x99 :: a100)) fun a98 => noX (bcallB P false .isi a98)) fun x97 => noX (truth x97)) fun b96 => ret (!b96))) (fun env => (getV env 4)) env) fun x94 => bnd (bnd (ret []) fun l103 => lstM false l103) fun x95 => noX (cmpO P call .NotEq x94 x95)) asBool) env s fun t93 s1 => if t93 then (seqS (fun env s => runE (bnd (ret (.bl false : T)) (frzM false)) env s fun v0 s1 => .rt v0 s1) (fun env s => .nx env s)) env s1 else (fun env s => .nx env s) env s1)) (seqS (fun env s => runE (bnd (bnd (bnd (bnd (compS [4] false (fun env => (bnd (getV env 3) fixM)) (bindN 4) (fun env => ret true) (fun env => (bnd (getV env 4) fun x109 => attrM P call ("value" : Str) x109)) env) fun x107 => bnd (ret []) fun a108 => ret (x107 :: a108)) fun a106 => noX (bcallB P false .repr a106)) fun x104 => bnd (bnd (bnd (bnd (bnd (getV env 1) fun x114 => bnd (bnd (getV env 1) fun x116 => bnd (bnd (getV env 1) fun x118 => bnd (bnd (ret (.int (0) : T)) fun x120 => bnd (bnd (ret (.int (0) : T)) fun x122 => bnd (ret []) fun a123 => ret (x122 :: a123)) fun a121 => ret (x120 :: a121)) fun a119 => ret (x118 :: a119)) fun a117 => ret (x116 :: a117)) fun a115 => ret (x114 :: a115)) fun l113 => lstM false l113) fun x111 => bnd (ret []) fun a112 => ret (x111 :: a112)) fun a110 => noX (bcallB P false .repr a110)) fun x105 => noX (cmpO P call .Eq x104 x105)) (frzM false)) env s fun v0 s1 => .rt v0 s1) (fun env s => .nx env s)))))))))) [some p0, none, none, none, none] s)
theorem h29_ok (k : Nat) (p0 : T) (s : S) : callG P (cmpO P) (k + 2) none 29 [p0] s = h29 (callF P (cmpO P) (k + 1)) (callG P (cmpO P) (k + 1)) (callF P (cmpO P) k) p0 s := by kernel_rfl
noncomputable def h30_b0 (call : CallM) (cg : Option (T × M T) → CallM) (call0 : CallM) : MS := (seqS (fun env s => runE (bnd (bnd (bnd (bnd (getV env 1) fun x11 => bnd (ret []) fun a12 => ret (x11 :: a12)) fun a10 => call 25 a10) fun x8 => bnd (bnd (bnd (bnd (getV env 1) fun x16 => bnd (ret []) fun a17 => ret (x16 :: a17)) fun a15 => call 25 a15) fun x13 => bnd (ret []) fun a14 => ret (x13 :: a14)) fun a9 => ret (x8 :: a9)) tupM) env s fun v6 s7 => bindS (bindTup [4, 5]) v6 env s7) (seqS (fun env s => runE (bnd (bnd (bnd (bnd (getV env 1) fun x23 => bnd (ret []) fun a24 => ret (x23 :: a24)) fun a22 => call 25 a22) fun x20 => bnd (bnd (bnd (bnd (getV env 1) fun x28 => bnd (ret []) fun a29 => ret (x28 :: a29)) fun a27 => call 25 a27) fun x25 => bnd (ret []) fun a26 => ret (x25 :: a26)) fun a21 => ret (x20 :: a21)) tupM) env s fun v18 s19 => bindS (bindTup [6, 7]) v18 env s19) (seqS (fun env s => runE (bnd (bnd (bnd (getV env 5) fun x34 => bnd (bnd (bnd (bnd (getV env 5) fun x39 => bnd (ret (.int (0) : T)) fun x40 => noX (cmpO P call .Eq x39 x40)) fun x37 => bnd (ret []) fun a38 => ret (x37 :: a38)) fun a36 => noX (bcallB P false .int a36)) fun x35 => binO P call .Add x34 x35) fun x32 => bnd (bnd (bnd (getV env 7) fun x43 => bnd (bnd (bnd (bnd (getV env 7) fun x48 => bnd (ret (.int (0) : T)) fun x49 => noX (cmpO P call .Eq x48 x49)) fun x46 => bnd (ret []) fun a47 => ret (x46 :: a47)) fun a45 => noX (bcallB P false .int a45)) fun x44 => binO P call .Add x43 x44) fun x41 => bnd (ret []) fun a42 => ret (x41 :: a42)) fun a33 => ret (x32 :: a33)) tupM) env s fun v30 s31 => bindS (bindTup [5, 7]) v30 env s31) (seqS (fun env s => runE (bnd (bnd (bnd (bnd (bnd (bnd (bnd (getV env 4) fun x58 => bnd (bnd (getV env 5) fun x60 => bnd (ret []) fun a61 => ret (x60 :: a61)) fun a59 => ret (x58 :: a59)) fun a57 => mkM call ("Ratio" : Str) cRatio a57) fun x55 => bnd (bnd (getV env 4) fun x62 => bnd (bnd (getV env 5) fun x64 => bnd (ret []) fun a65 => ret (x64 :: a65)) fun a63 => ret (x62 :: a63)) fun a56 => ret (x55 :: a56)) fun a54 => call 26 a54) fun x53 => noX (truth x53)) fun b52 => ret (!b52)) fun b51 => if b51 = false then (bnd (bnd (bnd (bnd (bnd (bnd (getV env 4) fun x72 => bnd (ret []) fun a73 => ret (x72 :: a73)) fun a71 => mkM call ("Ratio" : Str) cRatio a71) fun x69 => bnd (bnd (getV env 4) fun x74 => bnd (bnd (ret (.int (1) : T)) fun x76 => bnd (ret []) fun a77 => ret (x76 :: a77)) fun a75 => ret (x74 :: a75)) fun a70 => ret (x69 :: a70)) fun a68 => call 26 a68) fun x67 => noX (truth x67)) fun b66 => ret (!b66)) else ret b51) env s fun t50 s1 => if t50 then (seqS (fun env s => runE (bnd (ret (.bl false : T)) (frzM false)) env s fun v0 s1 => .rt v0 s1) (fun env s => .nx env s)) env s1 else (fun env s => .nx env s) env s1) (seqS (fun env s => runE (bnd (bnd (bnd (bnd (bnd (ret []) fun a84 => bnd (bnd (getV env 5) fun x86 => bnd (bnd (getV env 4) fun x88 => bnd (ret []) fun a89 => ret (x88 :: a89)) fun a87 => ret (x86 :: a87)) fun z85 => mkK call ("Ratio" : Str) cRatio (pick [1, 0] (a84 ++ z85))) fun x82 => bnd (bnd (getV env 4) fun x90 => bnd (bnd (getV env 5) fun x92 => bnd (ret []) fun a93 => ret (x92 :: a93)) fun a91 => ret (x90 :: a91)) fun a83 => ret (x82 :: a83)) fun a81 => call 26 a81) fun x80 => noX (truth x80)) fun b79 => ret (!b79)) env s fun t78 s1 => if t78 then (seqS (fun env s => runE (bnd (ret (.bl false : T)) (frzM false)) env s fun v0 s1 => .rt v0 s1) (fun env s => .nx env s)) env s1 else (fun env s => .nx env s) env s1) (seqS (fun env s => runE (bnd (bnd (bnd (bnd (bnd (bnd (getV env 4) fun x101 => bnd (bnd (getV env 5) fun x103 => bnd (ret []) fun a104 => ret (x103 :: a104)) fun a102 => ret (x101 :: a102)) fun l100 => tupM l100) fun x98 => bnd (bnd (bnd (bnd (getV env 6) fun x108 => bnd (bnd (getV env 7) fun x110 => bnd (ret []) fun a111 => ret (x110 :: a111)) fun a109 => ret (x108 :: a109)) fun l107 => tupM l107) fun x105 => bnd (ret []) fun a106 => ret (x105 :: a106)) fun a99 => ret (x98 :: a99)) fun a97 => call 27 a97) fun x96 => noX (truth x96)) fun b95 => ret (!b95)) env s fun t94 s1 => if t94 then (seqS (fun env s => runE (bnd (ret (.bl false : T)) (frzM false)) env s fun v0 s1 => .rt v0 s1) (fun env s => .nx env s)) env s1 else (fun env s => .nx env s) env s1) (seqS (fun env s => runE (bnd (bnd (bnd (bnd (bnd (bnd (getV env 4) fun x119 => bnd (bnd (getV env 5) fun x121 => bnd (ret []) fun a122 => ret (x121 :: a122)) fun a120 => ret (x119 :: a120)) fun l118 => tupM l118) fun x116 => bnd (bnd (bnd (bnd (bnd (getV env 4) fun x128 => bnd (getV env 7) fun x129 => binO P call .Mult x128 x129) fun x126 => bnd (bnd (bnd (getV env 5) fun x132 => bnd (getV env 7) fun x133 => binO P call .Mult x132 x133) fun x130 => bnd (ret []) fun a131 => ret (x130 :: a131)) fun a127 => ret (x126 :: a127)) fun l125 => tupM l125) fun x123 => bnd (ret []) fun a124 => ret (x123 :: a124)) fun a117 => ret (x116 :: a117)) fun a115 => call 27 a115) fun x114 => noX (truth x114)) fun b113 => ret (!b113)) env s fun t112 s1 => if t112 then (seqS (fun env s => runE (bnd (ret (.bl false : T)) (frzM false)) env s fun v0 s1 => .rt v0 s1) (fun env s => .nx env s)) env s1 else (fun env s => .nx env s) env s1) (seqS (fun env s => runE (bnd (bnd (bnd (bnd (bnd (bnd (getV env 4) fun x141 => bnd (bnd (getV env 5) fun x143 => bnd (ret []) fun a144 => ret (x143 :: a144)) fun a142 => ret (x141 :: a142)) fun l140 => tupM l140) fun x138 => bnd (bnd (getV env 6) fun x145 => bnd (ret []) fun a146 => ret (x145 :: a146)) fun a139 => ret (x138 :: a139)) fun a137 => call 28 a137) fun x136 => noX (truth x136)) fun b135 => ret (!b135)) env s fun t134 s1 => if t134 then (seqS (fun env s => runE (bnd (ret (.bl false : T)) (frzM false)) env s fun v0 s1 => .rt v0 s1) (fun env s => .nx env s)) env s1 else (fun env s => .nx env s) env s1) (seqS (fun env s => runE (bnd (bnd (bnd (bnd (bnd (bnd (bnd (getV env 4) fun x156 => bnd (getV env 5) fun x157 => binO P call .Mult x156 x157) fun x154 => bnd (bnd (getV env 5) fun x158 => bnd (ret []) fun a159 => ret (x158 :: a159)) fun a155 => ret (x154 :: a155)) fun l153 => tupM l153) fun x151 => bnd (bnd (getV env 4) fun x160 => bnd (ret []) fun a161 => ret (x160 :: a161)) fun a152 => ret (x151 :: a152)) fun a150 => call 28 a150) fun x149 => noX (truth x149)) fun b148 => ret (!b148)) env s fun t147 s1 => if t147 then (seqS (fun env s => runE (bnd (ret (.bl false : T)) (frzM false)) env s fun v0 s1 => .rt v0 s1) (fun env s => .nx env s)) env s1 else (fun env s => .nx env s) env s1) (seqS (fun env s => runE (bnd (bnd (bnd (bnd (getV env 1) fun x166 => bnd (ret []) fun a167 => ret (x166 :: a167)) fun a165 => call 29 a165) fun x164 => noX (truth x164)) fun b163 => ret (!b163)) env s fun t162 s1 => if t162 then (seqS (fun env s => runE (bnd (ret (.bl false : T)) (frzM false)) env s fun v0 s1 => .rt v0 s1) (fun env s => .nx env s)) env s1 else (fun env s => .nx env s) env s1) (seqS (fun env s => runE (bnd (bnd (compS [8] false (fun env => (bnd (bnd (bnd (ret (.bl true : T)) fun x183 => bnd (bnd (ret (.bl false : T)) fun x185 => bnd (bnd (ret (.non : T)) fun x187 => bnd (bnd (ret (.str "1" : T)) fun x189 => bnd (ret []) fun a190 => ret (x189 :: a190)) fun a188 => ret (x187 :: a188)) fun a186 => ret (x185 :: a186)) fun a184 => ret (x183 :: a184)) fun l182 => lstM false l182) fixM)) (bindN 8) (fun env => (bnd (bnd (bnd (bnd (bnd (ret (.int (1) : T)) fun x175 => bnd (ret []) fun a176 => ret (x175 :: a176)) fun a174 => mkM call ("Ratio" : Str) cRatio a174) fun x172 => bnd (getV env 8) fun x173 => noX (cmpO P call .Eq x172 x173)) asBool) fun b171 => if b171 = false then (bnd (bnd (bnd (bnd (ret (.int (0) : T)) fun x180 => bnd (ret []) fun a181 => ret (x180 :: a181)) fun a179 => mkM call ("Ratio" : Str) cRatio a179) fun x177 => bnd (getV env 8) fun x178 => noX (cmpO P call .Eq x177 x178)) asBool) else ret b171)) (fun env => (getV env 8)) env) fun x169 => bnd (bnd (ret []) fun l191 => lstM false l191) fun x170 => noX (cmpO P call .NotEq x169 x170)) asBool) env s fun t168 s1 => if t168 then (seqS (fun env s => runE (bnd (ret (.bl false : T)) (frzM false)) env s fun v0 s1 => .rt v0 s1) (fun env s => .nx env s)) env s1 else (fun env s => .nx env s) env s1) (seqS (fun env s => runE (lamM fun a c vs => cg (some ((.lam a c (f30.qual ++ ".<locals>." ++ "<lambda>") (env.filterMap id) vs), (fun (call : CallM) => (bnd (bnd (bnd (getV env 4) fun x198 => bnd (bnd (getV env 5) fun x200 => bnd (ret []) fun a201 => ret (x200 :: a201)) fun a199 => ret (x198 :: a199)) fun a197 => mkM call ("Ratio" : Str) cRatio a197) fun x194 => bnd (methI P ("over" : Str) x194) fun r195 => bnd (bnd (bnd (bnd (ret (.int (0) : T)) fun x205 => bnd (bnd (getV env 7) fun x207 => bnd (ret []) fun a208 => ret (x207 :: a208)) fun a206 => ret (x205 :: a206)) fun a204 => mkM call ("Ratio" : Str) cRatio a204) fun x202 => bnd (ret []) fun a203 => ret (x202 :: a203)) fun a196 => call r195.1 (r195.2 ++ a196))) call0)) 24 [(.lam a c (f30.qual ++ ".<locals>." ++ "<lambda>") (env.filterMap id) vs)]) env s fun v192 s193 => .nx (env.set 3 (some v192)) s193) (seqS (fun env s => runE (bnd (bnd (bnd (bnd (bnd (getV env 3) fun x214 => bnd (bnd (ret (.glo ("BadRatio" : Str))) fun x216 => bnd (ret []) fun a217 => ret (x216 :: a217)) fun a215 => ret (x214 :: a215)) fun a213 => noX (bcallB P false .isi a213)) fun x212 => noX (truth x212)) fun b211 => ret (!b211)) fun b210 => if b210 = false then (bnd (bnd (bnd (bnd (bnd (getV env 3) fun x223 => attrM P call ("value" : Str) x223) fun x221 => bnd (bnd (ret (.glo ("Ratio" : Str))) fun x224 => bnd (ret []) fun a225 => ret (x224 :: a225)) fun a222 => ret (x221 :: a222)) fun a220 => noX (bcallB P false .isi a220)) fun x219 => noX (truth x219)) fun b218 => ret (!b218)) else ret b210) env s fun t209 s1 => if t209 then (seqS (fun env s => runE (bnd (ret (.bl false : T)) (frzM false)) env s fun v0 s1 => .rt v0 s1) (fun env s => .nx env s)) env s1 else (fun env s => .nx env s) env s1) (fun env s => .nx env s))))))))))))))
/-- law -/
noncomputable def h30 (call : CallM) (cg : Option (T × M T) → CallM) (call0 : CallM) (p0 : T) : M T := fun s => outR ((seqS (fun env s => runE (bnd (bnd (getV env 0) fun x4 => bnd (ret []) fun a5 => ret (x4 :: a5)) fun a3 => call 21 a3) env s fun v1 s2 => .nx (env.set 1 (some v1)) s2) (seqS (fun env s => runE (bnd (bnd (ret (.int (8) : T)) fun x226 => bnd (ret []) fun a227 => ret (x226 :: a227)) rangeM) env s fun ts s1 => forS (bindN 2) (h30_b0 call cg call0) ts env s1) (seqS (fun env s => runE (bnd (ret (.bl true : T)) (frzM false)) env s fun v0 s1 => .rt v0 s1) (fun env s => .nx env s)))) [some p0, none, none, none, none, none, none, none, none] s)
theorem h30_ok (k : Nat) (p0 : T) (s : S) : callG P (cmpO P) (k + 2) none 30 [p0] s = h30 (callF P (cmpO P) (k + 1)) (callG P (cmpO P) (k + 1)) (callF P (cmpO P) k) p0 s := by kernel_rfl
end Gk43
-- GtF_k43
namespace Gk43
open PySem L2 G
noncomputable abbrev CG (k : Nat) : Option (T × M T) → CallM := callG P (cmpO P) k
noncomputable abbrev CF (k : Nat) : CallM := CG k none
section
variable {th : Option (T × M T)} {cg : Option (T × M T) → CallM} {call0 : CallM} {α : Type} {s : S} {Q : T → S → Prop} {E : XP} {p : Ph (Q, E)} {k : Nat} {call : CallM} {ns : List Str} {vs xs : List T} {x b : T}
theorem u0 {p0 p1 : T} : Wm (h0 call p0 p1) s Q E p = Ws ((seqS (fun env s => runE (getV env 1) env s fun v1 s2 => runE (noX (getV env 0)) env s2 fun x3 s4 => runE (noX (setAttrM P ("value" : Str) v1 x3)) env s4 fun _ s5 => .nx env s5) (fun env s => .nx env s)) [some p0, some p1] s) (fun _ s' => Q .non s') Q noS noS (fun C ns vs _ s' => E C ns vs s') ph := w_out
theorem c0 {p0 p1 : T} : Wm (CG (k + 1) none 0 [p0, p1]) s Q E p = Wm (h0 (CF k) p0 p1) s Q E ph := w_eqm (h0_ok k p0 p1 s)
theorem u1 {p0 p1 p2 : T} : Wm (h1 call p0 p1 p2) s Q E p = Ws ((seqS (fun env s => runE (getV env 1) env s fun v1 s2 => runE (noX (getV env 0)) env s2 fun x3 s4 => runE (noX (setAttrM P ("line" : Str) v1 x3)) env s4 fun _ s5 => .nx env s5) (seqS (fun env s => runE (getV env 2) env s fun v6 s7 => runE (noX (getV env 0)) env s7 fun x8 s9 => runE (noX (setAttrM P ("word" : Str) v6 x8)) env s9 fun _ s10 => .nx env s10) (fun env s => .nx env s))) [some p0, some p1, some p2] s) (fun _ s' => Q .non s') Q noS noS (fun C ns vs _ s' => E C ns vs s') ph := w_out
theorem c1 {p0 p1 p2 : T} : Wm (CG (k + 1) none 1 [p0, p1, p2]) s Q E p = Wm (h1 (CF k) p0 p1 p2) s Q E ph := w_eqm (h1_ok k p0 p1 p2 s)
theorem u2 {p0 : T} : Wm (h2 call p0) s Q E p = Ws ((seqS (fun env s => runE (bnd (bnd (bnd (bnd (getV env 0) fun x4 => bnd (bnd (ret (.ty "int")) fun x6 => bnd (ret []) fun a7 => ret (x6 :: a7)) fun a5 => ret (x4 :: a5)) fun a3 => noX (bcallB P false .isi a3)) fun x1 => bnd (noX (truth x1)) fun b2 => if b2 = true then (bnd (bnd (bnd (getV env 0) fun x11 => bnd (bnd (ret (.ty "bool")) fun x13 => bnd (ret []) fun a14 => ret (x13 :: a14)) fun a12 => ret (x11 :: a12)) fun a10 => noX (bcallB P false .isi a10)) fun x8 => bnd (noX (truth x8)) fun b9 => ret (.bl (!b9))) else ret x1) (frzM false)) env s fun v0 s1 => .rt v0 s1) (fun env s => .nx env s)) [some p0] s) (fun _ s' => Q .non s') Q noS noS (fun C ns vs _ s' => E C ns vs s') ph := w_out
theorem c2 {p0 : T} : Wm (CG (k + 1) none 2 [p0]) s Q E p = Wm (h2 (CF k) p0) s Q E ph := w_eqm (h2_ok k p0 s)
theorem u3 {p0 p1 : T} : Wm (h3 call p0 p1) s Q E p = Ws ((seqS (whileS (h3_b0_c call) (h3_b0 call) (2 ^ 200)) (seqS (fun env s => runE (bnd (getV env 0) (frzM false)) env s fun v0 s1 => .rt v0 s1) (fun env s => .nx env s))) [some p0, some p1] s) (fun _ s' => Q .non s') Q noS noS (fun C ns vs _ s' => E C ns vs s') ph := w_out
theorem c3 {p0 p1 : T} : Wm (CG (k + 1) none 3 [p0, p1]) s Q E p = Wm (h3 (CF k) p0 p1) s Q E ph := w_eqm (h3_ok k p0 p1 s)
theorem u4 {p0 : T} : Wm (h4 call p0) s Q E p = Ws ((seqS (fun env s => runE (bnd (bnd (bnd (bnd (ret (.int (1) : T)) fun x4 => bnd (bnd (bnd (getV env 0) fun x10 => bnd (ret []) fun a11 => ret (x10 :: a11)) fun a9 => noX (bcallO P call false .len a9)) fun x5 => bnd (noX (cmpop .LtE x4 x5)) fun r6 => bnd (asBool r6) fun k7 => if k7 then (bnd (ret (.int (30) : T)) fun x8 => noX (cmpop .LtE x5 x8)) else ret (.bl false)) asBool) fun b3 => ret (!b3)) fun b2 => if b2 = false then (bnd (bnd (compS [1] false (fun env => (bnd (getV env 0) fixM)) (bindN 1) (fun env => (bnd (bnd (getV env 1) fun x14 => bnd (ret (.str "0123456789" : T)) fun x15 => noX (cmpop .NotIn x14 x15)) asBool)) (fun env => (getV env 1)) env) fun x12 => bnd (bnd (ret []) fun l16 => lstM false l16) fun x13 => noX (cmpO P call .NotEq x12 x13)) asBool) else ret b2) env s fun t1 s1 => if t1 then (seqS (fun env s => runE (bnd (ret (.non : T)) (frzM false)) env s fun v0 s1 => .rt v0 s1) (fun env s => .nx env s)) env s1 else (fun env s => .nx env s) env s1) (seqS (fun env s => runE (bnd (bnd (bnd (bnd (bnd (bnd (bnd (getV env 0) fun x22 => bnd (ret []) fun a23 => ret (x22 :: a23)) fun a21 => noX (bcallO P call false .len a21)) fun x19 => bnd (ret (.int (1) : T)) fun x20 => noX (cmpop .Gt x19 x20)) asBool) fun b18 => if b18 = true then (bnd (bnd (bnd (getV env 0) fun x26 => bnd (ret (.int (0) : T)) fun x27 => ixO P call x26 x27) fun x24 => bnd (ret (.str "0" : T)) fun x25 => noX (cmpO P call .Eq x24 x25)) asBool) else ret b18) fun t17 => if t17 then (ret (.non : T)) else (bnd (bnd (getV env 0) fun x29 => bnd (ret []) fun a30 => ret (x29 :: a30)) fun a28 => noX (bcallB P false .int a28))) (frzM false)) env s fun v0 s1 => .rt v0 s1) (fun env s => .nx env s))) [some p0, none] s) (fun _ s' => Q .non s') Q noS noS (fun C ns vs _ s' => E C ns vs s') ph := w_out
theorem c4 {p0 : T} : Wm (CG (k + 1) none 4 [p0]) s Q E p = Wm (h4 (CF k) p0) s Q E ph := w_eqm (h4_ok k p0 s)
theorem u5 {p0 p1 p2 : T} : Wm (h5 call p0 p1 p2) s Q E p = Ws ((seqS (fun env s => runE (bnd (bnd (bnd (getV env 1) fun x10 => bnd (bnd (getV env 2) fun x12 => bnd (ret []) fun a13 => ret (x12 :: a13)) fun a11 => ret (x10 :: a11)) fun l9 => tupM l9) fixM) env s fun ts s1 => forS (bindN 3) (h5_b0 call) ts env s1) (seqS (fun env s => runE (bnd (bnd (getV env 2) fun x15 => bnd (ret (.int (0) : T)) fun x16 => noX (cmpO P call .Eq x15 x16)) asBool) env s fun t14 s1 => if t14 then (seqS (fun env s => runE (bnd (ret (.int (0) : T)) fun x17 => bnd (ret []) fun a18 => ret (x17 :: a18)) env s fun ts s1 => if [("value" : Str)].length = ts.length then .ex ("BadRatio" : Str) [("value" : Str)].reverse ts.reverse env s1 else .bad) (fun env s => .nx env s)) env s1 else (fun env s => .nx env s) env s1) (seqS (fun env s => runE (bnd (bnd (bnd (bnd (getV env 2) fun x25 => bnd (ret []) fun a26 => ret (x25 :: a26)) fun a24 => noX (bcallB P false .abs a24)) fun x22 => bnd (bnd (bnd (bnd (getV env 1) fun x30 => bnd (ret []) fun a31 => ret (x30 :: a31)) fun a29 => noX (bcallB P false .abs a29)) fun x27 => bnd (ret []) fun a28 => ret (x27 :: a28)) fun a23 => ret (x22 :: a23)) fun a21 => call 3 a21) env s fun v19 s20 => .nx (env.set 4 (some v19)) s20) (seqS (fun env s => runE (bnd (bnd (bnd (getV env 2) fun x35 => bnd (ret (.int (0) : T)) fun x36 => noX (cmpop .Lt x35 x36)) asBool) fun t34 => if t34 then (bnd (ret (.int (1) : T)) fun x37 => negO P call x37) else (ret (.int (1) : T))) env s fun v32 s33 => .nx (env.set 5 (some v32)) s33) (seqS (fun env s => runE (bnd (bnd (getV env 5) fun x42 => bnd (getV env 1) fun x43 => binO P call .Mult x42 x43) fun x40 => bnd (getV env 4) fun x41 => binO P call .FloorDiv x40 x41) env s fun v38 s39 => runE (noX (getV env 0)) env s39 fun x44 s45 => runE (noX (setAttrM P ("top" : Str) v38 x44)) env s45 fun _ s46 => .nx env s46) (seqS (fun env s => runE (bnd (bnd (getV env 5) fun x51 => bnd (getV env 2) fun x52 => binO P call .Mult x51 x52) fun x49 => bnd (getV env 4) fun x50 => binO P call .FloorDiv x49 x50) env s fun v47 s48 => runE (noX (getV env 0)) env s48 fun x53 s54 => runE (noX (setAttrM P ("bottom" : Str) v47 x53)) env s54 fun _ s55 => .nx env s55) (fun env s => .nx env s))))))) [some p0, some p1, some p2, none, none, none] s) (fun _ s' => Q .non s') Q noS noS (fun C ns vs _ s' => E C ns vs s') ph := w_out
theorem c5 {p0 p1 p2 : T} : Wm (CG (k + 1) none 5 [p0, p1, p2]) s Q E p = Wm (h5 (CF k) p0 p1 p2) s Q E ph := w_eqm (h5_ok k p0 p1 p2 s)
theorem c5_2 {p0 p1 : T} : Wm (CG (k + 1) none 5 [p0, p1]) s Q E p = Wm (h5 (CF k) p0 p1 (.int (1))) s Q E ph := by
  have e : CG (k + 1) none 5 [p0, p1] s = h5 (CF k) p0 p1 (.int (1)) s := by kernel_rfl
  exact w_eqm e
theorem u6 {p0 p1 : T} : Wm (h6 call p0 p1) s Q E p = Ws ((seqS (fun env s => runE (bnd (bnd (bnd (bnd (getV env 1) fun x5 => bnd (bnd (ret (.ty "str")) fun x7 => bnd (ret []) fun a8 => ret (x7 :: a8)) fun a6 => ret (x5 :: a6)) fun a4 => noX (bcallB P false .isi a4)) fun x3 => noX (truth x3)) fun b2 => ret (!b2)) env s fun t1 s1 => if t1 then (seqS (fun env s => runE (bnd (ret (.int (0) : T)) fun x9 => bnd (bnd (ret (.int (0) : T)) fun x11 => bnd (ret []) fun a12 => ret (x11 :: a12)) fun a10 => ret (x9 :: a10)) env s fun ts s1 => if [("line" : Str), ("word" : Str)].length = ts.length then .ex ("BadText" : Str) [("line" : Str), ("word" : Str)].reverse ts.reverse env s1 else .bad) (fun env s => .nx env s)) env s1 else (fun env s => .nx env s) env s1) (seqS (fun env s => runE (bnd (bnd (getV env 1) fun x17 => bnd (ret none) fun l18 => bnd (bnd (ret (.int (1) : T)) fun x20 => toI x20) fun u19 => noX (sliceB false x17 l18 u19)) fun x15 => bnd (ret (.str "-" : T)) fun x16 => noX (cmpO P call .Eq x15 x16)) env s fun v13 s14 => .nx (env.set 2 (some v13)) s14) (seqS (fun env s => runE (bnd (bnd (getV env 1) fun x24 => bnd (bnd (bnd (bnd (getV env 2) fun x29 => bnd (ret []) fun a30 => ret (x29 :: a30)) fun a28 => noX (bcallB P false .int a28)) fun x27 => toI x27) fun l25 => bnd (ret none) fun u26 => noX (sliceB false x24 l25 u26)) fun x23 => methM ("split" : Str) x23 (bnd (ret (.str "/" : T)) fun x31 => bnd (ret []) fun a32 => ret (x31 :: a32))) env s fun v21 s22 => .nx (env.set 3 (some v21)) s22) (seqS (fun env s => runE (compS [8] false (fun env => (bnd (getV env 3) fixM)) (bindN 8) (fun env => ret true) (fun env => (bnd (bnd (getV env 8) fun x36 => bnd (ret []) fun a37 => ret (x36 :: a37)) fun a35 => call 4 a35)) env) env s fun v33 s34 => .nx (env.set 4 (some v33)) s34) (seqS (fun env s => runE (bnd (bnd (bnd (bnd (bnd (getV env 3) fun x43 => bnd (ret []) fun a44 => ret (x43 :: a44)) fun a42 => noX (bcallO P call false .len a42)) fun x40 => bnd (ret (.int (2) : T)) fun x41 => noX (cmpop .Gt x40 x41)) asBool) fun b39 => if b39 = false then (bnd (bnd (ret (.non : T)) fun x45 => bnd (getV env 4) fun x46 => noX (cmpop .In x45 x46)) asBool) else ret b39) env s fun t38 s1 => if t38 then (seqS (fun env s => runE (bnd (ret (.int (0) : T)) fun x47 => bnd (bnd (ret (.int (0) : T)) fun x49 => bnd (ret []) fun a50 => ret (x49 :: a50)) fun a48 => ret (x47 :: a48)) env s fun ts s1 => if [("line" : Str), ("word" : Str)].length = ts.length then .ex ("BadText" : Str) [("line" : Str), ("word" : Str)].reverse ts.reverse env s1 else .bad) (fun env s => .nx env s)) env s1 else (fun env s => .nx env s) env s1) (seqS (fun env s => runE (bnd (bnd (bnd (getV env 4) fun x55 => bnd (ret (.int (0) : T)) fun x56 => ixO P call x55 x56) fun x53 => bnd (bnd (bnd (bnd (bnd (bnd (bnd (getV env 4) fun x63 => bnd (ret []) fun a64 => ret (x63 :: a64)) fun a62 => noX (bcallO P call false .len a62)) fun x60 => bnd (ret (.int (2) : T)) fun x61 => noX (cmpO P call .Eq x60 x61)) asBool) fun t59 => if t59 then (bnd (getV env 4) fun x65 => bnd (ret (.int (1) : T)) fun x66 => ixO P call x65 x66) else (ret (.int (1) : T))) fun x57 => bnd (ret []) fun a58 => ret (x57 :: a58)) fun a54 => ret (x53 :: a54)) tupM) env s fun v51 s52 => bindS (bindTup [6, 7]) v51 env s52) (seqS (fun env s => runE (bnd (bnd (getV env 7) fun x68 => bnd (ret (.int (0) : T)) fun x69 => noX (cmpO P call .Eq x68 x69)) asBool) env s fun t67 s1 => if t67 then (seqS (fun env s => runE (bnd (ret (.int (0) : T)) fun x70 => bnd (bnd (ret (.int (0) : T)) fun x72 => bnd (ret []) fun a73 => ret (x72 :: a73)) fun a71 => ret (x70 :: a71)) env s fun ts s1 => if [("line" : Str), ("word" : Str)].length = ts.length then .ex ("BadText" : Str) [("line" : Str), ("word" : Str)].reverse ts.reverse env s1 else .bad) (fun env s => .nx env s)) env s1 else (fun env s => .nx env s) env s1) (seqS (fun env s => runE (bnd (getV env 0) fun x76 => if vOk P false x76 then bnd (bnd (bnd (bnd (getV env 2) fun x81 => noX (truth x81)) fun t80 => if t80 then (bnd (getV env 6) fun x82 => negO P call x82) else (getV env 6)) fun x78 => bnd (bnd (getV env 7) fun x83 => bnd (ret []) fun a84 => ret (x83 :: a84)) fun a79 => ret (x78 :: a79)) fun a77 => callV P call x76 a77 else bad) env s fun v74 s75 => .nx (env.set 5 (some v74)) s75) (seqS (fun env s => runE (bnd (bnd (bnd (bnd (getV env 5) fun x89 => bnd (ret []) fun a90 => ret (x89 :: a90)) fun a88 => noX (bcallO P call false .str a88)) fun x86 => bnd (getV env 1) fun x87 => noX (cmpO P call .NotEq x86 x87)) asBool) env s fun t85 s1 => if t85 then (seqS (fun env s => runE (bnd (ret (.int (0) : T)) fun x91 => bnd (bnd (ret (.int (0) : T)) fun x93 => bnd (ret []) fun a94 => ret (x93 :: a94)) fun a92 => ret (x91 :: a92)) env s fun ts s1 => if [("line" : Str), ("word" : Str)].length = ts.length then .ex ("BadText" : Str) [("line" : Str), ("word" : Str)].reverse ts.reverse env s1 else .bad) (fun env s => .nx env s)) env s1 else (fun env s => .nx env s) env s1) (seqS (fun env s => runE (bnd (getV env 5) (frzM false)) env s fun v0 s1 => .rt v0 s1) (fun env s => .nx env s))))))))))) [some p0, some p1, none, none, none, none, none, none, none] s) (fun _ s' => Q .non s') Q noS noS (fun C ns vs _ s' => E C ns vs s') ph := w_out
theorem c6 {p0 p1 : T} : Wm (CG (k + 1) none 6 [p0, p1]) s Q E p = Wm (h6 (CF k) p0 p1) s Q E ph := w_eqm (h6_ok k p0 p1 s)
theorem u7 {p0 p1 : T} : Wm (h7 call p0 p1) s Q E p = Ws ((seqS (fun env s => runE (bnd (bnd (getV env 1) fun x4 => bnd (ret []) fun a5 => ret (x4 :: a5)) fun a3 => call 20 a3) env s fun v1 s2 => .nx (env.set 1 (some v1)) s2) (seqS (fun env s => runE (bnd (bnd (bnd (bnd (bnd (bnd (getV env 0) fun x13 => attrM P call ("top" : Str) x13) fun x11 => bnd (bnd (getV env 1) fun x14 => attrM P call ("bottom" : Str) x14) fun x12 => binO P call .Mult x11 x12) fun x9 => bnd (bnd (bnd (getV env 1) fun x17 => attrM P call ("top" : Str) x17) fun x15 => bnd (bnd (getV env 0) fun x18 => attrM P call ("bottom" : Str) x18) fun x16 => binO P call .Mult x15 x16) fun x10 => binO P call .Add x9 x10) fun x7 => bnd (bnd (bnd (bnd (getV env 0) fun x23 => attrM P call ("bottom" : Str) x23) fun x21 => bnd (bnd (getV env 1) fun x24 => attrM P call ("bottom" : Str) x24) fun x22 => binO P call .Mult x21 x22) fun x19 => bnd (ret []) fun a20 => ret (x19 :: a20)) fun a8 => ret (x7 :: a8)) fun a6 => mkM call ("Ratio" : Str) cRatio a6) (frzM false)) env s fun v0 s1 => .rt v0 s1) (fun env s => .nx env s))) [some p0, some p1] s) (fun _ s' => Q .non s') Q noS noS (fun C ns vs _ s' => E C ns vs s') ph := w_out
theorem c7 {p0 p1 : T} : Wm (CG (k + 1) none 7 [p0, p1]) s Q E p = Wm (h7 (CF k) p0 p1) s Q E ph := w_eqm (h7_ok k p0 p1 s)
theorem u8 {p0 p1 : T} : Wm (h8 call p0 p1) s Q E p = Ws ((seqS (fun env s => runE (bnd (bnd (getV env 0) fun x1 => bnd (getV env 1) fun x2 => binO P call .Add x1 x2) (frzM false)) env s fun v0 s1 => .rt v0 s1) (fun env s => .nx env s)) [some p0, some p1] s) (fun _ s' => Q .non s') Q noS noS (fun C ns vs _ s' => E C ns vs s') ph := w_out
theorem c8 {p0 p1 : T} : Wm (CG (k + 1) none 8 [p0, p1]) s Q E p = Wm (h8 (CF k) p0 p1) s Q E ph := w_eqm (h8_ok k p0 p1 s)
theorem u9 {p0 p1 : T} : Wm (h9 call p0 p1) s Q E p = Ws ((seqS (fun env s => runE (bnd (bnd (getV env 0) fun x1 => bnd (bnd (bnd (bnd (getV env 1) fun x5 => bnd (ret []) fun a6 => ret (x5 :: a6)) fun a4 => call 20 a4) fun x3 => negO P call x3) fun x2 => binO P call .Add x1 x2) (frzM false)) env s fun v0 s1 => .rt v0 s1) (fun env s => .nx env s)) [some p0, some p1] s) (fun _ s' => Q .non s') Q noS noS (fun C ns vs _ s' => E C ns vs s') ph := w_out
theorem c9 {p0 p1 : T} : Wm (CG (k + 1) none 9 [p0, p1]) s Q E p = Wm (h9 (CF k) p0 p1) s Q E ph := w_eqm (h9_ok k p0 p1 s)
theorem u10 {p0 p1 : T} : Wm (h10 call p0 p1) s Q E p = Ws ((seqS (fun env s => runE (bnd (bnd (bnd (bnd (getV env 1) fun x4 => bnd (ret []) fun a5 => ret (x4 :: a5)) fun a3 => call 20 a3) fun x1 => bnd (bnd (getV env 0) fun x6 => negO P call x6) fun x2 => binO P call .Add x1 x2) (frzM false)) env s fun v0 s1 => .rt v0 s1) (fun env s => .nx env s)) [some p0, some p1] s) (fun _ s' => Q .non s') Q noS noS (fun C ns vs _ s' => E C ns vs s') ph := w_out
theorem c10 {p0 p1 : T} : Wm (CG (k + 1) none 10 [p0, p1]) s Q E p = Wm (h10 (CF k) p0 p1) s Q E ph := w_eqm (h10_ok k p0 p1 s)
theorem u11 {p0 p1 : T} : Wm (h11 call p0 p1) s Q E p = Ws ((seqS (fun env s => runE (bnd (bnd (getV env 1) fun x4 => bnd (ret []) fun a5 => ret (x4 :: a5)) fun a3 => call 20 a3) env s fun v1 s2 => .nx (env.set 1 (some v1)) s2) (seqS (fun env s => runE (bnd (bnd (bnd (bnd (bnd (getV env 0) fun x11 => attrM P call ("top" : Str) x11) fun x9 => bnd (bnd (getV env 1) fun x12 => attrM P call ("top" : Str) x12) fun x10 => binO P call .Mult x9 x10) fun x7 => bnd (bnd (bnd (bnd (getV env 0) fun x17 => attrM P call ("bottom" : Str) x17) fun x15 => bnd (bnd (getV env 1) fun x18 => attrM P call ("bottom" : Str) x18) fun x16 => binO P call .Mult x15 x16) fun x13 => bnd (ret []) fun a14 => ret (x13 :: a14)) fun a8 => ret (x7 :: a8)) fun a6 => mkM call ("Ratio" : Str) cRatio a6) (frzM false)) env s fun v0 s1 => .rt v0 s1) (fun env s => .nx env s))) [some p0, some p1] s) (fun _ s' => Q .non s') Q noS noS (fun C ns vs _ s' => E C ns vs s') ph := w_out
theorem c11 {p0 p1 : T} : Wm (CG (k + 1) none 11 [p0, p1]) s Q E p = Wm (h11 (CF k) p0 p1) s Q E ph := w_eqm (h11_ok k p0 p1 s)
theorem u12 {p0 p1 : T} : Wm (h12 call p0 p1) s Q E p = Ws ((seqS (fun env s => runE (bnd (bnd (getV env 0) fun x1 => bnd (getV env 1) fun x2 => binO P call .Mult x1 x2) (frzM false)) env s fun v0 s1 => .rt v0 s1) (fun env s => .nx env s)) [some p0, some p1] s) (fun _ s' => Q .non s') Q noS noS (fun C ns vs _ s' => E C ns vs s') ph := w_out
theorem c12 {p0 p1 : T} : Wm (CG (k + 1) none 12 [p0, p1]) s Q E p = Wm (h12 (CF k) p0 p1) s Q E ph := w_eqm (h12_ok k p0 p1 s)
theorem u13 {p0 : T} : Wm (h13 call p0) s Q E p = Ws ((seqS (fun env s => runE (bnd (bnd (bnd (bnd (bnd (getV env 0) fun x5 => attrM P call ("top" : Str) x5) fun x4 => negO P call x4) fun x2 => bnd (bnd (bnd (getV env 0) fun x8 => attrM P call ("bottom" : Str) x8) fun x6 => bnd (ret []) fun a7 => ret (x6 :: a7)) fun a3 => ret (x2 :: a3)) fun a1 => mkM call ("Ratio" : Str) cRatio a1) (frzM false)) env s fun v0 s1 => .rt v0 s1) (fun env s => .nx env s)) [some p0] s) (fun _ s' => Q .non s') Q noS noS (fun C ns vs _ s' => E C ns vs s') ph := w_out
theorem c13 {p0 : T} : Wm (CG (k + 1) none 13 [p0]) s Q E p = Wm (h13 (CF k) p0) s Q E ph := w_eqm (h13_ok k p0 s)
theorem u14 {p0 p1 : T} : Wm (h14 call p0 p1) s Q E p = Ws ((seqS (fun env s => runE (bnd (bnd (getV env 1) fun x4 => bnd (ret []) fun a5 => ret (x4 :: a5)) fun a3 => call 20 a3) env s fun v1 s2 => .nx (env.set 2 (some v1)) s2) (seqS (fun env s => runE (bnd (bnd (bnd (getV env 2) fun x9 => attrM P call ("top" : Str) x9) fun x7 => bnd (ret (.int (0) : T)) fun x8 => noX (cmpO P call .Eq x7 x8)) asBool) env s fun t6 s1 => if t6 then (seqS (fun env s => runE (bnd (getV env 1) fun x10 => bnd (ret []) fun a11 => ret (x10 :: a11)) env s fun ts s1 => if [("value" : Str)].length = ts.length then .ex ("BadRatio" : Str) [("value" : Str)].reverse ts.reverse env s1 else .bad) (fun env s => .nx env s)) env s1 else (fun env s => .nx env s) env s1) (seqS (fun env s => runE (bnd (bnd (bnd (bnd (bnd (getV env 0) fun x17 => attrM P call ("top" : Str) x17) fun x15 => bnd (bnd (getV env 2) fun x18 => attrM P call ("bottom" : Str) x18) fun x16 => binO P call .Mult x15 x16) fun x13 => bnd (bnd (bnd (bnd (getV env 0) fun x23 => attrM P call ("bottom" : Str) x23) fun x21 => bnd (bnd (getV env 2) fun x24 => attrM P call ("top" : Str) x24) fun x22 => binO P call .Mult x21 x22) fun x19 => bnd (ret []) fun a20 => ret (x19 :: a20)) fun a14 => ret (x13 :: a14)) fun a12 => mkM call ("Ratio" : Str) cRatio a12) (frzM false)) env s fun v0 s1 => .rt v0 s1) (fun env s => .nx env s)))) [some p0, some p1, none] s) (fun _ s' => Q .non s') Q noS noS (fun C ns vs _ s' => E C ns vs s') ph := w_out
theorem c14 {p0 p1 : T} : Wm (CG (k + 1) none 14 [p0, p1]) s Q E p = Wm (h14 (CF k) p0 p1) s Q E ph := w_eqm (h14_ok k p0 p1 s)
theorem u15 {p0 p1 : T} : Wm (h15 call p0 p1) s Q E p = Ws ((seqS (fun env s => runE (bnd (bnd (getV env 1) fun x4 => bnd (ret []) fun a5 => ret (x4 :: a5)) fun a3 => call 20 a3) env s fun v1 s2 => .nx (env.set 1 (some v1)) s2) (seqS (fun env s => runE (bnd (bnd (bnd (bnd (getV env 0) fun x10 => attrM P call ("top" : Str) x10) fun x8 => bnd (bnd (getV env 1) fun x11 => attrM P call ("bottom" : Str) x11) fun x9 => binO P call .Mult x8 x9) fun x6 => bnd (bnd (bnd (getV env 1) fun x14 => attrM P call ("top" : Str) x14) fun x12 => bnd (bnd (getV env 0) fun x15 => attrM P call ("bottom" : Str) x15) fun x13 => binO P call .Mult x12 x13) fun x7 => noX (cmpop .Lt x6 x7)) (frzM false)) env s fun v0 s1 => .rt v0 s1) (fun env s => .nx env s))) [some p0, some p1] s) (fun _ s' => Q .non s') Q noS noS (fun C ns vs _ s' => E C ns vs s') ph := w_out
theorem c15 {p0 p1 : T} : Wm (CG (k + 1) none 15 [p0, p1]) s Q E p = Wm (h15 (CF k) p0 p1) s Q E ph := w_eqm (h15_ok k p0 p1 s)
theorem u16 {p0 p1 : T} : Wm (h16 call p0 p1) s Q E p = Ws ((seqS (fun env s => runE (bnd (bnd (getV env 1) fun x4 => bnd (ret []) fun a5 => ret (x4 :: a5)) fun a3 => call 20 a3) env s fun v1 s2 => .nx (env.set 1 (some v1)) s2) (seqS (fun env s => runE (bnd (bnd (bnd (bnd (getV env 0) fun x10 => attrM P call ("top" : Str) x10) fun x8 => bnd (bnd (getV env 1) fun x11 => attrM P call ("bottom" : Str) x11) fun x9 => binO P call .Mult x8 x9) fun x6 => bnd (bnd (bnd (getV env 1) fun x14 => attrM P call ("top" : Str) x14) fun x12 => bnd (bnd (getV env 0) fun x15 => attrM P call ("bottom" : Str) x15) fun x13 => binO P call .Mult x12 x13) fun x7 => noX (cmpop .LtE x6 x7)) (frzM false)) env s fun v0 s1 => .rt v0 s1) (fun env s => .nx env s))) [some p0, some p1] s) (fun _ s' => Q .non s') Q noS noS (fun C ns vs _ s' => E C ns vs s') ph := w_out
theorem c16 {p0 p1 : T} : Wm (CG (k + 1) none 16 [p0, p1]) s Q E p = Wm (h16 (CF k) p0 p1) s Q E ph := w_eqm (h16_ok k p0 p1 s)
theorem u17 {p0 p1 : T} : Wm (h17 call p0 p1) s Q E p = Ws ((seqS (fun env s => runE (bnd (bnd (bnd (bnd (getV env 1) fun x5 => bnd (bnd (ret (.glo ("Ratio" : Str))) fun x7 => bnd (ret []) fun a8 => ret (x7 :: a8)) fun a6 => ret (x5 :: a6)) fun a4 => noX (bcallB P false .isi a4)) fun x3 => noX (truth x3)) fun b2 => ret (!b2)) env s fun t1 s1 => if t1 then (seqS (fun env s => runE (bnd (bnd (bnd (bnd (getV env 1) fun x12 => bnd (ret []) fun a13 => ret (x12 :: a13)) fun a11 => call 2 a11) fun x9 => bnd (noX (truth x9)) fun b10 => if b10 = true then (bnd (bnd (bnd (getV env 0) fun x18 => attrM P call ("bottom" : Str) x18) fun x16 => bnd (ret (.int (1) : T)) fun x17 => noX (cmpO P call .Eq x16 x17)) fun x14 => bnd (noX (truth x14)) fun b15 => if b15 = true then (bnd (bnd (getV env 0) fun x21 => attrM P call ("top" : Str) x21) fun x19 => bnd (getV env 1) fun x20 => noX (cmpO P call .Eq x19 x20)) else ret x14) else ret x9) (frzM false)) env s fun v0 s1 => .rt v0 s1) (fun env s => .nx env s)) env s1 else (fun env s => .nx env s) env s1) (seqS (fun env s => runE (bnd (bnd (bnd (bnd (getV env 0) fun x26 => attrM P call ("top" : Str) x26) fun x24 => bnd (bnd (getV env 1) fun x27 => attrM P call ("top" : Str) x27) fun x25 => noX (cmpO P call .Eq x24 x25)) fun x22 => bnd (noX (truth x22)) fun b23 => if b23 = true then (bnd (bnd (getV env 0) fun x30 => attrM P call ("bottom" : Str) x30) fun x28 => bnd (bnd (getV env 1) fun x31 => attrM P call ("bottom" : Str) x31) fun x29 => noX (cmpO P call .Eq x28 x29)) else ret x22) (frzM false)) env s fun v0 s1 => .rt v0 s1) (fun env s => .nx env s))) [some p0, some p1] s) (fun _ s' => Q .non s') Q noS noS (fun C ns vs _ s' => E C ns vs s') ph := w_out
theorem c17 {p0 p1 : T} : Wm (CG (k + 1) none 17 [p0, p1]) s Q E p = Wm (h17 (CF k) p0 p1) s Q E ph := w_eqm (h17_ok k p0 p1 s)
theorem u18 {p0 : T} : Wm (h18 call p0) s Q E p = Ws ((seqS (fun env s => runE (bnd (bnd (bnd (bnd (getV env 0) fun x4 => attrM P call ("top" : Str) x4) fun x2 => bnd (ret []) fun a3 => ret (x2 :: a3)) fun a1 => noX (bcallO P call false .bool a1)) (frzM false)) env s fun v0 s1 => .rt v0 s1) (fun env s => .nx env s)) [some p0] s) (fun _ s' => Q .non s') Q noS noS (fun C ns vs _ s' => E C ns vs s') ph := w_out
theorem c18 {p0 : T} : Wm (CG (k + 1) none 18 [p0]) s Q E p = Wm (h18 (CF k) p0) s Q E ph := w_eqm (h18_ok k p0 s)
theorem u19 {p0 : T} : Wm (h19 call p0) s Q E p = Ws ((seqS (fun env s => runE (bnd (bnd (bnd (getV env 0) fun x4 => attrM P call ("bottom" : Str) x4) fun x2 => bnd (ret (.int (1) : T)) fun x3 => noX (cmpO P call .Eq x2 x3)) asBool) env s fun t1 s1 => if t1 then (seqS (fun env s => runE (bnd (bnd (bnd (bnd (getV env 0) fun x8 => attrM P call ("top" : Str) x8) fun x6 => bnd (ret []) fun a7 => ret (x6 :: a7)) fun a5 => noX (bcallO P call false .str a5)) (frzM false)) env s fun v0 s1 => .rt v0 s1) (fun env s => .nx env s)) env s1 else (fun env s => .nx env s) env s1) (seqS (fun env s => runE (bnd (bnd (joinS [(bnd (bnd (getV env 0) fun x11 => attrM P call ("top" : Str) x11) fun x9 => bnd (fmtM x9) fun x10 => ret (.str x10)), (ret (.str "/" : T)), (bnd (bnd (getV env 0) fun x14 => attrM P call ("bottom" : Str) x14) fun x12 => bnd (fmtM x12) fun x13 => ret (.str x13))] Str.empty) fun x15 => ret (.str x15)) (frzM false)) env s fun v0 s1 => .rt v0 s1) (fun env s => .nx env s))) [some p0] s) (fun _ s' => Q .non s') Q noS noS (fun C ns vs _ s' => E C ns vs s') ph := w_out
theorem c19 {p0 : T} : Wm (CG (k + 1) none 19 [p0]) s Q E p = Wm (h19 (CF k) p0) s Q E ph := w_eqm (h19_ok k p0 s)
theorem u20 {p0 : T} : Wm (h20 call p0) s Q E p = Ws ((seqS (fun env s => runE (bnd (bnd (bnd (bnd (bnd (getV env 0) fun x4 => bnd (bnd (ret (.glo ("Ratio" : Str))) fun x6 => bnd (ret []) fun a7 => ret (x6 :: a7)) fun a5 => ret (x4 :: a5)) fun a3 => noX (bcallB P false .isi a3)) fun x2 => noX (truth x2)) fun t1 => if t1 then (getV env 0) else (bnd (bnd (getV env 0) fun x9 => bnd (ret []) fun a10 => ret (x9 :: a10)) fun a8 => mkM call ("Ratio" : Str) cRatio a8)) (frzM false)) env s fun v0 s1 => .rt v0 s1) (fun env s => .nx env s)) [some p0] s) (fun _ s' => Q .non s') Q noS noS (fun C ns vs _ s' => E C ns vs s') ph := w_out
theorem c20 {p0 : T} : Wm (CG (k + 1) none 20 [p0]) s Q E p = Wm (h20 (CF k) p0) s Q E ph := w_eqm (h20_ok k p0 s)
theorem u21 {p0 : T} : Wm (h21 call p0) s Q E p = Ws ((seqS (fun env s => runE (bnd (bnd (bnd (bnd (bnd (bnd (getV env 0) fun x7 => bnd (ret none) fun l8 => bnd (bnd (ret (.int (63) : T)) fun x10 => toI x10) fun u9 => noX (sliceB false x7 l8 u9)) fun x5 => bnd (ret []) fun a6 => ret (x5 :: a6)) fun a4 => noX (bcallB P false .list a4)) fun x2 => bnd (bnd (ret (.int (0) : T)) fun x11 => bnd (bnd (ret (.int (0) : T)) fun x13 => bnd (ret []) fun a14 => ret (x13 :: a14)) fun a12 => ret (x11 :: a12)) fun a3 => ret (x2 :: a3)) fun l1 => lstM true l1) (frzM false)) env s fun v0 s1 => .rt v0 s1) (fun env s => .nx env s)) [some p0] s) (fun _ s' => Q .non s') Q noS noS (fun C ns vs _ s' => E C ns vs s') ph := w_out
theorem c21 {p0 : T} : Wm (CG (k + 1) none 21 [p0]) s Q E p = Wm (h21 (CF k) p0) s Q E ph := w_eqm (h21_ok k p0 s)
theorem u22 {p0 p1 : T} : Wm (h22 call p0 p1) s Q E p = Ws ((seqS (fun env s => runE (bnd (bnd (bnd (getV env 0) fun x4 => bnd (ret (.int (2) : T)) fun x5 => ixO P call x4 x5) fun x2 => bnd (ret (.int (0) : T)) fun x3 => noX (cmpop .Gt x2 x3)) asBool) env s fun t1 s1 => if t1 then (seqS (fun env s => runE (bnd (bnd (bnd (bnd (getV env 0) fun x13 => bnd (ret (.int (2) : T)) fun x14 => ixO P call x13 x14) fun x11 => bnd (ret []) fun a12 => ret (x11 :: a12)) fun a10 => noX (bcallB P false .int a10)) fun x8 => bnd (getV env 1) fun x9 => binO P call .Mod x8 x9) env s fun v6 s7 => .nx (env.set 5 (some v6)) s7) (seqS (fun env s => runE (bnd (bnd (bnd (bnd (getV env 0) fun x22 => bnd (ret (.int (2) : T)) fun x23 => ixO P call x22 x23) fun x20 => bnd (ret []) fun a21 => ret (x20 :: a21)) fun a19 => noX (bcallB P false .int a19)) fun x17 => bnd (getV env 1) fun x18 => binO P call .FloorDiv x17 x18) env s fun v15 s16 => runE (noX (getV env 0)) env s16 fun x24 s26 => runE (noX (ret (.int (2) : T))) env s26 fun x25 s27 => runE (noX (setItemM v15 x24 x25)) env s27 fun _ s28 => .nx env s28) (seqS (fun env s => runE (bnd (getV env 5) (frzM false)) env s fun v0 s1 => .rt v0 s1) (fun env s => .nx env s)))) env s1 else (fun env s => .nx env s) env s1) (seqS (fun env s => runE (bnd (getV env 0) fun x31 => bnd (ret (.int (1) : T)) fun x32 => ixO P call x31 x32) env s fun v29 s30 => .nx (env.set 2 (some v29)) s30) (seqS (fun env s => runE (bnd (getV env 2) fun x35 => bnd (ret (.int (1) : T)) fun x36 => binO P call .Add x35 x36) env s fun v33 s34 => runE (noX (getV env 0)) env s34 fun x37 s39 => runE (noX (ret (.int (1) : T))) env s39 fun x38 s40 => runE (noX (setItemM v33 x37 x38)) env s40 fun _ s41 => .nx env s41) (seqS (fun env s => runE (bnd (bnd (ret (.int (91009) : T)) fun x46 => bnd (getV env 2) fun x47 => binO P call .Mult x46 x47) fun x44 => bnd (ret (.int (2003) : T)) fun x45 => binO P call .Add x44 x45) env s fun v42 s43 => .nx (env.set 3 (some v42)) s43) (seqS (fun env s => runE (bnd (bnd (bnd (getV env 0) fun x51 => bnd (ret (.int (0) : T)) fun x52 => ixO P call x51 x52) fun x49 => bnd (bnd (ret []) fun l53 => lstM false l53) fun x50 => noX (cmpO P call .NotEq x49 x50)) asBool) env s fun t48 s1 => if t48 then (seqS (fun env s => runE (bnd (bnd (getV env 0) fun x58 => bnd (ret (.int (0) : T)) fun x59 => ixO P call x58 x59) fun x56 => bnd (bnd (bnd (bnd (getV env 2) fun x63 => bnd (ret []) fun a64 => ret (x63 :: a64)) fun a62 => noX (bcallB P false .int a62)) fun x60 => bnd (bnd (bnd (bnd (getV env 0) fun x68 => bnd (ret (.int (0) : T)) fun x69 => ixO P call x68 x69) fun x66 => bnd (ret []) fun a67 => ret (x66 :: a67)) fun a65 => noX (bcallO P call false .len a65)) fun x61 => binO P call .Mod x60 x61) fun x57 => ixO P call x56 x57) env s fun v54 s55 => .nx (env.set 3 (some v54)) s55) (fun env s => .nx env s)) env s1 else (fun env s => .nx env s) env s1) (seqS (fun env s => runE (bnd (bnd (bnd (getV env 2) fun x72 => bnd (bnd (bnd (bnd (getV env 0) fun x77 => bnd (ret (.int (0) : T)) fun x78 => ixO P call x77 x78) fun x75 => bnd (ret []) fun a76 => ret (x75 :: a76)) fun a74 => noX (bcallO P call false .len a74)) fun x73 => noX (cmpop .Lt x72 x73)) asBool) fun b71 => if b71 = true then (bnd (bnd (bnd (bnd (getV env 3) fun x82 => bnd (ret []) fun a83 => ret (x82 :: a83)) fun a81 => noX (bcallB P false .abs a81)) fun x79 => bnd (bnd (ret (.int (10) : T)) fun x84 => bnd (ret (.int (18) : T)) fun x85 => binO P call .Pow x84 x85) fun x80 => noX (cmpop .GtE x79 x80)) asBool) else ret b71) env s fun t70 s1 => if t70 then (seqS (fun env s => runE (bnd (bnd (ret (.int (2) : T)) fun x90 => bnd (bnd (bnd (bnd (getV env 3) fun x95 => bnd (ret []) fun a96 => ret (x95 :: a96)) fun a94 => noX (bcallB P false .abs a94)) fun x92 => bnd (bnd (ret (.int (10) : T)) fun x97 => bnd (ret (.int (18) : T)) fun x98 => binO P call .Pow x97 x98) fun x93 => binO P call .Sub x92 x93) fun x91 => binO P call .Mult x90 x91) fun x88 => bnd (bnd (bnd (bnd (getV env 3) fun x102 => bnd (ret (.int (0) : T)) fun x103 => noX (cmpop .Lt x102 x103)) fun x100 => bnd (ret []) fun a101 => ret (x100 :: a101)) fun a99 => noX (bcallB P false .int a99)) fun x89 => binO P call .Add x88 x89) env s fun v86 s87 => .nx (env.set 6 (some v86)) s87) (seqS (fun env s => runE (bnd (bnd (bnd (getV env 6) fun x109 => bnd (ret []) fun a110 => ret (x109 :: a110)) fun a108 => noX (bcallB P false .int a108)) fun x106 => bnd (getV env 1) fun x107 => binO P call .FloorDiv x106 x107) env s fun v104 s105 => runE (noX (getV env 0)) env s105 fun x111 s113 => runE (noX (ret (.int (2) : T))) env s113 fun x112 s114 => runE (noX (setItemM v104 x111 x112)) env s114 fun _ s115 => .nx env s115) (seqS (fun env s => runE (bnd (bnd (bnd (bnd (getV env 6) fun x119 => bnd (ret []) fun a120 => ret (x119 :: a120)) fun a118 => noX (bcallB P false .int a118)) fun x116 => bnd (getV env 1) fun x117 => binO P call .Mod x116 x117) (frzM false)) env s fun v0 s1 => .rt v0 s1) (fun env s => .nx env s)))) env s1 else (fun env s => .nx env s) env s1) (seqS (fun env s => runE (bnd (bnd (bnd (bnd (bnd (bnd (bnd (bnd (bnd (getV env 3) fun x137 => bnd (ret []) fun a138 => ret (x137 :: a138)) fun a136 => noX (bcallB P false .int a136)) fun x134 => bnd (ret (.int (2147483549) : T)) fun x135 => binO P call .Mod x134 x135) fun x132 => bnd (bnd (ret (.int (70001) : T)) fun x139 => bnd (getV env 2) fun x140 => binO P call .Mult x139 x140) fun x133 => binO P call .Add x132 x133) fun x130 => bnd (ret (.int (101) : T)) fun x131 => binO P call .Add x130 x131) fun x128 => bnd (ret (.int (5) : T)) fun x129 => binO P call .Pow x128 x129) fun x126 => bnd (ret []) fun a127 => ret (x126 :: a127)) fun a125 => noX (bcallB P false .int a125)) fun x123 => bnd (ret (.int (2147483629) : T)) fun x124 => binO P call .Mod x123 x124) env s fun v121 s122 => .nx (env.set 4 (some v121)) s122) (seqS (fun env s => runE (bnd (bnd (bnd (bnd (bnd (bnd (bnd (getV env 4) fun x154 => bnd (bnd (bnd (ret (.int (2) : T)) fun x158 => bnd (getV env 2) fun x159 => binO P call .Mult x158 x159) fun x156 => bnd (ret (.int (61) : T)) fun x157 => binO P call .Add x156 x157) fun x155 => binO P call .Mult x154 x155) fun x152 => bnd (bnd (bnd (ret (.int (50021) : T)) fun x162 => bnd (getV env 2) fun x163 => binO P call .Mult x162 x163) fun x160 => bnd (getV env 2) fun x161 => binO P call .Mult x160 x161) fun x153 => binO P call .Add x152 x153) fun x150 => bnd (ret (.int (13) : T)) fun x151 => binO P call .Add x150 x151) fun x148 => bnd (ret (.int (3) : T)) fun x149 => binO P call .Pow x148 x149) fun x146 => bnd (ret []) fun a147 => ret (x146 :: a147)) fun a145 => noX (bcallB P false .int a145)) fun x143 => bnd (ret (.int (2147483587) : T)) fun x144 => binO P call .Mod x143 x144) env s fun v141 s142 => .nx (env.set 4 (some v141)) s142) (seqS (fun env s => runE (bnd (bnd (bnd (bnd (bnd (getV env 4) fun x169 => bnd (ret (.int (32) : T)) fun x170 => binO P call .FloorDiv x169 x170) fun x167 => bnd (ret []) fun a168 => ret (x167 :: a168)) fun a166 => noX (bcallB P false .int a166)) fun x164 => bnd (getV env 1) fun x165 => binO P call .Mod x164 x165) (frzM false)) env s fun v0 s1 => .rt v0 s1) (fun env s => .nx env s)))))))))) [some p0, some p1, none, none, none, none, none] s) (fun _ s' => Q .non s') Q noS noS (fun C ns vs _ s' => E C ns vs s') ph := w_out
theorem c22 {p0 p1 : T} : Wm (CG (k + 1) none 22 [p0, p1]) s Q E p = Wm (h22 (CF k) p0 p1) s Q E ph := w_eqm (h22_ok k p0 p1 s)
theorem u23 {p0 p1 : T} : Wm (h23 call p0 p1) s Q E p = Ws ((seqS (fun env s => runE (bnd (bnd (getV env 1) fun x1 => bnd (bnd (bnd (getV env 0) fun x4 => bnd (bnd (bnd (bnd (getV env 1) fun x9 => bnd (ret []) fun a10 => ret (x9 :: a10)) fun a8 => noX (bcallO P call false .len a8)) fun x6 => bnd (ret []) fun a7 => ret (x6 :: a7)) fun a5 => ret (x4 :: a5)) fun a3 => call 22 a3) fun x2 => ixO P call x1 x2) (frzM false)) env s fun v0 s1 => .rt v0 s1) (fun env s => .nx env s)) [some p0, some p1] s) (fun _ s' => Q .non s') Q noS noS (fun C ns vs _ s' => E C ns vs s') ph := w_out
theorem c23 {p0 p1 : T} : Wm (CG (k + 1) none 23 [p0, p1]) s Q E p = Wm (h23 (CF k) p0 p1) s Q E ph := w_eqm (h23_ok k p0 p1 s)
theorem u24 {p0 : T} : Wm (h24 call th p0) s Q E p = Ws ((seqS (fun env s => runE (ret (.non : T)) env s fun v1 s2 => .nx (env.set 1 (some v1)) s2) (seqS (tryS P ⟨[], f0.scope, f0.scope, 0, none, noL⟩ ("GhostError" : Str) 2 (seqS (fun env s => runE (bnd (getV env 0) fun x3 => callL P call th x3) env s fun _ s1 => .nx env s1) (fun env s => .nx env s)) (fun env s => runE (getV env 2) env s fun t0 s1 => .nx (env.set 1 (some t0)) s1)) (seqS (fun env s => runE (bnd (getV env 1) (frzM false)) env s fun v0 s1 => .rt v0 s1) (fun env s => .nx env s)))) [some p0, none, none] s) (fun _ s' => Q .non s') Q noS noS (fun C ns vs _ s' => E C ns vs s') ph := w_out
theorem c24 {p0 : T} : Wm (CG (k + 1) th 24 [p0]) s Q E p = Wm (h24 (CF k) th p0) s Q E ph := w_eqm (h24_ok k th p0 s)
theorem u25 {p0 : T} : Wm (h25 call p0) s Q E p = Ws ((seqS (fun env s => runE (bnd (bnd (bnd (bnd (getV env 0) fun x7 => bnd (bnd (ret (.int (10) : T)) fun x9 => bnd (ret []) fun a10 => ret (x9 :: a10)) fun a8 => ret (x7 :: a8)) fun a6 => call 22 a6) fun x4 => bnd (bnd (bnd (bnd (getV env 0) fun x14 => bnd (bnd (bnd (ret (.int (10) : T)) fun x18 => bnd (ret (.int (30) : T)) fun x19 => binO P call .Pow x18 x19) fun x16 => bnd (ret []) fun a17 => ret (x16 :: a17)) fun a15 => ret (x14 :: a15)) fun a13 => call 22 a13) fun x11 => bnd (bnd (bnd (bnd (getV env 0) fun x23 => bnd (bnd (ret (.int (100) : T)) fun x25 => bnd (ret []) fun a26 => ret (x25 :: a26)) fun a24 => ret (x23 :: a24)) fun a22 => call 22 a22) fun x20 => bnd (ret []) fun a21 => ret (x20 :: a21)) fun a12 => ret (x11 :: a12)) fun a5 => ret (x4 :: a5)) fun l3 => lstM false l3) env s fun v1 s2 => .nx (env.set 1 (some v1)) s2) (seqS (fun env s => runE (bnd (bnd (getV env 0) fun x30 => bnd (bnd (bnd (getV env 1) fun x34 => bnd (bnd (bnd (ret (.int (0) : T)) fun x37 => bnd (bnd (ret (.int (1) : T)) fun x39 => bnd (bnd (ret (.int (6) : T)) fun x41 => bnd (bnd (ret (.int (12) : T)) fun x43 => bnd (bnd (bnd (bnd (ret (.int (10) : T)) fun x49 => bnd (ret (.int (30) : T)) fun x50 => binO P call .Pow x49 x50) fun x47 => bnd (ret (.int (1) : T)) fun x48 => binO P call .Sub x47 x48) fun x45 => bnd (ret []) fun a46 => ret (x45 :: a46)) fun a44 => ret (x43 :: a44)) fun a42 => ret (x41 :: a42)) fun a40 => ret (x39 :: a40)) fun a38 => ret (x37 :: a38)) fun l36 => lstM false l36) fun x35 => binO P call .Add x34 x35) fun x32 => bnd (ret []) fun a33 => ret (x32 :: a33)) fun a31 => ret (x30 :: a31)) fun a29 => call 23 a29) env s fun v27 s28 => .nx (env.set 2 (some v27)) s28) (seqS (fun env s => runE (bnd (bnd (bnd (bnd (bnd (bnd (getV env 0) fun x55 => bnd (bnd (ret (.int (2) : T)) fun x57 => bnd (ret []) fun a58 => ret (x57 :: a58)) fun a56 => ret (x55 :: a56)) fun a54 => call 22 a54) fun x52 => bnd (ret (.int (0) : T)) fun x53 => noX (cmpO P call .Eq x52 x53)) asBool) fun t51 => if t51 then (bnd (ret (.int (0) : T)) fun x59 => bnd (getV env 2) fun x60 => binO P call .Sub x59 x60) else (getV env 2)) (frzM false)) env s fun v0 s1 => .rt v0 s1) (fun env s => .nx env s)))) [some p0, none, none] s) (fun _ s' => Q .non s') Q noS noS (fun C ns vs _ s' => E C ns vs s') ph := w_out
theorem c25 {p0 : T} : Wm (CG (k + 1) none 25 [p0]) s Q E p = Wm (h25 (CF k) p0) s Q E ph := w_eqm (h25_ok k p0 s)
theorem u26 {p0 p1 p2 : T} : Wm (h26 call p0 p1 p2) s Q E p = Ws ((seqS (fun env s => runE (bnd (bnd (bnd (bnd (bnd (getV env 0) fun x6 => bnd (bnd (ret (.glo ("Ratio" : Str))) fun x8 => bnd (ret []) fun a9 => ret (x8 :: a9)) fun a7 => ret (x6 :: a7)) fun a5 => noX (bcallB P false .isi a5)) fun x4 => noX (truth x4)) fun b3 => ret (!b3)) fun b2 => if b2 = false then (bnd (bnd (bnd (bnd (getV env 0) fun x13 => attrM P call ("bottom" : Str) x13) fun x11 => bnd (ret (.int (1) : T)) fun x12 => noX (cmpop .Lt x11 x12)) asBool) fun b10 => if b10 = false then (bnd (bnd (bnd (bnd (getV env 0) fun x18 => attrM P call ("top" : Str) x18) fun x16 => bnd (getV env 2) fun x17 => binO P call .Mult x16 x17) fun x14 => bnd (bnd (getV env 1) fun x19 => bnd (bnd (getV env 0) fun x21 => attrM P call ("bottom" : Str) x21) fun x20 => binO P call .Mult x19 x20) fun x15 => noX (cmpO P call .NotEq x14 x15)) asBool) else ret b10) else ret b2) env s fun t1 s1 => if t1 then (seqS (fun env s => runE (bnd (ret (.bl false : T)) (frzM false)) env s fun v0 s1 => .rt v0 s1) (fun env s => .nx env s)) env s1 else (fun env s => .nx env s) env s1) (seqS (fun env s => runE (bnd (bnd (bnd (bnd (bnd (getV env 0) fun x29 => attrM P call ("top" : Str) x29) fun x27 => bnd (ret []) fun a28 => ret (x27 :: a28)) fun a26 => noX (bcallB P false .abs a26)) fun x24 => bnd (bnd (bnd (getV env 0) fun x32 => attrM P call ("bottom" : Str) x32) fun x30 => bnd (ret []) fun a31 => ret (x30 :: a31)) fun a25 => ret (x24 :: a25)) tupM) env s fun v22 s23 => bindS (bindTup [3, 4]) v22 env s23) (seqS (whileS (h26_b0_c call) (h26_b0 call) (2 ^ 200)) (seqS (fun env s => runE (bnd (bnd (getV env 3) fun x46 => bnd (ret (.int (1) : T)) fun x47 => noX (cmpO P call .Eq x46 x47)) (frzM false)) env s fun v0 s1 => .rt v0 s1) (fun env s => .nx env s))))) [some p0, some p1, some p2, none, none] s) (fun _ s' => Q .non s') Q noS noS (fun C ns vs _ s' => E C ns vs s') ph := w_out
theorem c26 {p0 p1 p2 : T} : Wm (CG (k + 1) none 26 [p0, p1, p2]) s Q E p = Wm (h26 (CF k) p0 p1 p2) s Q E ph := w_eqm (h26_ok k p0 p1 p2 s)
theorem u27 {p0 p1 : T} : Wm (h27 call p0 p1) s Q E p = Ws ((seqS (fun env s => runE (bnd (bnd (bnd (getV env 0) fun x5 => bnd (ret (.int (0) : T)) fun x6 => ixO P call x5 x6) fun x3 => bnd (bnd (bnd (getV env 0) fun x9 => bnd (ret (.int (1) : T)) fun x10 => ixO P call x9 x10) fun x7 => bnd (bnd (bnd (getV env 1) fun x13 => bnd (ret (.int (0) : T)) fun x14 => ixO P call x13 x14) fun x11 => bnd (bnd (bnd (getV env 1) fun x17 => bnd (ret (.int (1) : T)) fun x18 => ixO P call x17 x18) fun x15 => bnd (ret []) fun a16 => ret (x15 :: a16)) fun a12 => ret (x11 :: a12)) fun a8 => ret (x7 :: a8)) fun a4 => ret (x3 :: a4)) tupM) env s fun v1 s2 => bindS (bindTup [5, 6, 7, 8]) v1 env s2) (seqS (fun env s => runE (bnd (bnd (bnd (bnd (getV env 5) fun x24 => bnd (bnd (getV env 6) fun x26 => bnd (ret []) fun a27 => ret (x26 :: a27)) fun a25 => ret (x24 :: a25)) fun a23 => mkM call ("Ratio" : Str) cRatio a23) fun x21 => bnd (bnd (bnd (bnd (getV env 7) fun x31 => bnd (bnd (getV env 8) fun x33 => bnd (ret []) fun a34 => ret (x33 :: a34)) fun a32 => ret (x31 :: a32)) fun a30 => mkM call ("Ratio" : Str) cRatio a30) fun x28 => bnd (ret []) fun a29 => ret (x28 :: a29)) fun a22 => ret (x21 :: a22)) tupM) env s fun v19 s20 => bindS (bindTup [9, 10]) v19 env s20) (seqS (fun env s => runE (bnd (bnd (bnd (bnd (bnd (bnd (getV env 9) fun x42 => bnd (getV env 10) fun x43 => binO P call .Add x42 x43) fun x40 => bnd (bnd (bnd (bnd (getV env 5) fun x48 => bnd (getV env 8) fun x49 => binO P call .Mult x48 x49) fun x46 => bnd (bnd (getV env 7) fun x50 => bnd (getV env 6) fun x51 => binO P call .Mult x50 x51) fun x47 => binO P call .Add x46 x47) fun x44 => bnd (bnd (bnd (getV env 6) fun x54 => bnd (getV env 8) fun x55 => binO P call .Mult x54 x55) fun x52 => bnd (ret []) fun a53 => ret (x52 :: a53)) fun a45 => ret (x44 :: a45)) fun a41 => ret (x40 :: a41)) fun a39 => call 26 a39) fun x38 => noX (truth x38)) fun b37 => ret (!b37)) fun b36 => if b36 = false then (bnd (bnd (bnd (bnd (bnd (getV env 9) fun x61 => bnd (getV env 10) fun x62 => binO P call .Sub x61 x62) fun x59 => bnd (bnd (bnd (bnd (getV env 5) fun x67 => bnd (getV env 8) fun x68 => binO P call .Mult x67 x68) fun x65 => bnd (bnd (getV env 7) fun x69 => bnd (getV env 6) fun x70 => binO P call .Mult x69 x70) fun x66 => binO P call .Sub x65 x66) fun x63 => bnd (bnd (bnd (getV env 6) fun x73 => bnd (getV env 8) fun x74 => binO P call .Mult x73 x74) fun x71 => bnd (ret []) fun a72 => ret (x71 :: a72)) fun a64 => ret (x63 :: a64)) fun a60 => ret (x59 :: a60)) fun a58 => call 26 a58) fun x57 => noX (truth x57)) fun b56 => ret (!b56)) else ret b36) env s fun t35 s1 => if t35 then (seqS (fun env s => runE (bnd (ret (.bl false : T)) (frzM false)) env s fun v0 s1 => .rt v0 s1) (fun env s => .nx env s)) env s1 else (fun env s => .nx env s) env s1) (seqS (fun env s => runE (bnd (bnd (bnd (bnd (bnd (bnd (getV env 9) fun x82 => bnd (getV env 10) fun x83 => binO P call .Mult x82 x83) fun x80 => bnd (bnd (bnd (getV env 5) fun x86 => bnd (getV env 7) fun x87 => binO P call .Mult x86 x87) fun x84 => bnd (bnd (bnd (getV env 6) fun x90 => bnd (getV env 8) fun x91 => binO P call .Mult x90 x91) fun x88 => bnd (ret []) fun a89 => ret (x88 :: a89)) fun a85 => ret (x84 :: a85)) fun a81 => ret (x80 :: a81)) fun a79 => call 26 a79) fun x78 => noX (truth x78)) fun b77 => ret (!b77)) fun b76 => if b76 = false then (bnd (bnd (bnd (bnd (bnd (getV env 9) fun x97 => negO P call x97) fun x95 => bnd (bnd (bnd (ret (.int (0) : T)) fun x100 => bnd (getV env 5) fun x101 => binO P call .Sub x100 x101) fun x98 => bnd (bnd (getV env 6) fun x102 => bnd (ret []) fun a103 => ret (x102 :: a103)) fun a99 => ret (x98 :: a99)) fun a96 => ret (x95 :: a96)) fun a94 => call 26 a94) fun x93 => noX (truth x93)) fun b92 => ret (!b92)) else ret b76) env s fun t75 s1 => if t75 then (seqS (fun env s => runE (bnd (ret (.bl false : T)) (frzM false)) env s fun v0 s1 => .rt v0 s1) (fun env s => .nx env s)) env s1 else (fun env s => .nx env s) env s1) (seqS (fun env s => runE (bnd (bnd (bnd (getV env 7) fun x106 => bnd (ret (.int (0) : T)) fun x107 => noX (cmpO P call .NotEq x106 x107)) asBool) fun b105 => if b105 = true then (bnd (bnd (bnd (bnd (bnd (getV env 9) fun x113 => bnd (methI P ("over" : Str) x113) fun r114 => bnd (bnd (getV env 10) fun x116 => bnd (ret []) fun a117 => ret (x116 :: a117)) fun a115 => call r114.1 (r114.2 ++ a115)) fun x111 => bnd (bnd (bnd (getV env 5) fun x120 => bnd (getV env 8) fun x121 => binO P call .Mult x120 x121) fun x118 => bnd (bnd (bnd (getV env 6) fun x124 => bnd (getV env 7) fun x125 => binO P call .Mult x124 x125) fun x122 => bnd (ret []) fun a123 => ret (x122 :: a123)) fun a119 => ret (x118 :: a119)) fun a112 => ret (x111 :: a112)) fun a110 => call 26 a110) fun x109 => noX (truth x109)) fun b108 => ret (!b108)) else ret b105) env s fun t104 s1 => if t104 then (seqS (fun env s => runE (bnd (ret (.bl false : T)) (frzM false)) env s fun v0 s1 => .rt v0 s1) (fun env s => .nx env s)) env s1 else (fun env s => .nx env s) env s1) (seqS (fun env s => runE (bnd (bnd (bnd (bnd (getV env 6) fun x131 => bnd (getV env 8) fun x132 => binO P call .Mult x131 x132) fun x129 => bnd (ret (.int (0) : T)) fun x130 => noX (cmpop .Gt x129 x130)) asBool) fun t128 => if t128 then (ret (.int (1) : T)) else (bnd (ret (.int (1) : T)) fun x133 => negO P call x133)) env s fun v126 s127 => .nx (env.set 2 (some v126)) s127) (seqS (fun env s => runE (bnd (bnd (bnd (getV env 9) fun x139 => bnd (getV env 10) fun x140 => noX (cmpO P call .Eq x139 x140)) fun x137 => bnd (bnd (bnd (getV env 9) fun x143 => bnd (getV env 10) fun x144 => noX (cmpO P call .NotEq x143 x144)) fun x141 => bnd (bnd (bnd (getV env 9) fun x147 => bnd (methI P ("below" : Str) x147) fun r148 => bnd (bnd (getV env 10) fun x150 => bnd (ret []) fun a151 => ret (x150 :: a151)) fun a149 => call r148.1 (r148.2 ++ a149)) fun x145 => bnd (bnd (bnd (getV env 9) fun x154 => bnd (methI P ("at_most" : Str) x154) fun r155 => bnd (bnd (getV env 10) fun x157 => bnd (ret []) fun a158 => ret (x157 :: a158)) fun a156 => call r155.1 (r155.2 ++ a156)) fun x152 => bnd (bnd (bnd (bnd (getV env 9) fun x162 => bnd (ret []) fun a163 => ret (x162 :: a163)) fun a161 => noX (bcallO P call false .bool a161)) fun x159 => bnd (ret []) fun a160 => ret (x159 :: a160)) fun a153 => ret (x152 :: a153)) fun a146 => ret (x145 :: a146)) fun a142 => ret (x141 :: a142)) fun a138 => ret (x137 :: a138)) fun l136 => lstM false l136) env s fun v134 s135 => .nx (env.set 3 (some v134)) s135) (seqS (fun env s => runE (bnd (getV env 2) fun x166 => bnd (bnd (bnd (getV env 5) fun x170 => bnd (getV env 8) fun x171 => binO P call .Mult x170 x171) fun x168 => bnd (bnd (getV env 7) fun x172 => bnd (getV env 6) fun x173 => binO P call .Mult x172 x173) fun x169 => binO P call .Sub x168 x169) fun x167 => binO P call .Mult x166 x167) env s fun v164 s165 => .nx (env.set 4 (some v164)) s165) (seqS (fun env s => runE (bnd (bnd (bnd (bnd (getV env 3) fun x177 => bnd (ret []) fun a178 => ret (x177 :: a178)) fun a176 => noX (bcallB P false .repr a176)) fun x174 => bnd (bnd (bnd (bnd (bnd (bnd (getV env 4) fun x185 => bnd (ret (.int (0) : T)) fun x186 => noX (cmpO P call .Eq x185 x186)) fun x183 => bnd (bnd (bnd (getV env 4) fun x189 => bnd (ret (.int (0) : T)) fun x190 => noX (cmpO P call .NotEq x189 x190)) fun x187 => bnd (bnd (bnd (getV env 4) fun x193 => bnd (ret (.int (0) : T)) fun x194 => noX (cmpop .Lt x193 x194)) fun x191 => bnd (bnd (bnd (getV env 4) fun x197 => bnd (ret (.int (0) : T)) fun x198 => noX (cmpop .LtE x197 x198)) fun x195 => bnd (bnd (bnd (getV env 5) fun x201 => bnd (ret (.int (0) : T)) fun x202 => noX (cmpO P call .NotEq x201 x202)) fun x199 => bnd (ret []) fun a200 => ret (x199 :: a200)) fun a196 => ret (x195 :: a196)) fun a192 => ret (x191 :: a192)) fun a188 => ret (x187 :: a188)) fun a184 => ret (x183 :: a184)) fun l182 => lstM false l182) fun x180 => bnd (ret []) fun a181 => ret (x180 :: a181)) fun a179 => noX (bcallB P false .repr a179)) fun x175 => noX (cmpO P call .Eq x174 x175)) (frzM false)) env s fun v0 s1 => .rt v0 s1) (fun env s => .nx env s)))))))))) [some p0, some p1, none, none, none, none, none, none, none, none, none] s) (fun _ s' => Q .non s') Q noS noS (fun C ns vs _ s' => E C ns vs s') ph := w_out
theorem c27 {p0 p1 : T} : Wm (CG (k + 1) none 27 [p0, p1]) s Q E p = Wm (h27 (CF k) p0 p1) s Q E ph := w_eqm (h27_ok k p0 p1 s)
theorem u28 {p0 p1 : T} : Wm (h28 call p0 p1) s Q E p = Ws ((seqS (fun env s => runE (getV env 0) env s fun v1 s2 => bindS (bindTup [7, 8]) v1 env s2) (seqS (fun env s => runE (bnd (bnd (getV env 7) fun x6 => bnd (bnd (getV env 8) fun x8 => bnd (ret []) fun a9 => ret (x8 :: a9)) fun a7 => ret (x6 :: a7)) fun a5 => mkM call ("Ratio" : Str) cRatio a5) env s fun v3 s4 => .nx (env.set 2 (some v3)) s4) (seqS (fun env s => runE (bnd (bnd (bnd (getV env 2) fun x15 => bnd (getV env 1) fun x16 => binO P call .Add x15 x16) fun x13 => bnd (bnd (bnd (getV env 1) fun x19 => bnd (getV env 2) fun x20 => binO P call .Add x19 x20) fun x17 => bnd (ret []) fun a18 => ret (x17 :: a18)) fun a14 => ret (x13 :: a14)) fun l12 => lstM false l12) env s fun v10 s11 => .nx (env.set 3 (some v10)) s11) (seqS (fun env s => runE (bnd (bnd (compS [9] false (fun env => (bnd (getV env 3) fixM)) (bindN 9) (fun env => (bnd (bnd (bnd (bnd (getV env 9) fun x27 => bnd (bnd (bnd (getV env 7) fun x31 => bnd (bnd (getV env 1) fun x33 => bnd (getV env 8) fun x34 => binO P call .Mult x33 x34) fun x32 => binO P call .Add x31 x32) fun x29 => bnd (bnd (getV env 8) fun x35 => bnd (ret []) fun a36 => ret (x35 :: a36)) fun a30 => ret (x29 :: a30)) fun a28 => ret (x27 :: a28)) fun a26 => call 26 a26) fun x25 => noX (truth x25)) fun b24 => ret (!b24))) (fun env => (getV env 9)) env) fun x22 => bnd (bnd (ret []) fun l37 => lstM false l37) fun x23 => noX (cmpO P call .NotEq x22 x23)) asBool) env s fun t21 s1 => if t21 then (seqS (fun env s => runE (bnd (ret (.bl false : T)) (frzM false)) env s fun v0 s1 => .rt v0 s1) (fun env s => .nx env s)) env s1 else (fun env s => .nx env s) env s1) (seqS (fun env s => runE (bnd (bnd (bnd (bnd (bnd (bnd (getV env 2) fun x45 => bnd (getV env 1) fun x46 => binO P call .Sub x45 x46) fun x43 => bnd (bnd (bnd (getV env 7) fun x49 => bnd (bnd (getV env 1) fun x51 => bnd (getV env 8) fun x52 => binO P call .Mult x51 x52) fun x50 => binO P call .Sub x49 x50) fun x47 => bnd (bnd (getV env 8) fun x53 => bnd (ret []) fun a54 => ret (x53 :: a54)) fun a48 => ret (x47 :: a48)) fun a44 => ret (x43 :: a44)) fun a42 => call 26 a42) fun x41 => noX (truth x41)) fun b40 => ret (!b40)) fun b39 => if b39 = false then (bnd (bnd (bnd (bnd (bnd (getV env 1) fun x60 => bnd (getV env 2) fun x61 => binO P call .Sub x60 x61) fun x58 => bnd (bnd (bnd (bnd (getV env 1) fun x66 => bnd (getV env 8) fun x67 => binO P call .Mult x66 x67) fun x64 => bnd (getV env 7) fun x65 => binO P call .Sub x64 x65) fun x62 => bnd (bnd (getV env 8) fun x68 => bnd (ret []) fun a69 => ret (x68 :: a69)) fun a63 => ret (x62 :: a63)) fun a59 => ret (x58 :: a59)) fun a57 => call 26 a57) fun x56 => noX (truth x56)) fun b55 => ret (!b55)) else ret b39) env s fun t38 s1 => if t38 then (seqS (fun env s => runE (bnd (ret (.bl false : T)) (frzM false)) env s fun v0 s1 => .rt v0 s1) (fun env s => .nx env s)) env s1 else (fun env s => .nx env s) env s1) (seqS (fun env s => runE (bnd (bnd (bnd (bnd (bnd (bnd (getV env 2) fun x77 => bnd (getV env 1) fun x78 => binO P call .Mult x77 x78) fun x75 => bnd (bnd (bnd (getV env 7) fun x81 => bnd (getV env 1) fun x82 => binO P call .Mult x81 x82) fun x79 => bnd (bnd (getV env 8) fun x83 => bnd (ret []) fun a84 => ret (x83 :: a84)) fun a80 => ret (x79 :: a80)) fun a76 => ret (x75 :: a76)) fun a74 => call 26 a74) fun x73 => noX (truth x73)) fun b72 => ret (!b72)) fun b71 => if b71 = false then (bnd (bnd (bnd (bnd (bnd (getV env 1) fun x90 => bnd (getV env 2) fun x91 => binO P call .Mult x90 x91) fun x88 => bnd (bnd (bnd (getV env 7) fun x94 => bnd (getV env 1) fun x95 => binO P call .Mult x94 x95) fun x92 => bnd (bnd (getV env 8) fun x96 => bnd (ret []) fun a97 => ret (x96 :: a97)) fun a93 => ret (x92 :: a93)) fun a89 => ret (x88 :: a89)) fun a87 => call 26 a87) fun x86 => noX (truth x86)) fun b85 => ret (!b85)) else ret b71) env s fun t70 s1 => if t70 then (seqS (fun env s => runE (bnd (ret (.bl false : T)) (frzM false)) env s fun v0 s1 => .rt v0 s1) (fun env s => .nx env s)) env s1 else (fun env s => .nx env s) env s1) (seqS (fun env s => runE (bnd (bnd (bnd (getV env 1) fun x100 => bnd (ret (.int (0) : T)) fun x101 => noX (cmpO P call .NotEq x100 x101)) asBool) fun b99 => if b99 = true then (bnd (bnd (bnd (bnd (bnd (getV env 2) fun x107 => bnd (methI P ("over" : Str) x107) fun r108 => bnd (bnd (getV env 1) fun x110 => bnd (ret []) fun a111 => ret (x110 :: a111)) fun a109 => call r108.1 (r108.2 ++ a109)) fun x105 => bnd (bnd (getV env 7) fun x112 => bnd (bnd (bnd (getV env 8) fun x116 => bnd (getV env 1) fun x117 => binO P call .Mult x116 x117) fun x114 => bnd (ret []) fun a115 => ret (x114 :: a115)) fun a113 => ret (x112 :: a113)) fun a106 => ret (x105 :: a106)) fun a104 => call 26 a104) fun x103 => noX (truth x103)) fun b102 => ret (!b102)) else ret b99) env s fun t98 s1 => if t98 then (seqS (fun env s => runE (bnd (ret (.bl false : T)) (frzM false)) env s fun v0 s1 => .rt v0 s1) (fun env s => .nx env s)) env s1 else (fun env s => .nx env s) env s1) (seqS (fun env s => runE (bnd (getV env 7) fun x120 => bnd (bnd (getV env 1) fun x122 => bnd (getV env 8) fun x123 => binO P call .Mult x122 x123) fun x121 => noX (cmpO P call .Eq x120 x121)) env s fun v118 s119 => .nx (env.set 4 (some v118)) s119) (seqS (fun env s => runE (bnd (bnd (bnd (bnd (bnd (bnd (getV env 2) fun x131 => bnd (getV env 1) fun x132 => noX (cmpO P call .Eq x131 x132)) fun x129 => bnd (bnd (bnd (getV env 2) fun x135 => bnd (getV env 1) fun x136 => noX (cmpO P call .NotEq x135 x136)) fun x133 => bnd (ret []) fun a134 => ret (x133 :: a134)) fun a130 => ret (x129 :: a130)) fun l128 => lstM false l128) fun x126 => bnd (bnd (bnd (getV env 4) fun x138 => bnd (bnd (bnd (getV env 4) fun x142 => bnd (noX (truth x142)) fun b143 => ret (.bl (!b143))) fun x140 => bnd (ret []) fun a141 => ret (x140 :: a141)) fun a139 => ret (x138 :: a139)) fun l137 => lstM false l137) fun x127 => noX (cmpO P call .NotEq x126 x127)) asBool) fun b125 => if b125 = false then (bnd (bnd (getV env 2) fun x144 => bnd (bnd (bnd (getV env 2) fun x147 => bnd (ret []) fun a148 => ret (x147 :: a148)) fun a146 => noX (bcallO P call false .str a146)) fun x145 => noX (cmpO P call .Eq x144 x145)) asBool) else ret b125) env s fun t124 s1 => if t124 then (seqS (fun env s => runE (bnd (ret (.bl false : T)) (frzM false)) env s fun v0 s1 => .rt v0 s1) (fun env s => .nx env s)) env s1 else (fun env s => .nx env s) env s1) (seqS (fun env s => runE (bnd (bnd (bnd (getV env 8) fun x152 => bnd (ret (.int (0) : T)) fun x153 => noX (cmpop .Gt x152 x153)) asBool) fun t151 => if t151 then (ret (.int (1) : T)) else (bnd (ret (.int (1) : T)) fun x154 => negO P call x154)) env s fun v149 s150 => .nx (env.set 5 (some v149)) s150) (seqS (fun env s => runE (bnd (getV env 5) fun x157 => bnd (bnd (getV env 7) fun x159 => bnd (bnd (getV env 1) fun x161 => bnd (getV env 8) fun x162 => binO P call .Mult x161 x162) fun x160 => binO P call .Sub x159 x160) fun x158 => binO P call .Mult x157 x158) env s fun v155 s156 => .nx (env.set 6 (some v155)) s156) (seqS (fun env s => runE (bnd (bnd (bnd (bnd (bnd (bnd (bnd (getV env 2) fun x171 => bnd (methI P ("below" : Str) x171) fun r172 => bnd (bnd (getV env 1) fun x174 => bnd (ret []) fun a175 => ret (x174 :: a175)) fun a173 => call r172.1 (r172.2 ++ a173)) fun x169 => bnd (bnd (bnd (getV env 2) fun x178 => bnd (methI P ("at_most" : Str) x178) fun r179 => bnd (bnd (getV env 1) fun x181 => bnd (ret []) fun a182 => ret (x181 :: a182)) fun a180 => call r179.1 (r179.2 ++ a180)) fun x176 => bnd (ret []) fun a177 => ret (x176 :: a177)) fun a170 => ret (x169 :: a170)) fun l168 => lstM false l168) fun x166 => bnd (ret []) fun a167 => ret (x166 :: a167)) fun a165 => noX (bcallB P false .repr a165)) fun x163 => bnd (bnd (bnd (bnd (bnd (bnd (getV env 6) fun x189 => bnd (ret (.int (0) : T)) fun x190 => noX (cmpop .Lt x189 x190)) fun x187 => bnd (bnd (bnd (getV env 6) fun x193 => bnd (ret (.int (0) : T)) fun x194 => noX (cmpop .LtE x193 x194)) fun x191 => bnd (ret []) fun a192 => ret (x191 :: a192)) fun a188 => ret (x187 :: a188)) fun l186 => lstM false l186) fun x184 => bnd (ret []) fun a185 => ret (x184 :: a185)) fun a183 => noX (bcallB P false .repr a183)) fun x164 => noX (cmpO P call .Eq x163 x164)) (frzM false)) env s fun v0 s1 => .rt v0 s1) (fun env s => .nx env s))))))))))))) [some p0, some p1, none, none, none, none, none, none, none, none] s) (fun _ s' => Q .non s') Q noS noS (fun C ns vs _ s' => E C ns vs s') ph := w_out
theorem c28 {p0 p1 : T} : Wm (CG (k + 1) none 28 [p0, p1]) s Q E p = Wm (h28 (CF k) p0 p1) s Q E ph := w_eqm (h28_ok k p0 p1 s)
theorem u29 {p0 : T} : Wm (h29 call cg call0 p0) s Q E p = Ws ((seqS (fun env s => runE (bnd (bnd (getV env 0) fun x4 => bnd (bnd (bnd (bnd (ret (.non : T)) fun x9 => bnd (bnd (ret (.bl true : T)) fun x11 => bnd (bnd (ret (.bl false : T)) fun x13 => bnd (bnd (ret (.str "1" : T)) fun x15 => bnd (bnd (bnd (bnd (ret (.int (1) : T)) fun x20 => bnd (ret []) fun a21 => ret (x20 :: a21)) fun l19 => tupM l19) fun x17 => bnd (bnd (bnd (ret []) fun l24 => lstM false l24) fun x22 => bnd (bnd (ret (.dct [] [])) fun x25 => bnd (bnd (ret (.str "" : T)) fun x27 => bnd (ret []) fun a28 => ret (x27 :: a28)) fun a26 => ret (x25 :: a26)) fun a23 => ret (x22 :: a23)) fun a18 => ret (x17 :: a18)) fun a16 => ret (x15 :: a16)) fun a14 => ret (x13 :: a14)) fun a12 => ret (x11 :: a12)) fun a10 => ret (x9 :: a10)) fun l8 => lstM false l8) fun x6 => bnd (ret []) fun a7 => ret (x6 :: a7)) fun a5 => ret (x4 :: a5)) fun a3 => call 23 a3) env s fun v1 s2 => .nx (env.set 1 (some v1)) s2) (seqS (fun env s => runE (bnd (bnd (getV env 0) fun x32 => bnd (bnd (bnd (bnd (ret (.non : T)) fun x37 => bnd (bnd (ret (.bl true : T)) fun x39 => bnd (bnd (ret (.str "2" : T)) fun x41 => bnd (bnd (bnd (bnd (ret (.int (2) : T)) fun x46 => bnd (ret []) fun a47 => ret (x46 :: a47)) fun l45 => lstM false l45) fun x43 => bnd (ret []) fun a44 => ret (x43 :: a44)) fun a42 => ret (x41 :: a42)) fun a40 => ret (x39 :: a40)) fun a38 => ret (x37 :: a38)) fun l36 => lstM false l36) fun x34 => bnd (ret []) fun a35 => ret (x34 :: a35)) fun a33 => ret (x32 :: a33)) fun a31 => call 23 a31) env s fun v29 s30 => .nx (env.set 2 (some v29)) s30) (seqS (fun env s => runE (bnd (bnd (lamM fun a c vs => cg (some ((.lam a c (f29.qual ++ ".<locals>." ++ "<lambda>") (env.filterMap id) vs), (fun (call : CallM) => (bnd (bnd (getV env 1) fun x54 => bnd (bnd (getV env 2) fun x56 => bnd (ret []) fun a57 => ret (x56 :: a57)) fun a55 => ret (x54 :: a55)) fun a53 => mkM call ("Ratio" : Str) cRatio a53)) call0)) 24 [(.lam a c (f29.qual ++ ".<locals>." ++ "<lambda>") (env.filterMap id) vs)]) fun x51 => bnd (ret []) fun a52 => ret (x51 :: a52)) fun l50 => lstM true l50) env s fun v48 s49 => .nx (env.set 3 (some v48)) s49) (seqS (fun env s => runE (bnd (getV env 3) fun x58 => methM ("append" : Str) x58 (bnd (lamM fun a c vs => cg (some ((.lam a c (f29.qual ++ ".<locals>." ++ "<lambda>") (env.filterMap id) vs), (fun (call : CallM) => (bnd (bnd (getV env 1) fun x62 => bnd (bnd (ret (.int (0) : T)) fun x64 => bnd (ret []) fun a65 => ret (x64 :: a65)) fun a63 => ret (x62 :: a63)) fun a61 => mkM call ("Ratio" : Str) cRatio a61)) call0)) 24 [(.lam a c (f29.qual ++ ".<locals>." ++ "<lambda>") (env.filterMap id) vs)]) fun x59 => bnd (ret []) fun a60 => ret (x59 :: a60))) env s fun _ s1 => .nx env s1) (seqS (fun env s => runE (bnd (getV env 3) fun x66 => methM ("append" : Str) x66 (bnd (lamM fun a c vs => cg (some ((.lam a c (f29.qual ++ ".<locals>." ++ "<lambda>") (env.filterMap id) vs), (fun (call : CallM) => (bnd (bnd (ret (.int (3) : T)) fun x70 => bnd (bnd (getV env 1) fun x72 => bnd (ret []) fun a73 => ret (x72 :: a73)) fun a71 => ret (x70 :: a71)) fun a69 => mkM call ("Ratio" : Str) cRatio a69)) call0)) 24 [(.lam a c (f29.qual ++ ".<locals>." ++ "<lambda>") (env.filterMap id) vs)]) fun x67 => bnd (ret []) fun a68 => ret (x67 :: a68))) env s fun _ s1 => .nx env s1) (seqS (fun env s => runE (bnd (getV env 3) fun x74 => methM ("append" : Str) x74 (bnd (lamM fun a c vs => cg (some ((.lam a c (f29.qual ++ ".<locals>." ++ "<lambda>") (env.filterMap id) vs), (fun (call : CallM) => (bnd (bnd (ret (.int (3) : T)) fun x78 => bnd (bnd (ret (.int (0) : T)) fun x80 => bnd (ret []) fun a81 => ret (x80 :: a81)) fun a79 => ret (x78 :: a79)) fun a77 => mkM call ("Ratio" : Str) cRatio a77)) call0)) 24 [(.lam a c (f29.qual ++ ".<locals>." ++ "<lambda>") (env.filterMap id) vs)]) fun x75 => bnd (ret []) fun a76 => ret (x75 :: a76))) env s fun _ s1 => .nx env s1) (seqS (fun env s => runE (bnd (getV env 3) fun x82 => methM ("append" : Str) x82 (bnd (lamM fun a c vs => cg (some ((.lam a c (f29.qual ++ ".<locals>." ++ "<lambda>") (env.filterMap id) vs), (fun (call : CallM) => (bnd (bnd (bnd (ret (.int (3) : T)) fun x89 => bnd (ret []) fun a90 => ret (x89 :: a90)) fun a88 => mkM call ("Ratio" : Str) cRatio a88) fun x85 => bnd (methI P ("over" : Str) x85) fun r86 => bnd (bnd (ret (.int (0) : T)) fun x91 => bnd (ret []) fun a92 => ret (x91 :: a92)) fun a87 => call r86.1 (r86.2 ++ a87))) call0)) 24 [(.lam a c (f29.qual ++ ".<locals>." ++ "<lambda>") (env.filterMap id) vs)]) fun x83 => bnd (ret []) fun a84 => ret (x83 :: a84))) env s fun _ s1 => .nx env s1) (seqS (frzJ 3 (fun env s => runE (bnd (bnd (compS [4] false (fun env => (bnd (getV env 3) fixM)) (bindN 4) (fun env => (bnd (bnd (bnd (bnd (getV env 4) fun x99 => bnd (bnd (ret (.glo ("BadRatio" : Str))) fun x101 => bnd (ret []) fun a102 => ret (x101 :: a102)) fun a100 => ret (x99 :: a100)) fun a98 => noX (bcallB P false .isi a98)) fun x97 => noX (truth x97)) fun b96 => ret (!b96))) (fun env => (getV env 4)) env) fun x94 => bnd (bnd (ret []) fun l103 => lstM false l103) fun x95 => noX (cmpO P call .NotEq x94 x95)) asBool) env s fun t93 s1 => if t93 then (seqS (fun env s => runE (bnd (ret (.bl false : T)) (frzM false)) env s fun v0 s1 => .rt v0 s1) (fun env s => .nx env s)) env s1 else (fun env s => .nx env s) env s1)) (seqS (fun env s => runE (bnd (bnd (bnd (bnd (compS [4] false (fun env => (bnd (getV env 3) fixM)) (bindN 4) (fun env => ret true) (fun env => (bnd (getV env 4) fun x109 => attrM P call ("value" : Str) x109)) env) fun x107 => bnd (ret []) fun a108 => ret (x107 :: a108)) fun a106 => noX (bcallB P false .repr a106)) fun x104 => bnd (bnd (bnd (bnd (bnd (getV env 1) fun x114 => bnd (bnd (getV env 1) fun x116 => bnd (bnd (getV env 1) fun x118 => bnd (bnd (ret (.int (0) : T)) fun x120 => bnd (bnd (ret (.int (0) : T)) fun x122 => bnd (ret []) fun a123 => ret (x122 :: a123)) fun a121 => ret (x120 :: a121)) fun a119 => ret (x118 :: a119)) fun a117 => ret (x116 :: a117)) fun a115 => ret (x114 :: a115)) fun l113 => lstM false l113) fun x111 => bnd (ret []) fun a112 => ret (x111 :: a112)) fun a110 => noX (bcallB P false .repr a110)) fun x105 => noX (cmpO P call .Eq x104 x105)) (frzM false)) env s fun v0 s1 => .rt v0 s1) (fun env s => .nx env s)))))))))) [some p0, none, none, none, none] s) (fun _ s' => Q .non s') Q noS noS (fun C ns vs _ s' => E C ns vs s') ph := w_out
theorem c29 {p0 : T} : Wm (CG (k + 2) none 29 [p0]) s Q E p = Wm (h29 (CF (k + 1)) (CG (k + 1)) (CF k) p0) s Q E ph := w_eqm (h29_ok k p0 s)
theorem u30 {p0 : T} : Wm (h30 call cg call0 p0) s Q E p = Ws ((seqS (fun env s => runE (bnd (bnd (getV env 0) fun x4 => bnd (ret []) fun a5 => ret (x4 :: a5)) fun a3 => call 21 a3) env s fun v1 s2 => .nx (env.set 1 (some v1)) s2) (seqS (fun env s => runE (bnd (bnd (ret (.int (8) : T)) fun x226 => bnd (ret []) fun a227 => ret (x226 :: a227)) rangeM) env s fun ts s1 => forS (bindN 2) (h30_b0 call cg call0) ts env s1) (seqS (fun env s => runE (bnd (ret (.bl true : T)) (frzM false)) env s fun v0 s1 => .rt v0 s1) (fun env s => .nx env s)))) [some p0, none, none, none, none, none, none, none, none] s) (fun _ s' => Q .non s') Q noS noS (fun C ns vs _ s' => E C ns vs s') ph := w_out
theorem c30 {p0 : T} : Wm (CG (k + 2) none 30 [p0]) s Q E p = Wm (h30 (CF (k + 1)) (CG (k + 1)) (CF k) p0) s Q E ph := w_eqm (h30_ok k p0 s)
theorem k_GhostError : P.cls? ("GhostError" : Str) = some cGhostError := by kernel_rfl
theorem k_BadInput : P.cls? ("BadInput" : Str) = some cBadInput := by kernel_rfl
theorem k_BadRatio : P.cls? ("BadRatio" : Str) = some cBadRatio := by kernel_rfl
theorem e_BadRatio_value : Wm (attrM P call ("value" : Str) (.exc ("BadRatio" : Str) ns vs)) s Q E p = OP (lkF ns vs ("value" : Str)) (fun t => Q t s) ph := w_aErr k_BadRatio (by kernel_rfl) (by kernel_rfl)
theorem k_BadText : P.cls? ("BadText" : Str) = some cBadText := by kernel_rfl
theorem e_BadText_line : Wm (attrM P call ("line" : Str) (.exc ("BadText" : Str) ns vs)) s Q E p = OP (lkF ns vs ("line" : Str)) (fun t => Q t s) ph := w_aErr k_BadText (by kernel_rfl) (by kernel_rfl)
theorem e_BadText_word : Wm (attrM P call ("word" : Str) (.exc ("BadText" : Str) ns vs)) s Q E p = OP (lkF ns vs ("word" : Str)) (fun t => Q t s) ph := w_aErr k_BadText (by kernel_rfl) (by kernel_rfl)
theorem k_Ratio : P.cls? ("Ratio" : Str) = some cRatio := by kernel_rfl
theorem m_Ratio_read : ∀ {Q : Nat × List T → S → Prop} {p : Ph (Q, E)}, Wm (methI P ("read" : Str) (.glo ("Ratio" : Str))) s Q E p = Q (6, [.glo ("Ratio" : Str)]) s := w_methC k_Ratio (by kernel_rfl)
theorem m_Ratio___add__ : ∀ {Q : Nat × List T → S → Prop} {p : Ph (Q, E)}, Wm (methC P ("__add__" : Str) ("Ratio" : Str) ns x) s Q E p = (ns.contains ("__add__" : Str) = false ∧ Q (7, [x]) s) := v_meth k_Ratio rfl (by kernel_rfl)
theorem o_Ratio___add___int : ∀ {j : Int}, Wm (binO P call .Add (.ins ("Ratio" : Str) ns vs) (.int j)) s Q E p = Wm (call 7 [.ins ("Ratio" : Str) ns vs, .int j]) s Q E ph := w_eqm (by kernel_rfl)
theorem o_Ratio___add__ : ∀ {ns2 : List Str} {vs2 : List T}, Wm (binO P call .Add (.ins ("Ratio" : Str) ns vs) (.ins ("Ratio" : Str) ns2 vs2)) s Q E p = Wm (call 7 [.ins ("Ratio" : Str) ns vs, .ins ("Ratio" : Str) ns2 vs2]) s Q E ph := w_eqm (by kernel_rfl)
theorem m_Ratio___radd__ : ∀ {Q : Nat × List T → S → Prop} {p : Ph (Q, E)}, Wm (methC P ("__radd__" : Str) ("Ratio" : Str) ns x) s Q E p = (ns.contains ("__radd__" : Str) = false ∧ Q (8, [x]) s) := v_meth k_Ratio rfl (by kernel_rfl)
theorem o_Ratio___radd__ : ∀ {j : Int}, Wm (binO P call .Add (.int j) (.ins ("Ratio" : Str) ns vs)) s Q E p = Wm (call 8 [.ins ("Ratio" : Str) ns vs, .int j]) s Q E ph := w_eqm (by kernel_rfl)
theorem m_Ratio___sub__ : ∀ {Q : Nat × List T → S → Prop} {p : Ph (Q, E)}, Wm (methC P ("__sub__" : Str) ("Ratio" : Str) ns x) s Q E p = (ns.contains ("__sub__" : Str) = false ∧ Q (9, [x]) s) := v_meth k_Ratio rfl (by kernel_rfl)
theorem o_Ratio___sub___int : ∀ {j : Int}, Wm (binO P call .Sub (.ins ("Ratio" : Str) ns vs) (.int j)) s Q E p = Wm (call 9 [.ins ("Ratio" : Str) ns vs, .int j]) s Q E ph := w_eqm (by kernel_rfl)
theorem o_Ratio___sub__ : ∀ {ns2 : List Str} {vs2 : List T}, Wm (binO P call .Sub (.ins ("Ratio" : Str) ns vs) (.ins ("Ratio" : Str) ns2 vs2)) s Q E p = Wm (call 9 [.ins ("Ratio" : Str) ns vs, .ins ("Ratio" : Str) ns2 vs2]) s Q E ph := w_eqm (by kernel_rfl)
theorem m_Ratio___rsub__ : ∀ {Q : Nat × List T → S → Prop} {p : Ph (Q, E)}, Wm (methC P ("__rsub__" : Str) ("Ratio" : Str) ns x) s Q E p = (ns.contains ("__rsub__" : Str) = false ∧ Q (10, [x]) s) := v_meth k_Ratio rfl (by kernel_rfl)
theorem o_Ratio___rsub__ : ∀ {j : Int}, Wm (binO P call .Sub (.int j) (.ins ("Ratio" : Str) ns vs)) s Q E p = Wm (call 10 [.ins ("Ratio" : Str) ns vs, .int j]) s Q E ph := w_eqm (by kernel_rfl)
theorem m_Ratio___mul__ : ∀ {Q : Nat × List T → S → Prop} {p : Ph (Q, E)}, Wm (methC P ("__mul__" : Str) ("Ratio" : Str) ns x) s Q E p = (ns.contains ("__mul__" : Str) = false ∧ Q (11, [x]) s) := v_meth k_Ratio rfl (by kernel_rfl)
theorem o_Ratio___mul___int : ∀ {j : Int}, Wm (binO P call .Mult (.ins ("Ratio" : Str) ns vs) (.int j)) s Q E p = Wm (call 11 [.ins ("Ratio" : Str) ns vs, .int j]) s Q E ph := w_eqm (by kernel_rfl)
theorem o_Ratio___mul__ : ∀ {ns2 : List Str} {vs2 : List T}, Wm (binO P call .Mult (.ins ("Ratio" : Str) ns vs) (.ins ("Ratio" : Str) ns2 vs2)) s Q E p = Wm (call 11 [.ins ("Ratio" : Str) ns vs, .ins ("Ratio" : Str) ns2 vs2]) s Q E ph := w_eqm (by kernel_rfl)
theorem m_Ratio___rmul__ : ∀ {Q : Nat × List T → S → Prop} {p : Ph (Q, E)}, Wm (methC P ("__rmul__" : Str) ("Ratio" : Str) ns x) s Q E p = (ns.contains ("__rmul__" : Str) = false ∧ Q (12, [x]) s) := v_meth k_Ratio rfl (by kernel_rfl)
theorem o_Ratio___rmul__ : ∀ {j : Int}, Wm (binO P call .Mult (.int j) (.ins ("Ratio" : Str) ns vs)) s Q E p = Wm (call 12 [.ins ("Ratio" : Str) ns vs, .int j]) s Q E ph := w_eqm (by kernel_rfl)
theorem m_Ratio___neg__ : ∀ {Q : Nat × List T → S → Prop} {p : Ph (Q, E)}, Wm (methC P ("__neg__" : Str) ("Ratio" : Str) ns x) s Q E p = (ns.contains ("__neg__" : Str) = false ∧ Q (13, [x]) s) := v_meth k_Ratio rfl (by kernel_rfl)
theorem o_Ratio_neg : Wm (negO P call (.ins ("Ratio" : Str) ns vs)) s Q E p = Wm (call 13 [.ins ("Ratio" : Str) ns vs]) s Q E ph := w_eqm (by kernel_rfl)
theorem m_Ratio_over : ∀ {Q : Nat × List T → S → Prop} {p : Ph (Q, E)}, Wm (methC P ("over" : Str) ("Ratio" : Str) ns x) s Q E p = (ns.contains ("over" : Str) = false ∧ Q (14, [x]) s) := v_meth k_Ratio rfl (by kernel_rfl)
theorem m_Ratio_below : ∀ {Q : Nat × List T → S → Prop} {p : Ph (Q, E)}, Wm (methC P ("below" : Str) ("Ratio" : Str) ns x) s Q E p = (ns.contains ("below" : Str) = false ∧ Q (15, [x]) s) := v_meth k_Ratio rfl (by kernel_rfl)
theorem m_Ratio_at_most : ∀ {Q : Nat × List T → S → Prop} {p : Ph (Q, E)}, Wm (methC P ("at_most" : Str) ("Ratio" : Str) ns x) s Q E p = (ns.contains ("at_most" : Str) = false ∧ Q (16, [x]) s) := v_meth k_Ratio rfl (by kernel_rfl)
theorem m_Ratio___eq__ : ∀ {Q : Nat × List T → S → Prop} {p : Ph (Q, E)}, Wm (methC P ("__eq__" : Str) ("Ratio" : Str) ns x) s Q E p = (ns.contains ("__eq__" : Str) = false ∧ Q (17, [x]) s) := v_meth k_Ratio rfl (by kernel_rfl)
theorem q_Ratio : ∀ {neg : Bool}, Wm (eqO P call neg (.ins ("Ratio" : Str) ns vs) b) s Q E p = OP (kdOf P (see s b)) (fun k => firstOk P ("Ratio" : Str) k = true ∧ Wm (call 17 [.ins ("Ratio" : Str) ns vs, b]) s (fun v s' => Wm (notB neg v) s' Q noE ph) noE ph) ph := v_eqO (by kernel_rfl)
theorem m_Ratio___bool__ : ∀ {Q : Nat × List T → S → Prop} {p : Ph (Q, E)}, Wm (methC P ("__bool__" : Str) ("Ratio" : Str) ns x) s Q E p = (ns.contains ("__bool__" : Str) = false ∧ Q (18, [x]) s) := v_meth k_Ratio rfl (by kernel_rfl)
theorem o_Ratio_bool : Wm (bcallO P call false .bool [.ins ("Ratio" : Str) ns vs]) s Q E p = Wm (call 18 [.ins ("Ratio" : Str) ns vs]) s (fun v s' => Wm (asBl v) s' Q noE ph) noE ph := v_boolO (by kernel_rfl)
theorem m_Ratio___str__ : ∀ {Q : Nat × List T → S → Prop} {p : Ph (Q, E)}, Wm (methC P ("__str__" : Str) ("Ratio" : Str) ns x) s Q E p = (ns.contains ("__str__" : Str) = false ∧ Q (19, [x]) s) := v_meth k_Ratio rfl (by kernel_rfl)
theorem t_Ratio : Wm (bcallO P call false .str [.ins ("Ratio" : Str) ns vs]) s Q E p = Wm (call 19 [.ins ("Ratio" : Str) ns vs]) s (fun v s' => Wm (asStr v) s' Q noE ph) noE ph := v_strO (by kernel_rfl)
theorem a_Ratio_top : Wm (attrC P call ("top" : Str) ("Ratio" : Str) ns vs x) s Q E p = OP (lkF ns vs ("top" : Str)) (fun t => Q t s) ph := v_fld k_Ratio rfl (by kernel_rfl) (by kernel_rfl)
theorem s_Ratio_top : setOk P ("top" : Str) ("Ratio" : Str) ns = (ns.length < 1000) := v_setOk k_Ratio rfl (by kernel_rfl)
theorem a_Ratio_bottom : Wm (attrC P call ("bottom" : Str) ("Ratio" : Str) ns vs x) s Q E p = OP (lkF ns vs ("bottom" : Str)) (fun t => Q t s) ph := v_fld k_Ratio rfl (by kernel_rfl) (by kernel_rfl)
theorem s_Ratio_bottom : setOk P ("bottom" : Str) ("Ratio" : Str) ns = (ns.length < 1000) := v_setOk k_Ratio rfl (by kernel_rfl)
theorem v_Ratio_ok : ∀ {st : Bool}, vOk P st (.glo ("Ratio" : Str)) = true := by intros; kernel_rfl
theorem v_Ratio_call : Wm (callV P call (.glo ("Ratio" : Str)) xs) s Q E p = Wm (mkM call ("Ratio" : Str) cRatio xs) s Q E ph := w_eqm (by kernel_rfl)
theorem v_Ratio_callL : Wm (callL P call th (.glo ("Ratio" : Str))) s Q E p = Wm (mkM call ("Ratio" : Str) cRatio []) s Q E ph := w_eqm (by kernel_rfl)
theorem mk_Ratio : Wm (mkM call ("Ratio" : Str) cRatio xs) s Q E p = Wm (call 5 (.box s.next :: xs)) (s.new (.ins ("Ratio" : Str) [] [])) (fun v s' => v = .non ∧ OI (s'.get s.next) (fun D ns vs => Q (.ins D ns vs) (s'.del s.next)) ph) E ph := v_mk rfl rfl rfl
end
theorem kd_GhostError : ∀ {ns : List Str} {vs : List T}, kdOf P (.exc ("GhostError" : Str) ns vs) = some (.c ("GhostError" : Str)) := by intros; kernel_rfl
theorem kd_BadInput : ∀ {ns : List Str} {vs : List T}, kdOf P (.exc ("BadInput" : Str) ns vs) = some (.c ("BadInput" : Str)) := by intros; kernel_rfl
theorem kd_BadRatio : ∀ {ns : List Str} {vs : List T}, kdOf P (.exc ("BadRatio" : Str) ns vs) = some (.c ("BadRatio" : Str)) := by intros; kernel_rfl
theorem kd_BadText : ∀ {ns : List Str} {vs : List T}, kdOf P (.exc ("BadText" : Str) ns vs) = some (.c ("BadText" : Str)) := by intros; kernel_rfl
theorem kd_Ratio : ∀ {ns : List Str} {vs : List T}, kdOf P (.ins ("Ratio" : Str) ns vs) = some (.c ("Ratio" : Str)) := by intros; kernel_rfl
theorem is_GhostError_BadRatio : isOne P (.c ("GhostError" : Str)) (.glo ("BadRatio" : Str)) = some false := by kernel_rfl
theorem is_BadInput_BadRatio : isOne P (.c ("BadInput" : Str)) (.glo ("BadRatio" : Str)) = some false := by kernel_rfl
theorem is_BadRatio_BadRatio : isOne P (.c ("BadRatio" : Str)) (.glo ("BadRatio" : Str)) = some true := by kernel_rfl
theorem is_BadText_BadRatio : isOne P (.c ("BadText" : Str)) (.glo ("BadRatio" : Str)) = some false := by kernel_rfl
theorem is_Ratio_BadRatio : isOne P (.c ("Ratio" : Str)) (.glo ("BadRatio" : Str)) = some false := by kernel_rfl
theorem is_NoneType_BadRatio : isOne P (.b "NoneType") (.glo ("BadRatio" : Str)) = some false := by kernel_rfl
theorem is_bool_BadRatio : isOne P (.b "bool") (.glo ("BadRatio" : Str)) = some false := by kernel_rfl
theorem is_int_BadRatio : isOne P (.b "int") (.glo ("BadRatio" : Str)) = some false := by kernel_rfl
theorem is_str_BadRatio : isOne P (.b "str") (.glo ("BadRatio" : Str)) = some false := by kernel_rfl
theorem is_list_BadRatio : isOne P (.b "list") (.glo ("BadRatio" : Str)) = some false := by kernel_rfl
theorem is_tuple_BadRatio : isOne P (.b "tuple") (.glo ("BadRatio" : Str)) = some false := by kernel_rfl
theorem is_dict_BadRatio : isOne P (.b "dict") (.glo ("BadRatio" : Str)) = some false := by kernel_rfl
theorem is_GhostError_Ratio : isOne P (.c ("GhostError" : Str)) (.glo ("Ratio" : Str)) = some false := by kernel_rfl
theorem is_BadInput_Ratio : isOne P (.c ("BadInput" : Str)) (.glo ("Ratio" : Str)) = some false := by kernel_rfl
theorem is_BadRatio_Ratio : isOne P (.c ("BadRatio" : Str)) (.glo ("Ratio" : Str)) = some false := by kernel_rfl
theorem is_BadText_Ratio : isOne P (.c ("BadText" : Str)) (.glo ("Ratio" : Str)) = some false := by kernel_rfl
theorem is_Ratio_Ratio : isOne P (.c ("Ratio" : Str)) (.glo ("Ratio" : Str)) = some true := by kernel_rfl
theorem is_NoneType_Ratio : isOne P (.b "NoneType") (.glo ("Ratio" : Str)) = some false := by kernel_rfl
theorem is_bool_Ratio : isOne P (.b "bool") (.glo ("Ratio" : Str)) = some false := by kernel_rfl
theorem is_int_Ratio : isOne P (.b "int") (.glo ("Ratio" : Str)) = some false := by kernel_rfl
theorem is_str_Ratio : isOne P (.b "str") (.glo ("Ratio" : Str)) = some false := by kernel_rfl
theorem is_list_Ratio : isOne P (.b "list") (.glo ("Ratio" : Str)) = some false := by kernel_rfl
theorem is_tuple_Ratio : isOne P (.b "tuple") (.glo ("Ratio" : Str)) = some false := by kernel_rfl
theorem is_dict_Ratio : isOne P (.b "dict") (.glo ("Ratio" : Str)) = some false := by kernel_rfl
theorem is_GhostError_bool : isOne P (.c ("GhostError" : Str)) (.ty "bool") = some false := by kernel_rfl
theorem is_BadInput_bool : isOne P (.c ("BadInput" : Str)) (.ty "bool") = some false := by kernel_rfl
theorem is_BadRatio_bool : isOne P (.c ("BadRatio" : Str)) (.ty "bool") = some false := by kernel_rfl
theorem is_BadText_bool : isOne P (.c ("BadText" : Str)) (.ty "bool") = some false := by kernel_rfl
theorem is_Ratio_bool : isOne P (.c ("Ratio" : Str)) (.ty "bool") = some false := by kernel_rfl
theorem is_NoneType_bool : isOne P (.b "NoneType") (.ty "bool") = some false := by kernel_rfl
theorem is_bool_bool : isOne P (.b "bool") (.ty "bool") = some true := by kernel_rfl
theorem is_int_bool : isOne P (.b "int") (.ty "bool") = some false := by kernel_rfl
theorem is_str_bool : isOne P (.b "str") (.ty "bool") = some false := by kernel_rfl
theorem is_list_bool : isOne P (.b "list") (.ty "bool") = some false := by kernel_rfl
theorem is_tuple_bool : isOne P (.b "tuple") (.ty "bool") = some false := by kernel_rfl
theorem is_dict_bool : isOne P (.b "dict") (.ty "bool") = some false := by kernel_rfl
theorem is_GhostError_int : isOne P (.c ("GhostError" : Str)) (.ty "int") = some false := by kernel_rfl
theorem is_BadInput_int : isOne P (.c ("BadInput" : Str)) (.ty "int") = some false := by kernel_rfl
theorem is_BadRatio_int : isOne P (.c ("BadRatio" : Str)) (.ty "int") = some false := by kernel_rfl
theorem is_BadText_int : isOne P (.c ("BadText" : Str)) (.ty "int") = some false := by kernel_rfl
theorem is_Ratio_int : isOne P (.c ("Ratio" : Str)) (.ty "int") = some false := by kernel_rfl
theorem is_NoneType_int : isOne P (.b "NoneType") (.ty "int") = some false := by kernel_rfl
theorem is_bool_int : isOne P (.b "bool") (.ty "int") = some true := by kernel_rfl
theorem is_int_int : isOne P (.b "int") (.ty "int") = some true := by kernel_rfl
theorem is_str_int : isOne P (.b "str") (.ty "int") = some false := by kernel_rfl
theorem is_list_int : isOne P (.b "list") (.ty "int") = some false := by kernel_rfl
theorem is_tuple_int : isOne P (.b "tuple") (.ty "int") = some false := by kernel_rfl
theorem is_dict_int : isOne P (.b "dict") (.ty "int") = some false := by kernel_rfl
theorem is_GhostError_str : isOne P (.c ("GhostError" : Str)) (.ty "str") = some false := by kernel_rfl
theorem is_BadInput_str : isOne P (.c ("BadInput" : Str)) (.ty "str") = some false := by kernel_rfl
theorem is_BadRatio_str : isOne P (.c ("BadRatio" : Str)) (.ty "str") = some false := by kernel_rfl
theorem is_BadText_str : isOne P (.c ("BadText" : Str)) (.ty "str") = some false := by kernel_rfl
theorem is_Ratio_str : isOne P (.c ("Ratio" : Str)) (.ty "str") = some false := by kernel_rfl
theorem is_NoneType_str : isOne P (.b "NoneType") (.ty "str") = some false := by kernel_rfl
theorem is_bool_str : isOne P (.b "bool") (.ty "str") = some false := by kernel_rfl
theorem is_int_str : isOne P (.b "int") (.ty "str") = some false := by kernel_rfl
theorem is_str_str : isOne P (.b "str") (.ty "str") = some true := by kernel_rfl
theorem is_list_str : isOne P (.b "list") (.ty "str") = some false := by kernel_rfl
theorem is_tuple_str : isOne P (.b "tuple") (.ty "str") = some false := by kernel_rfl
theorem is_dict_str : isOne P (.b "dict") (.ty "str") = some false := by kernel_rfl
theorem fo_Ratio_NoneType : firstOk P ("Ratio" : Str) (.b "NoneType") = true := by kernel_rfl
theorem fo_Ratio_bool : firstOk P ("Ratio" : Str) (.b "bool") = true := by kernel_rfl
theorem fo_Ratio_int : firstOk P ("Ratio" : Str) (.b "int") = true := by kernel_rfl
theorem fo_Ratio_str : firstOk P ("Ratio" : Str) (.b "str") = true := by kernel_rfl
theorem fo_Ratio_list : firstOk P ("Ratio" : Str) (.b "list") = true := by kernel_rfl
theorem fo_Ratio_tuple : firstOk P ("Ratio" : Str) (.b "tuple") = true := by kernel_rfl
theorem fo_Ratio_dict : firstOk P ("Ratio" : Str) (.b "dict") = true := by kernel_rfl
theorem fo_Ratio_Ratio : firstOk P ("Ratio" : Str) (.c ("Ratio" : Str)) = true := by kernel_rfl
theorem ct_GhostError_GhostError : catches P ("GhostError" : Str) ("GhostError" : Str) = some true := by kernel_rfl
theorem ct_GhostError_BadInput : catches P ("GhostError" : Str) ("BadInput" : Str) = some true := by kernel_rfl
theorem ct_GhostError_BadRatio : catches P ("GhostError" : Str) ("BadRatio" : Str) = some true := by kernel_rfl
theorem ct_GhostError_BadText : catches P ("GhostError" : Str) ("BadText" : Str) = some true := by kernel_rfl
theorem kwf_0 : P.kw? 5 1 [("bottom" : Str), ("top" : Str)] = some [0, 2, 1] := by kernel_rfl
end Gk43
-- GtD_k43
namespace Gk43
open PySem L2 G
local macro_rules | `(tactic| simp? [$xs,*] $[$l:location]?) => `(tactic| simp (disch := first | rfl | omega | assumption | (refine G.NxE.mk ?_; with_unfolding_all rfl) | (refine G.NxL.mk ?_; with_unfolding_all (first | omega | (simp only [new_next, up_next, put_next, del_next]; omega))) | fail) only [↓w_bnd, ↓w_ret, ↓w_noX, ↓w_bad, ↓w_ite, ↓w_resok, ↓w_resbad, ↓w_resex, ↓w_out, ↓s_seq, ↓s_run, ↓s_nx, ↓s_rt, ↓s_bk, ↓s_ct, ↓s_ex, ↓s_bad, ↓s_ite, ↓s_bind, ↓s_try, ↓l_str, ↓l_strb, ↓up_next, ↓put_next, ↓new_next, ↓del_next, ↓up_up, ↓up_put, ↓up_del, ↓up_get, ↓get_newS, ↓get_newN, ↓put_newS, ↓del_newS, ↓get_putN, ↓op_some, ↓op_none, ↓ol_lst, ↓ol_none, ↓ol_ins, ↓ol_dct, ↓oi_ins, ↓oi_none, ↓oi_lst, ↓oi_dct, ↓w_get0, ↓w_getS, ↓w_binII, ↓w_binIB, ↓w_binS, ↓w_binL, ↓w_binT, ↓w_negI, ↓w_ixoL, ↓w_ixoT, ↓w_ixoS, ↓w_asBl, ↓w_boolO, ↓w_boolOb, ↓w_callLl, ↓w_add, ↓w_addb, ↓w_addS, ↓w_addL, ↓w_addT, ↓w_sub, ↓w_mul, ↓w_mulL, ↓w_mulS, ↓w_fdiv, ↓w_mod, ↓w_pow, ↓w_neg, ↓w_lt, ↓w_le, ↓w_gt, ↓w_ge, ↓w_ltS, ↓w_leS, ↓w_isN, ↓w_isnotN, ↓w_inS, ↓w_ninS, ↓flat_str, ↓flat_int, ↓inF_str, ↓inF_int, ↓w_inTs, ↓w_ninTs, ↓w_inLs, ↓w_ninLs, ↓w_inTi, ↓w_ninTi, ↓w_inLi, ↓w_ninLi, ↓w_inTb, ↓w_ninTb, ↓w_inLb, ↓w_ninLb, ↓w_inTn, ↓w_ninTn, ↓w_inLn, ↓w_ninLn, ↓w_lst, ↓w_lstB, ↓w_tup, ↓w_box, ↓w_boxB, ↓w_ixL, ↓w_ixT, ↓w_ixS, ↓w_sl, ↓w_slF, ↓w_slT, ↓w_slS, ↓w_rev, ↓w_int, ↓w_intb, ↓w_intS, ↓w_strI, ↓w_strS, ↓w_repr, ↓w_listL, ↓w_listT, ↓w_listLB, ↓w_listTB, ↓w_tupL, ↓w_tupT, ↓w_abs, ↓w_max2, ↓w_min2, ↓w_sum, ↓w_sorted, ↓w_maxL, ↓w_minL, ↓w_all, ↓w_any, ↓w_boolI, ↓w_boolB, ↓w_isi, ↓w_lenL, ↓w_lenT, ↓w_lenD, ↓w_lenS, ↓w_split, ↓w_join, ↓w_sindex, ↓w_bsplit, ↓w_bjoin, ↓w_frz, ↓w_augadd, ↓w_augsub, ↓w_excM, ↓w_mkK, ↓w_asBool, ↓w_truB, ↓w_truN, ↓w_truI, ↓w_truS, ↓w_truL, ↓w_truT, ↓w_truD, ↓w_rng1, ↓w_rng2, ↓w_fixL, ↓w_fixT, ↓w_fixS, ↓w_fixEL, ↓w_fixET, ↓w_fix2L, ↓w_fix2T, ↓w_itemsL, ↓w_itemsT, ↓w_toI, ↓w_fmtS, ↓w_fmtI, ↓w_join0, ↓w_joinC, ↓at_nat, ↓at_lit, ↓at_one, ↓at_zero, ↓at_last, ↓cut_nf, ↓cut_nt, ↓cut_from1, ↓cut_nn, ↓lkF_c, ↓lkF_n, ↓putNs_n, ↓putNs_c, ↓putVs_n, ↓putVs_c, ↓get_map0, ↓drop_map1, ↓bq_t, ↓bq_f, ↓w_thC, ↓ob_lst, ↓ob_none, ↓ob_ins, ↓ob_dct, ↓v_ixI, ↓v_ixo, ↓v_len, ↓v_append, ↓v_pop, ↓v_extend, ↓v_insert, ↓v_bappend, ↓v_bextend, ↓v_bpop, ↓v_frz, ↓v_bpopAt, ↓seqIx_nat, ↓v_attr, ↓v_attrB, ↓v_asStr, ↓v_asLen, ↓v_eqE, ↓v_neE, ↓v_notB, ↓v_eqS, ↓v_eqI, ↓v_methI, ↓v_methB, ↓v_setA, ↓v_setI, ↓ew_non, ↓ew_bl, ↓ew_int, ↓ew_str, ↓ew_lst, ↓ew_tup, ↓ew_frz, ↓ew_dct, ↓ew_ins, ↓ew_exc, ↓ew_glo, ↓ew_lam, ↓ew_ty, ↓ek_non, ↓ek_bl, ↓ek_int, ↓ek_str, ↓ek_lst, ↓ek_tup, ↓ek_dct, ↓ti_ty, ↓ti_glo, ↓ti_tup, ↓ia_nil, ↓ia_cons, ↓en_non, ↓en_bl, ↓en_int, ↓en_str, ↓en_lst, ↓en_tup, ↓en_frz, ↓en_dct, ↓en_ins, ↓en_exc, ↓en_glo, ↓en_lam, ↓en_ty, ↓en_box, ↓e_BadRatio_value, ↓e_BadText_line, ↓e_BadText_word, ↓m_Ratio_read, ↓m_Ratio___add__, ↓o_Ratio___add___int, ↓o_Ratio___add__, ↓m_Ratio___radd__, ↓o_Ratio___radd__, ↓m_Ratio___sub__, ↓o_Ratio___sub___int, ↓o_Ratio___sub__, ↓m_Ratio___rsub__, ↓o_Ratio___rsub__, ↓m_Ratio___mul__, ↓o_Ratio___mul___int, ↓o_Ratio___mul__, ↓m_Ratio___rmul__, ↓o_Ratio___rmul__, ↓m_Ratio___neg__, ↓o_Ratio_neg, ↓m_Ratio_over, ↓m_Ratio_below, ↓m_Ratio_at_most, ↓m_Ratio___eq__, ↓q_Ratio, ↓m_Ratio___bool__, ↓o_Ratio_bool, ↓m_Ratio___str__, ↓t_Ratio, ↓a_Ratio_top, s_Ratio_top, ↓a_Ratio_bottom, s_Ratio_bottom, ↓v_Ratio_ok, ↓v_Ratio_call, ↓v_Ratio_callL, ↓mk_Ratio, kd_GhostError, kd_BadInput, kd_BadRatio, kd_BadText, kd_Ratio, is_GhostError_BadRatio, is_BadInput_BadRatio, is_BadRatio_BadRatio, is_BadText_BadRatio, is_Ratio_BadRatio, is_NoneType_BadRatio, is_bool_BadRatio, is_int_BadRatio, is_str_BadRatio, is_list_BadRatio, is_tuple_BadRatio, is_dict_BadRatio, is_GhostError_Ratio, is_BadInput_Ratio, is_BadRatio_Ratio, is_BadText_Ratio, is_Ratio_Ratio, is_NoneType_Ratio, is_bool_Ratio, is_int_Ratio, is_str_Ratio, is_list_Ratio, is_tuple_Ratio, is_dict_Ratio, is_GhostError_bool, is_BadInput_bool, is_BadRatio_bool, is_BadText_bool, is_Ratio_bool, is_NoneType_bool, is_bool_bool, is_int_bool, is_str_bool, is_list_bool, is_tuple_bool, is_dict_bool, is_GhostError_int, is_BadInput_int, is_BadRatio_int, is_BadText_int, is_Ratio_int, is_NoneType_int, is_bool_int, is_int_int, is_str_int, is_list_int, is_tuple_int, is_dict_int, is_GhostError_str, is_BadInput_str, is_BadRatio_str, is_BadText_str, is_Ratio_str, is_NoneType_str, is_bool_str, is_int_str, is_str_str, is_list_str, is_tuple_str, is_dict_str, fo_Ratio_NoneType, fo_Ratio_bool, fo_Ratio_int, fo_Ratio_str, fo_Ratio_list, fo_Ratio_tuple, fo_Ratio_dict, fo_Ratio_Ratio, ct_GhostError_GhostError, ct_GhostError_BadInput, ct_GhostError_BadRatio, ct_GhostError_BadText, kwf_0, get_E, put_E, del_E, get_L, put_L, List.append_nil, List.all_cons, List.all_nil, flatT, Bool.and_self, reduceCtorEq, Bool.false_eq_true, if_false, if_true, List.set_cons_zero, List.set_cons_succ, List.length_cons, List.length_nil, isAnd, not_true_eq_false, not_false_eq_true, true_and, and_true, Bool.not_true, Bool.not_false, decide_eq_true_eq, decide_true, decide_false, List.cons_append, List.nil_append, List.getElem?_cons_zero, List.getElem?_cons_succ, String.reduceEq, Nat.reduceAdd, List.reverse_cons, List.reverse_nil, Option.bind_some, sizeLine_eq, Nat.reduceLeDiff, bindN, bindTup, bindIx, bindNest_t, bindFs_n, bindFs_c, eq_self, List.length_map, Nat.zero_add, Option.isNone_none, List.contains_nil, List.contains_cons, Bool.or_false, Bool.false_or, beq_self_eq_true, noE, noS, List.isEmpty_cons, List.isEmpty_nil, Bool.not_eq_true', Bool.not_eq_eq_eq_not, Bool.not_eq_false, Bool.decide_eq_true, and_self, Int.reduceLT, Int.reduceLE, Int.reduceSub, Int.reduceAdd, Int.reduceMul, Int.reduceNeg, Int.reduceToNat, Nat.reduceSub, Nat.reduceMul, Nat.reduceLT, wipeE, pick, List.filterMap_cons, List.filterMap_nil, $xs,*] $[$l]?)
theorem law_draw {k n : Nat} {K many : Int} {s : S} (hp : Pen n K s) (hK : K < 2 ^ 20) (hm : 0 < many) (hm2 : many < 2 ^ 4000) {Q : T → S → Prop} {E : XP} {p : Ph (Q, E)}
    (q : ∀ d s', 0 ≤ d → d < many → Pen n (K + 1) s' → Fr n s s' → Q (.int d) s') : Wm (CF (k + 1) 22 [.box n, .int many]) s Q E p := by
  rw [c22]
  have e : h22 (CF k) (.box n) (.int many) s = drawG P (CF k) 91009 2003 2147483549 70001 101 2147483629 61 50021 13 2147483587 32 (.box n) (.int many) s := by kernel_rfl
  rw [w_eqm (p' := ph) e]
  exact draw_w ⟨by decide, by decide, by decide, by decide, by decide, by decide, by decide, by decide, by decide, by decide⟩ hp hK hm hm2 q
theorem law_drawN {k n m : Nat} {K : Int} {s : S} (hp : Pen n K s) (hK : K < 2 ^ 20) (hm : 0 < m) (hm2 : m ≤ 1000000) {Q : T → S → Prop} {E : XP} {p : Ph (Q, E)}
    (q : ∀ (d : Nat) s', d < m → Pen n (K + 1) s' → Fr n s s' → Q (.int (d : Nat)) s') : Wm (CF (k + 1) 22 [.box n, .int (m : Nat)]) s Q E p := by
  refine law_draw hp hK (by omega) (Int.lt_of_lt_of_le (show (m : Int) < 2 ^ 60 by omega) (by decide +kernel)) ?_
  intro d s' h0 h1 h2 h3
  obtain ⟨j, rfl⟩ : ∃ j : Nat, d = (j : Nat) := ⟨d.toNat, by omega⟩
  exact q j s' (by omega) h2 h3
theorem law_pick {k n : Nat} {K : Int} {s : S} {xs : List T} (hp : Pen n K s) (hK : K < 2 ^ 20) (h0 : 0 < xs.length) (h1 : xs.length ≤ 1000000) {Q : T → S → Prop} {E : XP} {p : Ph (Q, E)}
    (q : ∀ t s', t ∈ xs → Pen n (K + 1) s' → Fr n s s' → Q t s') : Wm (CF (k + 2) 23 [.box n, .lst xs]) s Q E p := by
  simp? [↓c23, ↓u23]
  refine law_drawN hp hK h0 h1 ?_
  intro d s' hd h2 h3
  simp? [at_nat, List.getElem?_eq_getElem hd, op_some]
  exact q _ s' (List.getElem_mem hd) h2 h3
theorem law_pen {k : Nat} {cs : List Int} {s : S} (hl : cs.length ≤ 63) {Q : T → S → Prop} {E : XP} {p : Ph (Q, E)}
    (q : ∀ s', Pen s.next 0 s' → s.next < s'.next → (∀ m, m < s.next → s'.get m = s.get m) → Q (.box s.next) s') : Wm (CF (k + 1) 21 [.frz (cs.map T.int)]) s Q E p := by
  simp? [↓c21, ↓u21]
  refine q _ ⟨⟨cs, 0, 0, ?_, hl, by decide, by decide, by decide⟩, Nat.lt_succ_self _⟩ (Nat.lt_succ_self _) (fun m h => get_newN h)
  rw [get_newS]
  have e : cutT (cs.map T.int) none (some 63) = cs.map T.int := by
    rw [show (63 : Int) = ((63 : Nat) : Int) from rfl, cut_nt, List.take_of_length_le (by rw [List.length_map]; exact hl)]
  rw [e]
-- W1
open Rt (num den sg gd)
def Rq (p q : Int) : T := .ins "Ratio" ["top", "bottom"] [.int p, .int q]
def rv (x y : Int) : T := Rq (num x y) (den x y)
theorem isint_w {k : Nat} {i : Int} {s : S} {Q : T → S → Prop} {E : XP} {p : Ph (Q, E)} : Wm (CF (k + 1) 2 [.int i]) s Q E p = Q (.bl true) s := by
  simp? [↓c2, ↓u2]
theorem gcd_w {k : Nat} {a b : Nat} (ha : a < 2 ^ 4000) (hb : b < 2 ^ 4000) {s : S} {Q : T → S → Prop} {E : XP} {p : Ph (Q, E)} : Wm (CF (k + 1) 3 [.int (a : Nat), .int (b : Nat)]) s Q E p = Q (.int ((Nat.gcd a b : Nat) : Int)) s := by
  refine w_of (w_det (p := ph) ?_)
  simp? [↓c3, ↓u3]
  refine s_while (I := fun n e s' => ∃ x y : Nat, e = [some (.int (x : Nat)), some (.int (y : Nat))] ∧ s' = s ∧ Nat.gcd x y = Nat.gcd a b ∧ n = Rt.mu x y) (n := Rt.mu a b) (Rt.mu_big ha hb) ⟨a, b, rfl, rfl, rfl, rfl⟩ ?_
  rintro n e s' ⟨x, y, rfl, rfl, hg, rfl⟩
  simp? [h3_b0_c, h3_b0]
  by_cases hy : (0 : Int) < y
  · simp? [hy]
    refine ⟨Rt.mu y (x % y), Rt.mu_lt (by omega), y, x % y, ?_, ?_, rfl⟩
    · rw [show ((x % y : Nat) : Int) = (x : Int) % (y : Int) from rfl]
    · rw [← hg, Nat.gcd_comm x y, Nat.gcd_rec y x, Nat.gcd_comm]
  · simp? [hy]
    have h0 : y = 0 := by omega
    subst h0
    rw [Nat.gcd_zero_right] at hg
    rw [hg]
theorem mk_w {k : Nat} {x y : Int} (hx : x.natAbs < 2 ^ 4000) (hy : y.natAbs < 2 ^ 4000) (h0 : y ≠ 0) {s : S} {Q : T → S → Prop} {E : XP} {p : Ph (Q, E)} : Wm (mkM (CF (k + 2)) "Ratio" cRatio [.int x, .int y]) s Q E p = Q (rv x y) (s.up 1) := by
  refine w_of (w_det (p := ph) ?_)
  have e0 : (y == 0) = false := by simpa using h0
  simp? [↓c5, ↓u5, h5_b0, s_forC, s_for0, isint_w, Rt.abs_nat, gcd_w hy hx, e0]
  have hg : y.natAbs.gcd x.natAbs = Int.gcd x y := by rw [Nat.gcd_comm]; rfl
  have hd : divOk ((y.natAbs.gcd x.natAbs : Nat) : Int) = true := by
    rw [hg]
    exact Rt.divOk_small (Rt.gd_pos (x := x) h0) (Nat.lt_of_le_of_lt (Rt.gd_le (x := x) h0) hy)
  split
  · rename_i hn
    refine ⟨rfl, hd, rfl, hd, ?_⟩
    unfold rv Rq num den sg gd
    rw [if_pos hn, hg]
  · rename_i hn
    refine ⟨rfl, hd, rfl, hd, ?_⟩
    unfold rv Rq num den sg gd
    rw [if_neg hn, hg]
theorem mk1_w {k : Nat} {x : Int} (hx : x.natAbs < 2 ^ 4000) {s : S} {Q : T → S → Prop} {E : XP} {p : Ph (Q, E)} : Wm (mkM (CF (k + 2)) "Ratio" cRatio [.int x]) s Q E p = Q (rv x 1) (s.up 1) := by
  refine w_of (w_det (p := ph) ?_)
  have m := mk_w (k := k) (x := x) (y := 1) hx (by decide) (by decide) (s := s) (Q := fun v s' => v = rv x 1 ∧ s' = s.up 1) (E := noE) (p := ph)
  have m2 := m.mpr ⟨rfl, rfl⟩
  have e1 : ∀ (s : S) (Q : T → S → Prop) (E : XP) (p : Ph (Q, E)), Wm (CF (k + 2) 5 [.box s.next, .int x]) (s.new (.ins "Ratio" [] [])) Q E p = Wm (CF (k + 2) 5 [.box s.next, .int x, .int 1]) (s.new (.ins "Ratio" [] [])) Q E p := fun (s : S) (Q : T → S → Prop) (E : XP) (p : Ph (Q, E)) => by rw [c5_2, c5]
  rw [mk_Ratio] at m2 ⊢
  rw [e1]
  exact m2
theorem num_1 {x : Int} : num x 1 = x := by
  have := Rt.num_den (x := x) (y := 1) (by decide)
  have h2 := Rt.den_le (x := x) (y := 1) (by decide)
  have h3 := Rt.den_pos (x := x) (y := 1) (by decide)
  have h4 : den x 1 = 1 := by omega
  rw [h4] at this
  omega
theorem den_1 {x : Int} : den x 1 = 1 := by
  have h2 := Rt.den_le (x := x) (y := 1) (by decide)
  have h3 := Rt.den_pos (x := x) (y := 1) (by decide)
  omega
theorem rv_same {x y x' y' : Int} (hy : y ≠ 0) (hy' : y' ≠ 0) (h : x * y' = x' * y) : rv x y = rv x' y' := by
  obtain ⟨h1, h2⟩ := Rt.same hy hy' h
  unfold rv
  rw [h1, h2]
theorem as_w {k : Nat} {x y : Int} {s : S} {Q : T → S → Prop} {E : XP} {p : Ph (Q, E)} : Wm (CF (k + 1) 20 [rv x y]) s Q E p = Q (rv x y) s := by
  refine w_of (w_det (p := ph) ?_)
  simp? [↓c20, ↓u20, rv, Rq]
theorem asI_w {k : Nat} {x : Int} (hx : x.natAbs < 2 ^ 4000) {s : S} {Q : T → S → Prop} {E : XP} {p : Ph (Q, E)} : Wm (CF (k + 3) 20 [.int x]) s Q E p = Q (rv x 1) (s.up 1) := by
  refine w_of (w_det (p := ph) ?_)
  simp? [↓c20, ↓u20, mk1_w hx, -mk_Ratio]
theorem top_w {call : CallM} {x y : Int} {s : S} {Q : T → S → Prop} {E : XP} {p : Ph (Q, E)} : Wm (attrM P call "top" (rv x y)) s Q E p = Q (.int (num x y)) s := by
  simp? [rv, Rq, lkF_c, op_some]
theorem bot_w {call : CallM} {x y : Int} {s : S} {Q : T → S → Prop} {E : XP} {p : Ph (Q, E)} : Wm (attrM P call "bottom" (rv x y)) s Q E p = Q (.int (den x y)) s := by
  simp? [rv, Rq, lkF_c, op_some]
-- W2
open Rt (num den sg gd)
/-- a fraction within bounds -/
structure OkF (m : Nat) (x y : Int) : Prop where
  hx : x.natAbs < 2 ^ m
  hy : y.natAbs < 2 ^ m
  hz : y ≠ 0
theorem mul_lt {a b : Int} {m n : Nat} (ha : a.natAbs < 2 ^ m) (hb : b.natAbs < 2 ^ n) : (a * b).natAbs < 2 ^ (m + n) := by
  rw [Int.natAbs_mul, Nat.pow_add]
  exact Nat.mul_lt_mul'' ha hb
theorem add_lt {a b : Int} {m : Nat} (ha : a.natAbs < 2 ^ m) (hb : b.natAbs < 2 ^ m) : (a + b).natAbs < 2 ^ (m + 1) := by
  rw [Nat.pow_succ]; omega
theorem pw {a m n : Nat} (h : a < 2 ^ m) (h2 : m ≤ n) : a < 2 ^ n := Nat.lt_of_lt_of_le h (Nat.pow_le_pow_right (by decide) h2)
theorem nm_lt {m : Nat} {x y : Int} (h : OkF m x y) : (num x y).natAbs < 2 ^ m := Nat.lt_of_le_of_lt (Rt.num_le h.hz) h.hx
theorem dn_lt {m : Nat} {x y : Int} (h : OkF m x y) : (den x y).natAbs < 2 ^ m := Nat.lt_of_le_of_lt (Rt.den_le h.hz) h.hy
theorem mo {a b : Int} {m n : Nat} (ha : a.natAbs < 2 ^ m) (hb : b.natAbs < 2 ^ n) (hm : m ≤ 4000) (hn : n ≤ 4000) : mulOk a b = true := Rt.mulOk_small (pw ha hm) (pw hb hn)
theorem add_ok {x y u v : Int} (h : OkF 900 x y) (g : OkF 900 u v) : OkF 2000 (num x y * den u v + num u v * den x y) (den x y * den u v) := by
  have d1 := Rt.den_pos (x := x) h.hz
  have d2 := Rt.den_pos (x := u) g.hz
  refine ⟨pw (add_lt (mul_lt (nm_lt h) (dn_lt g)) (mul_lt (nm_lt g) (dn_lt h))) (by decide), pw (mul_lt (dn_lt h) (dn_lt g)) (by decide), Int.mul_ne_zero (by omega) (by omega)⟩
theorem add_rv {x y u v : Int} (h : OkF 900 x y) (g : OkF 900 u v) : rv (num x y * den u v + num u v * den x y) (den x y * den u v) = rv (x * v + u * y) (y * v) := by
  have h1 := Rt.num_den (x := x) h.hz
  have h2 := Rt.num_den (x := u) g.hz
  exact rv_same (add_ok h g).hz (Int.mul_ne_zero h.hz g.hz) (by grind)
theorem add_w {k : Nat} {x y u v : Int} (h : OkF 900 x y) (g : OkF 900 u v) {s : S} {Q : T → S → Prop} {E : XP} {p : Ph (Q, E)} : Wm (CF (k + 3) 7 [rv x y, rv u v]) s Q E p = Q (rv (x * v + u * y) (y * v)) (s.up 1) := by
  refine w_of (w_det (p := ph) ?_)
  have z := add_ok h g
  have m := fun s Q E p => mk_w (k := k) (pw z.hx (by decide)) (pw z.hy (by decide)) z.hz (s := s) (Q := Q) (E := E) (p := p)
  simp? [↓c7, ↓u7, as_w, top_w, bot_w, ↓m, -mk_Ratio]
  exact ⟨mo (nm_lt h) (dn_lt g) (by decide) (by decide), mo (nm_lt g) (dn_lt h) (by decide) (by decide), mo (dn_lt h) (dn_lt g) (by decide) (by decide), add_rv h g⟩
theorem addI_w {k : Nat} {x y u : Int} (h : OkF 900 x y) (g : u.natAbs < 2 ^ 900) {s : S} {Q : T → S → Prop} {E : XP} {p : Ph (Q, E)} : Wm (CF (k + 4) 7 [rv x y, .int u]) s Q E p = Q (rv (x + u * y) y) (s.up 2) := by
  refine w_of (w_det (p := ph) ?_)
  have g' : OkF 900 u 1 := ⟨g, by decide, by decide⟩
  have z := add_ok h g'
  have m := fun s Q E p => mk_w (k := k + 1) (pw z.hx (by decide)) (pw z.hy (by decide)) z.hz (s := s) (Q := Q) (E := E) (p := p)
  simp? [↓c7, ↓u7, asI_w (pw g (show 900 ≤ 4000 by decide)), top_w, bot_w, ↓m, -mk_Ratio]
  refine ⟨mo (nm_lt h) (dn_lt g') (by decide) (by decide), mo (nm_lt g') (dn_lt h) (by decide) (by decide), mo (dn_lt h) (dn_lt g') (by decide) (by decide), ?_⟩
  rw [add_rv h g']
  exact rv_same (Int.mul_ne_zero h.hz (by decide)) h.hz (by grind)
theorem OkF.le {m n : Nat} {x y : Int} (h : OkF m x y) (hm : m ≤ n) : OkF n x y := ⟨pw h.hx hm, pw h.hy hm, h.hz⟩
theorem neg_rv {x y : Int} (h : y ≠ 0) : rv (-num x y) (den x y) = rv (-x) y := by
  have h1 := Rt.num_den (x := x) h
  have h2 := Rt.den_pos (x := x) h
  exact rv_same (by omega) h (by grind)
theorem neg_w {k : Nat} {x y : Int} (h : OkF 900 x y) {s : S} {Q : T → S → Prop} {E : XP} {p : Ph (Q, E)} : Wm (CF (k + 3) 13 [rv x y]) s Q E p = Q (rv (-x) y) (s.up 1) := by
  refine w_of (w_det (p := ph) ?_)
  have h2 := Rt.den_pos (x := x) h.hz
  have m := fun s Q E p => mk_w (k := k) (x := -num x y) (y := den x y) (by rw [Int.natAbs_neg]; exact pw (nm_lt h) (by decide)) (pw (dn_lt h) (by decide)) (by omega) (s := s) (Q := Q) (E := E) (p := p)
  simp? [↓c13, ↓u13, top_w, bot_w, ↓m, -mk_Ratio]
  exact neg_rv h.hz
theorem mul_ok {x y u v : Int} (h : OkF 900 x y) (g : OkF 900 u v) : OkF 2000 (num x y * num u v) (den x y * den u v) := by
  have d1 := Rt.den_pos (x := x) h.hz
  have d2 := Rt.den_pos (x := u) g.hz
  exact ⟨pw (mul_lt (nm_lt h) (nm_lt g)) (by decide), pw (mul_lt (dn_lt h) (dn_lt g)) (by decide), Int.mul_ne_zero (by omega) (by omega)⟩
theorem mul_rv {x y u v : Int} (h : OkF 900 x y) (g : OkF 900 u v) : rv (num x y * num u v) (den x y * den u v) = rv (x * u) (y * v) := by
  have h1 := Rt.num_den (x := x) h.hz
  have h2 := Rt.num_den (x := u) g.hz
  exact rv_same (mul_ok h g).hz (Int.mul_ne_zero h.hz g.hz) (by grind)
theorem mul_w {k : Nat} {x y u v : Int} (h : OkF 900 x y) (g : OkF 900 u v) {s : S} {Q : T → S → Prop} {E : XP} {p : Ph (Q, E)} : Wm (CF (k + 3) 11 [rv x y, rv u v]) s Q E p = Q (rv (x * u) (y * v)) (s.up 1) := by
  refine w_of (w_det (p := ph) ?_)
  have z := mul_ok h g
  have m := fun s Q E p => mk_w (k := k) (pw z.hx (by decide)) (pw z.hy (by decide)) z.hz (s := s) (Q := Q) (E := E) (p := p)
  simp? [↓c11, ↓u11, as_w, top_w, bot_w, ↓m, -mk_Ratio]
  exact ⟨mo (nm_lt h) (nm_lt g) (by decide) (by decide), mo (dn_lt h) (dn_lt g) (by decide) (by decide), mul_rv h g⟩
theorem mulI_w {k : Nat} {x y u : Int} (h : OkF 900 x y) (g : u.natAbs < 2 ^ 900) {s : S} {Q : T → S → Prop} {E : XP} {p : Ph (Q, E)} : Wm (CF (k + 4) 11 [rv x y, .int u]) s Q E p = Q (rv (x * u) y) (s.up 2) := by
  refine w_of (w_det (p := ph) ?_)
  have g' : OkF 900 u 1 := ⟨g, by decide, by decide⟩
  have z := mul_ok h g'
  have m := fun s Q E p => mk_w (k := k + 1) (pw z.hx (by decide)) (pw z.hy (by decide)) z.hz (s := s) (Q := Q) (E := E) (p := p)
  simp? [↓c11, ↓u11, asI_w (pw g (show 900 ≤ 4000 by decide)), top_w, bot_w, ↓m, -mk_Ratio]
  refine ⟨mo (nm_lt h) (nm_lt g') (by decide) (by decide), mo (dn_lt h) (dn_lt g') (by decide) (by decide), ?_⟩
  rw [mul_rv h g']
  exact rv_same (Int.mul_ne_zero h.hz (by decide)) h.hz (by grind)
/-! the operators -/
section
variable {k : Nat} {x y u v : Int} {s : S} {Q : T → S → Prop} {E : XP} {p : Ph (Q, E)}
theorem oadd {call : CallM} : Wm (binO P call .Add (rv x y) (rv u v)) s Q E p = Wm (call 7 [rv x y, rv u v]) s Q E ph := by
  unfold rv Rq; rw [o_Ratio___add__]
theorem oaddI {call : CallM} : Wm (binO P call .Add (rv x y) (.int u)) s Q E p = Wm (call 7 [rv x y, .int u]) s Q E ph := by
  unfold rv Rq; rw [o_Ratio___add___int]
theorem oraddI {call : CallM} : Wm (binO P call .Add (.int u) (rv x y)) s Q E p = Wm (call 8 [rv x y, .int u]) s Q E ph := by
  unfold rv Rq; rw [o_Ratio___radd__]
theorem osub {call : CallM} : Wm (binO P call .Sub (rv x y) (rv u v)) s Q E p = Wm (call 9 [rv x y, rv u v]) s Q E ph := by
  unfold rv Rq; rw [o_Ratio___sub__]
theorem osubI {call : CallM} : Wm (binO P call .Sub (rv x y) (.int u)) s Q E p = Wm (call 9 [rv x y, .int u]) s Q E ph := by
  unfold rv Rq; rw [o_Ratio___sub___int]
theorem orsubI {call : CallM} : Wm (binO P call .Sub (.int u) (rv x y)) s Q E p = Wm (call 10 [rv x y, .int u]) s Q E ph := by
  unfold rv Rq; rw [o_Ratio___rsub__]
theorem omul {call : CallM} : Wm (binO P call .Mult (rv x y) (rv u v)) s Q E p = Wm (call 11 [rv x y, rv u v]) s Q E ph := by
  unfold rv Rq; rw [o_Ratio___mul__]
theorem omulI {call : CallM} : Wm (binO P call .Mult (rv x y) (.int u)) s Q E p = Wm (call 11 [rv x y, .int u]) s Q E ph := by
  unfold rv Rq; rw [o_Ratio___mul___int]
theorem ormulI {call : CallM} : Wm (binO P call .Mult (.int u) (rv x y)) s Q E p = Wm (call 12 [rv x y, .int u]) s Q E ph := by
  unfold rv Rq; rw [o_Ratio___rmul__]
theorem oneg {call : CallM} : Wm (negO P call (rv x y)) s Q E p = Wm (call 13 [rv x y]) s Q E ph := by
  unfold rv Rq; rw [o_Ratio_neg]
theorem okn {m : Nat} (h : OkF m x y) : OkF m (-x) y := ⟨by rw [Int.natAbs_neg]; exact h.hx, h.hy, h.hz⟩
theorem sub_w (h : OkF 900 x y) (g : OkF 900 u v) : Wm (CF (k + 4) 9 [rv x y, rv u v]) s Q E p = Q (rv (x * v - u * y) (y * v)) (s.up 2) := by
  refine w_of (w_det (p := ph) ?_)
  simp? [↓c9, ↓u9, as_w, oneg, neg_w g, oadd, add_w h (okn g)]
  rw [show x * v + -u * y = x * v - u * y by grind]
theorem subI_w (h : OkF 900 x y) (g : u.natAbs < 2 ^ 900) : Wm (CF (k + 4) 9 [rv x y, .int u]) s Q E p = Q (rv (x - u * y) y) (s.up 3) := by
  refine w_of (w_det (p := ph) ?_)
  have g' : OkF 900 u 1 := ⟨g, by decide, by decide⟩
  simp? [↓c9, ↓u9, asI_w (pw g (show 900 ≤ 4000 by decide)), oneg, neg_w g', oadd, add_w h (okn g')]
  exact rv_same (Int.mul_ne_zero h.hz (by decide)) h.hz (by grind)
theorem radd_w (h : OkF 900 x y) (g : u.natAbs < 2 ^ 900) : Wm (CF (k + 5) 8 [rv x y, .int u]) s Q E p = Q (rv (x + u * y) y) (s.up 2) := by
  refine w_of (w_det (p := ph) ?_)
  simp? [↓c8, ↓u8, oaddI, addI_w h g]
theorem rmul_w (h : OkF 900 x y) (g : u.natAbs < 2 ^ 900) : Wm (CF (k + 5) 12 [rv x y, .int u]) s Q E p = Q (rv (x * u) y) (s.up 2) := by
  refine w_of (w_det (p := ph) ?_)
  simp? [↓c12, ↓u12, omulI, mulI_w h g]
theorem rsub_w (h : OkF 900 x y) (g : u.natAbs < 2 ^ 900) : Wm (CF (k + 4) 10 [rv x y, .int u]) s Q E p = Q (rv (u * y - x) y) (s.up 3) := by
  refine w_of (w_det (p := ph) ?_)
  have g' : OkF 900 u 1 := ⟨g, by decide, by decide⟩
  simp? [↓c10, ↓u10, asI_w (pw g (show 900 ≤ 4000 by decide)), oneg, neg_w h, oadd, add_w g' (okn h)]
  exact rv_same (Int.mul_ne_zero (by decide) h.hz) h.hz (by grind)
theorem over_w (h : OkF 900 x y) (g : OkF 900 u v) (hu : u ≠ 0) : Wm (CF (k + 3) 14 [rv x y, rv u v]) s Q E p = Q (rv (x * v) (y * u)) (s.up 1) := by
  refine w_of (w_det (p := ph) ?_)
  have d1 := Rt.den_pos (x := x) h.hz
  have hn : num u v ≠ 0 := fun z => hu ((Rt.num_zero g.hz).mp z)
  have e0 : (num u v == 0) = false := by simpa using hn
  have z : OkF 2000 (num x y * den u v) (den x y * num u v) := ⟨pw (mul_lt (nm_lt h) (dn_lt g)) (by decide), pw (mul_lt (dn_lt h) (nm_lt g)) (by decide), Int.mul_ne_zero (by omega) hn⟩
  have m := fun s Q E p => mk_w (k := k) (pw z.hx (by decide)) (pw z.hy (by decide)) z.hz (s := s) (Q := Q) (E := E) (p := p)
  simp? [↓c14, ↓u14, as_w, top_w, bot_w, e0, ↓m, -mk_Ratio]
  refine ⟨mo (nm_lt h) (dn_lt g) (by decide) (by decide), mo (dn_lt h) (nm_lt g) (by decide) (by decide), ?_⟩
  have h1 := Rt.num_den (x := x) h.hz
  have h2 := Rt.num_den (x := u) g.hz
  exact rv_same z.hz (Int.mul_ne_zero h.hz hu) (by grind)
theorem overI_w (h : OkF 900 x y) (g : u.natAbs < 2 ^ 900) (hu : u ≠ 0) : Wm (CF (k + 4) 14 [rv x y, .int u]) s Q E p = Q (rv x (y * u)) (s.up 2) := by
  refine w_of (w_det (p := ph) ?_)
  have g' : OkF 900 u 1 := ⟨g, by decide, by decide⟩
  have d1 := Rt.den_pos (x := x) h.hz
  have hn : num u 1 ≠ 0 := by rw [num_1]; exact hu
  have e0 : (num u 1 == 0) = false := by simpa using hn
  have z : OkF 2000 (num x y * den u 1) (den x y * num u 1) := ⟨pw (mul_lt (nm_lt h) (dn_lt g')) (by decide), pw (mul_lt (dn_lt h) (nm_lt g')) (by decide), Int.mul_ne_zero (by omega) hn⟩
  have m := fun s Q E p => mk_w (k := k + 1) (pw z.hx (by decide)) (pw z.hy (by decide)) z.hz (s := s) (Q := Q) (E := E) (p := p)
  simp? [↓c14, ↓u14, asI_w (pw g (show 900 ≤ 4000 by decide)), top_w, bot_w, e0, ↓m, -mk_Ratio]
  refine ⟨mo (nm_lt h) (dn_lt g') (by decide) (by decide), mo (dn_lt h) (nm_lt g') (by decide) (by decide), ?_⟩
  have h1 := Rt.num_den (x := x) h.hz
  have h2 := Rt.num_den (x := u) g'.hz
  exact rv_same z.hz (Int.mul_ne_zero h.hz hu) (by grind)
theorem over0_w (h : OkF 900 x y) (g : OkF 900 0 v) : Wm (CF (k + 3) 14 [rv x y, rv 0 v]) s Q E p = E "BadRatio" ["value"] [rv 0 v] s := by
  refine w_ofX (w_detX (p := ph) ?_)
  have e0 : num 0 v = 0 := (Rt.num_zero g.hz).mpr rfl
  simp? [↓c14, ↓u14, as_w, top_w, bot_w, e0]
theorem over0I_w (h : OkF 900 x y) : Wm (CF (k + 4) 14 [rv x y, .int 0]) s Q E p = E "BadRatio" ["value"] [.int 0] (s.up 1) := by
  refine w_ofX (w_detX (p := ph) ?_)
  simp? [↓c14, ↓u14, asI_w (x := 0) (by decide), top_w, bot_w, num_1]
theorem below_w (h : OkF 900 x y) (g : OkF 900 u v) : Wm (CF (k + 3) 15 [rv x y, rv u v]) s Q E p = Q (.bl (decide (sg (y * v) * (x * v - u * y) < 0))) s := by
  refine w_of (w_det (p := ph) ?_)
  simp? [↓c15, ↓u15, as_w, top_w, bot_w]
  refine ⟨mo (nm_lt h) (dn_lt g) (by decide) (by decide), mo (nm_lt g) (dn_lt h) (by decide) (by decide), ?_⟩
  rw [T.bl.injEq, decide_eq_decide]
  exact Rt.below_iff h.hz g.hz
theorem atmost_w (h : OkF 900 x y) (g : OkF 900 u v) : Wm (CF (k + 3) 16 [rv x y, rv u v]) s Q E p = Q (.bl (decide (sg (y * v) * (x * v - u * y) ≤ 0))) s := by
  refine w_of (w_det (p := ph) ?_)
  simp? [↓c16, ↓u16, as_w, top_w, bot_w]
  refine ⟨mo (nm_lt h) (dn_lt g) (by decide) (by decide), mo (nm_lt g) (dn_lt h) (by decide) (by decide), ?_⟩
  rw [T.bl.injEq, decide_eq_decide]
  exact Rt.atmost_iff h.hz g.hz
end
-- W3
open Rt (num den sg gd)
section
variable {k : Nat} {x y u v : Int} {s : S} {Q : T → S → Prop} {E : XP} {p : Ph (Q, E)}
theorem belowI_w (h : OkF 900 x y) (g : u.natAbs < 2 ^ 900) : Wm (CF (k + 4) 15 [rv x y, .int u]) s Q E p = Q (.bl (decide (sg y * (x - u * y) < 0))) (s.up 1) := by
  refine w_of (w_det (p := ph) ?_)
  have g' : OkF 900 u 1 := ⟨g, by decide, by decide⟩
  simp? [↓c15, ↓u15, asI_w (pw g (show 900 ≤ 4000 by decide)), top_w, bot_w]
  refine ⟨mo (nm_lt h) (dn_lt g') (by decide) (by decide), mo (nm_lt g') (dn_lt h) (by decide) (by decide), ?_⟩
  rw [T.bl.injEq, decide_eq_decide, Rt.below_iff h.hz g'.hz, Int.mul_one, Int.mul_one]
theorem atmostI_w (h : OkF 900 x y) (g : u.natAbs < 2 ^ 900) : Wm (CF (k + 4) 16 [rv x y, .int u]) s Q E p = Q (.bl (decide (sg y * (x - u * y) ≤ 0))) (s.up 1) := by
  refine w_of (w_det (p := ph) ?_)
  have g' : OkF 900 u 1 := ⟨g, by decide, by decide⟩
  simp? [↓c16, ↓u16, asI_w (pw g (show 900 ≤ 4000 by decide)), top_w, bot_w]
  refine ⟨mo (nm_lt h) (dn_lt g') (by decide) (by decide), mo (nm_lt g') (dn_lt h) (by decide) (by decide), ?_⟩
  rw [T.bl.injEq, decide_eq_decide, Rt.atmost_iff h.hz g'.hz, Int.mul_one, Int.mul_one]
theorem eq_w (hy : y ≠ 0) (hv : v ≠ 0) {neg : Bool} : Wm (eqO P (CF (k + 1)) neg (rv x y) (rv u v)) s Q E p = Q (.bl (if neg then !decide (x * v = u * y) else decide (x * v = u * y))) s := by
  refine w_of (w_det (p := ph) ?_)
  have e : ((num x y == num u v) && (den x y == den u v)) = decide (x * v = u * y) := by
    rw [Bool.eq_iff_iff, Bool.and_eq_true, beq_iff_eq, beq_iff_eq, decide_eq_true_eq]
    exact Rt.same_iff hy hv
  have e2 : rv u v = .ins "Ratio" ["top", "bottom"] [.int (num u v), .int (den u v)] := rfl
  have e1 : rv x y = .ins "Ratio" ["top", "bottom"] [.int (num x y), .int (den x y)] := rfl
  rw [e1, e2]
  simp? [↓c17, ↓u17, lkF_c, op_some]
  rw [← e]
  cases (num x y == num u v) <;> simp
theorem eqI_w (hy : y ≠ 0) {neg : Bool} : Wm (eqO P (CF (k + 2)) neg (rv x y) (.int u)) s Q E p = Q (.bl (if neg then !decide (x = u * y) else decide (x = u * y))) s := by
  refine w_of (w_det (p := ph) ?_)
  have e1 : rv x y = .ins "Ratio" ["top", "bottom"] [.int (num x y), .int (den x y)] := rfl
  rw [e1]
  simp? [↓c17, ↓u17, ↓c2, ↓u2, lkF_c, op_some]
  have h1 := Rt.num_den (x := x) hy
  have key : den x y ≠ 1 → x ≠ u * y := fun hd z => hd (by
    have := (Rt.same (x := x) (y := y) (x' := u) (y' := 1) hy (by decide) (by omega)).2
    rw [this, den_1])
  split
  · rename_i hd
    have hd : den x y = 1 := by simpa using hd
    have e : (num x y == u) = decide (x = u * y) := by
      rw [Bool.eq_iff_iff, beq_iff_eq, decide_eq_true_eq]
      rw [hd, Int.mul_one] at h1
      refine ⟨fun z => by rw [← z, h1], fun z => Int.eq_of_mul_eq_mul_right hy (by rw [h1, z])⟩
    rw [e]
  · rename_i hd
    have hd : den x y ≠ 1 := by simpa using hd
    have e2 : decide (x = u * y) = false := decide_eq_false (key hd)
    have e3 : (den x y == 1) = false := by simpa using hd
    rw [e2, e3]
theorem eqX_w {t : T} (ht : t = .bl true ∨ t = .bl false ∨ t = .non ∨ ∃ z, t = .str z) {neg : Bool} : Wm (eqO P (CF (k + 2)) neg (rv x y) t) s Q E p = Q (.bl neg) s := by
  refine w_of (w_det (p := ph) ?_)
  have e1 : rv x y = .ins "Ratio" ["top", "bottom"] [.int (num x y), .int (den x y)] := rfl
  rw [e1]
  rcases ht with rfl | rfl | rfl | ⟨z, rfl⟩
  · simp? [↓c17, ↓u17, ↓c2, ↓u2, lkF_c, op_some]; cases neg <;> rfl
  · simp? [↓c17, ↓u17, ↓c2, ↓u2, lkF_c, op_some]; cases neg <;> rfl
  · simp? [↓c17, ↓u17, ↓c2, ↓u2, lkF_c, op_some]; cases neg <;> rfl
  · simp? [↓c17, ↓u17, ↓c2, ↓u2, lkF_c, op_some]; cases neg <;> rfl
theorem bool_w (hy : y ≠ 0) : Wm (bcallO P (CF (k + 1)) false .bool [rv x y]) s Q E p = Q (.bl (decide (x ≠ 0))) s := by
  refine w_of (w_det (p := ph) ?_)
  have e1 : rv x y = .ins "Ratio" ["top", "bottom"] [.int (num x y), .int (den x y)] := rfl
  rw [e1]
  simp? [↓c18, ↓u18, lkF_c, op_some]
  rw [T.bl.injEq]
  have := Rt.num_zero (x := x) hy
  by_cases h : x = 0
  · rw [this.mpr h]; simp [h]
  · have h2 : num x y ≠ 0 := fun z => h (this.mp z)
    simp [h, h2]
theorem num_len {i : Int} (h : i.natAbs.log2 < 1920) : (Str.ofString (toString i)).length ≤ 1922 := by
  rw [len_of]
  exact Nat.le_trans (int_text_length_le (a := i) (k := i.natAbs.log2 + 1) (by omega) (by omega)) (by omega)
theorem app_len (a b : Str) : (a ++ b).length = a.length + b.length := by
  show (a ++ b).cps.size = a.cps.size + b.cps.size
  rw [Str.cps_append, Array.size_append]
def tx (x y : Int) : Str := if (den x y == 1) = true then Str.ofString (toString (num x y)) else Str.empty ++ Str.ofString (toString (num x y)) ++ Str.ofString "/" ++ Str.ofString (toString (den x y))
theorem str_w (h : OkF 900 x y) : Wm (bcallO P (CF (k + 1)) false .str [rv x y]) s Q E p = Q (.str (tx x y)) s := by
  have e1 : rv x y = .ins "Ratio" ["top", "bottom"] [.int (num x y), .int (den x y)] := rfl
  have l1 : (num x y).natAbs.log2 < 1920 := by
    have := nm_lt h
    exact Nat.lt_of_lt_of_le (lg_small this (by decide)) (by decide)
  have l2 : (den x y).natAbs.log2 < 1920 := by
    have := dn_lt h
    exact Nat.lt_of_lt_of_le (lg_small this (by decide)) (by decide)
  rw [e1]
  refine w_of (w_det (p := ph) ?_)
  have n1 := num_len l1
  have n2 := num_len l2
  have e0 : Str.empty.length = 0 := rfl
  have e3 : (Str.ofString "/").length = 1 := by decide +kernel
  unfold tx
  by_cases hb : (den x y == 1) = true
  · simp? [↓c19, ↓u19, lkF_c, op_some, hb, l1]
  · simp? [↓c19, ↓u19, lkF_c, op_some, hb, l1, l2]
    simp only [app_len, e0, e3]
    refine ⟨by omega, by omega, by omega⟩
end
-- W4
open Rt (num den sg gd)
section
variable {k : Nat} {x y u v : Int} {s : S} {Q : T → S → Prop} {E : XP} {p : Ph (Q, E)}
theorem isi_rv {t : T} {r : Bool} (h : isTst P (.c "Ratio") t = some r) : Wm (bcallB P false .isi [rv x y, t]) s Q E p = Q (.bl r) s := by
  have e1 : rv x y = .ins "Ratio" ["top", "bottom"] [.int (num x y), .int (den x y)] := rfl
  have e2 : kdOf P (see s (rv x y)) = some (.c "Ratio") := by rw [e1]; exact kd_Ratio
  rw [w_isi, e2, Option.bind_some, h, op_some]
theorem isR : Wm (bcallB P false .isi [rv x y, .glo "Ratio"]) s Q E p = Q (.bl true) s := isi_rv (by kernel_rfl)
theorem is_w (h : OkF 900 x y) (hu : u.natAbs < 2 ^ 2000) (hv : v.natAbs < 2 ^ 2000) (e : x * v = u * y) : Wm (CF (k + 1) 26 [rv x y, .int u, .int v]) s Q E p = Q (.bl true) s := by
  refine w_of (w_det (p := ph) ?_)
  have d1 := Rt.den_pos (x := x) h.hz
  have b1 : ¬ den x y < 1 := by omega
  have h1 := Rt.num_den (x := x) h.hz
  have e1 : (num x y * v == u * den x y) = true := by
    rw [beq_iff_eq]
    refine Int.eq_of_mul_eq_mul_right h.hz ?_
    grind
  obtain ⟨b, hb⟩ : ∃ b : Nat, den x y = (b : Int) := ⟨(den x y).toNat, by omega⟩
  have hb2 : b < 2 ^ 4000 := by
    have := pw (dn_lt h) (show 900 ≤ 4000 by decide)
    omega
  have hg : Nat.gcd (num x y).natAbs b = 1 := by
    have := Rt.cop (x := x) h.hz
    rw [hb] at this
    exact this
  simp? [↓c26, ↓u26, isR, -w_isi, top_w, bot_w, b1, e1, Rt.abs_nat]
  refine ⟨mo (nm_lt h) hv (by decide) (by decide), mo hu (dn_lt h) (by decide) (by decide), ?_⟩
  rw [hb]
  refine s_while (I := fun n e s' => ∃ c d : Nat, e = [some (rv x y), some (.int u), some (.int v), some (.int (c : Nat)), some (.int (d : Nat))] ∧ s' = s ∧ Nat.gcd c d = 1 ∧ n = Rt.mu c d) (n := Rt.mu (num x y).natAbs b) (Rt.mu_big (pw (nm_lt h) (by decide)) hb2) ⟨_, b, rfl, rfl, hg, rfl⟩ ?_
  rintro n e s' ⟨c, d, rfl, rfl, hg, rfl⟩
  simp? [h26_b0_c, h26_b0]
  by_cases hy : (0 : Int) < d
  · simp? [hy]
    refine ⟨Rt.mu d (c % d), Rt.mu_lt (by omega), d, c % d, ?_, ?_, rfl⟩
    · rw [show ((c % d : Nat) : Int) = (c : Int) % (d : Int) from rfl]
    · rw [← hg, Nat.gcd_comm c d, Nat.gcd_rec d c, Nat.gcd_comm]
  · simp? [hy]
    have h0 : d = 0 := by omega
    subst h0
    rw [Nat.gcd_zero_right] at hg
    subst hg
    trace_state
    rfl
theorem int_w {n : Nat} {K : Int} (hp : Pen n K s) (hK : K < 2 ^ 19) (q : ∀ i s', i.natAbs < 2 ^ 100 → Pen n (K + 5) s' → Fr n s s' → Q (.int i) s') : Wm (CF (k + 3) 25 [.box n]) s Q E p := by
  simp? [↓c25, ↓u25]
  refine law_draw (many := 10) hp (by omega) (by decide) (by decide) ?_
  intro d1 s1 a1 b1 p1 f1
  simp? []
  refine ⟨by decide, ?_⟩
  refine law_draw (many := 10 ^ 30) p1 (by omega) (by decide) (by decide) ?_
  intro d2 s2 a2 b2 p2 f2
  simp? []
  refine law_draw (many := 100) p2 (by omega) (by decide) (by decide) ?_
  intro d3 s3 a3 b3 p3 f3
  simp? []
  refine ⟨by decide, ?_⟩
  refine law_pick p3 (by omega) (by simp) (by simp) ?_
  intro t s4 ht p4 f4
  obtain ⟨i, rfl, i1, i2⟩ : ∃ i : Int, t = .int i ∧ 0 ≤ i ∧ i < 10 ^ 30 := by
    simp only [List.mem_cons, List.not_mem_nil, or_false] at ht
    rcases ht with rfl | rfl | rfl | rfl | rfl | rfl | rfl | rfl <;> exact ⟨_, rfl, by omega, by omega⟩
  simp? []
  refine law_drawN p4 (by omega) (m := 2) (by omega) (by omega) ?_
  intro d5 s5 hd5 p5 f5
  have ff := f1.trans (f2.trans (f3.trans (f4.trans f5)))
  have hb : (10 : Int) ^ 30 < 2 ^ 100 := by decide
  simp? []
  split
  · exact q _ _ (by omega) (p5.le (by omega)) ff
  · exact q _ _ (by omega) (p5.le (by omega)) ff
end
-- W5
open Rt (num den sg gd)
theorem mo9 {a b : Int} (ha : a.natAbs < 2 ^ 900) (hb : b.natAbs < 2 ^ 900) : mulOk a b = true := mo ha hb (by decide) (by decide)
theorem mo1 {a : Int} : mulOk 1 a = true := rfl
theorem mo2 {a : Int} : mulOk (-1) a = true := rfl
theorem rp5 {b1 b2 b3 b4 b5 : Bool} : rpOk (.lst [.bl b1, .bl b2, .bl b3, .bl b4, .bl b5]) = true := by kernel_rfl
theorem rp2 {b1 b2 : Bool} : rpOk (.lst [.bl b1, .bl b2]) = true := by kernel_rfl
section
variable {k : Nat} {x y u v : Int} {s : S} {Q : T → S → Prop} {E : XP} {p : Ph (Q, E)}
theorem w_rep5 {b1 b2 b3 b4 b5 : Bool} : Wm (bcallB P false .repr [.lst [.bl b1, .bl b2, .bl b3, .bl b4, .bl b5]]) s Q E p = Q (.str (shT (.lst [.bl b1, .bl b2, .bl b3, .bl b4, .bl b5]))) s := w_repL rp5
theorem w_rep2 {b1 b2 : Bool} : Wm (bcallB P false .repr [.lst [.bl b1, .bl b2]]) s Q E p = Q (.str (shT (.lst [.bl b1, .bl b2]))) s := w_repL rp2
theorem w_eqSS {call : CallM} {x : Str} : Wm (eqO P call false (.str x) (.str x)) s Q E p = Q (.bl true) s := by rw [v_eqS]; simp
theorem is_same (h : OkF 900 u v) : Wm (CF (k + 1) 26 [rv u v, .int u, .int v]) s Q E p = Q (.bl true) s := is_w h (pw h.hx (by decide)) (pw h.hy (by decide)) rfl
theorem is_neg (h : OkF 900 u v) : Wm (CF (k + 1) 26 [rv (-u) v, .int (0 - u), .int v]) s Q E p = Q (.bl true) s := is_w (okn h) (by rw [Int.zero_sub, Int.natAbs_neg]; exact pw h.hx (by decide)) (pw h.hy (by decide)) (by rw [Int.zero_sub])
theorem mk9 (h : OkF 900 x y) : Wm (mkM (CF (k + 2)) "Ratio" cRatio [.int x, .int y]) s Q E p = Q (rv x y) (s.up 1) := mk_w (pw h.hx (by decide)) (pw h.hy (by decide)) h.hz
theorem m_over {x y : Int} {Q : Nat × List T → S → Prop} {p : Ph (Q, E)} : Wm (methI P "over" (rv x y)) s Q E p = Q (14, [rv x y]) s := by
  have e1 : rv x y = .ins "Ratio" ["top", "bottom"] [.int (num x y), .int (den x y)] := rfl
  rw [e1]
  simp? []
theorem m_below {x y : Int} {Q : Nat × List T → S → Prop} {p : Ph (Q, E)} : Wm (methI P "below" (rv x y)) s Q E p = Q (15, [rv x y]) s := by
  have e1 : rv x y = .ins "Ratio" ["top", "bottom"] [.int (num x y), .int (den x y)] := rfl
  rw [e1]
  simp? []
theorem m_atmost {x y : Int} {Q : Nat × List T → S → Prop} {p : Ph (Q, E)} : Wm (methI P "at_most" (rv x y)) s Q E p = Q (16, [rv x y]) s := by
  have e1 : rv x y = .ins "Ratio" ["top", "bottom"] [.int (num x y), .int (den x y)] := rfl
  rw [e1]
  simp? []
theorem okm {m n : Nat} {a b c d : Int} (h : OkF m a b) (g : OkF n c d) (hl : m + n + 1 ≤ 900) : OkF 900 (a * d + c * b) (b * d) ∧ OkF 900 (a * d - c * b) (b * d) ∧ OkF 900 (a * c) (b * d) := by
  have h1 := mul_lt h.hx g.hy
  have h2 := mul_lt g.hx h.hy
  have h3 := mul_lt h.hy g.hy
  have h4 := mul_lt h.hx g.hx
  rw [Nat.add_comm n m] at h2
  have hz : b * d ≠ 0 := Int.mul_ne_zero h.hz g.hz
  refine ⟨⟨pw (add_lt h1 h2) hl, pw h3 (by omega), hz⟩, ⟨?_, pw h3 (by omega), hz⟩, ⟨pw h4 (by omega), pw h3 (by omega), hz⟩⟩
  rw [Int.sub_eq_add_neg]
  exact pw (add_lt h1 (by rw [Int.natAbs_neg]; exact h2)) hl
theorem pair_w {a b c d : Int} (h : OkF 400 a b) (g : OkF 400 c d) (q : ∀ n, Q (.bl true) (s.up n)) : Wm (CF (k + 6) 27 [.tup [.int a, .int b], .tup [.int c, .int d]]) s Q E p := by
  obtain ⟨k1, k2, k3⟩ := okm h g (by decide)
  have h9 := h.le (show 400 ≤ 900 by decide)
  have g9 := g.le (show 400 ≤ 900 by decide)
  have a9 := h9.hx
  have b9 := h9.hy
  have c9 := g9.hx
  have d9 := g9.hy
  have m1 := fun s Q E p => mk9 (k := k + 3) h9 (s := s) (Q := Q) (E := E) (p := p)
  have m2 := fun s Q E p => mk9 (k := k + 3) g9 (s := s) (Q := Q) (E := E) (p := p)
  have hn : OkF 900 (-a) b := okn h9
  simp? [↓c27, ↓u27, ↓m1, ↓m2, -mk_Ratio, oadd, add_w h9 g9, mo9 a9 b9, mo9 c9 d9, mo9 a9 d9, mo9 c9 b9, mo9 b9 d9, mo9 a9 c9, is_same k1, osub, sub_w h9 g9, is_same k2, omul, mul_w h9 g9, is_same k3, oneg, neg_w h9, is_neg h9]
  have hz : b * d ≠ 0 := Int.mul_ne_zero h.hz g.hz
  have e2 : decide (a ≠ 0) = !(a == 0) := by by_cases z : a = 0 <;> simp [z]
  by_cases hbd : 0 < b * d
  · have hs : sg (b * d) = 1 := if_neg (by omega)
    have e1 : (1 * (a * d - c * b) == 0) = decide (a * d = c * b) := by rw [Bool.eq_iff_iff, beq_iff_eq, decide_eq_true_eq]; omega
    by_cases hc : c = 0
    · have e0 : (c == 0) = true := by simpa using hc
      simp? [e0]
      simp? [v_eqE, v_neE, eq_w h.hz g.hz, m_below, below_w h9 g9, m_atmost, atmost_w h9 g9, bool_w h.hz, mo9 a9 d9, mo9 c9 b9, mo9 b9 d9, hs, hbd, e1, e2, -w_repr, w_rep5, mo1, mo2, w_eqSS]
      exact q _
    · have e0 : (c == 0) = false := by simpa using hc
      have hcv : OkF 900 (a * d) (b * c) := ⟨pw (mul_lt h.hx g.hy) (by decide), pw (mul_lt h.hy g.hx) (by decide), Int.mul_ne_zero h.hz hc⟩
      simp? [e0, m_over, over_w h9 g9 hc, mo9 a9 d9, mo9 b9 c9, is_same hcv]
      simp? [v_eqE, v_neE, eq_w h.hz g.hz, m_below, below_w h9 g9, m_atmost, atmost_w h9 g9, bool_w h.hz, mo9 a9 d9, mo9 c9 b9, mo9 b9 d9, hs, hbd, e1, e2, -w_repr, w_rep5, mo1, mo2, w_eqSS]
      exact q _
  · have hs : sg (b * d) = -1 := if_pos (by omega)
    have e1 : (-1 * (a * d - c * b) == 0) = decide (a * d = c * b) := by rw [Bool.eq_iff_iff, beq_iff_eq, decide_eq_true_eq]; omega
    by_cases hc : c = 0
    · have e0 : (c == 0) = true := by simpa using hc
      simp? [e0]
      simp? [v_eqE, v_neE, eq_w h.hz g.hz, m_below, below_w h9 g9, m_atmost, atmost_w h9 g9, bool_w h.hz, mo9 a9 d9, mo9 c9 b9, mo9 b9 d9, hs, hbd, e1, e2, -w_repr, w_rep5, mo1, mo2, w_eqSS]
      exact q _
    · have e0 : (c == 0) = false := by simpa using hc
      have hcv : OkF 900 (a * d) (b * c) := ⟨pw (mul_lt h.hx g.hy) (by decide), pw (mul_lt h.hy g.hx) (by decide), Int.mul_ne_zero h.hz hc⟩
      simp? [e0, m_over, over_w h9 g9 hc, mo9 a9 d9, mo9 b9 c9, is_same hcv]
      simp? [v_eqE, v_neE, eq_w h.hz g.hz, m_below, below_w h9 g9, m_atmost, atmost_w h9 g9, bool_w h.hz, mo9 a9 d9, mo9 c9 b9, mo9 b9 d9, hs, hbd, e1, e2, -w_repr, w_rep5, mo1, mo2, w_eqSS]
      exact q _
end
-- W6
open Rt (num den sg gd)
section
variable {k : Nat} {x y u v : Int} {s : S} {Q : T → S → Prop} {E : XP} {p : Ph (Q, E)}
theorem okI {m n : Nat} {a b c : Int} (h : OkF m a b) (g : c.natAbs < 2 ^ n) (hl : m + n + 1 ≤ 900) : OkF 900 (a + c * b) b ∧ OkF 900 (a - c * b) b ∧ OkF 900 (c * b - a) b ∧ OkF 900 (a * c) b := by
  have h1 := mul_lt g h.hy
  rw [Nat.add_comm] at h1
  have h2 := mul_lt h.hx g
  have h3 : a.natAbs < 2 ^ (m + n) := pw h.hx (by omega)
  have h4 := pw h.hy (show m ≤ 900 by omega)
  refine ⟨⟨pw (add_lt h3 h1) hl, h4, h.hz⟩, ⟨?_, h4, h.hz⟩, ⟨?_, h4, h.hz⟩, ⟨pw h2 (by omega), h4, h.hz⟩⟩
  · rw [Int.sub_eq_add_neg]
    exact pw (add_lt h3 (by rw [Int.natAbs_neg]; exact h1)) hl
  · rw [Int.sub_eq_add_neg]
    exact pw (add_lt h1 (by rw [Int.natAbs_neg]; exact h3)) hl
theorem eqNil {call : CallM} {neg : Bool} : Wm (eqO P call neg (.lst []) (.lst [])) s Q E p = Q (.bl (!neg)) s := by
  rw [v_eqD (d := .list []) (e := .list []) rfl rfl rfl rfl]
  cases neg <;> rfl
theorem eq2 {call : CallM} {neg b c : Bool} : Wm (eqO P call neg (.lst [.bl b, .bl c]) (.lst [.bl b, .bl c])) s Q E p = Q (.bl (!neg)) s := by
  rw [v_eqD (d := .list [.bool b, .bool c]) (e := .list [.bool b, .bool c]) rfl rfl (by cases b <;> cases c <;> rfl) (by cases b <;> cases c <;> rfl)]
  cases neg <;> cases b <;> cases c <;> rfl
theorem mixed_w {a b c : Int} (h : OkF 400 a b) (g : c.natAbs < 2 ^ 400) (q : ∀ n, Q (.bl true) (s.up n)) : Wm (CF (k + 7) 28 [.tup [.int a, .int b], .int c]) s Q E p := by
  obtain ⟨k1, k2, k3, k4⟩ := okI h g (by decide)
  have h9 := h.le (show 400 ≤ 900 by decide)
  have g9 := pw g (show 400 ≤ 900 by decide)
  have a9 := h9.hx
  have b9 := h9.hy
  have m1 := fun s Q E p => mk9 (k := k + 4) h9 (s := s) (Q := Q) (E := E) (p := p)
  have ml : (3 : Nat) ≤ sizeLine := by decide
  have e1 : decide (a = c * b) = (a == c * b) := by rw [Bool.eq_iff_iff, beq_iff_eq, decide_eq_true_eq]
  by_cases hbd : 0 < b
  · have hs : sg b = 1 := if_neg (by omega)
    by_cases hc : c = 0
    · have e0 : (c == 0) = true := by simpa using hc
      simp? [↓c28, ↓u28, ↓m1, -mk_Ratio, oaddI, addI_w h9 g9, oraddI, radd_w h9 g9, mo9 g9 b9, mo9 a9 g9, is_same k1, ↓w_comp, ↓w_cmp0, ↓w_cmpC, ↓w_turn]
      simp? [v_eqE, v_neE, eqNil, osubI, subI_w h9 g9, is_same k2, orsubI, rsub_w h9 g9, is_same k3, omulI, mulI_w h9 g9, is_same k4, ormulI, rmul_w h9 g9, mo9 g9 b9, mo9 a9 g9, e0, eqI_w h.hz, e1, eq2, str_w h9, eqX_w (t := .str (tx a b)) (.inr (.inr (.inr ⟨_, rfl⟩))), m_below, belowI_w h9 g9, m_atmost, atmostI_w h9 g9, hs, hbd, mo1, mo2, -w_repr, w_rep2, w_eqSS]
      exact q _
    · have e0 : (c == 0) = false := by simpa using hc
      have hcv : OkF 900 a (b * c) := ⟨a9, pw (mul_lt h.hy g) (by decide), Int.mul_ne_zero h.hz hc⟩
      simp? [↓c28, ↓u28, ↓m1, -mk_Ratio, oaddI, addI_w h9 g9, oraddI, radd_w h9 g9, mo9 g9 b9, mo9 a9 g9, is_same k1, ↓w_comp, ↓w_cmp0, ↓w_cmpC, ↓w_turn]
      simp? [v_eqE, v_neE, eqNil, osubI, subI_w h9 g9, is_same k2, orsubI, rsub_w h9 g9, is_same k3, omulI, mulI_w h9 g9, is_same k4, ormulI, rmul_w h9 g9, mo9 g9 b9, mo9 a9 g9, e0, m_over, overI_w h9 g9 hc, mo9 b9 g9, is_same hcv, eqI_w h.hz, e1, eq2, str_w h9, eqX_w (t := .str (tx a b)) (.inr (.inr (.inr ⟨_, rfl⟩))), m_below, belowI_w h9 g9, m_atmost, atmostI_w h9 g9, hs, hbd, mo1, mo2, -w_repr, w_rep2, w_eqSS]
      exact q _
  · have hs : sg b = -1 := if_pos (by have := h.hz; omega)
    by_cases hc : c = 0
    · have e0 : (c == 0) = true := by simpa using hc
      simp? [↓c28, ↓u28, ↓m1, -mk_Ratio, oaddI, addI_w h9 g9, oraddI, radd_w h9 g9, mo9 g9 b9, mo9 a9 g9, is_same k1, ↓w_comp, ↓w_cmp0, ↓w_cmpC, ↓w_turn]
      simp? [v_eqE, v_neE, eqNil, osubI, subI_w h9 g9, is_same k2, orsubI, rsub_w h9 g9, is_same k3, omulI, mulI_w h9 g9, is_same k4, ormulI, rmul_w h9 g9, mo9 g9 b9, mo9 a9 g9, e0, eqI_w h.hz, e1, eq2, str_w h9, eqX_w (t := .str (tx a b)) (.inr (.inr (.inr ⟨_, rfl⟩))), m_below, belowI_w h9 g9, m_atmost, atmostI_w h9 g9, hs, hbd, mo1, mo2, -w_repr, w_rep2, w_eqSS]
      exact q _
    · have e0 : (c == 0) = false := by simpa using hc
      have hcv : OkF 900 a (b * c) := ⟨a9, pw (mul_lt h.hy g) (by decide), Int.mul_ne_zero h.hz hc⟩
      simp? [↓c28, ↓u28, ↓m1, -mk_Ratio, oaddI, addI_w h9 g9, oraddI, radd_w h9 g9, mo9 g9 b9, mo9 a9 g9, is_same k1, ↓w_comp, ↓w_cmp0, ↓w_cmpC, ↓w_turn]
      simp? [v_eqE, v_neE, eqNil, osubI, subI_w h9 g9, is_same k2, orsubI, rsub_w h9 g9, is_same k3, omulI, mulI_w h9 g9, is_same k4, ormulI, rmul_w h9 g9, mo9 g9 b9, mo9 a9 g9, e0, m_over, overI_w h9 g9 hc, mo9 b9 g9, is_same hcv, eqI_w h.hz, e1, eq2, str_w h9, eqX_w (t := .str (tx a b)) (.inr (.inr (.inr ⟨_, rfl⟩))), m_below, belowI_w h9 g9, m_atmost, atmostI_w h9 g9, hs, hbd, mo1, mo2, -w_repr, w_rep2, w_eqSS]
      exact q _
end
-- W7
open Rt (num den sg gd)
section
variable {k : Nat} {x y u v : Int} {s : S} {Q : T → S → Prop} {E : XP} {p : Ph (Q, E)}
def hM (m : M T) : M T := hear m (fun _ => ret .non) fun C ns vs => catM P "GhostError" C ns vs ret
theorem heard_w {a c : Nat} {q : Str} {cap : List T} {vs : List V} {m : M T} : Wm (CG (k + 1) (some (.lam a c q cap vs, m)) 24 [.lam a c q cap vs]) s Q E p = Wm (hM m) s Q E ph := by
  unfold hM
  simp? [↓c24, ↓u24, w_thC, w_hear]
  refine w_cg (fun v s => ?_) fun C ns vs s => ?_
  · simp? []
  · rw [w_cat]
    cases catches P "GhostError" C with
    | none => rfl
    | some b => cases b <;> simp? []
theorem lam_w {q : Str} {cap : List T} {m : M T} : Wm (lamM fun a c vs => CG (k + 1) (some (T.lam a c q cap vs, m)) 24 [T.lam a c q cap vs]) s Q E p = Wm m s (fun _ s' => Q .non s') (fun C ns vs s' => match catches P "GhostError" C with
    | some true => Q (.exc C ns vs) s'
    | some false => E C ns vs s'
    | none => False) ph := by
  rw [w_lamE (m2 := hM m) fun a c vs Q E p => heard_w]
  unfold hM
  rw [w_hear]
  refine w_cg (fun v s => w_ret) fun C ns vs s => ?_
  rw [w_cat]
  cases catches P "GhostError" C with
  | none => rfl
  | some b => cases b <;> first | rfl | exact w_ret
def odds : List T := [.non, .bl true, .bl false, .str "1", .tup [.int 1], .lst [], .dct [] [], .str ""]
def alsos : List T := [.non, .bl true, .str "2", .lst [.int 2]]
theorem noint {t : T} (h : t ∈ odds) : CF (k + 1) 2 [t] s = .ok (.bl false) s := by
  unfold odds at h
  simp only [List.mem_cons, List.not_mem_nil, or_false] at h
  rcases h with rfl | rfl | rfl | rfl | rfl | rfl | rfl | rfl <;> kernel_rfl
theorem mk_o {t b : T} (h : t ∈ odds) : Wm (mkM (CF (k + 2)) "Ratio" cRatio [t, b]) s Q E p = E "BadRatio" ["value"] [t] (s.new (.ins "Ratio" [] [])) := by
  refine w_ofX (w_detX (p := ph) ?_)
  have e := fun s Q E p => w_of (Q := Q) (E := E) (p := p) (noint (k := k) h (s := s))
  simp? [↓c5, ↓u5, h5_b0, s_forC, s_for0, e]
theorem mk_3o {t : T} (h : t ∈ odds) : Wm (mkM (CF (k + 2)) "Ratio" cRatio [.int 3, t]) s Q E p = E "BadRatio" ["value"] [t] (s.new (.ins "Ratio" [] [])) := by
  refine w_ofX (w_detX (p := ph) ?_)
  have e := fun s Q E p => w_of (Q := Q) (E := E) (p := p) (noint (k := k) h (s := s))
  simp? [↓c5, ↓u5, h5_b0, s_forC, s_for0, isint_w, e]
theorem mk_30 : Wm (mkM (CF (k + 2)) "Ratio" cRatio [.int 3, .int 0]) s Q E p = E "BadRatio" ["value"] [.int 0] (s.new (.ins "Ratio" [] [])) := by
  refine w_ofX (w_detX (p := ph) ?_)
  simp? [↓c5, ↓u5, h5_b0, s_forC, s_for0, isint_w]
theorem mk_30o {t : T} (h : t ∈ odds) : Wm (mkM (CF (k + 2)) "Ratio" cRatio [t, .int 0]) s Q E p = E "BadRatio" ["value"] [t] (s.new (.ins "Ratio" [] [])) := mk_o h
theorem rp_o : ∀ t ∈ odds, (match toR (.lst [t, t, t, .int 0, .int 0]) with | some d => reprOk d | none => false) = true := by decide +kernel
theorem wrong_w {n : Nat} {K : Int} (hp : Pen n K s) (hK : K < 2 ^ 19) (q : ∀ s', Pen n (K + 2) s' → Fr n s s' → Q (.bl true) s') : Wm (CF (k + 7) 29 [.box n]) s Q E p := by
  simp? [↓c29, ↓u29]
  refine law_pick hp (by omega) (by simp) (by simp) ?_
  intro o s1 ho p1 f1
  have ho : o ∈ odds := ho
  simp? []
  refine law_pick p1 (by omega) (by simp) (by simp) ?_
  intro b s2 hb p2 f2
  have m1 := fun s Q E p => mk_o (k := k + 3) (b := b) ho (s := s) (Q := Q) (E := E) (p := p)
  have m2 := fun s Q E p => mk_o (k := k + 3) (b := .int 0) ho (s := s) (Q := Q) (E := E) (p := p)
  have m3 := fun s Q E p => mk_3o (k := k + 3) ho (s := s) (Q := Q) (E := E) (p := p)
  have m4 := fun s Q E p => mk_30 (k := k + 3) (s := s) (Q := Q) (E := E) (p := p)
  have m5 := fun s Q E p => mk1_w (k := k + 3) (x := 3) (by decide) (s := s) (Q := Q) (E := E) (p := p)
  simp? [↓lam_w, ↓m1, ↓m2, ↓m3, ↓m4, ↓m5, -mk_Ratio, m_over, over0I_w (x := 3) (y := 1) ⟨by decide, by decide, by decide⟩]
  have hr := rp_o o ho
  cases hd : toR (.lst [o, o, o, .int 0, .int 0]) with
  | none => rw [hd] at hr; cases hr
  | some d =>
    rw [hd] at hr
    have hr : reprOk d = true := hr
    rw [s_frzL (xs := [.exc "BadRatio" ["value"] [o], .exc "BadRatio" ["value"] [o], .exc "BadRatio" ["value"] [o], .exc "BadRatio" ["value"] [.int 0], .exc "BadRatio" ["value"] [.int 0]]) rfl (by simp? [])]
    simp? [↓w_comp, ↓w_cmp0, ↓w_cmpC, ↓w_turn, eqNil, lkF_c, op_some, hd, hr, w_eqSS]
    exact q _ (((((((p2.new.new).new).new).new).delN (by have := p2.lt; omega)).up).le (by omega)) (f1.trans (f2.trans (((Fr.new.trans (Fr.new.trans (Fr.new.trans (Fr.new.trans Fr.new)))).delN (Nat.le_succ _)).trans Fr.up)))
end
-- W8
open Rt (num den sg gd)
theorem bump {b : Int} (h : b.natAbs < 2 ^ 100) : ∃ b' : Int, b + (if (b == 0) = true then 1 else 0) = b' ∧ b' ≠ 0 ∧ b'.natAbs < 2 ^ 101 := by
  refine ⟨_, rfl, ?_⟩
  by_cases z : b = 0
  · subst z; decide
  · have : (b == 0) = false := by simpa using z
    rw [this, if_neg Bool.false_ne_true]
    exact ⟨by omega, by omega⟩
section
variable {k : Nat} {x y : Int} {s : S} {Q : T → S → Prop} {E : XP} {p : Ph (Q, E)} {neg : Bool}
theorem eqXb {b : Bool} : Wm (eqO P (CF (k + 2)) neg (rv x y) (.bl b)) s Q E p = Q (.bl neg) s := by cases b <;> exact eqX_w (by simp)
theorem isBR {ns : List Str} {vs : List T} : Wm (bcallB P false .isi [.exc "BadRatio" ns vs, .glo "BadRatio"]) s Q E p = Q (.bl true) s := by simp? [op_some]
theorem eqXn : Wm (eqO P (CF (k + 2)) neg (rv x y) .non) s Q E p = Q (.bl neg) s := eqX_w (by simp)
theorem eqXs {z : Str} : Wm (eqO P (CF (k + 2)) neg (rv x y) (.str z)) s Q E p = Q (.bl neg) s := eqX_w (by simp)
end
section
variable {k n : Nat} {K : Int} {s : S}
theorem body_w (hp : Pen n K s) (hK : K < 2 ^ 18) {x0 : T} {y2 y3 y4 y5 y6 y7 y8 : Option T} {N B C : En → S → Prop} {R : T → S → Prop} {X : SX} {Q : Ph (N, R, B, C, X)}
    (q : ∀ s' z3 z4 z5 z6 z7 z8, Pen n (K + 30) s' → N [some x0, some (.box n), y2, z3, z4, z5, z6, z7, z8] s') :
    Ws (h30_b0 (CF (k + 8)) (CG (k + 8)) (CF (k + 7)) [some x0, some (.box n), y2, y3, y4, y5, y6, y7, y8] s) N R B C X Q := by
  unfold h30_b0
  simp? []
  refine int_w (k := k + 5) hp (by omega) ?_
  intro a s1 ha p1 f1
  simp? []
  refine int_w (k := k + 5) p1 (by omega) ?_
  intro b s2 hb p2 f2
  simp? []
  refine int_w (k := k + 5) p2 (by omega) ?_
  intro c s3 hc p3 f3
  simp? []
  refine int_w (k := k + 5) p3 (by omega) ?_
  intro d s4 hd p4 f4
  simp? [-mk_Ratio]
  obtain ⟨b', eb, zb, lb⟩ := bump hb
  obtain ⟨d', ed, zd, ld⟩ := bump hd
  rw [eb, ed]
  have ha1 := pw ha (show 100 ≤ 200 by decide)
  have hc1 := pw hc (show 100 ≤ 400 by decide)
  have hc2 := pw hc (show 100 ≤ 200 by decide)
  have o1 : OkF 200 a b' := ⟨ha1, pw lb (by decide), zb⟩
  have o2 : OkF 200 c d' := ⟨hc2, pw ld (by decide), zd⟩
  have o1' := o1.le (show 200 ≤ 400 by decide)
  have o2' := o2.le (show 200 ≤ 400 by decide)
  have o9 := o1.le (show 200 ≤ 900 by decide)
  have ox : OkF 900 a 1 := ⟨pw ha (by decide), by decide, by decide⟩
  have o3 : OkF 400 (a * d') (b' * d') := ⟨pw (mul_lt ha ld) (by decide), pw (mul_lt lb ld) (by decide), Int.mul_ne_zero zb zd⟩
  have o4 : OkF 400 (a * b') b' := ⟨pw (mul_lt ha lb) (by decide), pw lb (by decide), zb⟩
  have m1 := fun s Q E p => mk9 (k := k + 6) o9 (s := s) (Q := Q) (E := E) (p := p)
  have m2 := fun s Q E p => mk1_w (k := k + 6) (x := a) (pw ha (by decide)) (s := s) (Q := Q) (E := E) (p := p)
  have l1 := pw ha (show 100 ≤ 900 by decide)
  have l2 := pw lb (show 101 ≤ 900 by decide)
  have l3 := pw ld (show 101 ≤ 900 by decide)
  simp? [↓m1, ↓m2, -mk_Ratio, w_mkK (cl := cRatio) rfl, is_same o9, is_same ox]
  refine pair_w (k := k + 2) o1' o2' fun n1 => ?_
  simp? [mo9 l1 l3, mo9 l2 l3, mo9 l1 l2]
  refine pair_w (k := k + 2) o1' o3 fun n2 => ?_
  simp? [mo9 l1 l3, mo9 l2 l3, mo9 l1 l2]
  refine mixed_w (k := k + 1) o1' hc1 fun n3 => ?_
  simp? [mo9 l1 l3, mo9 l2 l3, mo9 l1 l2]
  refine mixed_w (k := k + 1) o4 (pw ha (by decide)) fun n4 => ?_
  simp? []
  refine wrong_w (k := k + 1) (K := K + 20) (p4.up.le (by omega)) (by omega) ?_
  intro s5 p5 f5
  have q1 := fun s Q E p => mk1_w (k := k + 6) (x := 1) (by decide) (s := s) (Q := Q) (E := E) (p := p)
  have q0 := fun s Q E p => mk1_w (k := k + 6) (x := 0) (by decide) (s := s) (Q := Q) (E := E) (p := p)
  simp? [↓w_comp, ↓w_cmp0, ↓w_cmpC, ↓w_turn, ↓q1, ↓q0, -mk_Ratio, v_eqE, eqXb, eqXn, eqXs, eqNil, ↓lam_w, m_over]
  have oz : OkF 900 0 d' := ⟨by decide, pw ld (by decide), zd⟩
  have m3 := fun s Q E p => mk9 (k := k + 5) o9 (s := s) (Q := Q) (E := E) (p := p)
  have m4 := fun s Q E p => mk9 (k := k + 5) oz (s := s) (Q := Q) (E := E) (p := p)
  simp? [↓m3, ↓m4, -mk_Ratio, m_over, over0_w o9 oz, -w_isi, isR, isBR, lkF_c, op_some]
  exact q _ _ _ _ _ _ _ (p5.up.le (by omega))
end
theorem law_ok : LawT P (cmpO P) 12 30 63 := by
  intro cs hl
  suffices h : Wm (CF (11 + 1) 30 [.frz (cs.map T.int)]) s00 (fun v _ => v = .bl true) noE ph by
    rw [Wm_eq] at h
    unfold Wm0 at h
    show ∃ s', CF (11 + 1) 30 [.frz (cs.map T.int)] s00 = .ok (.bl true) s'
    cases e : CF (11 + 1) 30 [.frz (cs.map T.int)] s00 with
    | ok v s' => rw [e] at h; exact ⟨s', by rw [h]⟩
    | exc C ns vs s' => rw [e] at h; exact h.elim
    | bad => rw [e] at h; exact h.elim
  rw [show (11 + 1 : Nat) = 10 + 2 from rfl]
  simp? [↓c30, ↓u30]
  refine law_pen (k := 10) hl ?_
  intro s1 p1 hlt _
  simp? []
  refine ⟨by decide, ?_⟩
  refine s_forR (I := fun i e s' => Pen s00.next (30 * i) s' ∧ ∃ y2 y3 y4 y5 y6 y7 y8, e = [some (.frz (cs.map T.int)), some (.box s00.next), y2, y3, y4, y5, y6, y7, y8]) ?_ ?_ ?_
  · exact ⟨p1.le (by decide), _, _, _, _, _, _, _, rfl⟩
  · rintro i e s2 h1 h2 ⟨p2, y2, y3, y4, y5, y6, y7, y8, rfl⟩
    refine ⟨_, rfl, ?_⟩
    refine body_w (k := 3) p2 (by omega) ?_
    intro s3 z3 z4 z5 z6 z7 z8 p3
    exact ⟨p3.le (by omega), _, _, _, _, _, _, _, rfl⟩
  · rintro i e s2 h1 h2 h3 ⟨p2, y2, y3, y4, y5, y6, y7, y8, rfl⟩
    simp? []
end Gk43
-- GtT_k43
open PySem PySem.W PySem.Calls PyProof.Rows
theorem Gk43.holds_of (hl : G.LawT Gk43.P (G.cmpO Gk43.P) 12 30 63) : PySem.Challenge.rw_ghosttakes_k43_fractions_reckoned.Holds := by
  w_on; o_law
  refine HandSHeadRun.head_any (r := OpenLaw.row PySem.Challenge.rw_ghosttakes_k43_fractions_reckoned) (q := view (OpenLaw.row PySem.Challenge.rw_ghosttakes_k43_fractions_reckoned).prog [23]) (H := G.hookP 6 Gk43.P) (ob := Gk43.ob) (M := Gk43.steps) (loose := Gk43.loose) (d := HandSHeadRun.topDef (OpenLaw.row PySem.Challenge.rw_ghosttakes_k43_fractions_reckoned).prog 23) (kwd := []) Gk43.ob_eq
    (by kernel_rfl) (fun s => by kernel_rfl) Gk43.run (by kernel_rfl) (by kernel_rfl) (by kernel_rfl) (by rfl) (by first | assumption | decide +kernel) (by decide +kernel) ⟨rfl, rfl, rfl, rfl, rfl, by decide +kernel⟩ ?hw ?hc
  case hw => w_witness2
  case hc =>
    exact G.walk_G (l := PySem.Challenge.rw_ghosttakes_k43_fractions_reckoned) (n := 63) (P := Gk43.P) (opc := G.cmpO Gk43.P) (k := 12) (i := 30) rfl (by decide) (by kernel_rfl) ⟨rfl, by decide, by decide⟩ (fun ok k d => G.op_ownC k d) Gk43.scopes Gk43.kwOk (by kernel_rfl) hl
theorem PySem.Challenge.cw_ghosttakes_k43_fractions_reckoned_holds : PySem.Challenge.rw_ghosttakes_k43_fractions_reckoned.Holds := by
  exact Gk43.holds_of Gk43.law_ok
